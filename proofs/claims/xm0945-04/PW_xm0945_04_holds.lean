import PyProof.Rows.All
import Wide.All
import OpenK.AllK
import Wide.FinOn
import PySem.Challenge.RW_xm0945_04
open PySem PySem.Calls PyProof.Rows PySem.W PySem.SeqAt
set_option Elab.async false
set_option maxRecDepth 100000
set_option maxHeartbeats 8000000
set_option linter.unusedVariables false

namespace Mine

/-- the values that the laws handle, as trees; `mu c`: the c-th changing object -/
inductive V where
  | non
  | bool (b : Bool)
  | int (i : Int)
  | str (x : Str)
  | list (vs : List V)
  | tup (vs : List V)
  | obj (C : Addr) (fs : List (Str × V))
  | mu (c : Nat)
  | rng (lo hi : Int)
  | raw (val : Value)
  | inst (C : Addr) (c : Nat)


inductive CO where
  | list (vs : List V)
  | attrs (fs : List (Str × V))
  | dict (kvs : List (List Int × Str))

/-- the heap bears the tree at the value; cs: the changing objects, xs: the frames' -/
inductive VR (h : Heap) (cs xs : List Addr) : V → Value → Prop
  | non : VR h cs xs .non .none
  | bool (b : Bool) : VR h cs xs (.bool b) (.bool b)
  | int (i : Int) (t : Tok) : VR h cs xs (.int i) (.int i t)
  | str (x : Str) (t : Tok) : VR h cs xs (.str x) (.str x t)
  | list {a : Addr} {us : Array Value} {vs : List V} (ha : h.PlainList a us) (hn : a ∉ cs) (hx : a ∉ xs) (hl : vs.length = us.size)
      (hv : ∀ (i : Nat) (v : V) (x : Value), vs[i]? = some v → us[i]? = some x → VR h cs xs v x) : VR h cs xs (.list vs) (.ref a)
  | tup {a : Addr} {us : Array Value} {vs : List V} (ha : h.IsTuple a us) (hn : a ∉ cs) (hx : a ∉ xs) (hl : vs.length = us.size)
      (hv : ∀ (i : Nat) (v : V) (x : Value), vs[i]? = some v → us[i]? = some x → VR h cs xs v x) : VR h cs xs (.tup vs) (.ref a)
  | obj {a d C : Addr} {fs : List (Str × V)} {es : List DictEntry} {n : Nat} (g : Str → Value) (ha : h.get? a = some (instObj C d)) (hd : h.get? d = some (dictOf es n))
      (hna : a ∉ cs) (hxa : a ∉ xs) (hnd : d ∉ cs) (hxd : d ∉ xs) (hg : ∀ x v, fs.lookup x = some v → getL x es = some (some (g x)))
      (hv : ∀ x v, fs.lookup x = some v → VR h cs xs v (g x)) : VR h cs xs (.obj C fs) (.ref a)
  | mu {a : Addr} {c : Nat} (hc : cs[c]? = some a) : VR h cs xs (.mu c) (.ref a)
  | rng {a : Addr} {lo hi : Int} {t u v : Tok} (ha : IsRange h a lo hi 1 t u v) (hn : a ∉ cs) (hx : a ∉ xs) : VR h cs xs (.rng lo hi) (.ref a)
  | raw (val : Value) : VR h cs xs (.raw val) val
  | inst {a d C : Addr} {c : Nat} (ha : h.get? a = some (instObj C d)) (hn : a ∉ cs) (hx : a ∉ xs) (hc : cs[c]? = some d) : VR h cs xs (.inst C c) (.ref a)

/-- what a tree says of its value, laid open once -/
def VR.Inv (h : Heap) (cs xs : List Addr) : V → Value → Prop
  | .non, x => x = .none
  | .bool b, x => x = .bool b
  | .int i, x => ∃ t, x = .int i t
  | .str s, x => ∃ t, x = .str s t
  | .list vs, x => ∃ a us, x = .ref a ∧ h.PlainList a us ∧ a ∉ cs ∧ a ∉ xs ∧ vs.length = us.toList.length ∧ ∀ (i : Nat) (v : V) (y : Value), vs[i]? = some v → us.toList[i]? = some y → VR h cs xs v y
  | .tup vs, x => ∃ a us, x = .ref a ∧ h.IsTuple a us ∧ a ∉ cs ∧ a ∉ xs ∧ vs.length = us.toList.length ∧ ∀ (i : Nat) (v : V) (y : Value), vs[i]? = some v → us.toList[i]? = some y → VR h cs xs v y
  | .obj cl fs, x => ∃ a d es n, ∃ g : Str → Value, x = .ref a ∧ h.get? a = some (instObj cl d) ∧ h.get? d = some (dictOf es n) ∧ (∀ y v, fs.lookup y = some v → getL y es = some (some (g y))) ∧ ∀ y v, fs.lookup y = some v → VR h cs xs v (g y)
  | .mu c, x => ∃ a, x = .ref a ∧ cs[c]? = some a
  | .rng lo hi, x => ∃ a t u v, x = .ref a ∧ IsRange h a lo hi 1 t u v ∧ a ∉ cs ∧ a ∉ xs
  | .raw val, x => x = val
  | .inst cl c, x => ∃ a d, x = .ref a ∧ h.get? a = some (instObj cl d) ∧ a ∉ cs ∧ a ∉ xs ∧ cs[c]? = some d
theorem VR.inv {h : Heap} {cs xs : List Addr} {v : V} {x : Value} (r : VR h cs xs v x) : VR.Inv h cs xs v x := by
  cases r with
  | non => exact rfl
  | bool b => exact rfl
  | int i t => exact ⟨t, rfl⟩
  | str x t => exact ⟨t, rfl⟩
  | list ha hn hx hl hv => exact ⟨_, _, rfl, ha, hn, hx, by rw [Array.length_toList]; exact hl, fun i v x e1 e2 => hv i v x e1 (by rw [Array.getElem?_toList] at e2; exact e2)⟩
  | tup ha hn hx hl hv => exact ⟨_, _, rfl, ha, hn, hx, by rw [Array.length_toList]; exact hl, fun i v x e1 e2 => hv i v x e1 (by rw [Array.getElem?_toList] at e2; exact e2)⟩
  | obj g ha hd _ _ _ _ hg hv => exact ⟨_, _, _, _, g, rfl, ha, hd, hg, hv⟩
  | mu hc => exact ⟨_, rfl, hc⟩
  | rng ha hn hx => exact ⟨_, _, _, _, rfl, ha, hn, hx⟩
  | raw val => exact rfl
  | inst ha hn hx hc => exact ⟨_, _, rfl, ha, hn, hx, hc⟩
theorem VR.nonI {h : Heap} {cs xs : List Addr} {x : Value} (r : VR h cs xs .non x) : x = .none := r.inv
theorem VR.boolI {h : Heap} {cs xs : List Addr} {b : Bool} {x : Value} (r : VR h cs xs (.bool b) x) : x = .bool b := r.inv
theorem VR.intI {h : Heap} {cs xs : List Addr} {i : Int} {x : Value} (r : VR h cs xs (.int i) x) : ∃ t, x = .int i t := r.inv
theorem VR.strI {h : Heap} {cs xs : List Addr} {i : Str} {x : Value} (r : VR h cs xs (.str i) x) : ∃ t, x = .str i t := r.inv
theorem VR.rawI {h : Heap} {cs xs : List Addr} {y x : Value} (r : VR h cs xs (.raw y) x) : x = y := r.inv
theorem VR.muI {h : Heap} {cs xs : List Addr} {c : Nat} {x : Value} (r : VR h cs xs (.mu c) x) : ∃ a, x = .ref a ∧ cs[c]? = some a := r.inv
theorem VR.rngI {h : Heap} {cs xs : List Addr} {lo hi : Int} {x : Value} (r : VR h cs xs (.rng lo hi) x) : ∃ a t u v, x = .ref a ∧ IsRange h a lo hi 1 t u v ∧ a ∉ cs ∧ a ∉ xs := r.inv
theorem VR.instI {h : Heap} {cs xs : List Addr} {cl : Addr} {c : Nat} {x : Value} (r : VR h cs xs (.inst cl c) x) : ∃ a d, x = .ref a ∧ h.get? a = some (instObj cl d) ∧ a ∉ cs ∧ a ∉ xs ∧ cs[c]? = some d := r.inv

/-! the same, for use -/
section
variable {h : Heap} {cs xs : List Addr} {x : Value} {motive : Value → Prop}
@[elab_as_elim] theorem VR.nonE (r : VR h cs xs .non x) (k : motive .none) : motive x := r.nonI ▸ k
@[elab_as_elim] theorem VR.boolE {b : Bool} (r : VR h cs xs (.bool b) x) (k : motive (.bool b)) : motive x := r.boolI ▸ k
@[elab_as_elim] theorem VR.intE {i : Int} (r : VR h cs xs (.int i) x) (k : ∀ t, motive (.int i t)) : motive x := by
  obtain ⟨t, rfl⟩ := r.intI; exact k t
@[elab_as_elim] theorem VR.strE {i : Str} (r : VR h cs xs (.str i) x) (k : ∀ t, motive (.str i t)) : motive x := by
  obtain ⟨t, rfl⟩ := r.strI; exact k t
@[elab_as_elim] theorem VR.rawE {y : Value} (r : VR h cs xs (.raw y) x) (k : motive y) : motive x := r.rawI ▸ k
end

def VRs (h : Heap) (cs xs : List Addr) (vs : List V) (us : List Value) : Prop :=
  vs.length = us.length ∧ ∀ (i : Nat) (v : V) (x : Value), vs[i]? = some v → us[i]? = some x → VR h cs xs v x

theorem VRs.nil {h : Heap} {cs xs : List Addr} : VRs h cs xs [] [] := ⟨rfl, fun i v x e _ => by simp at e⟩
theorem VRs.cons {h : Heap} {cs xs : List Addr} {v : V} {x : Value} {vs : List V} {us : List Value} (r : VR h cs xs v x) (rs : VRs h cs xs vs us) : VRs h cs xs (v :: vs) (x :: us) :=
  ⟨by simp [rs.1], fun i w y e1 e2 => by
    cases i with
    | zero => simp at e1 e2; subst e1; subst e2; exact r
    | succ i => simp at e1 e2; exact rs.2 i w y e1 e2⟩
theorem VRs.snoc {h : Heap} {cs xs : List Addr} {v : V} {x : Value} {vs : List V} {us : List Value} (rs : VRs h cs xs vs us) (r : VR h cs xs v x) : VRs h cs xs (vs ++ [v]) (us ++ [x]) :=
  ⟨by simp [rs.1], fun i w y e1 e2 => by
    by_cases hi : i < vs.length
    · rw [List.getElem?_append_left hi] at e1; rw [List.getElem?_append_left (rs.1 ▸ hi)] at e2; exact rs.2 i w y e1 e2
    · have hi' : vs.length ≤ i := Nat.le_of_not_lt hi
      rw [List.getElem?_append_right hi'] at e1; rw [List.getElem?_append_right (rs.1 ▸ hi')] at e2
      rw [← rs.1] at e2
      cases hk : i - vs.length with
      | zero => rw [hk] at e1 e2; simp at e1 e2; subst e1; subst e2; exact r
      | succ k => rw [hk] at e1; simp at e1⟩

theorem len_succ {α : Type} {us : List α} {n : Nat} (h : n + 1 = us.length) : ∃ a r, us = a :: r ∧ n = r.length := by
  cases us with
  | nil => exact absurd h (Nat.succ_ne_zero n)
  | cons a r => exact ⟨a, r, rfl, Nat.succ.inj h⟩
theorem VRs.one {h : Heap} {cs xs : List Addr} {v : V} {us : List Value} (r : VRs h cs xs [v] us) : ∃ u, us = [u] ∧ VR h cs xs v u := by
  obtain ⟨u, l, rfl, e⟩ := len_succ r.1
  obtain rfl := List.length_eq_zero_iff.mp e.symm
  exact ⟨u, rfl, r.2 0 v u rfl rfl⟩
theorem VRs.two' {h : Heap} {cs xs : List Addr} {v w : V} {us : List Value} (r : VRs h cs xs [v, w] us) : ∃ u t, us = [u, t] ∧ VR h cs xs v u ∧ VR h cs xs w t := by
  obtain ⟨u, l, rfl, e⟩ := len_succ r.1
  obtain ⟨t, l, rfl, e2⟩ := len_succ e
  obtain rfl := List.length_eq_zero_iff.mp e2.symm
  exact ⟨u, t, rfl, r.2 0 v u rfl rfl, r.2 1 w t rfl rfl⟩

@[elab_as_elim] theorem VRs.oneE {h : Heap} {cs xs : List Addr} {v : V} {us : List Value} {motive : List Value → Prop} (r : VRs h cs xs [v] us) (k : ∀ u, VR h cs xs v u → motive [u]) : motive us := by
  obtain ⟨u, rfl, ru⟩ := r.one; exact k u ru
@[elab_as_elim] theorem VRs.twoE {h : Heap} {cs xs : List Addr} {v w : V} {us : List Value} {motive : List Value → Prop} (r : VRs h cs xs [v, w] us) (k : ∀ u t, VR h cs xs v u → VR h cs xs w t → motive [u, t]) : motive us := by
  obtain ⟨u, t, rfl, ru, rt⟩ := r.two'; exact k u t ru rt
theorem VRs.sz {h : Heap} {cs xs : List Addr} {vs : List V} {us : Array Value} (r : VRs h cs xs vs us.toList) : us.size = vs.length := by
  rw [r.1, Array.length_toList]

/-- a dict whose keys are tuples of ints -/
def IsTupK (h : Heap) (ks : List Int) (a : Addr) : Prop := ∃ o items n, h.get? a = some o ∧ o.cls = .type "tuple" ∧ o.data = .seq items n ∧ IntsAre items.toList ks
def tupHash (ks : List Int) : Int := reduceHash (Builtin.Tuple.tupleHashOf (ks.map hashInt))
def DictT (h : Heap) (a : Addr) (ds : List (List Int × Addr × Value)) : Prop :=
  ∃ o es ep, h.get? a = some o ∧ o.ExactDict ∧ o.data = .dict es ep ∧ es.toList = ds.map (fun x => (⟨tupHash x.1, .ref x.2.1, x.2.2⟩ : DictEntry)) ∧ (∀ x ∈ ds, IsTupK h x.1 x.2.1) ∧ (ds.map (·.1)).Nodup
theorem itemsAre_ints {prog : Program} {w : World} {ks : List Int} {vs : List Value} (h : ItemsAre (intKind prog w) ks vs) : IntsAre vs ks := by
  induction h with
  | nil => exact .nil
  | cons hk _ ih => obtain ⟨t, rfl⟩ := Value.isInt_shape hk; exact .cons _ _ ih
theorem ints_itemsAre {prog : Program} {w : World} {ks : List Int} {vs : List Value} (h : IntsAre vs ks) : ItemsAre (intKind prog w) ks vs := by
  induction h with
  | nil => exact .nil
  | cons n t _ ih => exact .cons (by show Value.isInt n (.int n t) = true; simp [Value.isInt]) ih
theorem IsTupK.to {prog : Program} {w : World} {h : Heap} {ks : List Int} {a : Addr} (x : IsTupK h ks a) : IsTupleKey (intKind prog w) h ks a := let ⟨o, items, n, e, c, d, i⟩ := x; ⟨o, items, n, e, c, d, ints_itemsAre i⟩
theorem DictT.to {prog : Program} {w : World} {h : Heap} {a : Addr} {ds : List (List Int × Addr × Value)} (x : DictT h a ds) : h.DictOfH (tupleKind (intKind prog w)) a ds :=
  let ⟨o, es, ep, e, c, d, f, k, n⟩ := x; ⟨o, es, ep, e, c, d, f, fun y hy => (k y hy).to, n⟩
theorem DictT.of {prog : Program} {w : World} {h : Heap} {a : Addr} {ds : List (List Int × Addr × Value)} (x : h.DictOfH (tupleKind (intKind prog w)) a ds) : DictT h a ds :=
  let ⟨o, es, ep, e, c, d, f, k, n⟩ := x; ⟨o, es, ep, e, c, d, f, fun y hy => let ⟨ok, items, m, e', c', d', i⟩ := k y hy; ⟨ok, items, m, e', c', d', itemsAre_ints i⟩, n⟩
def DictC (h : Heap) (cs xs : List Addr) (a : Addr) (kvs : List (List Int × Str)) : Prop :=
  ∃ ds, DictT h a ds ∧ (∀ x ∈ ds, x.2.1 ∉ cs ∧ x.2.1 ∉ xs) ∧ ds.length = kvs.length ∧ ∀ (i : Nat) x (p : List Int × Str), ds[i]? = some x → kvs[i]? = some p → x.1 = p.1 ∧ ∃ t, x.2.2 = .str p.2 t
theorem DictT.live {h : Heap} {a : Addr} {ds : List (List Int × Addr × Value)} (d : DictT h a ds) : ∃ o, h.get? a = some o := let ⟨o, _, _, e, _⟩ := d; ⟨o, e⟩
theorem DictC.live {h : Heap} {cs xs : List Addr} {a : Addr} {kvs : List (List Int × Str)} (d : DictC h cs xs a kvs) : ∃ o, h.get? a = some o := let ⟨_, x, _⟩ := d; x.live
theorem DictC.go {h h' : Heap} {cs cs' xs xs' : List Addr} {a : Addr} {kvs : List (List Int × Str)} (d : DictC h cs xs a kvs) (ha : ∀ o, h.get? a = some o → h'.get? a = some o)
    (g : ∀ b o, h.get? b = some o → b ∉ cs → b ∉ xs → h'.get? b = some o ∧ b ∉ cs' ∧ b ∉ xs') : DictC h' cs' xs' a kvs := by
  obtain ⟨ds, hd, hk, hl, hv⟩ := d
  have key : ∀ x ∈ ds, ∃ o, h.get? x.2.1 = some o := fun x hx => by
    obtain ⟨_, _, _, _, _, _, _, hk', _⟩ := id hd
    obtain ⟨o, _, _, e, _⟩ := hk' x hx
    exact ⟨o, e⟩
  refine ⟨ds, ?_, fun x hx => ?_, hl, hv⟩
  · obtain ⟨o, es, ep, e, h1, h2, h3, h4, h5⟩ := hd
    refine ⟨o, es, ep, ha o e, h1, h2, h3, fun x hx => ?_, h5⟩
    obtain ⟨ok, items, n, e', rest⟩ := h4 x hx
    exact ⟨ok, items, n, (g _ _ e' (hk x hx).1 (hk x hx).2).1, rest⟩
  · obtain ⟨o, e⟩ := key x hx
    exact (g _ _ e (hk x hx).1 (hk x hx).2).2
def COR (h : Heap) (cs xs : List Addr) (a : Addr) : CO → Prop
  | .list vs => ∃ us, h.PlainList a us ∧ VRs h cs xs vs us.toList
  | .attrs fs => ∃ (es : List DictEntry) (n : Nat) (g : Str → Value), h.get? a = some (dictOf es n) ∧ es.length ≤ fs.length ∧ es.any (·.refKey) = false ∧ (∀ x v, fs.lookup x = some v → getL x es = some (some (g x))) ∧ ∀ x v, fs.lookup x = some v → VR h cs xs v (g x)
  | .dict kvs => DictC h cs xs a kvs

structure CR (h : Heap) (cs xs : List Addr) (σ : List CO) : Prop where
  len : cs.length = σ.length
  nodup : cs.Nodup
  at_ : ∀ (i : Nat) (a : Addr) (c : CO), cs[i]? = some a → σ[i]? = some c → COR h cs xs a c

/-- how a heap has gone on: all but the changing objects and X stand as they stood -/
structure Gx (X : Addr → Prop) (cs : List Addr) (h : Heap) (cs' : List Addr) (h' : Heap) : Prop where
  pre : cs <+: cs'
  keep : ∀ b o, h.get? b = some o → b ∉ cs → ¬ X b → h'.get? b = some o
  fresh : ∀ a ∈ cs', a ∈ cs ∨ (h.get? a = none ∧ ¬ X a)

def nX : Addr → Prop := fun _ => False

theorem Gx.refl (X : Addr → Prop) (cs : List Addr) (h : Heap) : Gx X cs h cs h := ⟨List.prefix_rfl, fun _ _ e _ _ => e, fun _ ha => .inl ha⟩

theorem Gx.off {X : Addr → Prop} {cs cs' : List Addr} {h h' : Heap} (g : Gx X cs h cs' h') {b : Addr} {o : Obj} (e : h.get? b = some o) (hn : b ∉ cs) : b ∉ cs' := fun hm => by
  rcases g.fresh b hm with h1 | h1
  · exact hn h1
  · rw [e] at h1; cases h1.1

theorem Gx.trans {X : Addr → Prop} {cs cs' cs'' : List Addr} {h h' h'' : Heap} (g : Gx X cs h cs' h') (g' : Gx X cs' h' cs'' h'') : Gx X cs h cs'' h'' where
  pre := g.pre.trans g'.pre
  keep := fun b o e hn hx => g'.keep b o (g.keep b o e hn hx) (g.off e hn) hx
  fresh := fun a ha => by
    rcases g'.fresh a ha with h1 | h1
    · exact g.fresh a h1
    · by_cases q : a ∈ cs
      · exact .inl q
      · refine .inr ⟨?_, h1.2⟩
        cases z : h.get? a with
        | none => rfl
        | some o => have := g.keep a o z q h1.2; rw [h1.1] at this; cases this

theorem Gx.weaken {X Y : Addr → Prop} {cs cs' : List Addr} {h h' : Heap} (g : Gx X cs h cs' h') (hx : ∀ b, X b → (∃ o, h.get? b = some o) → Y b) (hy : ∀ a ∈ cs', h.get? a = none → ¬ Y a) : Gx Y cs h cs' h' :=
  ⟨g.pre, fun b o e hn hy => g.keep b o e hn fun x => hy (hx b x ⟨o, e⟩), fun a ha => (g.fresh a ha).imp id fun q => ⟨q.1, hy a ha q.1⟩⟩

theorem Gx.of_n {Y : Addr → Prop} {cs cs' : List Addr} {h h' : Heap} (g : Gx nX cs h cs' h') (hy : ∀ b, Y b → ∃ o, h.get? b = some o) : Gx Y cs h cs' h' :=
  g.weaken (fun _ f => f.elim) fun a _ e y => by obtain ⟨o, e'⟩ := hy a y; rw [e] at e'; cases e'

theorem Gx.keeps {X : Addr → Prop} {cs : List Addr} {h h' : Heap} (k : ∀ b o, h.get? b = some o → h'.get? b = some o) : Gx X cs h cs h' :=
  ⟨List.prefix_rfl, fun b o e _ _ => k b o e, fun _ ha => .inl ha⟩

/-- a changing object is changed, nothing else -/
theorem Gx.upd {X : Addr → Prop} {cs : List Addr} {h h' : Heap} {a : Addr} (ha : a ∈ cs) (hs : Heap.SameBut a h h') : Gx X cs h cs h' :=
  ⟨List.prefix_rfl, fun b o' e hn _ => hs.extBut b o' (fun q => hn (q ▸ ha)) e, fun _ hm => .inl hm⟩

theorem Gx.updX {X : Addr → Prop} {cs : List Addr} {h h' : Heap} {a : Addr} (ha : X a) (hs : Heap.SameBut a h h') : Gx X cs h cs h' :=
  ⟨List.prefix_rfl, fun b o' e _ hx => hs.extBut b o' (fun q => hx (q ▸ ha)) e, fun _ hm => .inl hm⟩

theorem Gx.extX {X : Addr → Prop} {cs : List Addr} {h h' : Heap} (k : ∀ b o, ¬ X b → h.get? b = some o → h'.get? b = some o) : Gx X cs h cs h' :=
  ⟨List.prefix_rfl, fun b o' e _ hx => k b o' hx e, fun _ hm => .inl hm⟩

theorem Gx.pre_get {X : Addr → Prop} {cs cs' : List Addr} {h h' : Heap} (g : Gx X cs h cs' h') {i : Nat} {a : Addr} (e : cs[i]? = some a) : cs'[i]? = some a := by
  obtain ⟨r, rfl⟩ := g.pre
  have hlt : i < cs.length := (List.getElem?_eq_some_iff.mp e).1
  rw [List.getElem?_append_left hlt]; exact e

theorem VR.mono {X : Addr → Prop} {cs cs' xs xs' : List Addr} {h h' : Heap} (g : Gx X cs h cs' h') (hX : ∀ b, X b → b ∈ xs) (hxs : ∀ a ∈ xs', a ∈ xs ∨ h.get? a = none) {v : V} {x : Value} (r : VR h cs xs v x) : VR h' cs' xs' v x := by
  have off : ∀ {b : Addr} {o : Obj}, h.get? b = some o → b ∉ xs → b ∉ xs' := fun {b o} e hn hm => by
    rcases hxs b hm with q | q
    · exact hn q
    · rw [e] at q; cases q
  induction r with
  | non => exact .non
  | bool b => exact .bool b
  | int i t => exact .int i t
  | str x t => exact .str x t
  | list ha hn hx hl hv ih =>
    obtain ⟨n, e⟩ := ha
    exact .list ⟨n, g.keep _ _ e hn fun q => hx (hX _ q)⟩ (g.off e hn) (off e hx) hl ih
  | tup ha hn hx hl hv ih =>
    obtain ⟨o, e, hc, n, hd⟩ := ha
    exact .tup ⟨o, g.keep _ _ e hn fun q => hx (hX _ q), hc, n, hd⟩ (g.off e hn) (off e hx) hl ih
  | obj gg ha hd hna hxa hnd hxd hg hv ih =>
    exact .obj gg (g.keep _ _ ha hna fun q => hxa (hX _ q)) (g.keep _ _ hd hnd fun q => hxd (hX _ q)) (g.off ha hna) (off ha hxa) (g.off hd hnd) (off hd hxd) hg ih
  | mu hc => exact .mu (g.pre_get hc)
  | rng ha hn hx => exact .rng (g.keep _ _ ha hn fun q => hx (hX _ q)) (g.off ha hn) (off ha hx)
  | raw val => exact .raw val
  | inst ha hn hx hc => exact .inst (g.keep _ _ ha hn fun q => hx (hX _ q)) (g.off ha hn) (off ha hx) (g.pre_get hc)

theorem VR.on {cs cs' xs : List Addr} {h h' : Heap} (g : Gx nX cs h cs' h') {v : V} {x : Value} (r : VR h cs xs v x) : VR h' cs' xs v x := r.mono g (fun _ f => f.elim) fun _ ha => .inl ha
theorem VR.onX {cs cs' xs : List Addr} {h h' : Heap} (g : Gx (· ∈ xs) cs h cs' h') {v : V} {x : Value} (r : VR h cs xs v x) : VR h' cs' xs v x := r.mono g (fun _ f => f) fun _ ha => .inl ha
theorem VRs.mono {X : Addr → Prop} {cs cs' xs xs' : List Addr} {h h' : Heap} (g : Gx X cs h cs' h') (hX : ∀ b, X b → b ∈ xs) (hxs : ∀ a ∈ xs', a ∈ xs ∨ h.get? a = none) {vs : List V} {us : List Value} (r : VRs h cs xs vs us) : VRs h' cs' xs' vs us :=
  ⟨r.1, fun i v x e1 e2 => (r.2 i v x e1 e2).mono g hX hxs⟩
theorem VRs.on {cs cs' xs : List Addr} {h h' : Heap} (g : Gx nX cs h cs' h') {vs : List V} {us : List Value} (r : VRs h cs xs vs us) : VRs h' cs' xs vs us := r.mono g (fun _ f => f.elim) fun _ ha => .inl ha
theorem VRs.onX {cs cs' xs : List Addr} {h h' : Heap} (g : Gx (· ∈ xs) cs h cs' h') {vs : List V} {us : List Value} (r : VRs h cs xs vs us) : VRs h' cs' xs vs us := r.mono g (fun _ f => f) fun _ ha => .inl ha

/-- the changing objects are borne on where they themselves stand as they stood -/
theorem CR.mono {X : Addr → Prop} {cs xs xs' : List Addr} {h h' : Heap} {σ : List CO} (r : CR h cs xs σ) (g : Gx X cs h cs h') (hX : ∀ b, X b → b ∈ xs) (hxs : ∀ a ∈ xs', a ∈ xs ∨ h.get? a = none)
    (hk : ∀ a ∈ cs, ∀ o, h.get? a = some o → h'.get? a = some o) : CR h' cs xs' σ := by
  refine ⟨r.len, r.nodup, fun i a c e1 e2 => ?_⟩
  have := r.at_ i a c e1 e2
  have hm : a ∈ cs := List.mem_of_getElem? e1
  cases c with
  | list vs => obtain ⟨us, ⟨n, p⟩, q⟩ := this; exact ⟨us, ⟨n, hk a hm _ p⟩, q.mono g hX hxs⟩
  | attrs fs => obtain ⟨es, n, gg, p, q1, q2, q3, q4⟩ := this; exact ⟨es, n, gg, hk a hm _ p, q1, q2, q3, fun x v e => (q4 x v e).mono g hX hxs⟩
  | dict kvs => exact DictC.go this (hk a hm) fun b o e hn hx => ⟨g.keep b o e hn fun q => hx (hX b q), hn, fun q => (hxs b q).elim hx fun z => by rw [e] at z; cases z⟩

theorem CR.keeps {cs xs : List Addr} {h h' : Heap} {σ : List CO} (r : CR h cs xs σ) (k : ∀ b o, h.get? b = some o → h'.get? b = some o) : CR h' cs xs σ :=
  r.mono (X := nX) (Gx.keeps k) (fun _ f => f.elim) (fun _ ha => .inl ha) fun a _ o e => k a o e

/-- one changing object is changed -/
theorem CR.upd {cs xs : List Addr} {h h' : Heap} {σ : List CO} (r : CR h cs xs σ) {i : Nat} {a : Addr} {c : CO} (ea : cs[i]? = some a) (hs : Heap.SameBut a h h') (hc : COR h' cs xs a c) : CR h' cs xs (σ.set i c) := by
  have g : Gx nX cs h cs h' := Gx.upd (List.mem_of_getElem? ea) hs
  refine ⟨by rw [List.length_set]; exact r.len, r.nodup, fun j b d e1 e2 => ?_⟩
  by_cases q : i = j
  · subst q
    have hi : i < σ.length := r.len ▸ (List.getElem?_eq_some_iff.mp ea).1
    rw [List.getElem?_set_self hi] at e2; cases e2
    rw [ea] at e1; cases e1; exact hc
  · rw [List.getElem?_set_ne q] at e2
    have hne : b ≠ a := fun z => q (by
      subst z
      exact (List.getElem?_inj (List.getElem?_eq_some_iff.mp ea).1 r.nodup).mp (ea.trans e1.symm))
    have := r.at_ j b d e1 e2
    cases d with
    | list vs => obtain ⟨us, ⟨n, p⟩, z⟩ := this; exact ⟨us, ⟨n, hs.extBut b _ hne p⟩, z.on g⟩
    | attrs fs => obtain ⟨es, n, gg, p, q1, q2, q3, q4⟩ := this; exact ⟨es, n, gg, hs.extBut b _ hne p, q1, q2, q3, fun x v e => (q4 x v e).on g⟩
    | dict kvs => exact DictC.go this (fun o e => hs.extBut b o hne e) fun b o e hn hx => ⟨hs.extBut b o (fun q => hn (q ▸ List.mem_of_getElem? ea)) e, hn, hx⟩

end Mine

namespace Mine

structure FR (hB : Heap) (env : Env) (ρ : List (Str × V)) (h : Heap) (cs xs : List Addr) : Prop where
  hk : env.scope.kind = .function
  base : ∀ b o, hB.get? b = some o → h.get? b = some o
  csB : ∀ a ∈ cs, hB.get? a = none
  xsB : ∀ a ∈ xs, hB.get? a = none
  xlive : ∀ a ∈ xs, ∃ o, h.get? a = some o
  xoff : ∀ a ∈ xs, a ∉ cs
  Lx : env.locals ∈ xs
  cx : ∀ n c, env.cells.lookup n = some c → c ∈ xs
  ns : ∃ m, h.Ns env.locals m ∧ ∀ x v, ρ.lookup x = some v → env.kindOf x = some .local → ∃ val, m x = some val ∧ VR h cs xs v val
  cell : ∀ n c, env.cells.lookup n = some c → ∃ cv, h.IsCell c cv ∧ ∀ v, ρ.lookup n = some v → env.kindOf n = some .cell → ∃ val, cv = some val ∧ VR h cs xs v val
  apart : ∀ n n' c, env.cells.lookup n = some c → env.cells.lookup n' = some c → n = n'
  offL : ∀ n c, env.cells.lookup n = some c → c ≠ env.locals
  csome : ∀ n, env.kindOf n = some .cell → (env.cells.lookup n).isSome = true
  above : @LE.le Nat _ hB.objs.size env.locals
  gl : env.globals = mainGlobals
  bl : env.builtins = builtinsNs

theorem FR.go {hB : Heap} {env : Env} {ρ : List (Str × V)} {h h' : Heap} {cs cs' xs xs' : List Addr} {X : Addr → Prop} (F : FR hB env ρ h cs xs) (g : Gx X cs h cs' h')
    (hX : ∀ b, X b → b ∈ xs) (hL : ¬ X env.locals) (hc : ∀ n c, env.cells.lookup n = some c → ¬ X c) (hLx : env.locals ∈ xs') (hcx : ∀ n c, env.cells.lookup n = some c → c ∈ xs') (hxs : ∀ a ∈ xs', a ∈ xs ∨ h.get? a = none)
    (hlive : ∀ a ∈ xs', ∃ o, h'.get? a = some o) (hoff : ∀ a ∈ xs', a ∉ cs') : FR hB env ρ h' cs' xs' where
  hk := F.hk
  base := fun b o e => g.keep b o (F.base b o e) (fun hm => by rw [F.csB b hm] at e; cases e) fun f => by rw [F.xsB b (hX b f)] at e; cases e
  csB := fun a ha => by
    rcases g.fresh a ha with q | q
    · exact F.csB a q
    · cases z : hB.get? a with
      | none => rfl
      | some o => rw [F.base a o z] at q; cases q.1
  xsB := fun a ha => by
    rcases hxs a ha with q | q
    · exact F.xsB a q
    · cases z : hB.get? a with
      | none => rfl
      | some o => rw [F.base a o z] at q; cases q
  xlive := hlive
  xoff := hoff
  Lx := hLx
  cx := hcx
  ns := by
    obtain ⟨m, hn, hv⟩ := F.ns
    refine ⟨m, hn.at' fun o e => g.keep _ _ e (F.xoff _ F.Lx) hL, fun x v e k => ?_⟩
    obtain ⟨val, h1, h2⟩ := hv x v e k
    exact ⟨val, h1, h2.mono g hX hxs⟩
  cell := fun n c e => by
    obtain ⟨cv, ⟨o, ho, hd⟩, hv⟩ := F.cell n c e
    refine ⟨cv, ⟨o, g.keep _ _ ho (F.xoff _ (F.cx n c e)) (hc n c e), hd⟩, fun v e1 e2 => ?_⟩
    obtain ⟨val, h1, h2⟩ := hv v e1 e2
    exact ⟨val, h1, h2.mono g hX hxs⟩
  apart := F.apart
  offL := F.offL
  csome := F.csome
  above := F.above
  gl := F.gl
  bl := F.bl

theorem FR.on {hB : Heap} {env : Env} {ρ : List (Str × V)} {h h' : Heap} {cs cs' xs : List Addr} (F : FR hB env ρ h cs xs) (g : Gx nX cs h cs' h') : FR hB env ρ h' cs' xs :=
  F.go g (fun _ f => f.elim) (fun f => f) (fun _ _ _ f => f) F.Lx F.cx (fun _ ha => .inl ha) (fun a ha => let ⟨o, e⟩ := F.xlive a ha; ⟨o, g.keep a o e (F.xoff a ha) fun f => f⟩)
    fun a ha => let ⟨_, e⟩ := F.xlive a ha; g.off e (F.xoff a ha)

/-- a fresh address is none of the changing objects' nor of the frames' -/
theorem FR.new {hB : Heap} {env : Env} {ρ : List (Str × V)} {h : Heap} {cs xs : List Addr} {σ : List CO} (F : FR hB env ρ h cs xs) (R : CR h cs xs σ) {a : Addr} (e : h.get? a = none) : a ∉ cs ∧ a ∉ xs := by
  refine ⟨fun hm => ?_, fun hm => ?_⟩
  · obtain ⟨i, hi, rfl⟩ := List.mem_iff_getElem.mp hm
    have e1 : cs[i]? = some cs[i] := by simp [hi]
    have hi' : i < σ.length := R.len ▸ hi
    have := R.at_ i cs[i] σ[i] e1 (by simp [hi'])
    revert this
    cases σ[i] with
    | list vs => rintro ⟨us, ⟨n, p⟩, _⟩; rw [e] at p; cases p
    | attrs fs => rintro ⟨es, n, g, p, _⟩; rw [e] at p; cases p
    | dict kvs => intro d; obtain ⟨o, p⟩ := DictC.live d; rw [e] at p; cases p
  · obtain ⟨o, q⟩ := F.xlive a hm; rw [e] at q; cases q

theorem get_size_none (h : Heap) : h.get? h.objs.size = none := by
  cases q : h.get? h.objs.size with
  | none => rfl
  | some o => exact absurd (Heap.lt_size q) (Nat.lt_irrefl _)

def noE : Value → Shared → Prop := fun _ _ => False

structure Cx where
  prog : Program
  w : World
  hB : Heap

/-- where the walk stands: the frame and the changing objects -/
structure Wd (C : Cx) (env : Env) (ρ : List (Str × V)) (σ : List CO) (h : Heap) (cs xs : List Addr) : Prop where
  F : FR C.hB env ρ h cs xs
  R : CR h cs xs σ

/-- what a tree that hands back `v` owes -/
def Kt (σ' : List CO) (v : V) (s : Shared) (cs xs : List Addr) (Q : Value → Shared → Prop) : Prop :=
  ∀ val h' tk cs', Gx nX cs s.heap cs' h' → CR h' cs' xs σ' → VR h' cs' xs v val → Q val { s with heap := h', toks := tk }
def KtL (σ' : List CO) (vs : List V) (s : Shared) (cs xs : List Addr) (Q : List Value → Shared → Prop) : Prop :=
  ∀ vals h' tk cs', Gx nX cs s.heap cs' h' → CR h' cs' xs σ' → VRs h' cs' xs vs vals → Q vals { s with heap := h', toks := tk }
def KtB (σ' : List CO) (b : Bool) (s : Shared) (cs xs : List Addr) (Q : Bool → Shared → Prop) : Prop :=
  ∀ h' tk cs', Gx nX cs s.heap cs' h' → CR h' cs' xs σ' → Q b { s with heap := h', toks := tk }

def Tr (C : Cx) (A : Around) (env : Env) (ρ : List (Str × V)) (σ : List CO) (t : Sem Value) (v : V) (σ' : List CO) : Prop :=
  ∀ (s : Shared) (cs xs : List Addr) (Q : Value → Shared → Prop), Wd C env ρ σ s.heap cs xs → Kt σ' v s cs xs Q → wpAny (model C.prog C.w) A t Q noE s
def TrL (C : Cx) (A : Around) (env : Env) (ρ : List (Str × V)) (σ : List CO) (t : Sem (List Value)) (vs : List V) (σ' : List CO) : Prop :=
  ∀ (s : Shared) (cs xs : List Addr) (Q : List Value → Shared → Prop), Wd C env ρ σ s.heap cs xs → KtL σ' vs s cs xs Q → wpAny (model C.prog C.w) A t Q noE s
def TrB (C : Cx) (A : Around) (env : Env) (ρ : List (Str × V)) (σ : List CO) (t : Sem Bool) (b : Bool) (σ' : List CO) : Prop :=
  ∀ (s : Shared) (cs xs : List Addr) (Q : Bool → Shared → Prop), Wd C env ρ σ s.heap cs xs → KtB σ' b s cs xs Q → wpAny (model C.prog C.w) A t Q noE s

abbrev Ev (C : Cx) (A : Around) (env : Env) (ρ : List (Str × V)) (σ : List CO) (e : Expr) (v : V) (σ' : List CO) : Prop := Tr C A env ρ σ (eval e env) v σ'
abbrev Ts (C : Cx) (A : Around) (env : Env) (ρ : List (Str × V)) (σ : List CO) (e : Expr) (b : Bool) (σ' : List CO) : Prop := TrB C A env ρ σ (isTrue e env (eval e env)) b σ'


section
variable {C : Cx} {A : Around} {env : Env} {ρ : List (Str × V)} {σ σ' σ₁ σ₂ : List CO}

theorem Wd.on {h h' : Heap} {cs cs' xs : List Addr} (W : Wd C env ρ σ h cs xs) (g : Gx nX cs h cs' h') (R : CR h' cs' xs σ') : Wd C env ρ σ' h' cs' xs := ⟨W.F.on g, R⟩

theorem Kt.here {s : Shared} {cs xs : List Addr} {v : V} {val : Value} {Q : Value → Shared → Prop} (k : Kt σ v s cs xs Q) (W : Wd C env ρ σ s.heap cs xs) (r : VR s.heap cs xs v val) : Q val s :=
  k val s.heap s.toks cs (Gx.refl _ _ _) W.R r
theorem Kt.tok {s : Shared} {cs xs : List Addr} {v : V} {val : Value} {Q : Value → Shared → Prop} {tk : Nat} (k : Kt σ v s cs xs Q) (W : Wd C env ρ σ s.heap cs xs) (r : VR s.heap cs xs v val) : Q val { s with toks := tk } :=
  k val s.heap tk cs (Gx.refl _ _ _) W.R r
theorem Kt.keeps {s : Shared} {cs xs : List Addr} {v : V} {val : Value} {h' : Heap} {tk : Nat} {Q : Value → Shared → Prop} (k : Kt σ v s cs xs Q) (W : Wd C env ρ σ s.heap cs xs) (hk : ∀ b o, s.heap.get? b = some o → h'.get? b = some o)
    (r : VR h' cs xs v val) : Q val { s with heap := h', toks := tk } := k val h' tk cs (Gx.keeps hk) (W.R.keeps hk) r
theorem Kt.after {s : Shared} {cs cs₁ xs : List Addr} {h₁ : Heap} {t₁ : Nat} {v : V} {Q : Value → Shared → Prop} (k : Kt σ' v s cs xs Q) (g : Gx nX cs s.heap cs₁ h₁) : Kt σ' v { s with heap := h₁, toks := t₁ } cs₁ xs Q :=
  fun val h' tk cs' g' R r => k val h' tk cs' (g.trans g') R r

theorem push_keeps (h : Heap) (o : Obj) : ∀ b o', h.get? b = some o' → (h.push o).get? b = some o' := fun _ _ e => Heap.get?_push_of_some _ e

/-! constants, names -/
theorem Ev.cint {i : Int} {k pos} : Ev C A env ρ σ (.Constant (.int i) k pos) (.int i) σ := fun _ _ _ _ W k => wpAny_Constant_int (k.tok W (.int _ _))
theorem Ev.cstr {x : Str} {k pos} : Ev C A env ρ σ (.Constant (.str x) k pos) (.str x) σ := fun _ _ _ _ W k => wpAny_Constant_str (k.tok W (.str _ _))
theorem Ev.cnone {k pos} : Ev C A env ρ σ (.Constant .none k pos) .non σ := fun _ _ _ _ W k => wpAny_Constant_none (k.here W .non)
theorem Ev.cbool {b k pos} : Ev C A env ρ σ (.Constant (.bool b) k pos) (.bool b) σ := fun _ _ _ _ W k => wpAny_Constant_bool (k.here W (.bool _))

theorem loadLocal {x : Str} {v : V} (hv : ρ.lookup x = some v) (hl : env.kindOf x = some .local) : Tr C A env ρ σ (loadName env x) v σ := fun s cs xs Q W k => by
  obtain ⟨m, hn, hm⟩ := W.F.ns
  obtain ⟨val, e, r⟩ := hm x v hv hl
  exact wpAny_loadName_local W.F.hk hl hn e (k.here W r)
theorem loadCell {x : Str} {v : V} (hv : ρ.lookup x = some v) (hl : env.kindOf x = some .cell) : Tr C A env ρ σ (loadName env x) v σ := fun s cs xs Q W k => by
  obtain ⟨c, hc⟩ := Option.isSome_iff_exists.mp (W.F.csome x hl)
  obtain ⟨cv, hi, hm⟩ := W.F.cell x c hc
  obtain ⟨val, e, r⟩ := hm v hv hl
  exact wpAny_loadName_cell W.F.hk hl hc (e ▸ hi) (k.here W r)
theorem Ev.loc {x : Str} {pos : Pos} {v : V} (hv : ρ.lookup x = some v) (hl : env.kindOf x = some .local) (hd : (x == ("__debug__" : Str)) = false) : Ev C A env ρ σ (.Name x pos) v σ := fun s cs xs Q W k =>
  wpAny_Name (loadLocal hv hl s cs xs Q W k) hd
theorem Ev.cel {x : Str} {pos : Pos} {v : V} (hv : ρ.lookup x = some v) (hl : env.kindOf x = some .cell) (hd : (x == ("__debug__" : Str)) = false) : Ev C A env ρ σ (.Name x pos) v σ := fun s cs xs Q W k =>
  wpAny_Name (loadCell hv hl s cs xs Q W k) hd

/-- a name of the module's or the built-ins' -/
def Glb (hB : Heap) (x : Str) (val : Value) : Prop := ∃ mg mb, hB.Ns mainGlobals mg ∧ hB.Ns builtinsNs mb ∧ (mg x = some val ∨ (mg x = none ∧ mb x = some val))

theorem evGlb {x : Str} {pos : Pos} {val : Value} (G : Glb C.hB x val) (hx : env.kindOf x = some .globalImplicit) (hd : (x == ("__debug__" : Str)) = false)
    {s : Shared} {cs xs : List Addr} {Q : Value → Shared → Prop} (W : Wd C env ρ σ s.heap cs xs) (h : Q val s) : wpAny (model C.prog C.w) A (eval (.Name x pos) env) Q noE s := by
  obtain ⟨mg, mb, h1, h2, h3⟩ := G
  refine Name_function_global W.F.hk hx ?_ hd
  rcases h3 with e | ⟨e1, e2⟩
  · exact loadGlobal_global (by rw [W.F.gl]; exact h1.at' fun o e => W.F.base _ _ e) e h
  · exact loadGlobal_builtin (by rw [W.F.gl]; exact h1.at' fun o e => W.F.base _ _ e) e1 (by rw [W.F.bl]; exact h2.at' fun o e => W.F.base _ _ e) e2 h

end
end Mine

namespace Mine

def Op2 (C : Cx) (A : Around) (σ : List CO) (v₁ v₂ : V) (f : Value → Value → Sem Value) (v : V) (σ' : List CO) : Prop :=
  ∀ env ρ (s : Shared) (cs xs : List Addr) (a b : Value) (Q : Value → Shared → Prop), Wd C env ρ σ s.heap cs xs → VR s.heap cs xs v₁ a → VR s.heap cs xs v₂ b → Kt σ' v s cs xs Q → wpAny (model C.prog C.w) A (f a b) Q noE s
def Op1 (C : Cx) (A : Around) (σ : List CO) (v₁ : V) (f : Value → Sem Value) (v : V) (σ' : List CO) : Prop :=
  ∀ env ρ (s : Shared) (cs xs : List Addr) (a : Value) (Q : Value → Shared → Prop), Wd C env ρ σ s.heap cs xs → VR s.heap cs xs v₁ a → Kt σ' v s cs xs Q → wpAny (model C.prog C.w) A (f a) Q noE s
def Tru (C : Cx) (A : Around) (σ : List CO) (v : V) (b : Bool) : Prop :=
  ∀ env ρ (s : Shared) (cs xs : List Addr) (a : Value) (Q : Bool → Shared → Prop), Wd C env ρ σ s.heap cs xs → VR s.heap cs xs v a → (∀ tk, Q b { s with toks := tk }) → wpAny (model C.prog C.w) A (truthy a) Q noE s
/-- a call of the value fv with the arguments vs -/
def Cl (C : Cx) (A : Around) (σ : List CO) (fv : Value) (vs : List V) (v : V) (σ' : List CO) : Prop :=
  ∀ env ρ (s : Shared) (cs xs : List Addr) (us : List Value) (Q : Value → Shared → Prop), Wd C env ρ σ s.heap cs xs → VRs s.heap cs xs vs us → Kt σ' v s cs xs Q → wpAny (model C.prog C.w) A (call fv us) Q noE s

section
variable {C : Cx} {A : Around} {env : Env} {ρ : List (Str × V)} {σ σ' σ₁ σ₂ : List CO}

theorem KtB.after {s : Shared} {cs cs₁ xs : List Addr} {h₁ : Heap} {t₁ : Nat} {b : Bool} {Q : Bool → Shared → Prop} (k : KtB σ' b s cs xs Q) (g : Gx nX cs s.heap cs₁ h₁) : KtB σ' b { s with heap := h₁, toks := t₁ } cs₁ xs Q :=
  fun h' tk cs' g' R => k h' tk cs' (g.trans g') R
theorem KtB.tok {s : Shared} {cs xs : List Addr} {b : Bool} {Q : Bool → Shared → Prop} {tk : Nat} (k : KtB σ b s cs xs Q) (W : Wd C env ρ σ s.heap cs xs) : Q b { s with toks := tk } := k s.heap tk cs (Gx.refl _ _ _) W.R
theorem KtL.after {s : Shared} {cs cs₁ xs : List Addr} {h₁ : Heap} {t₁ : Nat} {vs : List V} {Q : List Value → Shared → Prop} (k : KtL σ' vs s cs xs Q) (g : Gx nX cs s.heap cs₁ h₁) : KtL σ' vs { s with heap := h₁, toks := t₁ } cs₁ xs Q :=
  fun vals h' tk cs' g' R r => k vals h' tk cs' (g.trans g') R r

theorem Ev.bin2 {e₁ e₂ : Expr} {op : Operator} {pos : Pos} {v₁ v₂ v : V} (h₁ : Ev C A env ρ σ e₁ v₁ σ₁) (h₂ : Ev C A env ρ σ₁ e₂ v₂ σ₂) (h : Op2 C A σ₂ v₁ v₂ (binaryOp op) v σ') :
    Ev C A env ρ σ (.BinOp e₁ op e₂ pos) v σ' := fun s cs xs Q W k => by
  refine wpAny_BinOp (h₁ s cs xs _ W fun a ha ta ca ga Ra ra => ?_)
  refine h₂ _ ca xs _ (W.on ga Ra) fun b hb tb cb gb Rb rb => ?_
  exact h env ρ _ cb xs a b _ ((W.on ga Ra).on gb Rb) (ra.on gb) rb ((k.after ga).after gb)

theorem Ev.cmp {e₁ e₂ : Expr} {op : CmpOp} {pos : Pos} {v₁ v₂ v : V} (h₁ : Ev C A env ρ σ e₁ v₁ σ₁) (h₂ : Ev C A env ρ σ₁ e₂ v₂ σ₂) (h : Op2 C A σ₂ v₁ v₂ (compareOp op) v σ')
    (hm : behindInMarks op e₂ = false) : Ev C A env ρ σ (.Compare e₁ [op] [e₂] pos) v σ' := fun s cs xs Q W k => by
  refine wpAny_Compare1 (h₁ s cs xs _ W fun a ha ta ca ga Ra ra => ?_) hm
  refine h₂ _ ca xs _ (W.on ga Ra) fun b hb tb cb gb Rb rb => ?_
  exact h env ρ _ cb xs a b _ ((W.on ga Ra).on gb Rb) (ra.on gb) rb ((k.after ga).after gb)

/-! tests -/
theorem Tru.bool {b : Bool} : Tru C A σ (.bool b) b := fun _ _ s _ _ _ _ _ r k => by obtain rfl := r.boolI; exact wpAny_truthy_bool (k s.toks)

theorem Ts.cmp {e₁ e₂ : Expr} {op : CmpOp} {pos : Pos} {v₁ v₂ : V} {b : Bool} (h₁ : Ev C A env ρ σ e₁ v₁ σ₁) (h₂ : Ev C A env ρ σ₁ e₂ v₂ σ₂) (h : Op2 C A σ₂ v₁ v₂ (compareOp op) (.bool b) σ')
    (hm : behindInMarks op e₂ = false) : Ts C A env ρ σ (.Compare e₁ [op] [e₂] pos) b σ' := fun s cs xs Q W k => by
  refine wpAny_isTrue_Compare1 (h₁ s cs xs _ W fun a ha ta ca ga Ra ra => ?_) hm
  refine h₂ _ ca xs _ (W.on ga Ra) fun b' hb tb cb gb Rb rb => ?_
  refine h env ρ _ cb xs a b' _ ((W.on ga Ra).on gb Rb) (ra.on gb) rb fun val h' tk cs' g' R' r' => ?_
  obtain rfl := r'.boolI
  exact wpAny_truthy_bool (k h' tk cs' ((ga.trans gb).trans g') R')

theorem Ts.of {e : Expr} {v : V} {b : Bool} (h : Ev C A env ρ σ e v σ') (ht : Tru C A σ' v b) (he : isTrue e env (eval e env) = (do let v ← eval e env; standAt e.pos; holding [v] (truthy v))) : Ts C A env ρ σ e b σ' := fun s cs xs Q W k => by
  refine wpAny_isTrue_value (h s cs xs _ W fun a h' tk cs' g R r => ?_) he
  exact ht env ρ _ cs' xs a _ (W.on g R) r fun t => k h' t cs' g R

theorem Ts.not {e : Expr} {pos : Pos} {b : Bool} (h : Ts C A env ρ σ e b σ') : Ts C A env ρ σ (.UnaryOp .Not e pos) (!b) σ' := fun s cs xs Q W k => by
  refine wpAny_isTrue_Not (h s cs xs _ W fun h' tk cs' g R => ?_)
  exact k h' tk cs' g R

def AllT (C : Cx) (A : Around) (env : Env) (ρ : List (Str × V)) (σ : List CO) (op : BoolOp) (es : List Expr) (b : Bool) (σ' : List CO) : Prop := TrB C A env ρ σ (allTrue op es env) b σ'
theorem Ts.bop {op : BoolOp} {es : List Expr} {pos : Pos} {b : Bool} (h : AllT C A env ρ σ op es b σ') : Ts C A env ρ σ (.BoolOp op es pos) b σ' := fun s cs xs Q W k => wpAny_isTrue_BoolOp (h s cs xs Q W k)
theorem AllT.or_nil : AllT C A env ρ σ .Or [] false σ := fun _ _ _ _ W k => wpAny_allTrue_Or_nil (k.tok W)
theorem AllT.and_nil : AllT C A env ρ σ .And [] true σ := fun _ _ _ _ W k => wpAny_allTrue_And_nil (k.tok W)
theorem AllT.or_stop {e : Expr} {rest : List Expr} (h : Ts C A env ρ σ e true σ') : AllT C A env ρ σ .Or (e :: rest) true σ' := fun s cs xs Q W k => by
  refine wpAny_allTrue_Or_cons (h s cs xs _ W fun h' tk cs' g R => ?_)
  exact k h' tk cs' g R
theorem AllT.or_on {e : Expr} {rest : List Expr} {b : Bool} (h : Ts C A env ρ σ e false σ₁) (hr : AllT C A env ρ σ₁ .Or rest b σ') : AllT C A env ρ σ .Or (e :: rest) b σ' := fun s cs xs Q W k => by
  refine wpAny_allTrue_Or_cons (h s cs xs _ W fun h' tk cs' g R => ?_)
  exact hr _ cs' xs _ (W.on g R) (k.after g)
theorem AllT.and_stop {e : Expr} {rest : List Expr} (h : Ts C A env ρ σ e false σ') : AllT C A env ρ σ .And (e :: rest) false σ' := fun s cs xs Q W k => by
  refine wpAny_allTrue_And_cons (h s cs xs _ W fun h' tk cs' g R => ?_)
  exact k h' tk cs' g R
theorem AllT.and_on {e : Expr} {rest : List Expr} {b : Bool} (h : Ts C A env ρ σ e true σ₁) (hr : AllT C A env ρ σ₁ .And rest b σ') : AllT C A env ρ σ .And (e :: rest) b σ' := fun s cs xs Q W k => by
  refine wpAny_allTrue_And_cons (h s cs xs _ W fun h' tk cs' g R => ?_)
  exact hr _ cs' xs _ (W.on g R) (k.after g)

theorem Ev.and2 {e₁ e₂ : Expr} {pos : Pos} {v₁ v : V} {b : Bool} (h₁ : Ev C A env ρ σ e₁ v₁ σ₁) (hb : Tru C A σ₁ v₁ b) (h₂ : if b then Ev C A env ρ σ₁ e₂ v σ' else v = v₁ ∧ σ' = σ₁) : Ev C A env ρ σ (.BoolOp .And [e₁, e₂] pos) v σ' := fun s cs xs Q W k => by
  refine wpAny_And2 (h₁ s cs xs _ W fun a ha ta ca ga Ra ra => hb env ρ _ ca xs a _ (W.on ga Ra) ra fun t => ?_)
  cases b with
  | true => exact h₂ _ ca xs _ (W.on ga Ra) (k.after ga)
  | false => obtain ⟨rfl, rfl⟩ := h₂; exact k a ha t ca ga Ra ra

theorem Ev.ifexp {t e₁ e₂ : Expr} {pos : Pos} {b : Bool} {v : V} (ht : Ts C A env ρ σ t b σ₁) (h : if b then Ev C A env ρ σ₁ e₁ v σ' else Ev C A env ρ σ₁ e₂ v σ') : Ev C A env ρ σ (.IfExp t e₁ e₂ pos) v σ' := fun s cs xs Q W k => by
  refine wpAny_IfExp (ht s cs xs _ W fun h' tk cs' g R => ?_)
  cases b with
  | true => exact h _ cs' xs _ (W.on g R) (k.after g)
  | false => exact h _ cs' xs _ (W.on g R) (k.after g)

/-! ints -/
theorem Op2.add {a b : Int} : Op2 C A σ (.int a) (.int b) (binaryOp .Add) (.int (a + b)) σ := fun _ _ _ _ _ _ _ _ W ra rb k => ra.intE fun _ => rb.intE fun _ => wpAny_add_int (k.tok W (.int _ _))
theorem Op2.sub {a b : Int} : Op2 C A σ (.int a) (.int b) (binaryOp .Sub) (.int (a - b)) σ := fun _ _ _ _ _ _ _ _ W ra rb k => ra.intE fun _ => rb.intE fun _ => PyProof.Rows.sub_int (k.tok W (.int _ _))
theorem Op2.mul {a b : Int} (hm : IntMulOk a b) : Op2 C A σ (.int a) (.int b) (binaryOp .Mult) (.int (a * b)) σ := fun _ _ _ _ _ _ _ _ W ra rb k => ra.intE fun _ => rb.intE fun _ => PyProof.Rows.mul_int (k.tok W (.int _ _)) hm
theorem Op2.fdiv {a b : Int} (hb : b ≠ 0) (hs : b.natAbs < 1073741824) : Op2 C A σ (.int a) (.int b) (binaryOp .FloorDiv) (.int (a.fdiv b)) σ := fun _ _ _ _ _ _ _ _ W ra rb k => ra.intE fun _ => rb.intE fun _ => PyProof.Rows.floordiv_int hb (k.tok W (.int _ _)) (.inl (PyProof.noPylong_small hs))
theorem Op2.fmod {a b : Int} (hb : b ≠ 0) : Op2 C A σ (.int a) (.int b) (binaryOp .Mod) (.int (a.fmod b)) σ := fun _ _ _ _ _ _ _ _ W ra rb k => ra.intE fun _ => rb.intE fun _ => PyProof.Rows.mod_int' hb (k.tok W (.int _ _))
theorem Op2.pow {a n : Int} (hn : 0 ≤ n) (hsz : (Builtin.Int.intBits a : Int) * n ≤ 2 ^ 27) : Op2 C A σ (.int a) (.int n) (binaryOp .Pow) (.int (a ^ n.toNat)) σ := fun _ _ _ _ _ _ _ _ W ra rb k => ra.intE fun _ => rb.intE fun _ => PyProof.Rows.pow_int hn hsz (k.tok W (.int _ _))
theorem Op2.lt {a b : Int} : Op2 C A σ (.int a) (.int b) (compareOp .Lt) (.bool (decide (a < b))) σ := fun _ _ _ _ _ _ _ _ W ra rb k => ra.intE fun _ => rb.intE fun _ => PyProof.Rows.lt_int (k.here W (.bool _))
theorem Op2.gt {a b : Int} : Op2 C A σ (.int a) (.int b) (compareOp .Gt) (.bool (decide (b < a))) σ := fun _ _ _ _ _ _ _ _ W ra rb k => ra.intE fun _ => rb.intE fun _ => PyProof.Rows.gt_int (k.here W (.bool _))
theorem Op2.le {a b : Int} : Op2 C A σ (.int a) (.int b) (compareOp .LtE) (.bool (decide (a ≤ b))) σ := fun _ _ _ _ _ _ _ _ W ra rb k => ra.intE fun _ => rb.intE fun _ => PyProof.Rows.le_int (k.here W (.bool _))
theorem Op2.ge {a b : Int} : Op2 C A σ (.int a) (.int b) (compareOp .GtE) (.bool (decide (b ≤ a))) σ := fun _ _ _ _ _ _ _ _ W ra rb k => ra.intE fun _ => rb.intE fun _ => PyProof.Rows.ge_int (k.here W (.bool _))
theorem Op2.eq {a b : Int} : Op2 C A σ (.int a) (.int b) (compareOp .Eq) (.bool (a == b)) σ := fun _ _ _ _ _ _ _ _ W ra rb k => ra.intE fun _ => rb.intE fun _ => PyProof.Rows.eq_int (k.here W (.bool _))
theorem Op2.ne {a b : Int} : Op2 C A σ (.int a) (.int b) (compareOp .NotEq) (.bool (a != b)) σ := fun _ _ _ _ _ _ _ _ W ra rb k => ra.intE fun _ => rb.intE fun _ => PyProof.Rows.ne_int (k.here W (.bool _))
theorem Op2.eqb {a b : Bool} : Op2 C A σ (.bool a) (.bool b) (compareOp .Eq) (.bool (a == b)) σ := fun _ _ _ _ _ _ _ _ W ra rb k => ra.boolE <| rb.boolE <| PyProof.Rows.eq_bool (k.here W (.bool _))
theorem Op2.eqs {a b : Str} : Op2 C A σ (.str a) (.str b) (compareOp .Eq) (.bool (a == b)) σ := fun _ _ _ _ _ _ _ _ W ra rb k => ra.strE fun _ => rb.strE fun _ => PyProof.Rows.eq_str (k.here W (.bool _))
theorem Op2.nes {a b : Str} : Op2 C A σ (.str a) (.str b) (compareOp .NotEq) (.bool (a != b)) σ := fun _ _ _ _ _ _ _ _ W ra rb k => ra.strE fun _ => rb.strE fun _ => PyProof.Rows.ne_str (k.here W (.bool _))
theorem Op2.eqis {a : Int} {b : Str} : Op2 C A σ (.int a) (.str b) (compareOp .Eq) (.bool false) σ := fun _ _ _ _ _ _ _ _ W ra rb k => ra.intE fun _ => rb.strE fun _ => PySem.EqMixed.eq_int_str (k.here W (.bool _))
theorem Op2.neis {a : Int} {b : Str} : Op2 C A σ (.int a) (.str b) (compareOp .NotEq) (.bool true) σ := fun _ _ _ _ _ _ _ _ W ra rb k => ra.intE fun _ => rb.strE fun _ => PySem.EqMixed.ne_int_str (k.here W (.bool _))

def V.isNon : V → Bool
  | .non => true
  | .raw v => v == Value.none
  | _ => false
theorem VR.beq_none {h : Heap} {cs xs : List Addr} {v : V} {a : Value} (r : VR h cs xs v a) : (a == Value.none) = v.isNon := by
  cases r <;> rfl
theorem Op2.isN {v : V} : Op2 C A σ v .non (compareOp .Is) (.bool v.isNon) σ := fun _ _ _ _ _ _ _ _ W ra rb k => by
  obtain rfl := rb.nonI; refine is_none ?_; rw [ra.beq_none]; exact k.here W (.bool _)
theorem Op2.isnN {v : V} : Op2 C A σ v .non (compareOp .IsNot) (.bool (!v.isNon)) σ := fun _ _ _ _ _ _ _ _ W ra rb k => by
  obtain rfl := rb.nonI; refine isNot_none ?_; rw [ra.beq_none]; exact k.here W (.bool _)

/-! arguments, displays, calls -/
abbrev Args (C : Cx) (A : Around) (env : Env) (ρ : List (Str × V)) (σ : List CO) (pos : Pos) (es : List Expr) (vs : List V) (σ' : List CO) : Prop := TrL C A env ρ σ (spliced (backTo pos (starEach es env))) vs σ'
theorem Args.nil {pos : Pos} : Args C A env ρ σ pos [] [] σ := fun s cs _ _ W k => spliced_nil (k [] s.heap s.toks cs (Gx.refl _ _ _) W.R .nil)
theorem Args.cons {pos : Pos} {e : Expr} {es : List Expr} {v : V} {vs : List V} (h : Ev C A env ρ σ e v σ₁) (hs : Args C A env ρ σ₁ pos es vs σ') (he : starEach (e :: es) env = (false, eval e env) :: starEach es env) :
    Args C A env ρ σ pos (e :: es) (v :: vs) σ' := fun s cs xs Q W k => by
  refine spliced_more (h s cs xs _ W fun a ha ta ca ga Ra ra => ?_) he
  refine hs _ ca xs _ (W.on ga Ra) fun us h' tk cs' g R r => ?_
  exact k (a :: us) h' tk cs' (ga.trans g) R (.cons (ra.on g) r)

theorem Ev.list {es : List Expr} {pos : Pos} {vs : List V} (h : Args C A env ρ σ pos es vs σ') (hz : vs.length ≤ sizeLine) : Ev C A env ρ σ (.List es pos) (.list vs) σ' := fun s cs xs Q W k => by
  refine wpAny_List (h s cs xs _ W fun us h' tk cs' g R r => ⟨r.1 ▸ hz, ?_⟩)
  have W' := W.on g R
  have nw := W'.F.new R (get_size_none h')
  have g2 : Gx nX cs' h' cs' (h'.push { cls := .type "list", data := .seq us.toArray }) := Gx.keeps (push_keeps _ _)
  refine k _ _ tk cs' (g.trans g2) (R.keeps (push_keeps _ _)) (.list ⟨_, Heap.get?_push_size _ rfl⟩ nw.1 nw.2 (by rw [List.size_toArray]; exact r.1) ?_)
  intro i v x e1 e2
  exact ((r.2 i v x e1 (by simpa using e2))).on g2
theorem Ev.tup {es : List Expr} {n : Nat} {pos : Pos} {vs : List V} (h : Args C A env ρ σ pos es vs σ') (hz : vs.length ≤ sizeLine) : Ev C A env ρ σ (.Tuple es n pos) (.tup vs) σ' := fun s cs xs Q W k => by
  refine wpAny_Tuple (h s cs xs _ W fun us h' tk cs' g R r => ⟨r.1 ▸ hz, ?_⟩)
  have W' := W.on g R
  have nw := W'.F.new R (get_size_none h')
  have g2 : Gx nX cs' h' cs' (h'.push { cls := .type "tuple", data := .seq us.toArray }) := Gx.keeps (push_keeps _ _)
  refine k _ _ tk cs' (g.trans g2) (R.keeps (push_keeps _ _)) (.tup ⟨_, Heap.get?_push_size _ rfl, rfl, _, rfl⟩ nw.1 nw.2 (by rw [List.size_toArray]; exact r.1) ?_)
  intro i v x e1 e2
  exact ((r.2 i v x e1 (by simpa using e2))).on g2

/-- a call by a name of the module's or the built-ins' -/
theorem Ev.callG {x : Str} {np pos : Pos} {es : List Expr} {fv : Value} {vs : List V} {v : V} (G : Glb C.hB x fv) (hx : env.kindOf x = some .globalImplicit) (hd : (x == ("__debug__" : Str)) = false)
    (hargs : Args C A env ρ σ pos es vs σ₁) (h : Cl C A σ₁ fv vs v σ')
    (hw : ∀ (s : Shared) (Q : Value → Shared → Prop), (∀ b o, C.hB.get? b = some o → s.heap.get? b = some o) →
      wpAny (model C.prog C.w) A (spliced (backTo pos (starEach es env))) (fun us s₁ => (∀ b o, C.hB.get? b = some o → s₁.heap.get? b = some o) ∧ wpAny (model C.prog C.w) A (call fv us) Q noE s₁) noE s →
      wpAny (model C.prog C.w) A (callWith pos fv [] (backTo pos (starEach es env)) []) Q noE s) :
    Ev C A env ρ σ (.Call (.Name x np) es [] pos) v σ' := fun s cs xs Q W k => by
  refine wpAny_Call_ofName (evGlb G hx hd W ?_)
  refine hw s Q W.F.base (hargs s cs xs _ W fun us h' tk cs' g R r => ⟨(W.on g R).F.base, ?_⟩)
  exact h env ρ _ cs' xs us Q (W.on g R) r (k.after g)

theorem with_builtin {id : String} {e : Expr} {es : List Expr} {pos : Pos} (he : starEach (e :: es) env = (false, eval e env) :: starEach es env) (hp : (backTo pos (starEach es env)).any (·.1) = false) :
    ∀ (s : Shared) (Q : Value → Shared → Prop), (∀ b o, C.hB.get? b = some o → s.heap.get? b = some o) →
      wpAny (model C.prog C.w) A (spliced (backTo pos (starEach (e :: es) env))) (fun us s₁ => (∀ b o, C.hB.get? b = some o → s₁.heap.get? b = some o) ∧ wpAny (model C.prog C.w) A (call (.builtin id) us) Q noE s₁) noE s →
      wpAny (model C.prog C.w) A (callWith pos (.builtin id) [] (backTo pos (starEach (e :: es) env)) []) Q noE s := fun _ _ _ h =>
  PyProof.Rows.callWith_builtin1 (wpAny_mono h (fun _ _ x => x.2) fun _ _ x => x) he hp
theorem with_type {T : String} {e : Expr} {es : List Expr} {pos : Pos} (he : starEach (e :: es) env = (false, eval e env) :: starEach es env) (hp : (backTo pos (starEach es env)).any (·.1) = false) :
    ∀ (s : Shared) (Q : Value → Shared → Prop), (∀ b o, C.hB.get? b = some o → s.heap.get? b = some o) →
      wpAny (model C.prog C.w) A (spliced (backTo pos (starEach (e :: es) env))) (fun us s₁ => (∀ b o, C.hB.get? b = some o → s₁.heap.get? b = some o) ∧ wpAny (model C.prog C.w) A (call (.type T) us) Q noE s₁) noE s →
      wpAny (model C.prog C.w) A (callWith pos (.type T) [] (backTo pos (starEach (e :: es) env)) []) Q noE s := fun _ _ _ h =>
  PyProof.Rows.callWith_type1 (wpAny_mono h (fun _ _ x => x.2) fun _ _ x => x) he hp
theorem with_fun {f : Addr} {o : Obj} {fd : FuncData} {e : Expr} {es : List Expr} {pos : Pos} (ho : C.hB.get? f = some o) (hd : o.data = .func fd) (he : starEach (e :: es) env = (false, eval e env) :: starEach es env) :
    ∀ (s : Shared) (Q : Value → Shared → Prop), (∀ b o, C.hB.get? b = some o → s.heap.get? b = some o) →
      wpAny (model C.prog C.w) A (spliced (backTo pos (starEach (e :: es) env))) (fun us s₁ => (∀ b o, C.hB.get? b = some o → s₁.heap.get? b = some o) ∧ wpAny (model C.prog C.w) A (call (.ref f) us) Q noE s₁) noE s →
      wpAny (model C.prog C.w) A (callWith pos (.ref f) [] (backTo pos (starEach (e :: es) env)) []) Q noE s := fun _ _ _ h =>
  PyProof.Rows.callWith_def hd (wpAny_mono h (fun _ _ x => ⟨x.1 _ _ ho, x.2⟩) fun _ _ x => x) he
end
end Mine

namespace Mine

/-- the frame's own addresses -/
def FX (env : Env) : Addr → Prop := fun b => b = env.locals ∨ (@LT.lt Nat _ env.locals b ∧ ∃ n, env.cells.lookup n = some b)

inductive Out where
  | next (ρ : List (Str × V)) (σ : List CO)
  | ret (v : V) (σ : List CO)
  | brk (ρ : List (Str × V)) (σ : List CO)
  | cont (ρ : List (Str × V)) (σ : List CO)

def OutR (C : Cx) (env : Env) (h : Heap) (cs xs : List Addr) : Out → Flow → Prop
  | .next ρ σ, .next => Wd C env ρ σ h cs xs
  | .ret v σ, .ret val => CR h cs xs σ ∧ VR h cs xs v val
  | .brk ρ σ, .brk => Wd C env ρ σ h cs xs
  | .cont ρ σ, .cont => Wd C env ρ σ h cs xs
  | _, _ => False

def Kx (C : Cx) (env : Env) (Φ : Out → Prop) (s : Shared) (cs xs : List Addr) (Q : Flow → Shared → Prop) : Prop :=
  ∀ o f h' tk cs', Φ o → Gx (FX env) cs s.heap cs' h' → OutR C env h' cs' xs o f → Q f { s with heap := h', toks := tk }

def Ex (C : Cx) (A : Around) (env : Env) (ρ : List (Str × V)) (σ : List CO) (ss : List Stmt) (Φ : Out → Prop) : Prop :=
  ∀ (s : Shared) (cs xs : List Addr) (Q : Flow → Shared → Prop), Wd C env ρ σ s.heap cs xs → Kx C env Φ s cs xs Q → wpAny (model C.prog C.w) A (execs ss env) Q noE s
def X1 (C : Cx) (A : Around) (env : Env) (ρ : List (Str × V)) (σ : List CO) (st : Stmt) (Φ : Out → Prop) : Prop :=
  ∀ (s : Shared) (cs xs : List Addr) (Q : Flow → Shared → Prop), Wd C env ρ σ s.heap cs xs → Kx C env Φ s cs xs Q → wpAny (model C.prog C.w) A (exec st env) Q noE s
/-- a target takes a value -/
def Bn (C : Cx) (A : Around) (env : Env) (ρ : List (Str × V)) (σ : List CO) (t : Expr) (v : V) (ρ' : List (Str × V)) (σ' : List CO) : Prop :=
  ∀ (s : Shared) (cs xs : List Addr) (val : Value) (Q : Unit → Shared → Prop), Wd C env ρ σ s.heap cs xs → VR s.heap cs xs v val →
    (∀ h' tk, Gx (FX env) cs s.heap cs h' → Wd C env ρ' σ' h' cs xs → Q () { s with heap := h', toks := tk }) → wpAny (model C.prog C.w) A (assign t env val) Q noE s

/-- a name takes a value -/
def Sn (C : Cx) (A : Around) (env : Env) (ρ : List (Str × V)) (σ : List CO) (x : Str) (v : V) (ρ' : List (Str × V)) : Prop :=
  ∀ (s : Shared) (cs xs : List Addr) (val : Value) (Q : Unit → Shared → Prop), Wd C env ρ σ s.heap cs xs → VR s.heap cs xs v val →
    (∀ h' tk, Gx (FX env) cs s.heap cs h' → Wd C env ρ' σ h' cs xs → Q () { s with heap := h', toks := tk }) → wpAny (model C.prog C.w) A (storeName env x val) Q noE s

section
variable {C : Cx} {A : Around} {env : Env} {ρ ρ' : List (Str × V)} {σ σ' σ₁ σ₂ : List CO}

theorem FR.fx {hB : Heap} {h : Heap} {cs xs : List Addr} (F : FR hB env ρ h cs xs) : ∀ b, FX env b → b ∈ xs := fun b hb => by
  rcases hb with rfl | ⟨_, n, hm⟩
  · exact F.Lx
  · exact F.cx n b hm

theorem FR.fxl {hB : Heap} {h : Heap} {cs xs : List Addr} (F : FR hB env ρ h cs xs) : ∀ b, FX env b → ∃ o, h.get? b = some o := fun b hb => F.xlive b (F.fx b hb)
theorem Gx.ofF {hB : Heap} {h h' : Heap} {cs cs' xs : List Addr} (g : Gx nX cs h cs' h') (F : FR hB env ρ h cs xs) : Gx (FX env) cs h cs' h' := g.of_n F.fxl
theorem VR.onF {hB : Heap} {h h' : Heap} {cs cs' xs : List Addr} {v : V} {x : Value} (r : VR h cs xs v x) (F : FR hB env ρ h cs xs) (g : Gx (FX env) cs h cs' h') : VR h' cs' xs v x := r.mono g F.fx fun _ ha => .inl ha
theorem VRs.onF {hB : Heap} {h h' : Heap} {cs cs' xs : List Addr} {vs : List V} {us : List Value} (r : VRs h cs xs vs us) (F : FR hB env ρ h cs xs) (g : Gx (FX env) cs h cs' h') : VRs h' cs' xs vs us := r.mono g F.fx fun _ ha => .inl ha

theorem Kx.after {Φ : Out → Prop} {s : Shared} {cs cs₁ xs : List Addr} {h₁ : Heap} {t₁ : Nat} {Q : Flow → Shared → Prop} (k : Kx C env Φ s cs xs Q) (g : Gx (FX env) cs s.heap cs₁ h₁) : Kx C env Φ { s with heap := h₁, toks := t₁ } cs₁ xs Q :=
  fun o f h' tk cs' ho g' r => k o f h' tk cs' ho (g.trans g') r

/-- fewer names may be known -/
def Sub (ρ' ρ : List (Str × V)) : Prop := ∀ x v, ρ'.lookup x = some v → ρ.lookup x = some v
theorem lookup_mem {α : Type} : ∀ {l : List (Str × α)} {n : Str} {c : α}, l.lookup n = some c → (n, c) ∈ l := mem_of_lookup
theorem Wd.sub {h : Heap} {cs xs : List Addr} (W : Wd C env ρ σ h cs xs) (hs : Sub ρ' ρ) : Wd C env ρ' σ h cs xs := by
  refine ⟨⟨W.F.hk, W.F.base, W.F.csB, W.F.xsB, W.F.xlive, W.F.xoff, W.F.Lx, W.F.cx, ?_, ?_, W.F.apart, W.F.offL, W.F.csome, W.F.above, W.F.gl, W.F.bl⟩, W.R⟩
  · obtain ⟨m, hn, hm⟩ := W.F.ns
    exact ⟨m, hn, fun x v e k => hm x v (hs _ _ e) k⟩
  · intro n c e
    obtain ⟨cv, hi, hm⟩ := W.F.cell n c e
    exact ⟨cv, hi, fun v e1 e2 => hm v (hs _ _ e1) e2⟩

theorem lookup_cons' {α : Type} (x y : Str) (v : α) (l : List (Str × α)) : List.lookup y ((x, v) :: l) = if y = x then some v else List.lookup y l := by
  rw [List.lookup_cons]
  by_cases h : y = x
  · subst h; simp
  · have : (y == x) = false := by simpa using h
    simp [this, h]

theorem Sn.loc {x : Str} {v : V} (hl : env.kindOf x = some .local) : Sn C A env ρ σ x v ((x, v) :: ρ) := fun s cs xs val Q W r k => by
  obtain ⟨m, hn, hm⟩ := W.F.ns
  refine wpAny_storeName_local hl hn (fun h' hn' hs => ?_) (by rw [W.F.hk]; rfl)
  obtain ⟨oL, _, _, eL, _⟩ := id hn'
  have g : Gx (FX env) cs s.heap cs h' := Gx.updX (.inl rfl) hs
  refine k h' _ g ⟨⟨W.F.hk, fun b o e => ?_, W.F.csB, W.F.xsB, fun a ha => ?_, W.F.xoff, W.F.Lx, W.F.cx, ⟨_, hn', fun y w e kk => ?_⟩, fun n c e => ?_, W.F.apart, W.F.offL, W.F.csome, W.F.above, W.F.gl, W.F.bl⟩, ?_⟩
  · exact hs.extBut b o (fun q => by have := W.F.xsB _ W.F.Lx; rw [← q, e] at this; cases this) (W.F.base b o e)
  · obtain ⟨o, e⟩ := W.F.xlive a ha
    by_cases q : a = env.locals
    · subst q; exact ⟨oL, eL⟩
    · exact ⟨o, hs.extBut a o q e⟩
  · rw [lookup_cons'] at e
    by_cases q : y = x
    · subst q; rw [if_pos rfl] at e; cases e
      exact ⟨val, by simp, r.onF W.F g⟩
    · rw [if_neg q] at e
      obtain ⟨u, e1, r1⟩ := hm y w e kk
      exact ⟨u, by simp [q, e1], r1.onF W.F g⟩
  · obtain ⟨cv, hi, hv⟩ := W.F.cell n c e
    refine ⟨cv, hi.sameBut hs (W.F.offL n c e), fun w e1 e2 => ?_⟩
    have q : n ≠ x := fun q => by subst q; rw [hl] at e2; cases e2
    rw [lookup_cons', if_neg q] at e1
    obtain ⟨u, e3, r3⟩ := hv w e1 e2
    exact ⟨u, e3, r3.onF W.F g⟩
  · exact W.R.mono g W.F.fx (fun _ ha => .inl ha) fun a ha o e => hs.extBut a o (fun q => W.F.xoff _ W.F.Lx (q ▸ ha)) e

theorem Sn.cel {x : Str} {v : V} (hl : env.kindOf x = some .cell) (hab : ∀ c, env.cells.lookup x = some c → @LT.lt Nat _ env.locals c) : Sn C A env ρ σ x v ((x, v) :: ρ) := fun s cs xs val Q W r k => by
  obtain ⟨c, hc⟩ := Option.isSome_iff_exists.mp (W.F.csome x hl)
  obtain ⟨m, hn, hm⟩ := W.F.ns
  obtain ⟨cv, hi, _⟩ := W.F.cell x c hc
  refine wpAny_storeName_cell W.F.hk hl hc hi (fun h' hi' hs => ?_)
  obtain ⟨oc, eoc, _⟩ := id hi'
  have hcm : env.cells.lookup x = some c := hc
  have g : Gx (FX env) cs s.heap cs h' := Gx.updX (.inr ⟨hab c hcm, x, hcm⟩) hs
  refine k h' s.toks g ⟨⟨W.F.hk, fun b o e => ?_, W.F.csB, W.F.xsB, fun a ha => ?_, W.F.xoff, W.F.Lx, W.F.cx, ⟨m, hn.at' fun o e => hs.extBut _ _ (fun q => W.F.offL x c hcm q.symm) e, fun y w e kk => ?_⟩, fun n d e => ?_, W.F.apart, W.F.offL, W.F.csome, W.F.above, W.F.gl, W.F.bl⟩, ?_⟩
  · exact hs.extBut b o (fun q => by have := W.F.xsB _ (W.F.cx x c hcm); rw [← q, e] at this; cases this) (W.F.base b o e)
  · obtain ⟨o, e⟩ := W.F.xlive a ha
    by_cases q : a = c
    · subst q; exact ⟨oc, eoc⟩
    · exact ⟨o, hs.extBut a o q e⟩
  · have q : y ≠ x := fun q => by subst q; rw [hl] at kk; cases kk
    rw [lookup_cons', if_neg q] at e
    obtain ⟨u, e1, r1⟩ := hm y w e kk
    exact ⟨u, e1, r1.onF W.F g⟩
  · by_cases q : n = x
    · subst q
      rw [hc] at e; cases e
      refine ⟨some val, hi', fun w e1 _ => ?_⟩
      rw [lookup_cons', if_pos rfl] at e1; cases e1
      exact ⟨val, rfl, r.onF W.F g⟩
    · obtain ⟨dv, hd, hv⟩ := W.F.cell n d e
      refine ⟨dv, hd.sameBut hs fun z => q (W.F.apart _ _ _ e (z ▸ hcm)), fun w e1 e2 => ?_⟩
      rw [lookup_cons', if_neg q] at e1
      obtain ⟨u, e3, r3⟩ := hv w e1 e2
      exact ⟨u, e3, r3.onF W.F g⟩
  · exact W.R.mono g W.F.fx (fun _ ha => .inl ha) fun a ha o e => hs.extBut a o (fun q => W.F.xoff _ (W.F.cx x c hcm) (q ▸ ha)) e

theorem Bn.name {x : Str} {pos : Pos} {v : V} (h : Sn C A env ρ σ x v ρ') : Bn C A env ρ σ (.Name x pos) v ρ' σ := fun s cs xs val Q W r k => wpAny_assign_Name (h s cs xs val Q W r k)

/-! statements one after another -/
theorem Ex.nil {Φ : Out → Prop} (h : Φ (.next ρ σ)) : Ex C A env ρ σ [] Φ := fun s cs xs Q W k => wpAny_execs_nil (k _ _ s.heap s.toks cs h (Gx.refl _ _ _) W)
theorem Ex.cons {st : Stmt} {rest : List Stmt} {Φ : Out → Prop} (h : X1 C A env ρ σ st (fun o => match o with | .next ρ' σ' => Ex C A env ρ' σ' rest Φ | o => Φ o)) : Ex C A env ρ σ (st :: rest) Φ := fun s cs xs Q W k => by
  refine wpAny_execs_cons (h s cs xs _ W fun o f h' tk cs' ho g r => ?_)
  cases o with
  | next ρ' σ' =>
    cases f <;> first | exact r.elim | skip
    exact ho _ cs' xs Q r (k.after g)
  | ret v σ' => cases f <;> first | exact r.elim | exact k _ _ h' tk cs' ho g r
  | brk ρ' σ' => cases f <;> first | exact r.elim | exact k _ _ h' tk cs' ho g r
  | cont ρ' σ' => cases f <;> first | exact r.elim | exact k _ _ h' tk cs' ho g r
theorem Ex.mono {ss : List Stmt} {Φ Ψ : Out → Prop} (h : Ex C A env ρ σ ss Φ) (hi : ∀ o, Φ o → Ψ o) : Ex C A env ρ σ ss Ψ := fun s cs xs Q W k => h s cs xs Q W fun o f h' tk cs' ho g r => k o f h' tk cs' (hi o ho) g r
theorem Ex.sub {ss : List Stmt} {Φ : Out → Prop} (h : Ex C A env ρ' σ ss Φ) (hs : Sub ρ' ρ) : Ex C A env ρ σ ss Φ := fun s cs xs Q W k => h s cs xs Q (W.sub hs) k

theorem X1.ret {e : Expr} {pos : Pos} {v : V} {Φ : Out → Prop} (h : Ev C A env ρ σ e v σ') (hp : Φ (.ret v σ')) : X1 C A env ρ σ (.Return (some e) pos) Φ := fun s cs xs Q W k =>
  wpAny_Return_some (h s cs xs _ W fun a h' tk cs' g R r => k (.ret v σ') (.ret a) h' tk cs' hp (g.ofF W.F) ⟨R, r⟩)
theorem X1.brk {pos : Pos} {Φ : Out → Prop} (hp : Φ (.brk ρ σ)) : X1 C A env ρ σ (.Break pos) Φ := fun s cs xs Q W k => wpAny_Break (k (.brk ρ σ) .brk s.heap s.toks cs hp (Gx.refl _ _ _) W)
theorem X1.ite {t : Expr} {a b : List Stmt} {pos : Pos} {c : Bool} {Φ : Out → Prop} (ht : Ts C A env ρ σ t c σ₁) (h : if c then Ex C A env ρ σ₁ a Φ else Ex C A env ρ σ₁ b Φ) : X1 C A env ρ σ (.If t a b pos) Φ := fun s cs xs Q W k => by
  refine wpAny_If (ht s cs xs _ W fun h' tk cs' g R => ?_)
  cases c with
  | true => exact h _ cs' xs Q (W.on g R) (k.after (g.ofF W.F))
  | false => exact h _ cs' xs Q (W.on g R) (k.after (g.ofF W.F))
/-- one target, its value evaluated first -/
theorem X1.asg {x : Str} {xp pos : Pos} {e : Expr} {v : V} {Φ : Out → Prop} (h : Ev C A env ρ σ e v σ₁) (hb : Sn C A env ρ σ₁ x v ρ') (hp : Φ (.next ρ' σ₁))
    (hs : swapsWith e (some (.Name x xp)) pos.line env = pure false) : X1 C A env ρ σ (.Assign [.Name x xp] e pos) Φ := fun s cs xs Q W k => by
  refine wpAny_Assign_Name (h s cs xs _ W fun a h' tk cs' g R r => ?_) hs
  exact hb _ cs' xs a _ (W.on g R) r fun h'' tk' g' W'' => k (.next ρ' σ₁) .next h'' tk' cs' hp ((g.ofF W.F).trans g') W''
theorem X1.asgT {es : List Expr} {n : Nat} {tp pos : Pos} {e : Expr} {v : V} {Φ : Out → Prop} (h : Ev C A env ρ σ e v σ₁) (hb : Bn C A env ρ σ₁ (.Tuple es n tp) v ρ' σ') (hp : Φ (.next ρ' σ'))
    (hs : swapsWithSole [.Tuple es n tp] e pos.line env = pure false) (hw : swappedStores [.Tuple es n tp] e env = pure none) : X1 C A env ρ σ (.Assign [.Tuple es n tp] e pos) Φ := fun s cs xs Q W k => by
  refine Assign_Tuple (h s cs xs _ W fun a h' tk cs' g R r => ?_) hs hw
  exact hb _ cs' xs a _ (W.on g R) r fun h'' tk' g' W'' => k (.next ρ' σ') .next h'' tk' cs' hp ((g.ofF W.F).trans g') W''
theorem X1.expr {e : Expr} {pos : Pos} {v : V} {Φ : Out → Prop} (h : Ev C A env ρ σ e v σ') (hp : Φ (.next ρ σ')) (hi : interactive env = false) (hs : swapsWith e none pos.line env = pure false) : X1 C A env ρ σ (.Expr e pos) Φ := fun s cs xs Q W k =>
  wpAny_Expr_any (h s cs xs _ W fun a h' tk cs' g R r => k (.next ρ σ') .next h' tk cs' hp (g.ofF W.F) (W.on g R)) hi hs
end
end Mine

namespace Mine

/-- all but own stands as it stood -/
def Kp (own : List Addr) (h h' : Heap) : Prop := ∀ b o, b ∉ own → h.get? b = some o → h'.get? b = some o

/-- an iterator that hands out the trees vs, one after another, to the target t -/
structure It (C : Cx) (A : Around) (t : Expr) (it : Value) (own : List Addr) (vs : List V) (St : Nat → Heap → List Addr → List Addr → Prop) (M : List CO → Prop) : Prop where
  mono : ∀ i h cs xs X cs' h' xs', St i h cs xs → Gx X cs h cs' h' → (∀ b, X b → b ∈ xs ∧ b ∉ own) → (∀ a ∈ xs, a ∈ xs') → (∀ a ∈ xs', a ∈ xs ∨ h.get? a = none) → St i h' cs' xs'
  live : ∀ i h cs xs, St i h cs xs → ∀ a ∈ own, ∃ o, h.get? a = some o
  item : ∀ i v (s : Shared) cs xs (Q : Value → Shared → Prop) (R : Shared → Prop), vs[i]? = some v → St i s.heap cs xs → (∀ a, s.heap.get? a = none → a ∉ cs ∧ a ∉ xs) → (∀ a ∈ own, a ∉ cs ∧ a ∈ xs) → (∃ σ, M σ ∧ CR s.heap cs xs σ) →
    (∀ val h' tk, Kp own s.heap h' → St (i + 1) h' cs xs → VR h' cs xs v val → Q val { s with heap := h', toks := tk }) →
    wpAny (model C.prog C.w) A (pyNext it) (fun r s₁ => match r with | none => R s₁ | some val => wpAny (model C.prog C.w) A (letOwnedTupleGo t it val) (fun _ s₂ => Q val s₂) noE s₁) noE s
  done : ∀ (s : Shared) cs xs (Q : Option Value → Shared → Prop), St vs.length s.heap cs xs → (∀ a ∈ own, a ∉ cs ∧ a ∈ xs) → (∃ σ, M σ ∧ CR s.heap cs xs σ) →
    (∀ h' tk, Kp own s.heap h' → Q none { s with heap := h', toks := tk }) → wpAny (model C.prog C.w) A (pyNext it) Q noE s
  self : ∀ i (s : Shared) cs xs (Q : Value → Shared → Prop), St i s.heap cs xs → Q it s → wpAny (model C.prog C.w) A (pyIter it) Q noE s

/-- what is owed when an iterator has been made -/
def KtI (M : List CO → Prop) (C : Cx) (A : Around) (t : Expr) (vs : List V) (σ' : List CO) (s : Shared) (cs xs : List Addr) (Q : Value → Shared → Prop) : Prop :=
  ∀ it own St h' tk cs', Gx nX cs s.heap cs' h' → CR h' cs' (own ++ xs) σ' → It C A t it own vs St M → (∀ a ∈ own, s.heap.get? a = none) → (∀ a ∈ own, a ∉ cs') → St 0 h' cs' (own ++ xs) → Q it { s with heap := h', toks := tk }
/-- an expression evaluated, and its iterator made -/
def EvIM (M : List CO → Prop) (C : Cx) (A : Around) (env : Env) (ρ : List (Str × V)) (σ : List CO) (e t : Expr) (vs : List V) (σ' : List CO) : Prop :=
  ∀ (s : Shared) (cs xs : List Addr) (Q : Value → Shared → Prop), Wd C env ρ σ s.heap cs xs → KtI M C A t vs σ' s cs xs Q →
    wpAny (model C.prog C.w) A (eval e env) (fun x s₁ => wpAny (model C.prog C.w) A (pyIter x) Q noE s₁) noE s
abbrev anyM : List CO → Prop := fun _ => True
abbrev EvI (C : Cx) (A : Around) (env : Env) (ρ : List (Str × V)) (σ : List CO) (e t : Expr) (vs : List V) (σ' : List CO) : Prop := EvIM anyM C A env ρ σ e t vs σ'

section
variable {C : Cx} {A : Around} {env : Env} {ρ ρ' : List (Str × V)} {σ σ' σ₁ σ₂ : List CO}

theorem VR.less {h : Heap} {cs xs xs' : List Addr} {v : V} {x : Value} (r : VR h cs xs' v x) (hs : ∀ a ∈ xs, a ∈ xs') : VR h cs xs v x := r.mono (X := nX) (Gx.refl _ _ _) (fun _ f => f.elim) fun a ha => .inl (hs a ha)
theorem VRs.less {h : Heap} {cs xs xs' : List Addr} {vs : List V} {us : List Value} (r : VRs h cs xs' vs us) (hs : ∀ a ∈ xs, a ∈ xs') : VRs h cs xs vs us := ⟨r.1, fun i v x e1 e2 => (r.2 i v x e1 e2).less hs⟩
theorem CR.less {h : Heap} {cs xs xs' : List Addr} (r : CR h cs xs' σ) (hs : ∀ a ∈ xs, a ∈ xs') : CR h cs xs σ :=
  r.mono (X := nX) (Gx.refl _ _ _) (fun _ f => f.elim) (fun a ha => .inl (hs a ha)) fun _ _ _ e => e
theorem FR.less {hB : Heap} {h : Heap} {cs xs xs' : List Addr} (F : FR hB env ρ h cs xs') (hs : ∀ a ∈ xs, a ∈ xs') (hL : env.locals ∈ xs) (hc : ∀ n c, env.cells.lookup n = some c → c ∈ xs) : FR hB env ρ h cs xs where
  hk := F.hk
  base := F.base
  csB := F.csB
  xsB := fun a ha => F.xsB a (hs a ha)
  xlive := fun a ha => F.xlive a (hs a ha)
  xoff := fun a ha => F.xoff a (hs a ha)
  Lx := hL
  cx := hc
  ns := let ⟨m, hn, hv⟩ := F.ns; ⟨m, hn, fun x v e k => let ⟨val, h1, h2⟩ := hv x v e k; ⟨val, h1, h2.less hs⟩⟩
  cell := fun n c e => let ⟨cv, hi, hv⟩ := F.cell n c e; ⟨cv, hi, fun v e1 e2 => let ⟨val, h1, h2⟩ := hv v e1 e2; ⟨val, h1, h2.less hs⟩⟩
  apart := F.apart
  offL := F.offL
  csome := F.csome
  above := F.above
  gl := F.gl
  bl := F.bl
theorem Wd.less {h : Heap} {cs xs xs' : List Addr} (W : Wd C env ρ σ h cs xs') (hs : ∀ a ∈ xs, a ∈ xs') (hL : env.locals ∈ xs) (hc : ∀ n c, env.cells.lookup n = some c → c ∈ xs) : Wd C env ρ σ h cs xs := ⟨W.F.less hs hL hc, W.R.less hs⟩

theorem Kp.gx {own cs : List Addr} {h h' : Heap} (k : Kp own h h') : Gx (· ∈ own) cs h cs h' := Gx.extX fun b o hb e => k b o hb e

theorem Gx.own {X : Addr → Prop} {own cs cs' : List Addr} {h h' h'' : Heap} (g : Gx X cs h cs' h') (k : Kp own h' h'') (hn : ∀ a ∈ own, h.get? a = none) : Gx X cs h cs' h'' :=
  ⟨g.pre, fun b o e h1 h2 => k b o (fun q => by rw [hn b q] at e; cases e) (g.keep b o e h1 h2), g.fresh⟩

/-- fresh addresses are set apart -/
theorem Wd.more {h h' : Heap} {cs cs' xs own : List Addr} (W : Wd C env ρ σ h cs xs) (g : Gx nX cs h cs' h') (hn : ∀ a ∈ own, h.get? a = none) (hl : ∀ a ∈ own, ∃ o, h'.get? a = some o) (ho : ∀ a ∈ own, a ∉ cs')
    (hR : CR h' cs' (own ++ xs) σ') : Wd C env ρ σ' h' cs' (own ++ xs) := by
  have F' := W.F.on g
  exact ⟨W.F.go g (fun _ f => f.elim) (fun f => f) (fun _ _ _ f => f) (List.mem_append_right _ W.F.Lx) (fun n c hm => List.mem_append_right _ (W.F.cx n c hm)) (fun a ha => (List.mem_append.mp ha).elim (fun q => .inr (hn a q)) .inl)
    (fun a ha => (List.mem_append.mp ha).elim (hl a) (F'.xlive a)) (fun a ha => (List.mem_append.mp ha).elim (ho a) (F'.xoff a)), hR⟩

theorem Wd.new {h : Heap} {cs xs : List Addr} (W : Wd C env ρ σ h cs xs) : ∀ a, h.get? a = none → a ∉ cs ∧ a ∉ xs := fun a e => W.F.new W.R e

/-- an iterator's own objects go on; the frame stands -/
theorem Wd.own {h h' : Heap} {cs xs own : List Addr} (W : Wd C env ρ σ h cs xs) (k : Kp own h h') (hx : ∀ a ∈ own, a ∈ xs) (hf : ∀ a ∈ own, a ≠ env.locals) (hf2 : ∀ a ∈ own, ∀ n, env.cells.lookup n ≠ some a) (hl : ∀ a ∈ own, ∃ o, h'.get? a = some o) (hc : ∀ a ∈ own, a ∉ cs) : Wd C env ρ σ h' cs xs := by
  refine ⟨W.F.go k.gx hx (fun q => hf _ q rfl) (fun n c hm q => hf2 _ q n hm) W.F.Lx W.F.cx (fun _ ha => .inl ha) (fun a ha => ?_) W.F.xoff, ?_⟩
  · by_cases q : a ∈ own
    · exact hl a q
    · obtain ⟨o, e⟩ := W.F.xlive a ha; exact ⟨o, k a o q e⟩
  · exact W.R.mono (X := (· ∈ own)) k.gx hx (fun _ ha => .inl ha) fun a ha o e => k a o (fun q => hc a q ha) e

/-- an iterator at its end is dropped -/
theorem Wd.ownDone {h h' : Heap} {cs xs own : List Addr} (W : Wd C env ρ σ h cs (own ++ xs)) (k : Kp own h h') (hf : ∀ a ∈ own, a ∉ xs) (hL : env.locals ∈ xs) (hc : ∀ n c, env.cells.lookup n = some c → c ∈ xs) (ho : ∀ a ∈ own, a ∉ cs) : Wd C env ρ σ h' cs xs := by
  have hx : ∀ a ∈ own, a ∈ own ++ xs := fun a ha => List.mem_append_left _ ha
  refine ⟨W.F.go k.gx hx (fun q => hf _ q hL) (fun n c hm q => hf _ q (hc n c hm)) hL hc (fun a ha => .inl (List.mem_append_right _ ha)) (fun a ha => ?_) (fun a ha => W.F.xoff a (List.mem_append_right _ ha)), ?_⟩
  · obtain ⟨o, e⟩ := W.F.xlive a (List.mem_append_right _ ha); exact ⟨o, k a o (fun q => hf a q ha) e⟩
  · exact W.R.mono (X := (· ∈ own)) k.gx hx (fun a ha => .inl (List.mem_append_right _ ha)) fun a ha o e => k a o (fun q => ho a q ha) e

theorem noSome {α : Type} {x : Option α} {a : α} (h1 : x = none) (h2 : x = some a) : False := by rw [h1] at h2; cases h2
theorem wpE {prog : Program} {w : World} {α : Type} {s : Shared} {t : Sem α} {Q : α → Shared → Prop} {E : Value → Shared → Prop} (h : wpAny (model prog w) A t Q noE s) : wpAny (model prog w) A t Q E s := wpAny_mono h (fun _ _ q => q) fun _ _ f => f.elim
/-- how a loop's turn may end -/
def FlowTo (R : Flow → Shared → Prop) (J : Shared → Prop) : Flow → Shared → Prop
  | .next, s => J s
  | .cont, s => J s
  | .brk, s => R .next s
  | .ret v, s => R (.ret v) s
theorem forC {prog : Program} {w : World} {target it body env} {s : Shared} {R : Flow → Shared → Prop} {R' : Result → Shared → Prop} (hR : ∀ f s, R f s → R' (.ok f) s) (I : Nat → Shared → Prop)
    (turn : ∀ n s, I n s → wpAny (model prog w) A (pyNext it) (fun r s₁ => match r with
      | none => R .next s₁
      | some v => wpAny (model prog w) A (letOwnedTupleGo target it v) (fun _ s₂ => wpAny (model prog w) A (assign target env v) (fun _ s₃ => wpAny (model prog w) A (execs body env) (FlowTo R fun s => ∃ m, m < n ∧ I m s) noE s₃) noE s₂) noE s₁) noE s)
    (n : Nat) (h : I n s) : codeAny (model prog w) A (.forLoop target it body [] env) R' s := by
  refine codeAny_forLoop_any I (fun n s hI => wpAny_mono (turn n s hI) (fun r s₁ h₁ => ?_) fun _ _ f => f.elim) n h
  cases r with
  | none => exact wpAny_execs_nil (hR _ _ h₁)
  | some v =>
    refine wpAny_mono h₁ (fun _ s₂ h₂ => wpAny_mono h₂ (fun _ s₃ h₃ => wpAny_mono h₃ (fun f s₄ h₄ => ?_) fun _ _ f => f.elim) fun _ _ f => f.elim) fun _ _ f => f.elim
    cases f with
    | next => exact h₄
    | cont => exact h₄
    | brk => exact hR _ _ h₄
    | ret v => exact hR _ _ h₄

/-- between two turns of a for -/
inductive ForI (C : Cx) (env : Env) (own xs cs : List Addr) (N : Nat) (h₀ : Heap) (Inv : Nat → List (Str × V) → List CO → Prop) (St : Nat → Heap → List Addr → List Addr → Prop) (s : Shared) : Nat → Shared → Prop
  | mk (i d : Nat) (ρ : List (Str × V)) (σ : List CO) (h : Heap) (tk : Nat) (cs₂ : List Addr) (hd : i + d = N) (hI : Inv i ρ σ) (W : Wd C env ρ σ h cs₂ (own ++ xs)) (hs : St i h cs₂ (own ++ xs)) (g : Gx (FX env) cs h₀ cs₂ h) :
      ForI C env own xs cs N h₀ Inv St s d { s with heap := h, toks := tk }

/-- a for: its word Inv between the turns -/
theorem X1.for {t e : Expr} {body : List Stmt} {pos : Pos} {vs : List V} {Φ : Out → Prop} (Inv : Nat → List (Str × V) → List CO → Prop) (he : EvI C A env ρ σ e t vs σ₁) (h0 : Inv 0 ρ σ₁)
    (turn : ∀ i v ρ σ, vs[i]? = some v → Inv i ρ σ → ∃ ρ', Bn C A env ρ σ t v ρ' σ ∧ Ex C A env ρ' σ body (fun o => match o with
      | .next ρ σ => Inv (i + 1) ρ σ
      | .cont ρ σ => Inv (i + 1) ρ σ
      | .brk ρ σ => Φ (.next ρ σ)
      | .ret v σ => Φ (.ret v σ)))
    (hd : ∀ ρ σ, Inv vs.length ρ σ → Φ (.next ρ σ)) (hs : ∀ x, foldedSetIterable e env x = pure x) : X1 C A env ρ σ (.For t e body [] pos) Φ := fun s cs xs Q W k => by
  refine wpAny_For (wpE (he s cs xs _ W fun it own St h₁ tk₁ cs₁ g₁ R₁ hit hnew hoff hst => ?_)) hs
  have W₁ := W.more g₁ hnew (hit.live 0 h₁ cs₁ _ hst) hoff R₁
  have hfx : ∀ a ∈ own, ¬ FX env a := fun a ha q => let ⟨o, e⟩ := W.F.fxl a q; noSome (hnew a ha) e
  have hfC : ∀ a ∈ own, ∀ n, env.cells.lookup n ≠ some a := fun a ha n q => let ⟨o, e⟩ := W.F.xlive a (W.F.cx n a q); noSome (hnew a ha) e
  have hox : ∀ a ∈ own, a ∈ own ++ xs := fun a ha => List.mem_append_left _ ha
  have hsx : ∀ a ∈ xs, a ∈ own ++ xs := fun a ha => List.mem_append_right _ ha
  have hax : ∀ a ∈ own, a ∉ xs := fun a ha hx => let ⟨o, e⟩ := W.F.xlive a hx; noSome (hnew a ha) e
  have hfo : ∀ b, FX env b → b ∈ own ++ xs ∧ b ∉ own := fun b q => ⟨hsx b (W.F.fx b q), fun z => hfx b z q⟩
  refine forC (R := Q) (fun _ _ q => q) (ForI C env own xs cs vs.length s.heap Inv St s) (fun n st hI => ?_) vs.length (.mk 0 vs.length ρ σ₁ h₁ tk₁ cs₁ (Nat.zero_add _) h0 W₁ hst (g₁.ofF W.F))
  cases hI with
  | mk i _ ρ₂ σ₂ h₂ tk₂ cs₂ hid hI W₂ hst₂ G₂ =>
  have hcx : ∀ a ∈ own, a ∉ cs₂ ∧ a ∈ own ++ xs := fun a ha => ⟨W₂.F.xoff a (hox a ha), hox a ha⟩
  cases n with
  | zero =>
    obtain rfl : i = vs.length := hid
    refine hit.done _ cs₂ (own ++ xs) _ hst₂ hcx ⟨_, trivial, W₂.R⟩ fun h' tk kp => ?_
    exact k (.next ρ₂ σ₂) .next h' tk cs₂ (hd _ _ hI) (G₂.own kp hnew) (W₂.ownDone kp hax W.F.Lx W.F.cx fun a ha => (hcx a ha).1)
  | succ d =>
    have hlt : i < vs.length := hid ▸ Nat.lt_add_of_pos_right (Nat.succ_pos d)
    have hv : vs[i]? = some vs[i] := List.getElem?_eq_getElem hlt
    refine hit.item i vs[i] _ cs₂ (own ++ xs) _ (Q .next) hv hst₂ W₂.new hcx ⟨_, trivial, W₂.R⟩ fun val h₃ tk₃ kp hst₃ r₃ => ?_
    have W₃ := W₂.own kp hox (fun a ha q => hfx a ha (.inl q)) hfC (hit.live _ _ _ _ hst₃) fun a ha => (hcx a ha).1
    obtain ⟨ρ', hb, hx⟩ := turn i vs[i] ρ₂ σ₂ hv hI
    refine hb _ cs₂ (own ++ xs) val _ W₃ r₃ fun h₄ tk₄ g₄ W₄ => ?_
    refine hx _ cs₂ (own ++ xs) _ W₄ fun o f h₅ tk₅ cs₅ ho g₅ r₅ => ?_
    have G₅ := ((G₂.own kp hnew).trans g₄).trans g₅
    have on : ∀ ρ σ, Inv (i + 1) ρ σ → Wd C env ρ σ h₅ cs₅ (own ++ xs) → ∃ m, m < d + 1 ∧ ForI C env own xs cs vs.length s.heap Inv St s m { s with heap := h₅, toks := tk₅ } := fun ρ σ hI' W₅ =>
      ⟨d, Nat.lt_succ_self d, .mk (i + 1) d ρ σ h₅ tk₅ cs₅ ((Nat.succ_add_eq_add_succ i d).trans hid) hI' W₅ (hit.mono _ _ _ _ _ _ _ _ (hit.mono _ _ _ _ _ _ _ _ hst₃ g₄ hfo (fun _ q => q) fun _ q => .inl q) g₅ hfo (fun _ q => q) fun _ q => .inl q) G₅⟩
    cases o <;> cases f <;> first | exact r₅.elim | exact on _ _ ho r₅ | exact k _ _ h₅ tk₅ cs₅ ho G₅ (Wd.less r₅ hsx W.F.Lx W.F.cx) | exact k _ _ h₅ tk₅ cs₅ ho G₅ ⟨r₅.1.less hsx, r₅.2.less hsx⟩
end
end Mine

namespace Mine

section
variable {C : Cx} {A : Around} {env : Env} {ρ ρ' : List (Str × V)} {σ σ' σ₁ σ₂ : List CO}

/-- a target that is a name; one that unpacks -/
def NameT (t : Expr) : Prop := ∀ it v, letOwnedTupleGo t it v = pure ()
def TupT (t : Expr) : Prop := ∃ es n p, t = Expr.Tuple es n p
theorem nameT {x : Str} {p : Pos} : NameT (.Name x p) := fun _ _ => rfl
theorem tupT {es : List Expr} {n : Nat} {p : Pos} : TupT (.Tuple es n p) := ⟨_, _, _, rfl⟩

theorem VR.listAt {h : Heap} {cs xs : List Addr} {vs : List V} {val : Value} (r : VR h cs xs (.list vs) val) : ∃ a us, val = .ref a ∧ h.PlainList a us ∧ a ∉ cs ∧ a ∉ xs ∧ VRs h cs xs vs us.toList := r.inv
theorem VR.tupAt {h : Heap} {cs xs : List Addr} {vs : List V} {val : Value} (r : VR h cs xs (.tup vs) val) : ∃ a us, val = .ref a ∧ h.IsTuple a us ∧ a ∉ cs ∧ a ∉ xs ∧ VRs h cs xs vs us.toList := r.inv
@[elab_as_elim] theorem VR.listE {h : Heap} {cs xs : List Addr} {vs : List V} {val : Value} {motive : Value → Prop} (r : VR h cs xs (.list vs) val) (k : ∀ a us, h.PlainList a us → a ∉ cs → a ∉ xs → VRs h cs xs vs us.toList → motive (.ref a)) : motive val := by
  obtain ⟨a, us, rfl, h1, h2, h3, h4⟩ := r.listAt; exact k a us h1 h2 h3 h4
@[elab_as_elim] theorem VR.tupE {h : Heap} {cs xs : List Addr} {vs : List V} {val : Value} {motive : Value → Prop} (r : VR h cs xs (.tup vs) val) (k : ∀ a us, h.IsTuple a us → a ∉ cs → a ∉ xs → VRs h cs xs vs us.toList → motive (.ref a)) : motive val := by
  obtain ⟨a, us, rfl, h1, h2, h3, h4⟩ := r.tupAt; exact k a us h1 h2 h3 h4
theorem VR.mkList {h : Heap} {cs xs : List Addr} {vs : List V} {a : Addr} {us : Array Value} (ha : h.PlainList a us) (hn : a ∉ cs) (hx : a ∉ xs) (r : VRs h cs xs vs us.toList) : VR h cs xs (.list vs) (.ref a) :=
  .list ha hn hx (by simpa using r.1) fun i v x e1 e2 => r.2 i v x e1 (by simpa using e2)
theorem VR.mkTup {h : Heap} {cs xs : List Addr} {vs : List V} {a : Addr} {us : Array Value} (ha : h.IsTuple a us) (hn : a ∉ cs) (hx : a ∉ xs) (r : VRs h cs xs vs us.toList) : VR h cs xs (.tup vs) (.ref a) :=
  .tup ha hn hx (by simpa using r.1) fun i v x e1 e2 => r.2 i v x e1 (by simpa using e2)

theorem VRs.getA {h : Heap} {cs xs : List Addr} {vs : List V} {us : Array Value} (r : VRs h cs xs vs us.toList) {i : Nat} {v : V} (e : vs[i]? = some v) : ∃ x, us[i]? = some x ∧ VR h cs xs v x := by
  have hi : i < vs.length := (List.getElem?_eq_some_iff.mp e).1
  have hi' : i < us.size := by have := r.1; simp at this; omega
  have e2 : us.toList[i]? = some us[i] := by simp [hi']
  exact ⟨us[i], by simp [hi'], r.2 i v _ e e2⟩
theorem VRs.get {h : Heap} {cs xs : List Addr} {vs : List V} {us : List Value} (r : VRs h cs xs vs us) {i : Nat} {v : V} (e : vs[i]? = some v) : ∃ x, us[i]? = some x ∧ VR h cs xs v x := by
  have hi : i < vs.length := (List.getElem?_eq_some_iff.mp e).1
  have hi' : i < us.length := by have := r.1; omega
  have e2 : us[i]? = some us[i] := by simp [hi']
  exact ⟨us[i], e2, r.2 i v _ e e2⟩

theorem Kp.same {own : List Addr} {h h' : Heap} {a : Addr} (hs : Heap.SameBut a h h') (ha : a ∈ own) : Kp own h h' := fun b o hb e => hs.extBut b o (fun q => hb (q ▸ ha)) e
theorem Kp.ext {own : List Addr} {h h' : Heap} {a : Addr} (hs : Heap.ExtBut a h h') (ha : a ∈ own) : Kp own h h' := fun b o hb e => hs b o (fun q => hb (q ▸ ha)) e

theorem VR.kp {own cs xs : List Addr} {h h' : Heap} (k : Kp own h h') (hx : ∀ a ∈ own, a ∈ xs) {v : V} {x : Value} (r : VR h cs xs v x) : VR h' cs xs v x := r.mono (k.gx (cs := cs)) hx fun _ ha => .inl ha

/-- an iterator's state: its own objects, and the trees that it hands out -/
structure ItSt (own : List Addr) (Z : Nat → Heap → Prop) (rs : List (V × Value)) (i : Nat) (h : Heap) (cs xs : List Addr) : Prop where
  z : Z i h
  r : ∀ p ∈ rs, VR h cs xs p.1 p.2
  o : ∀ a ∈ own, a ∉ cs ∧ a ∈ xs
structure OwnZ (own : List Addr) (Z : Nat → Heap → Prop) : Prop where
  keep : ∀ i h h', (∀ a ∈ own, ∀ o, h.get? a = some o → h'.get? a = some o) → Z i h → Z i h'
  live : ∀ i h, Z i h → ∀ a ∈ own, ∃ o, h.get? a = some o
theorem It.of {M : List CO → Prop} {t : Expr} {it : Value} {own : List Addr} {vs : List V} {Z : Nat → Heap → Prop} {rs : List (V × Value)} (O : OwnZ own Z)
    (item : ∀ i v (s : Shared) cs xs (Q : Value → Shared → Prop) (R : Shared → Prop), vs[i]? = some v → ItSt own Z rs i s.heap cs xs → (∀ a, s.heap.get? a = none → a ∉ cs ∧ a ∉ xs) →
      (∀ val h' tk, Kp own s.heap h' → Z (i + 1) h' → VR h' cs xs v val → Q val { s with heap := h', toks := tk }) →
      wpAny (model C.prog C.w) A (pyNext it) (fun r s₁ => match r with | none => R s₁ | some val => wpAny (model C.prog C.w) A (letOwnedTupleGo t it val) (fun _ s₂ => Q val s₂) noE s₁) noE s)
    (done : ∀ (s : Shared) cs xs (Q : Option Value → Shared → Prop), ItSt own Z rs vs.length s.heap cs xs → (∀ h' tk, Kp own s.heap h' → Q none { s with heap := h', toks := tk }) → wpAny (model C.prog C.w) A (pyNext it) Q noE s)
    (self : ∀ i (s : Shared) (Q : Value → Shared → Prop), Z i s.heap → Q it s → wpAny (model C.prog C.w) A (pyIter it) Q noE s) : It C A t it own vs (ItSt own Z rs) M where
  mono := fun i h cs xs X cs' h' xs' st g hX hss hxs => ⟨O.keep i h h' (fun a ha o e => g.keep a o e (st.o a ha).1 fun q => (hX a q).2 ha) st.z, fun p hp => (st.r p hp).mono g (fun b q => (hX b q).1) hxs, fun a ha =>
    let ⟨_, e⟩ := O.live i h st.z a ha; ⟨g.off e (st.o a ha).1, hss _ (st.o a ha).2⟩⟩
  live := fun i h cs xs st => O.live i h st.z
  item := fun i v s cs xs Q R hv st hn ho _ k => item i v s cs xs Q R hv st hn fun val h' tk kp z rv => k val h' tk kp ⟨z, fun p hp => (st.r p hp).kp kp fun a ha => (st.o a ha).2, st.o⟩ rv
  done := fun s cs xs Q st ho _ k => done s cs xs Q st k
  self := fun i s cs xs Q st k => self i s Q st.z k

/-- a fresh address of a later heap was no object before -/
theorem Gx.before {cs cs' : List Addr} {h h' : Heap} (g : Gx nX cs h cs' h') {a : Addr} (e : h'.get? a = none) (hn : a ∉ cs') : h.get? a = none := by
  cases q : h.get? a with
  | none => rfl
  | some o =>
    by_cases hm : a ∈ cs
    · obtain ⟨r', e'⟩ := g.pre; exact absurd (e' ▸ List.mem_append_left _ hm) hn
    · have := g.keep _ _ q hm fun f => f; rw [e] at this; cases this

/-- a fresh iterator is handed on -/
theorem KtI.give {M : List CO → Prop} {t : Expr} {it : Value} {own : List Addr} {vs : List V} {Z : Nat → Heap → Prop} {rs : List (V × Value)} {s : Shared} {cs cs₁ xs : List Addr} {h₁ h₂ : Heap} {tk : Nat} {Q : Value → Shared → Prop} (k : KtI M C A t vs σ' s cs xs Q) (W₁ : Wd C env ρ σ' h₁ cs₁ xs)
    (g : Gx nX cs s.heap cs₁ h₁) (hn : ∀ a ∈ own, h₁.get? a = none) (kk : ∀ b o, h₁.get? b = some o → h₂.get? b = some o) (hit : It C A t it own vs (ItSt own Z rs) M) (z : Z 0 h₂) (r : ∀ p ∈ rs, VR h₁ cs₁ xs p.1 p.2) : Q it { s with heap := h₂, toks := tk } :=
  have g2 : Gx nX cs₁ h₁ cs₁ h₂ := Gx.keeps kk
  have hxs : ∀ b ∈ own ++ xs, b ∈ xs ∨ h₁.get? b = none := fun b hb => (List.mem_append.mp hb).elim (fun q => .inr (hn b q)) .inl
  k it own _ h₂ tk cs₁ (g.trans g2) (W₁.R.mono g2 (fun _ f => f.elim) hxs fun b _ o e => kk b o e) hit (fun a ha => g.before (hn a ha) (W₁.new a (hn a ha)).1) (fun a ha => (W₁.new a (hn a ha)).1)
    ⟨z, fun p hp => (r p hp).mono g2 (fun _ f => f.elim) hxs, fun a ha => ⟨(W₁.new a (hn a ha)).1, List.mem_append_left _ ha⟩⟩

theorem neA {a b : Nat} (h : a ≠ b) : @Ne Addr a b := h
theorem ltA {a b : Addr} (h : a < b) : @LT.lt Nat _ a b := h
theorem size_more (h : Heap) (i : Nat) : h.get? (h.objs.size + i) = none := by
  cases q : h.get? (h.objs.size + i) with
  | none => rfl
  | some o => exact absurd (ltA (Heap.lt_size q)) (Nat.not_lt.mpr (Nat.le_add_right _ _))
theorem all1 {p : Addr → Prop} {a : Addr} (h : p a) : ∀ x ∈ [a], p x := fun x hx => List.mem_singleton.mp hx ▸ h
theorem allC {p : Addr → Prop} {a : Addr} {l : List Addr} (h : p a) (r : ∀ x ∈ l, p x) : ∀ x ∈ a :: l, p x := fun x hx => (List.mem_cons.mp hx).elim (fun q => q ▸ h) (r x)
theorem rs1 {h : Heap} {cs xs : List Addr} {v : V} {x : Value} (r : VR h cs xs v x) : ∀ p ∈ [(v, x)], VR h cs xs p.1 p.2 := fun p hp => List.mem_singleton.mp hp ▸ r
theorem rs2 {h : Heap} {cs xs : List Addr} {v w : V} {x y : Value} (r : VR h cs xs v x) (q : VR h cs xs w y) : ∀ p ∈ [(v, x), (w, y)], VR h cs xs p.1 p.2 := fun p hp => (List.mem_cons.mp hp).elim (fun e => e ▸ r) fun e => List.mem_singleton.mp e ▸ q

/-- a list's iterator -/
theorem It.list (hh : A.handled = none) {t : Expr} {I a : Addr} {vs : List V} (ht : NameT t ∨ (TupT t ∧ ∀ v ∈ vs, ∃ ws, v = V.tup ws)) :
    It C A t (.ref I) [I] vs (ItSt [I] (fun i h => h.IsListIter I a i) [(.list vs, .ref a)]) anyM :=
  It.of ⟨fun i h h' k ⟨o, e, q⟩ => ⟨o, k _ (.head _) _ e, q⟩, fun i h ⟨o, e, _⟩ => all1 ⟨o, e⟩⟩
    (fun i v s cs xs Q R hv st hn k => by
      obtain ⟨a', us, ea, hl, hac, hax, rs⟩ := (st.r _ (.head _)).listAt
      cases ea
      obtain ⟨x, ex, rx⟩ := rs.getA hv
      have ho := st.o I (.head _)
      refine wpAny_pyNext_list_item st.z hl.isList ex fun h' hit' hs' => ?_
      have kp : Kp [I] s.heap h' := Kp.same hs' (.head _)
      have rx' := rx.kp kp fun b hb => (st.o b hb).2
      have fin : Q x { s with heap := h' } := k x h' s.toks kp hit' rx'
      rcases ht with ht | ⟨ht, hvs⟩
      · exact wpAny_of_eq (ht _ _) fin
      · obtain ⟨ws, rfl⟩ := hvs v (List.mem_of_getElem? hv)
        obtain ⟨b, us', rfl, _⟩ := rx.tupAt
        obtain ⟨_, _, _, rfl⟩ := ht
        exact wpAny_letOwnedTupleGo_listiter hit' fin)
    (fun s cs xs Q st k => by
      obtain ⟨a', us, ea, hl, hac, hax, rs⟩ := (st.r _ (.head _)).listAt
      cases ea
      exact wpAny_pyNext_list_end hh st.z hl.isList (Array.getElem?_eq_none (Nat.le_of_eq rs.sz)) fun h' he => k h' s.toks (Kp.ext he (.head _)))
    fun i s Q st k => wpAny_pyIter_listiter st k

theorem EvI.list (hh : A.handled = none) {e t : Expr} {vs : List V} (h : Ev C A env ρ σ e (.list vs) σ') (ht : NameT t ∨ (TupT t ∧ ∀ v ∈ vs, ∃ ws, v = V.tup ws)) : EvI C A env ρ σ e t vs σ' := fun s cs xs Q W k =>
  h s cs xs _ W fun val h₁ tk₁ cs₁ g R r => by
    obtain ⟨a, us, rfl, hl, hac, hax, rs⟩ := r.listAt
    exact wpAny_pyIter_list hl.isList (k.give (W.on g R) g (all1 (get_size_none h₁)) (push_keeps h₁ _) (It.list hh ht) ⟨_, Heap.get?_push_size _ rfl, rfl, rfl⟩ (rs1 r))

/-- a changing list's iterator, while the list stands -/
theorem It.mu (hh : A.handled = none) {t : Expr} {I a : Addr} {c : Nat} {vs : List V} (ht : NameT t) :
    It C A t (.ref I) [I] vs (ItSt [I] (fun i h => h.IsListIter I a i) [(.mu c, .ref a)]) (fun σ => σ[c]? = some (.list vs)) where
  mono := fun i h cs xs X cs' h' xs' st g hX hss hxs => ⟨let ⟨o, e, q⟩ := st.z; ⟨o, g.keep _ _ e (st.o I (.head _)).1 fun q => (hX I q).2 (.head _), q⟩, fun p hp => (st.r p hp).mono g (fun b q => (hX b q).1) hxs, fun b hb =>
    let ⟨o, e, _⟩ := st.z; List.mem_singleton.mp hb ▸ ⟨g.off e (st.o I (.head _)).1, hss _ (st.o I (.head _)).2⟩⟩
  live := fun i h cs xs st => let ⟨o, e, _⟩ := st.z; all1 ⟨o, e⟩
  item := fun i v s cs xs Q R hv st hn ho hM k => by
    obtain ⟨σ, hσ, hR⟩ := hM
    obtain ⟨a', ea, hc⟩ := (st.r _ (.head _)).muI
    cases ea
    obtain ⟨us, hl, rs⟩ := hR.at_ c a _ hc hσ
    obtain ⟨x, ex, rx⟩ := rs.getA hv
    refine wpAny_pyNext_list_item st.z hl.isList ex fun h' hit' hs' => ?_
    have kp : Kp [I] s.heap h' := Kp.same hs' (.head _)
    exact wpAny_of_eq (ht _ _) (k x h' s.toks kp ⟨hit', fun p hp => (st.r p hp).kp kp fun b hb => (st.o b hb).2, st.o⟩ (rx.kp kp fun b hb => (st.o b hb).2))
  done := fun s cs xs Q st ho hM k => by
    obtain ⟨σ, hσ, hR⟩ := hM
    obtain ⟨a', ea, hc⟩ := (st.r _ (.head _)).muI
    cases ea
    obtain ⟨us, hl, rs⟩ := hR.at_ c a _ hc hσ
    exact wpAny_pyNext_list_end hh st.z hl.isList (Array.getElem?_eq_none (Nat.le_of_eq rs.sz)) fun h' he => k h' s.toks (Kp.ext he (.head _))
  self := fun i s cs xs Q st k => wpAny_pyIter_listiter st.z k

theorem EvI.mu (hh : A.handled = none) {e t : Expr} {c : Nat} {vs : List V} (h : Ev C A env ρ σ e (.mu c) σ') (hc : σ'[c]? = some (.list vs)) (ht : NameT t) : EvIM (fun σ => σ[c]? = some (.list vs)) C A env ρ σ e t vs σ' := fun s cs xs Q W k =>
  h s cs xs _ W fun val h₁ tk₁ cs₁ g R r => by
    obtain ⟨a, rfl, ea⟩ := r.muI
    obtain ⟨us, hl, _⟩ := R.at_ c a _ ea hc
    exact wpAny_pyIter_list hl.isList (k.give (W.on g R) g (all1 (get_size_none h₁)) (push_keeps h₁ _) (It.mu hh ht) ⟨_, Heap.get?_push_size _ rfl, rfl, rfl⟩ (rs1 r))

/-- a range's iterator -/
def upto (lo : Int) (n : Nat) : List V := (List.range n).map fun (i : Nat) => V.int (lo + i)
theorem upto_len (lo : Int) (n : Nat) : (upto lo n).length = n := by simp [upto]
theorem upto_get {lo : Int} {n i : Nat} (h : i < n) : (upto lo n)[i]? = some (.int (lo + i)) := by simp [upto, h]

theorem It.range (hh : A.handled = none) {t : Expr} {I : Addr} {lo : Int} {n : Nat} (ht : NameT t) :
    It C A t (.ref I) [I] (upto lo n) (ItSt [I] (fun i h => IsRangeIter h I (lo + (i : Nat)) ((n : Int) - (i : Nat)) 1) []) anyM :=
  It.of ⟨fun i h h' k e => k _ (.head _) _ e, fun i h e => all1 ⟨_, e⟩⟩
    (fun i v s cs xs Q R hv st hn k => by
      have hi : i < n := upto_len lo n ▸ (List.getElem?_eq_some_iff.mp hv).1
      rw [upto_get hi] at hv; cases hv
      refine wpAny_pyNext_range_item st.z (Int.sub_pos_of_lt (Int.ofNat_lt.mpr hi)) fun h' hit' hs' => wpAny_of_eq (ht _ _) (k _ h' _ (Kp.same hs' (.head _)) ?_ (.int _ _))
      have e1 : lo + ((i + 1 : Nat) : Int) = lo + (i : Int) + 1 := (Int.add_assoc lo i 1).symm
      have e2 : (n : Int) - ((i + 1 : Nat) : Int) = (n : Int) - (i : Int) - 1 := (Int.sub_sub n i 1).symm
      rw [e1, e2]; exact hit')
    (fun s cs xs Q st k => by
      have z := st.z
      rw [upto_len] at z
      exact wpAny_pyNext_range_end hh z (Int.le_of_eq (Int.sub_self _)) fun h' he => k h' s.toks (Kp.ext he (.head _)))
    fun i s Q st k => wpAny_pyIter_rangeiter st k

theorem EvI.rng (hh : A.handled = none) {e t : Expr} {lo hi : Int} (h : Ev C A env ρ σ e (.rng lo hi) σ') (ht : NameT t) (h1 : -(2 ^ 62) ≤ lo) (h2 : lo < 2 ^ 62) (h3 : -(2 ^ 62) ≤ hi) (h4 : hi < 2 ^ 62) :
    EvI C A env ρ σ e t (upto lo (hi - lo).toNat) σ' := fun s cs xs Q W k =>
  h s cs xs _ W fun val h₁ tk₁ cs₁ g R r => by
    obtain ⟨_, _, _, _, rfl, ha, hn, hx⟩ := r.rngI
    refine wpAny_pyIter_range ha (small_one h1 h2 h3 h4) ?_
    rw [rangeSize_nat]
    refine k.give (W.on g R) g (all1 (get_size_none h₁)) (push_keeps h₁ _) (It.range (lo := lo) (n := (hi - lo).toNat) hh ht) ?_ fun _ h => nomatch h
    have := Heap.get?_push_size h₁ (o := { cls := .type "range_iterator", data := .fields #[rawInt lo, rawInt ((hi - lo).toNat : Int), rawInt 1] }) rfl
    simpa using this

/-! ranges made -/
theorem Cl.range1 {n : Int} : Cl C A σ (.type "range") [.int n] (.rng 0 n) σ := fun env ρ s cs xs us Q W r k => r.oneE fun u ru => ru.intE fun t =>
  have nw := W.new _ (get_size_none s.heap)
  call_range_1 (k.keeps W (push_keeps _ _) (.rng (Heap.get?_push_size _ rfl) nw.1 nw.2))
theorem Cl.range2 {a b : Int} : Cl C A σ (.type "range") [.int a, .int b] (.rng a b) σ := fun env ρ s cs xs us Q W r k => r.twoE fun u t ru rt => ru.intE fun tu => rt.intE fun tt =>
  have nw := W.new _ (get_size_none s.heap)
  call_range_2 (k.keeps W (push_keeps _ _) (.rng (Heap.get?_push_size _ rfl) nw.1 nw.2))

theorem nA {n i j : Nat} (h : Nat.beq i j = false) : @Ne Addr (n + i) (n + j) := fun e => by
  have e : n + i = n + j := e
  rw [Nat.add_left_cancel e] at h; simp at h
theorem nA0 {n i : Nat} (h : Nat.beq i 0 = false) : @Ne Addr (n + i) n := fun e => nA (n := n) (j := 0) h e
theorem nL {n l : Nat} (h : l < n) (i : Nat) : @Ne Addr (n + i) l := fun e => by
  have e : n + i = l := e
  exact absurd h (Nat.not_lt.mpr (e ▸ Nat.le_add_right n i))
theorem nL0 {n l : Nat} (h : l < n) : @Ne Addr n l := nL h 0
theorem zipApart {n l1 l2 : Nat} (h1 : l1 < n) (h2 : l2 < n) : ZipApart (n + 4) (n + 2) (n + 3) n (n + 1) l1 l2 := by
  constructor <;> first
    | exact nA rfl
    | exact nA0 rfl
    | exact Ne.symm (nA0 rfl)
    | exact nL h1 _
    | exact nL h2 _
    | exact nL0 h1
    | exact nL0 h2
    | exact Ne.symm (nL h1 _)
    | exact Ne.symm (nL h2 _)
    | exact Ne.symm (nL0 h1)
    | exact Ne.symm (nL0 h2)

/-- zip of two lists -/
def zipT (vs ws : List V) : List V := (vs.zip ws).map fun p => V.tup [p.1, p.2]
theorem zipT_len (vs ws : List V) : (zipT vs ws).length = min vs.length ws.length := by simp [zipT]
theorem zipT_get {vs ws : List V} {i : Nat} {v : V} (e : (zipT vs ws)[i]? = some v) : ∃ a b, v = .tup [a, b] ∧ vs[i]? = some a ∧ ws[i]? = some b := by
  unfold zipT at e
  rw [List.getElem?_map] at e
  cases q : (vs.zip ws)[i]? with
  | none => rw [q] at e; simp at e
  | some p =>
    rw [q] at e; simp at e
    obtain ⟨h1, h2⟩ := List.getElem?_zip_eq_some.mp q
    exact ⟨p.1, p.2, e.symm, h1, h2⟩

theorem VRs.two {h : Heap} {cs xs : List Addr} {v w : V} {x y : Value} (r : VR h cs xs v x) (r' : VR h cs xs w y) : VRs h cs xs [v, w] [x, y] := .cons r (.cons r' .nil)

structure ZipZ (z TI TO i1 i2 l1 l2 : Addr) (i : Nat) (h : Heap) : Prop where
  z : IsZip h z TI TO .none
  ti : IsPair h TI (.ref i1) (.ref i2)
  to : ∃ a b, IsPair h TO a b
  a1 : h.IsListIter i1 l1 i
  a2 : h.IsListIter i2 l2 i
theorem zipOwn {z TI TO i1 i2 l1 l2 : Addr} : OwnZ [z, TI, TO, i1, i2] (ZipZ z TI TO i1 i2 l1 l2) where
  keep := fun i h h' k Z => ⟨k _ (.head _) _ Z.z, k _ (.tail _ (.head _)) _ Z.ti, let ⟨a, b, e⟩ := Z.to; ⟨a, b, k _ (.tail _ (.tail _ (.head _))) _ e⟩,
    let ⟨o, e, q⟩ := Z.a1; ⟨o, k _ (.tail _ (.tail _ (.tail _ (.head _)))) _ e, q⟩, let ⟨o, e, q⟩ := Z.a2; ⟨o, k _ (.tail _ (.tail _ (.tail _ (.tail _ (.head _))))) _ e, q⟩⟩
  live := fun i h Z => allC ⟨_, Z.z⟩ (allC ⟨_, Z.ti⟩ (allC (let ⟨_, _, e⟩ := Z.to; ⟨_, e⟩) (allC (let ⟨o, e, _⟩ := Z.a1; ⟨o, e⟩) (all1 (let ⟨o, e, _⟩ := Z.a2; ⟨o, e⟩)))))
theorem Kp.five {z TI TO i1 i2 : Addr} {h h' : Heap} (k : ∀ c o, c ≠ z → c ≠ TO → c ≠ i1 → c ≠ i2 → h.get? c = some o → h'.get? c = some o) : Kp [z, TI, TO, i1, i2] h h' := fun c o hc e =>
  k c o (fun q => hc (q ▸ .head _)) (fun q => hc (q ▸ .tail _ (.tail _ (.head _)))) (fun q => hc (q ▸ .tail _ (.tail _ (.tail _ (.head _))))) (fun q => hc (q ▸ .tail _ (.tail _ (.tail _ (.tail _ (.head _)))))) e
theorem It.zip (hh : A.handled = none) {t : Expr} {z TI TO i1 i2 l1 l2 : Addr} (D : ZipApart z TI TO i1 i2 l1 l2) {vs ws : List V} (ht : TupT t) :
    It C A t (.ref z) [z, TI, TO, i1, i2] (zipT vs ws) (ItSt [z, TI, TO, i1, i2] (ZipZ z TI TO i1 i2 l1 l2) [(.list vs, .ref l1), (.list ws, .ref l2)]) anyM :=
  It.of zipOwn
    (fun i v s cs xs Q R hv st hn k => by
      obtain ⟨v1, v2, rfl, g1, g2⟩ := zipT_get hv
      obtain ⟨_, us1, ea1, hl1, hc1, hx1, rs1⟩ := (st.r _ (.head _)).listAt
      cases ea1
      obtain ⟨_, us2, ea2, hl2, hc2, hx2, rs2⟩ := (st.r _ (.tail _ (.head _))).listAt
      cases ea2
      obtain ⟨x1, ex1, rx1⟩ := rs1.getA g1
      obtain ⟨x2, ex2, rx2⟩ := rs2.getA g2
      have nw := hn _ (get_size_none s.heap)
      obtain ⟨Zz, Zti, ⟨a, b, Zto⟩, Z1, Z2⟩ := st.z
      refine wpAny_pyNext_zip_item D Zz Zti Zto Z1 Z2 hl1.isList hl2.isList ex1 ex2 fun h' b1 b2 b3 b4 b5 b6 b7 => ?_
      obtain ⟨_, _, _, rfl⟩ := ht
      have hne : s.heap.objs.size ≠ z := fun q => noSome (q ▸ get_size_none s.heap) Zz
      refine wpAny_letOwnedTupleGo_zip b1 fun h'' c1 c2 => ?_
      have kp : Kp [z, TI, TO, i1, i2] s.heap h'' := Kp.five fun c o n1 n2 n3 n4 e => c2.extBut c o n1 (b7 c o n1 n2 n3 n4 e)
      have hX : ∀ b ∈ [z, TI, TO, i1, i2], b ∈ xs := fun b hb => (st.o b hb).2
      exact k (.ref s.heap.objs.size) h'' s.toks kp ⟨c1, c2.extBut _ _ D.TIz (b7 _ _ D.TIz D.TITO D.TIi1 D.TIi2 Zti), ⟨_, _, c2.extBut _ _ D.TOz b2⟩, b3.extBut c2.extBut D.i1z, b4.extBut c2.extBut D.i2z⟩
        (.mkTup ⟨_, c2.extBut _ _ hne b5, rfl, _, rfl⟩ nw.1 nw.2 (.two (rx1.kp kp hX) (rx2.kp kp hX))))
    (fun s cs xs Q st k => by
      obtain ⟨_, us1, ea1, hl1, hc1, hx1, rs1⟩ := (st.r _ (.head _)).listAt
      cases ea1
      obtain ⟨_, us2, ea2, hl2, hc2, hx2, rs2⟩ := (st.r _ (.tail _ (.head _))).listAt
      cases ea2
      obtain ⟨Zz, Zti, ⟨a, b, Zto⟩, Z1, Z2⟩ := st.z
      refine wpAny_pyNext_zip_end hh D Zz Zti Zto Z1 Z2 hl1.isList hl2.isList ?_ fun h' kk => k h' s.toks (Kp.five kk)
      rw [zipT_len]
      by_cases q : vs.length ≤ ws.length
      · exact .inl (Array.getElem?_eq_none (Nat.le_of_eq (rs1.sz.trans (Nat.min_eq_left q).symm)))
      · exact .inr (Array.getElem?_eq_none (Nat.le_of_eq (rs2.sz.trans (Nat.min_eq_right (Nat.le_of_not_le q)).symm))))
    fun i s Q st k => wpAny_pyIter_zip st.z k

theorem EvI.zip (hh : A.handled = none) {e₁ e₂ t : Expr} {x : Str} {np pos : Pos} {vs ws : List V} (G : Glb C.hB x (.type "zip")) (hx : env.kindOf x = some .globalImplicit) (hd : (x == ("__debug__" : Str)) = false)
    (h₁ : Ev C A env ρ σ e₁ (.list vs) σ₁) (h₂ : Ev C A env ρ σ₁ e₂ (.list ws) σ') (ht : TupT t)
    (hs₁ : starEach [e₁, e₂] env = (false, eval e₁ env) :: starEach [e₂] env) (hs₂ : starEach [e₂] env = (false, eval e₂ env) :: starEach [] env) (hp : (backTo pos (starEach [e₂] env)).any (·.1) = false) :
    EvI C A env ρ σ (.Call (.Name x np) [e₁, e₂] [] pos) t (zipT vs ws) σ' := fun s cs xs Q W k =>
  wpAny_Call_ofName (evGlb G hx hd W (PyProof.Rows.callWith_type1 ((Args.cons h₁ (Args.cons h₂ Args.nil hs₂) hs₁) s cs xs _ W fun us h' tk cs' g R r => by
    obtain ⟨u1, u2, rfl, r1, r2⟩ := r.two'
    obtain ⟨l1, us1, rfl, hl1, hc1, hx1, q1⟩ := r1.listAt
    obtain ⟨l2, us2, rfl, hl2, hc2, hx2, q2⟩ := r2.listAt
    have lt1 : l1 < h'.objs.size := let ⟨n, q⟩ := hl1; Heap.lt_size q
    have lt2 : l2 < h'.objs.size := let ⟨n, q⟩ := hl2; Heap.lt_size q
    have nz : ∀ i, h'.get? (h'.objs.size + i) = none := size_more h'
    exact call_zip_2 hl1.isList hl2.isList fun h'' z1 z2 z3 z4 z5 z6 kk => wpAny_pyIter_zip z1 (k.give (W.on g R) g (allC (nz 4) (allC (nz 2) (allC (nz 3) (allC (nz 0) (all1 (nz 1)))))) kk (It.zip hh (zipApart lt1 lt2) ht) ⟨z1, z2, ⟨_, _, z3⟩, z4, z5⟩ (rs2 r1 r2))) hs₁ hp))

/-- enumerate of a list -/
def enumT (vs : List V) : List V := vs.mapIdx fun i v => V.tup [.int i, v]
theorem enumT_len (vs : List V) : (enumT vs).length = vs.length := by simp [enumT]
theorem enumT_get {vs : List V} {i : Nat} {v : V} (e : (enumT vs)[i]? = some v) : ∃ a, v = .tup [.int i, a] ∧ vs[i]? = some a := by
  unfold enumT at e
  rw [List.getElem?_mapIdx] at e
  cases q : vs[i]? with
  | none => rw [q] at e; simp at e
  | some a => rw [q] at e; simp at e; exact ⟨a, e.symm, rfl⟩

theorem It.enum (hh : A.handled = none) {t : Expr} {ez it l : Addr} (hne : ez ≠ it) {vs : List V} (ht : TupT t) :
    It C A t (.ref ez) [ez, it] (enumT vs) (ItSt [ez, it] (fun i h => (∃ old, IsEnum h ez it i old) ∧ h.IsListIter it l i) [(.list vs, .ref l)]) anyM :=
  It.of ⟨fun i h h' k ⟨⟨old, e1⟩, ⟨o, e, q⟩⟩ => ⟨⟨old, k _ (.head _) _ e1⟩, ⟨o, k _ (.tail _ (.head _)) _ e, q⟩⟩, fun i h ⟨⟨old, e1⟩, ⟨o, e, q⟩⟩ => allC ⟨_, e1⟩ (all1 ⟨_, e⟩)⟩
    (fun i v s cs xs Q R hv st hn k => by
      obtain ⟨v1, rfl, g1⟩ := enumT_get hv
      obtain ⟨_, us1, ea1, hl1, hc1, hx1, rs1⟩ := (st.r _ (.head _)).listAt
      cases ea1
      obtain ⟨x1, ex1, rx1⟩ := rs1.getA g1
      have nw := hn _ (get_size_none s.heap)
      obtain ⟨⟨old, a1⟩, i1'⟩ := st.z
      have hne' : s.heap.objs.size ≠ ez := fun q => noSome (q ▸ get_size_none s.heap) a1
      refine wpAny_pyNext_enum_item a1 i1' hl1.isList ex1 hne fun h' b1 b2 b3 b4 b5 => ?_
      obtain ⟨_, _, _, rfl⟩ := ht
      refine wpAny_letOwnedTupleGo_enum b1 fun h'' c1 c2 => ?_
      have kp : Kp [ez, it] s.heap h'' := fun c o hc e => c2.extBut c o (fun q => hc (q ▸ .head _)) (b5 c o (fun q => hc (q ▸ .head _)) (fun q => hc (q ▸ .tail _ (.head _))) e)
      exact k (.ref s.heap.objs.size) h'' _ kp ⟨⟨_, c1⟩, b2.extBut c2.extBut (Ne.symm hne)⟩ (.mkTup ⟨_, c2.extBut _ _ hne' b3, rfl, _, rfl⟩ nw.1 nw.2 (.two (.int _ _) (rx1.kp kp fun b hb => (st.o b hb).2))))
    (fun s cs xs Q st k => by
      obtain ⟨_, us1, ea1, hl1, hc1, hx1, rs1⟩ := (st.r _ (.head _)).listAt
      cases ea1
      obtain ⟨⟨old, a1⟩, i1'⟩ := st.z
      exact wpAny_pyNext_enum_end hh a1 i1' hl1.isList (Array.getElem?_eq_none (Nat.le_of_eq (rs1.sz.trans (enumT_len vs).symm))) fun h' kk => k h' s.toks fun c o hc e => kk c o (fun q => hc (q ▸ .tail _ (.head _))) e)
    fun i s Q st k => let ⟨⟨_, a1⟩, _⟩ := st; wpAny_pyIter_enum a1 k

theorem EvI.enum (hh : A.handled = none) {e₁ t : Expr} {x : Str} {np pos : Pos} {vs : List V} (G : Glb C.hB x (.type "enumerate")) (hx : env.kindOf x = some .globalImplicit) (hd : (x == ("__debug__" : Str)) = false)
    (h₁ : Ev C A env ρ σ e₁ (.list vs) σ') (ht : TupT t) (hs₁ : starEach [e₁] env = (false, eval e₁ env) :: starEach [] env) :
    EvI C A env ρ σ (.Call (.Name x np) [e₁] [] pos) t (enumT vs) σ' := fun s cs xs Q W k =>
  wpAny_Call_ofName (evGlb G hx hd W (PyProof.Rows.callWith_type1 ((Args.cons h₁ Args.nil hs₁) s cs xs _ W fun us h' tk cs' g R r => by
    obtain ⟨u1, rfl, r1⟩ := r.one
    obtain ⟨l1, us1, rfl, hl1, hc1, hx1, q1⟩ := r1.listAt
    have nz : ∀ i, h'.get? (h'.objs.size + i) = none := size_more h'
    exact call_enumerate_list hl1.isList fun h'' z1 z2 z3 kk => wpAny_pyIter_enum z1 (k.give (W.on g R) g (allC (nz 1) (all1 (nz 0))) kk (It.enum hh (neA (Nat.succ_ne_self _)) ht) ⟨⟨_, z1⟩, z2⟩ (rs1 r1))) hs₁ rfl))
end
end Mine

namespace Mine

/-- no changing object from the n-th on is named -/
inductive Low (n : Nat) : V → Prop
  | non : Low n .non
  | bool (b : Bool) : Low n (.bool b)
  | int (i : Int) : Low n (.int i)
  | str (x : Str) : Low n (.str x)
  | rng (a b : Int) : Low n (.rng a b)
  | list {vs : List V} (h : ∀ v ∈ vs, Low n v) : Low n (.list vs)
  | tup {vs : List V} (h : ∀ v ∈ vs, Low n v) : Low n (.tup vs)
  | obj {C : Addr} {fs : List (Str × V)} (h : ∀ x v, fs.lookup x = some v → Low n v) : Low n (.obj C fs)
  | mu {c : Nat} (h : c < n) : Low n (.mu c)
  | raw (val : Value) : Low n (.raw val)
  | inst {C : Addr} {c : Nat} (h : c < n) : Low n (.inst C c)

def LowC (n : Nat) : CO → Prop
  | .list vs => ∀ v ∈ vs, Low n v
  | .attrs fs => ∀ x v, fs.lookup x = some v → Low n v
  | .dict _ => True

theorem take_off {cs : List Addr} {n : Nat} {a : Addr} (h : a ∉ cs) : a ∉ cs.take n := fun hm => h (List.mem_of_mem_take hm)

theorem VR.drop {h : Heap} {cs xs : List Addr} {n : Nat} {v : V} {x : Value} (r : VR h cs xs v x) (hl : Low n v) : VR h (cs.take n) xs v x := by
  induction r with
  | non => exact .non
  | bool b => exact .bool b
  | int i t => exact .int i t
  | str x t => exact .str x t
  | list ha hn hx hlen hv ih =>
    cases hl with
    | list hl => exact .list ha (take_off hn) hx hlen fun i v x e1 e2 => ih i v x e1 e2 (hl v (List.mem_of_getElem? e1))
  | tup ha hn hx hlen hv ih =>
    cases hl with
    | tup hl => exact .tup ha (take_off hn) hx hlen fun i v x e1 e2 => ih i v x e1 e2 (hl v (List.mem_of_getElem? e1))
  | obj g ha hd hna hxa hnd hxd hg hv ih =>
    cases hl with
    | obj hl => exact .obj g ha hd (take_off hna) hxa (take_off hnd) hxd hg fun x v e => ih x v e (hl x v e)
  | mu hc =>
    cases hl with
    | mu hl => exact .mu (by rw [List.getElem?_take, if_pos hl]; exact hc)
  | rng ha hn hx => exact .rng ha (take_off hn) hx
  | raw val => exact .raw val
  | inst ha hn hx hc =>
    cases hl with
    | inst hl => exact .inst ha (take_off hn) hx (by rw [List.getElem?_take, if_pos hl]; exact hc)

/-- what a call hands back, as the caller sees it: v' and σ₁ at the callee's end are v and σ' to the caller -/
def RetOk (v' : V) (σ₁ : List CO) (v : V) (σ' : List CO) : Prop :=
  ∀ h cs xs val, (∀ a ∈ xs, a ∉ cs) → CR h cs xs σ₁ → VR h cs xs v' val → CR h (cs.take σ'.length) xs σ' ∧ VR h (cs.take σ'.length) xs v val

theorem RetOk.same {v : V} {σ : List CO} : RetOk v σ v σ := fun h cs xs val _ R r => by
  rw [← R.len, List.take_length]; exact ⟨R, r⟩

theorem CR.drop {h : Heap} {cs xs : List Addr} {σ' ext : List CO} (R : CR h cs xs (σ' ++ ext)) (hl : ∀ c ∈ σ', LowC σ'.length c) : CR h (cs.take σ'.length) xs σ' := by
  have hlen := R.len
  rw [List.length_append] at hlen
  refine ⟨by rw [List.length_take]; omega, R.nodup.sublist (List.take_sublist _ _), fun i a c e1 e2 => ?_⟩
  have hi : i < σ'.length := (List.getElem?_eq_some_iff.mp e2).1
  rw [List.getElem?_take, if_pos hi] at e1
  have z := R.at_ i a c e1 (by rw [List.getElem?_append_left hi]; exact e2)
  cases c with
  | list vs =>
    obtain ⟨us, p, q⟩ := z
    exact ⟨us, p, q.1, fun j v x e3 e4 => (q.2 j v x e3 e4).drop (hl _ (List.mem_of_getElem? e2) v (List.mem_of_getElem? e3))⟩
  | attrs fs =>
    obtain ⟨es, n, g, p, q1, q2, q3, q4⟩ := z
    exact ⟨es, n, g, p, q1, q2, q3, fun x v e => (q4 x v e).drop (hl _ (List.mem_of_getElem? e2) x v e)⟩
  | dict kvs => exact DictC.go z (fun _ e => e) fun b o e hn hx => ⟨e, fun q => hn (List.mem_of_mem_take q), hx⟩

theorem RetOk.drop {v : V} {σ' ext : List CO} (hl : ∀ c ∈ σ', LowC σ'.length c) (hv : Low σ'.length v) : RetOk v (σ' ++ ext) v σ' := fun h cs xs val _ R r => ⟨R.drop hl, r.drop hv⟩

/-- a changing list that is handed back and left to itself -/
theorem RetOk.freeze {σ' ext : List CO} {c : Nat} {vs : List V} (hl : ∀ c ∈ σ', LowC σ'.length c) (hc : σ'.length ≤ c) (e : (σ' ++ ext)[c]? = some (.list vs)) (hv : ∀ v ∈ vs, Low σ'.length v) : RetOk (.mu c) (σ' ++ ext) (.list vs) σ' := fun h cs xs val hxo R r => by
  refine ⟨R.drop hl, ?_⟩
  cases r with
  | mu hca =>
    rename_i a
    obtain ⟨us, p, q⟩ := R.at_ c a _ hca e
    refine .mkList p (fun hm => ?_) (fun hm => hxo a hm (List.mem_of_getElem? hca)) ⟨q.1, fun j v x e3 e4 => (q.2 j v x e3 e4).drop (hv v (List.mem_of_getElem? e3))⟩
    obtain ⟨j, hj, rfl⟩ := List.mem_iff_getElem.mp hm
    rw [List.length_take] at hj
    have e5 : cs[j]? = some (cs.take σ'.length)[j] := by rw [List.getElem_take]; simp
    have := (List.getElem?_inj (by omega : j < cs.length) R.nodup).mp (e5.trans hca.symm)
    omega

/-- an object that was changing, handed back and left to itself -/
theorem RetOk.freezeI {σ' ext : List CO} {cl : Addr} {c : Nat} {fs : List (Str × V)} (hl : ∀ c ∈ σ', LowC σ'.length c) (hc : σ'.length ≤ c) (e : (σ' ++ ext)[c]? = some (.attrs fs)) (hv : ∀ x v, fs.lookup x = some v → Low σ'.length v) : RetOk (.inst cl c) (σ' ++ ext) (.obj cl fs) σ' := fun h cs xs val hxo R r => by
  refine ⟨R.drop hl, ?_⟩
  cases r with
  | inst ha hn hx hca =>
    rename_i a d
    obtain ⟨es, n, g, p, _, _, q1, q2⟩ := R.at_ c d _ hca e
    refine .obj g ha p (take_off hn) hx (fun hm => ?_) (fun hm => hxo d hm (List.mem_of_getElem? hca)) q1 fun x v ev => (q2 x v ev).drop (hv x v ev)
    obtain ⟨j, hj, rfl⟩ := List.mem_iff_getElem.mp hm
    rw [List.length_take] at hj
    have e5 : cs[j]? = some (cs.take σ'.length)[j] := by rw [List.getElem_take]; simp
    have := (List.getElem?_inj (by omega : j < cs.length) R.nodup).mp (e5.trans hca.symm)
    omega
theorem RetOk.eq {v v' : V} {σ σ' : List CO} (e : σ' = σ) (ev : v' = v) : RetOk v' σ' v σ := by subst e; subst ev; exact .same

theorem bindL_notin {kindOf : Str → Option NameKind} {x : Str} : ∀ {binds : List (Str × Value)} {m : Str → Option Value}, (∀ p ∈ binds, p.1 ≠ x) → bindL kindOf binds m x = m x
  | [], _, _ => rfl
  | (n, v) :: r, m, h => by
    have hn : n ≠ x := h (n, v) (.head _)
    rw [bindL, bindL_notin fun p hp => h p (.tail _ hp)]
    split
    · simp [Ne.symm hn]
    · rfl
theorem bindC_notin {kindOf : Str → Option NameKind} {x : Str} : ∀ {binds : List (Str × Value)} {m : Str → Option Value}, (∀ p ∈ binds, p.1 ≠ x) → bindC kindOf binds m x = m x
  | [], _, _ => rfl
  | (n, v) :: r, m, h => by
    have hn : n ≠ x := h (n, v) (.head _)
    rw [bindC, bindC_notin fun p hp => h p (.tail _ hp)]
    split
    · rfl
    · simp [Ne.symm hn]

theorem zip_names {names : List Str} {us : List Value} {x : Str} (h : x ∉ names) : ∀ p ∈ names.zip us, p.1 ≠ x := fun p hp e => h (e ▸ (List.of_mem_zip hp).1)

theorem bindL_get {kindOf : Str → Option NameKind} {h : Heap} {cs xs : List Addr} {x : Str} {v : V} : ∀ {names : List Str} {vs : List V} {us : List Value} {m : Str → Option Value}, names.Nodup → VRs h cs xs vs us →
    (names.zip vs).lookup x = some v → kindOf x = some .local → ∃ val, bindL kindOf (names.zip us) m x = some val ∧ VR h cs xs v val
  | [], _, _, _, _, _, e, _ => by simp at e
  | n :: ns, [], _, _, _, _, e, _ => by simp at e
  | n :: ns, w :: vs, [], _, _, r, _, _ => by have := r.1; simp at this
  | n :: ns, w :: vs, u :: us, m, hnd, r, e, hk => by
    have r0 : VR h cs xs w u := r.2 0 w u rfl rfl
    have rs : VRs h cs xs vs us := ⟨by have := r.1; simp at this; omega, fun i a b e1 e2 => r.2 (i + 1) a b (by simpa using e1) (by simpa using e2)⟩
    rw [List.zip_cons_cons, lookup_cons'] at e
    rw [List.zip_cons_cons, bindL]
    by_cases q : x = n
    · subst q
      rw [if_pos rfl] at e; cases e
      rw [bindL_notin (zip_names (List.nodup_cons.mp hnd).1), if_pos hk]
      exact ⟨u, by simp, r0⟩
    · rw [if_neg q] at e
      exact bindL_get (List.nodup_cons.mp hnd).2 rs e hk
theorem bindC_get {kindOf : Str → Option NameKind} {h : Heap} {cs xs : List Addr} {x : Str} {v : V} : ∀ {names : List Str} {vs : List V} {us : List Value} {m : Str → Option Value}, names.Nodup → VRs h cs xs vs us →
    (names.zip vs).lookup x = some v → kindOf x = some .cell → ∃ val, bindC kindOf (names.zip us) m x = some val ∧ VR h cs xs v val
  | [], _, _, _, _, _, e, _ => by simp at e
  | n :: ns, [], _, _, _, _, e, _ => by simp at e
  | n :: ns, w :: vs, [], _, _, r, _, _ => by have := r.1; simp at this
  | n :: ns, w :: vs, u :: us, m, hnd, r, e, hk => by
    have r0 : VR h cs xs w u := r.2 0 w u rfl rfl
    have rs : VRs h cs xs vs us := ⟨by have := r.1; simp at this; omega, fun i a b e1 e2 => r.2 (i + 1) a b (by simpa using e1) (by simpa using e2)⟩
    rw [List.zip_cons_cons, lookup_cons'] at e
    rw [List.zip_cons_cons, bindC]
    by_cases q : x = n
    · subst q
      rw [if_pos rfl] at e; cases e
      rw [bindC_notin (zip_names (List.nodup_cons.mp hnd).1), if_neg (by rw [hk]; simp)]
      exact ⟨u, by simp, r0⟩
    · rw [if_neg q] at e
      exact bindC_get (List.nodup_cons.mp hnd).2 rs e hk

theorem FR.size_le {hB : Heap} {env : Env} {ρ : List (Str × V)} {h : Heap} {cs xs : List Addr} (F : FR hB env ρ h cs xs) : @LE.le Nat _ hB.objs.size h.objs.size := by
  obtain ⟨o, e⟩ := F.xlive _ F.Lx
  exact Nat.le_trans F.above (Nat.le_of_lt (Heap.lt_size e))

/-- a def of the text, found at f -/
structure Fun (hB : Heap) (f : Addr) (fd : FuncData) (names : List Str) (body : List Stmt) : Prop where
  at_ : ∃ o, hB.get? f = some o ∧ o.data = .func fd
  lim : hB.NoLimit
  code : hB.CodeRec fd.code fd.qualname
  body : fd.body = .stmts body
  clo : fd.closure = []
  bind : ∀ us : List Value, us.length = names.length → bindArgs fd ⟨us, []⟩ = pure (names.zip us)
  nodup : names.Nodup
  kind : ∀ x ∈ names, fd.scope.names.lookup x = some .local ∨ (fd.scope.names.lookup x = some .cell ∧ ∀ n, ((cellsFrom n fd.scope.names []).lookup x).isSome = true)
  co : fd.scope.isCoroutine = false
  gen : fd.scope.isGenerator = false
  fn : fd.scope.kind = .function
  gl : fd.globals = mainGlobals
  bl : fd.builtins = builtinsNs

section
variable {C : Cx} {A : Around} {env : Env} {ρ ρ' : List (Str × V)} {σ σ' σ₁ σ₂ : List CO}

/-- a call, as a piece of code -/
def ClK (C : Cx) (A : Around) (σ : List CO) (fv : Value) (vs : List V) (v : V) (σ' : List CO) : Prop :=
  ∀ env ρ (s : Shared) (cs xs : List Addr) (us : List Value) (R : Result → Shared → Prop), Wd C env ρ σ s.heap cs xs → VRs s.heap cs xs vs us → Kt σ' v s cs xs (fun val s' => R (.ok (.ret val)) s') → codeAny (model C.prog C.w) A (.call fv ⟨us, []⟩) R s
theorem ClK.cl {fv : Value} {vs : List V} {v : V} (h : ClK C A σ fv vs v σ') : Cl C A σ fv vs v σ' := fun env ρ s cs xs us Q W r k => wpAny_call (h env ρ s cs xs us _ W r k)

theorem ClK.fn {f : Addr} {fd : FuncData} {names : List Str} {body : List Stmt} {vs : List V} {v : V} (D : Fun C.hB f fd names body) (hlen : vs.length = names.length) (hroom : A.depth < recursionLimit)
    (hσ : σ.length ≤ σ'.length)
    (h : ∀ L, Ex C (A.deeper (callEnvC fd L f)) (callEnvC fd L f) (names.zip vs) σ body (fun o => match o with
      | .ret v' σ₁ => RetOk v' σ₁ v σ'
      | .next _ σ₁ => RetOk .non σ₁ v σ'
      | _ => False)) : ClK C A σ (.ref f) vs v σ' := fun env ρ s cs xs us R W r k => by
  obtain ⟨o, ho, hd⟩ := D.at_
  have kB : ∀ b o, C.hB.get? b = some o → s.heap.get? b = some o := W.F.base
  have hul : us.length = names.length := r.1 ▸ hlen
  refine codeAny_call_cells hroom (kB f o ho) hd (D.lim.keeps kB) (D.code.keeps kB) D.body (D.bind us hul) D.clo (fun x hx => ?_) (fun s₁ ic => ?_) D.co D.gen D.fn
  · exact (D.kind x.1 (List.of_mem_zip hx).1).imp id fun q => ⟨q.1, q.2 _⟩
  · obtain ⟨h₁, tk₁, rfl⟩ := ic.toInCall.same
    have hk₁ : ∀ b o, s.heap.get? b = some o → h₁.get? b = some o := ic.toInCall.keep
    let env' := callEnvC fd s.heap.objs.size f
    let ys : List Addr := env'.locals :: (env'.cells.map (·.1)).filterMap (env'.cells.lookup ·)
    have hys : ∀ a ∈ ys, FX env' a := fun a ha => by
      rcases List.mem_cons.mp ha with rfl | ha
      · exact .inl rfl
      · obtain ⟨n, hn, e⟩ := List.mem_filterMap.mp ha
        exact .inr ⟨ic.above n a (mem_of_lookup e), n, e⟩
    have hfx : ∀ a, FX env' a → a ∈ ys := fun a ha => by
      rcases ha with rfl | ⟨_, n, e⟩
      · exact .head _
      · exact .tail _ (List.mem_filterMap.mpr ⟨n, List.mem_map.mpr ⟨(n, a), mem_of_lookup e, rfl⟩, e⟩)
    have hLs : env'.locals = s.heap.objs.size := rfl
    have hnew : ∀ a, FX env' a → s.heap.get? a = none := fun a ha => by
      have hle : s.heap.objs.size ≤ a := by
        rcases ha with rfl | ⟨_, n, e⟩
        · exact Nat.le_refl _
        · exact Nat.le_of_lt (ic.above n a (mem_of_lookup e))
      cases q : s.heap.get? a with
      | none => rfl
      | some o => exact absurd (Heap.lt_size q) (Nat.not_lt.mpr hle)
    have hlive : ∀ a, FX env' a → ∃ o, h₁.get? a = some o := fun a ha => by
      rcases ha with rfl | ⟨_, n, e⟩
      · obtain ⟨o, _, _, e, _⟩ := ic.toInCall.ns; exact ⟨o, e⟩
      · obtain ⟨o, e, _⟩ := ic.cell n a e; exact ⟨o, e⟩
    have g₁ : Gx nX cs s.heap cs h₁ := Gx.keeps hk₁
    have hxs : ∀ a ∈ ys ++ xs, a ∈ xs ∨ s.heap.get? a = none := fun a ha => (List.mem_append.mp ha).elim (fun q => .inr (hnew a (hys a q))) .inl
    have rr : VRs h₁ cs (ys ++ xs) vs us := r.mono g₁ (fun _ f => f.elim) hxs
    have RR : CR h₁ cs (ys ++ xs) σ := W.R.mono g₁ (fun _ f => f.elim) hxs fun a _ o e => hk₁ a o e
    have W' : Wd C env' (names.zip vs) σ h₁ cs (ys ++ xs) := by
      refine ⟨⟨D.fn, fun b o e => hk₁ b o (kB b o e), W.F.csB, fun a ha => ?_, fun a ha => ?_, fun a ha => ?_, List.mem_append_left _ (.head _), fun n c e => List.mem_append_left _ (hfx c (.inr ⟨ic.above n c (mem_of_lookup e), n, e⟩)),
        ⟨_, ic.toInCall.ns, fun x w e kk => bindL_get D.nodup rr e kk⟩, fun n c e => ⟨_, ic.cell n c e, fun w e1 e2 => bindC_get D.nodup rr e1 e2⟩,
        fun n n' c e e' => name_of_addr ic.apart (mem_of_lookup e) (mem_of_lookup e'), fun n c e => (neA (Nat.ne_of_gt (ic.above n c (mem_of_lookup e)))), fun n hk => cellsFrom_some _ _ _ (.inl hk), W.F.size_le, D.gl, D.bl⟩, RR⟩
      · rcases List.mem_append.mp ha with q | q
        · cases z : C.hB.get? a with
          | none => rfl
          | some o => have := kB a o z; rw [hnew a (hys a q)] at this; cases this
        · exact W.F.xsB a q
      · rcases List.mem_append.mp ha with q | q
        · exact hlive a (hys a q)
        · obtain ⟨o, e⟩ := W.F.xlive a q; exact ⟨o, hk₁ a o e⟩
      · rcases List.mem_append.mp ha with q | q
        · exact (W.new a (hnew a (hys a q))).1
        · exact W.F.xoff a q
    refine wpAny_mono (h s.heap.objs.size _ cs (ys ++ xs) (fun fl s' => (match fl with | .ret v => R (.ok (.ret v)) s' | _ => R (.ok (.ret .none)) s')) W' fun o fl h' tk cs' ho g oR => ?_) (fun fl s' q => ?_) fun _ _ f => f.elim
    · have fin : ∀ val v' σ₁, RetOk v' σ₁ v σ' → CR h' cs' (ys ++ xs) σ₁ → VR h' cs' (ys ++ xs) v' val → R (.ok (.ret val)) { s with heap := h', toks := tk } := fun val v' σ₁ rk R₁ r₁ => by
        obtain ⟨R₂, r₂⟩ := rk h' cs' (ys ++ xs) val (fun a ha hm => by
          rcases g.fresh a hm with q | q
          · exact W'.F.xoff a ha q
          · obtain ⟨o, e⟩ := W'.F.xlive a ha; rw [q.1] at e; cases e) R₁ r₁
        have hsx : ∀ a ∈ xs, a ∈ ys ++ xs := fun a ha => List.mem_append_right _ ha
        refine k val h' tk (cs'.take σ'.length) ⟨?_, fun b o e hn _ => ?_, fun a ha => ?_⟩ (R₂.less hsx) (r₂.less hsx)
        · have hp := g.pre
          have hle : cs.length ≤ σ'.length := W.R.len ▸ hσ
          exact List.prefix_take_iff.mpr ⟨hp, hle⟩
        · exact g.keep b o (hk₁ b o e) hn fun z => by rw [hnew b z] at e; cases e
        · rcases g.fresh a (List.mem_of_mem_take ha) with q | q
          · exact .inl q
          · refine .inr ⟨?_, fun f => f⟩
            cases z : s.heap.get? a with
            | none => rfl
            | some o => have := hk₁ a o z; rw [q.1] at this; cases this
      cases o with
      | ret v' σ₁ => cases fl <;> first | exact oR.elim | exact fin _ _ _ ho oR.1 oR.2
      | next ρ' σ₁ => cases fl <;> first | exact oR.elim | exact fin _ _ _ ho oR.R .non
      | brk _ _ => exact ho.elim
      | cont _ _ => exact ho.elim
    · cases fl <;> exact q
theorem Cl.fn {f : Addr} {fd : FuncData} {names : List Str} {body : List Stmt} {vs : List V} {v : V} (D : Fun C.hB f fd names body) (hlen : vs.length = names.length) (hroom : A.depth < recursionLimit)
    (hσ : σ.length ≤ σ'.length)
    (h : ∀ L, Ex C (A.deeper (callEnvC fd L f)) (callEnvC fd L f) (names.zip vs) σ body (fun o => match o with
      | .ret v' σ₁ => RetOk v' σ₁ v σ'
      | .next _ σ₁ => RetOk .non σ₁ v σ'
      | _ => False)) : Cl C A σ (.ref f) vs v σ' := (ClK.fn D hlen hroom hσ h).cl
end
end Mine

namespace Mine

/-! ### comprehensions -/

theorem compTurn_last {elt t iter : Expr} {ifs : List Expr} {gens : List Comprehension} {d : Nat} {scope : Scope} {pos : Pos} {it acc : Value} {env : Env} (h : gens[d]? = some ⟨t, iter, ifs, 0⟩) (h' : gens[d + 1]? = none) :
    compTurn (.ListComp elt gens scope pos) d it acc env = (do
      standAt iter.pos
      let r ← pyNext it
      match r with
      | none => pure (.done .next)
      | some v =>
        letOwnedTupleGo t it v
        assign t env v
        let ok ← forIn ifs true fun c r => if r = true then do let ok ← isTrue c env (eval c env); pure (ForInStep.yield ok) else pure (ForInStep.yield r)
        if ok = true then do
          (do let x ← eval elt env; let _ ← call (.builtin "list.append") [acc, x]; pure ())
          again (.compLoop (.ListComp elt gens scope pos) d it acc env)
        else again (.compLoop (.ListComp elt gens scope pos) d it acc env)) := by
  unfold compTurn
  simp only [h, h']
  rfl
theorem compTurn_more {elt t iter t' iter' : Expr} {ifs ifs' : List Expr} {gens : List Comprehension} {d : Nat} {scope : Scope} {pos : Pos} {it acc : Value} {env : Env} (h : gens[d]? = some ⟨t, iter, ifs, 0⟩) (h' : gens[d + 1]? = some ⟨t', iter', ifs', 0⟩) :
    compTurn (.ListComp elt gens scope pos) d it acc env = (do
      standAt iter.pos
      let r ← pyNext it
      match r with
      | none => pure (.done .next)
      | some v =>
        letOwnedTupleGo t it v
        assign t env v
        let ok ← forIn ifs true fun c r => if r = true then do let ok ← isTrue c env (eval c env); pure (ForInStep.yield ok) else pure (ForInStep.yield r)
        if ok = true then do
          let x ← eval iter' env
          standAt iter'.pos
          let x ← foldedSetIterable iter' env x
          let i ← holding [x] (pyIter x)
          let _ ← runOwn (.compStart (.ListComp elt gens scope pos) (d + 1) i acc env) env
          again (.compLoop (.ListComp elt gens scope pos) d it acc env)
        else again (.compLoop (.ListComp elt gens scope pos) d it acc env)) := by
  unfold compTurn
  simp only [h, h']
  rfl

section
variable {C : Cx} {A : Around} {env : Env} {ρ ρ' : List (Str × V)} {σ σ' σ₁ σ₂ : List CO}

/-- the tests of a clause -/
def Tests (C : Cx) (A : Around) (env : Env) (ρ : List (Str × V)) (σ : List CO) : List Expr → Bool → Prop
  | [], b => b = true
  | c :: r, b => ∃ b₁, Ts C A env ρ σ c b₁ σ ∧ (if b₁ then Tests C A env ρ σ r b else b = false)

/-- the clauses gens and the element give ws -/
def Cg (C : Cx) (A : Around) (env : Env) (σ : List CO) (elt : Expr) : List Comprehension → List (Str × V) → List V → Prop
  | [], ρ, ws => ∃ w, Ev C A env ρ σ elt w σ ∧ ws = [w]
  | g :: rest, ρ, ws => g.is_async = 0 ∧ (∀ x, foldedSetIterable g.iter env x = pure x) ∧ ∃ (vs : List V) (wss : List (List V)), (∃ M : List CO → Prop, M σ ∧ EvIM M C A env ρ σ g.iter g.target vs σ) ∧ ws = wss.flatten ∧ wss.length = vs.length ∧
      ∀ (i : Nat) (v : V) (w : List V), vs[i]? = some v → wss[i]? = some w → ∃ ρ' b, Bn C A env ρ σ g.target v ρ' σ ∧ Sub ρ ρ' ∧ Tests C A env ρ' σ g.ifs b ∧ (if b then Cg C A env σ elt rest ρ' w else w = [])

/-- all the turns of one clause -/
def Tn (C : Cx) (A : Around) (env : Env) (σ : List CO) (elt : Expr) (g : Comprehension) (rest : List Comprehension) (ρ : List (Str × V)) (vs : List V) (wss : List (List V)) : Prop :=
  wss.length = vs.length ∧ ∀ (i : Nat) (v : V) (w : List V), vs[i]? = some v → wss[i]? = some w → ∃ ρ' b, Bn C A env ρ σ g.target v ρ' σ ∧ Sub ρ ρ' ∧ Tests C A env ρ' σ g.ifs b ∧ (if b then Cg C A env σ elt rest ρ' w else w = [])

/-- the list that is being filled -/
def AccAt (h : Heap) (cs xs : List Addr) (D : Addr) (out : List V) : Prop := ∃ us, h.PlainList D us ∧ VRs h cs xs out us.toList

theorem same_cs {h h' : Heap} {cs cs' xs xs' : List Addr} (R : CR h cs xs σ) (R' : CR h' cs' xs' σ) (hp : cs <+: cs') : cs' = cs :=
  (hp.eq_of_length (by rw [R.len, R'.len])).symm

/-- how a comprehension's block goes on -/
def FD (env : Env) (D : Addr) : Addr → Prop := fun b => FX env b ∨ b = D

def Kc (C : Cx) (env : Env) (ρ : List (Str × V)) (σ : List CO) (D : Addr) (out : List V) (s : Shared) (cs xs : List Addr) (Q : Shared → Prop) : Prop :=
  ∀ h' tk, Gx (FD env D) cs s.heap cs h' → Wd C env ρ σ h' cs xs → AccAt h' cs xs D out → Q { s with heap := h', toks := tk }

theorem AccAt.mono {X : Addr → Prop} {h h' : Heap} {cs cs' xs xs' : List Addr} {D : Addr} {out : List V} (a : AccAt h cs xs D out) (g : Gx X cs h cs' h') (hX : ∀ b, X b → b ∈ xs) (hxs : ∀ a ∈ xs', a ∈ xs ∨ h.get? a = none) (hD : D ∉ cs) (hDX : ¬ X D) : AccAt h' cs' xs' D out := by
  obtain ⟨us, ⟨n, e⟩, r⟩ := a
  exact ⟨us, ⟨n, g.keep _ _ e hD hDX⟩, r.mono g hX hxs⟩

theorem wp_tests {f : Expr → Bool → Sem (ForInStep Bool)} (hf : ∀ c r, f c r = if r = true then do let ok ← isTrue c env (eval c env); pure (ForInStep.yield ok) else pure (ForInStep.yield r)) :
    ∀ (ifs : List Expr) (b : Bool) (s : Shared) (cs xs : List Addr) (Q : Bool → Shared → Prop), Tests C A env ρ σ ifs b → Wd C env ρ σ s.heap cs xs → (∀ h' tk, Gx nX cs s.heap cs h' → Wd C env ρ σ h' cs xs → Q b { s with heap := h', toks := tk }) →
      wpAny (model C.prog C.w) A (forIn ifs true f) Q noE s := by
  have hskip : ∀ (ifs : List Expr) (s : Shared) (Q : Bool → Shared → Prop), Q false s → wpAny (model C.prog C.w) A (forIn ifs false f) Q noE s := by
    intro ifs
    induction ifs with
    | nil => intro s Q h; rw [List.forIn_nil]; exact wpAny_pure h
    | cons c r ih => intro s Q h; rw [List.forIn_cons, hf, if_neg (by simp)]; exact wpAny_bind (wpAny_pure (ih s Q h))
  intro ifs
  induction ifs with
  | nil =>
    intro b s cs xs Q ht W k
    rw [List.forIn_nil]
    cases (show b = true from ht)
    exact wpAny_pure (k s.heap s.toks (Gx.refl _ _ _) W)
  | cons c r ih =>
    intro b s cs xs Q ht W k
    obtain ⟨b₁, h₁, h₂⟩ := ht
    rw [List.forIn_cons, hf, if_pos rfl]
    refine wpAny_bind (wpAny_bind (h₁ s cs xs _ W fun h' tk cs' g R => wpAny_pure ?_))
    have ec := same_cs W.R R g.pre
    subst ec
    cases b₁ with
    | true => exact ih b _ cs' xs Q h₂ (W.on g R) fun h'' tk' g' W' => k h'' tk' (g.trans g') W'
    | false =>
      rw [if_neg (by simp)] at h₂; subst h₂
      exact hskip r _ Q (k h' tk g (W.on g R))

theorem Gx.toFD {h h' : Heap} {cs cs' xs : List Addr} {D : Addr} {X : Addr → Prop} (g : Gx X cs h cs' h') (W : Wd C env ρ σ h cs xs) (hD : D ∈ xs) (hX : ∀ b, X b → FD env D b) : Gx (FD env D) cs h cs' h' :=
  g.weaken (fun b x _ => hX b x) fun a ha e q => by
    rcases q with q | rfl
    · obtain ⟨o, e'⟩ := W.F.fxl a q; rw [e] at e'; cases e'
    · obtain ⟨o, e'⟩ := W.F.xlive a hD; rw [e] at e'; cases e'


theorem codeAny_compStart_at {elt t iter : Expr} {ifs : List Expr} {gens : List Comprehension} {d : Nat} {scope : Scope} {pos : Pos} {it acc : Value} {R : Result → Shared → Prop} {s : Shared} (hg : gens[d]? = some ⟨t, iter, ifs, 0⟩)
    (h0 : codeAny (model C.prog C.w) A (.compLoop (.ListComp elt gens scope pos) d it acc env) R s)
    (h : wpAny (model C.prog C.w) A (pyIter it) (fun it' s' => codeAny (model C.prog C.w) A (.compLoop (.ListComp elt gens scope pos) d it' acc env) R s') noE s) :
    codeAny (model C.prog C.w) A (.compStart (.ListComp elt gens scope pos) d it acc env) R s := by
  refine codeAny_of_tree ?_
  show wpAny _ _ ((compStart (.ListComp elt gens scope pos) d it acc env).onRaise (fun x => do noteFrame x env; standAt theWindowsPlace)) _ _ s
  refine wpAny_notedAt ?_
  unfold compStart
  have hc : (clausesOf (.ListComp elt gens scope pos))[d]? = some ⟨t, iter, ifs, 0⟩ := hg
  simp only [hc]
  show wpAny _ _ (ask >>= _) _ _ s
  refine wpAny_bind (wpAny_askSetting (wpAny_ite ?_))
  split
  · exact wpAny_pure ⟨rfl, h0⟩
  · refine wpAny_bind (wpAny_rule ?_)
    show wpAny _ _ (standAt iter.pos >>= _) _ _ s
    exact wpAny_bind (wpAny_standAt (wpAny_bind (wpAny_mono h (fun it' s' h' => wpAny_pure ⟨rfl, h'⟩) fun _ _ f => f.elim)))

/-- the element, appended -/
theorem emit_run {elt : Expr} {w : V} {D : Addr} {out : List V} {s : Shared} {cs xs : List Addr} {Q : Unit → Shared → Prop} (he : Ev C A env ρ σ elt w σ) (W : Wd C env ρ σ s.heap cs xs) (a : AccAt s.heap cs xs D out) (hDx : D ∈ xs) (hDF : D ≠ env.locals ∧ ∀ n, env.cells.lookup n ≠ some D)
    (hz : out.length ≤ sizeLine) (k : ∀ h' tk, Gx (FD env D) cs s.heap cs h' → Wd C env ρ σ h' cs xs → AccAt h' cs xs D (out ++ [w]) → Q () { s with heap := h', toks := tk }) :
    wpAny (model C.prog C.w) A (do let x ← eval elt env; let _ ← call (.builtin "list.append") [.ref D, x]; pure ()) Q noE s := by
  refine wpAny_bind (he s cs xs _ W fun val h₁ tk₁ cs₁ g₁ R₁ r₁ => ?_)
  have ec := same_cs W.R R₁ g₁.pre
  subst ec
  have W₁ := W.on g₁ R₁
  have hDc := W.F.xoff D hDx
  obtain ⟨us, hp, rs⟩ := a.mono (xs' := xs) g₁ (fun _ f => f.elim) (fun _ q => .inl q) hDc (fun f => f)
  have hsz : us.size ≤ sizeLine := by have := rs.1; simp at this; omega
  refine wpAny_bind (wpAny_list_append_plain hp (fun h₂ hp₂ hs₂ => ?_) hsz)
  refine wpAny_pure ?_
  have kp : Kp [D] h₁ h₂ := Kp.same hs₂ (List.mem_singleton.mpr rfl)
  have hX : ∀ b ∈ [D], b ∈ xs := fun b hb => by rw [List.mem_singleton.mp hb]; exact hDx
  have W₂ := W₁.own kp hX (fun b hb => by rw [List.mem_singleton.mp hb]; exact hDF.1) (fun b hb => by rw [List.mem_singleton.mp hb]; exact hDF.2) (fun b hb => by rw [List.mem_singleton.mp hb]; obtain ⟨n, e⟩ := hp₂; exact ⟨_, e⟩) (fun b hb => by rw [List.mem_singleton.mp hb]; exact hDc)
  refine k h₂ tk₁ ((g₁.toFD W hDx (fun _ f => f.elim)).trans ((kp.gx).toFD W₁ hDx fun b hb => .inr (List.mem_singleton.mp hb))) W₂ ⟨us.push val, hp₂, ?_⟩
  have rs' : VRs h₂ cs₁ xs out us.toList := rs.mono (kp.gx (cs := cs₁)) hX fun _ q => .inl q
  have := rs'.snoc (r₁.kp kp hX)
  simpa using this

theorem Gx.ownD {X Y : Addr → Prop} {own cs : List Addr} {h h' h'' : Heap} (g : Gx X cs h cs h') (k : Kp own h' h'') (hy : ∀ b, X b ∨ b ∈ own → Y b) : Gx Y cs h cs h'' :=
  ⟨List.prefix_rfl, fun b o e h1 h2 => k b o (fun q => h2 (hy b (.inr q))) (g.keep b o e h1 fun q => h2 (hy b (.inl q))), fun _ ha => .inl ha⟩

/-- a comprehension's loop, its turn laid open -/
theorem compC {elt : Expr} {gens : List Comprehension} {g : Comprehension} {d : Nat} {scope : Scope} {pos p : Pos} {D : Addr} {it : Value} {B : Sem Fin}
    (hturn : compTurn (.ListComp elt gens scope pos) d it (.ref D) env = (do
      standAt p
      let r ← pyNext it
      match r with
      | none => pure (.done .next)
      | some v =>
        letOwnedTupleGo g.target it v
        assign g.target env v
        let ok ← forIn g.ifs true fun c r => if r = true then do let ok ← isTrue c env (eval c env); pure (ForInStep.yield ok) else pure (ForInStep.yield r)
        if ok = true then B else again (.compLoop (.ListComp elt gens scope pos) d it (.ref D) env)))
    {s : Shared} {R : Result → Shared → Prop} (I : Nat → Shared → Prop)
    (turn : ∀ n s, I n s → wpAny (model C.prog C.w) A (pyNext it) (fun r s₁ => match r with
      | none => R (.ok .next) s₁
      | some v => wpAny (model C.prog C.w) A (letOwnedTupleGo g.target it v) (fun _ s₂ => wpAny (model C.prog C.w) A (assign g.target env v) (fun _ s₃ =>
          wpAny (model C.prog C.w) A (forIn g.ifs true fun c r => if r = true then do let ok ← isTrue c env (eval c env); pure (ForInStep.yield ok) else pure (ForInStep.yield r)) (fun b s₄ =>
            if b = true then wpAny (model C.prog C.w) A B (fun fin s₅ => fin = .again (.compLoop (.ListComp elt gens scope pos) d it (.ref D) env) ∧ ∃ m, m < n ∧ I m s₅) noE s₄ else ∃ m, m < n ∧ I m s₄) noE s₃) noE s₂) noE s₁) noE s)
    (n : Nat) (h : I n s) : codeAny (model C.prog C.w) A (.compLoop (.ListComp elt gens scope pos) d it (.ref D) env) R s := by
  refine codeAny_loop rfl I (fun n s hI => ?_) n h
  show wpAny _ A ((compTurn (.ListComp elt gens scope pos) d it (.ref D) env).onRaise (fun x => do noteFrame x env; theTreesLotGoes x)) _ _ _
  refine wpAny_noted ?_
  rw [hturn]
  refine wpAny_bind (wpAny_standAt (wpAny_bind (wpAny_mono (turn n s hI) (fun r s₁ h₁ => ?_) fun _ _ f => f.elim)))
  cases r with
  | none => exact wpAny_pure h₁
  | some v =>
    refine wpAny_bind (wpAny_mono h₁ (fun _ s₂ h₂ => wpAny_bind (wpAny_mono h₂ (fun _ s₃ h₃ => wpAny_bind (wpAny_mono h₃ (fun b s₄ h₄ => ?_) fun _ _ f => f.elim)) fun _ _ f => f.elim)) fun _ _ f => f.elim)
    cases b with
    | true =>
      refine wpAny_mono h₄ (fun fin s₅ h₅ => ?_) fun _ _ f => f.elim
      obtain ⟨rfl, q⟩ := h₅
      exact ⟨rfl, q⟩
    | false => exact wpAny_pure ⟨rfl, h₄⟩

/-- between two turns -/
inductive CompI (C : Cx) (env : Env) (ρ : List (Str × V)) (σ : List CO) (own xs cs : List Addr) (N : Nat) (D : Addr) (out : List V) (wss : List (List V)) (h₀ : Heap) (St : Nat → Heap → List Addr → List Addr → Prop) (s : Shared) : Nat → Shared → Prop
  | mk (i d : Nat) (h : Heap) (tk : Nat) (hd : i + d = N) (W : Wd C env ρ σ h cs (own ++ xs)) (hs : St i h cs (own ++ xs)) (a : AccAt h cs (own ++ xs) D (out ++ (wss.take i).flatten)) (g : Gx (fun b => FD env D b ∨ b ∈ own) cs h₀ cs h) :
      CompI C env ρ σ own xs cs N D out wss h₀ St s d { s with heap := h, toks := tk }

theorem Gx.upX {X Y : Addr → Prop} {cs : List Addr} {h h' : Heap} (g : Gx X cs h cs h') (hy : ∀ b, X b → Y b) : Gx Y cs h cs h' := ⟨g.pre, fun b o e h1 h2 => g.keep b o e h1 fun q => h2 (hy b q), fun _ ha => .inl ha⟩
theorem take_flat {wss : List (List V)} {i : Nat} {w : List V} (h : wss[i]? = some w) : (wss.take (i + 1)).flatten = (wss.take i).flatten ++ w := by
  rw [List.take_add_one, h, List.flatten_append]
  exact congrArg _ (List.append_nil w)
theorem take_len {wss : List (List V)} {i : Nat} {w : List V} (h : wss[i]? = some w) : (wss.take i).flatten.length + w.length ≤ wss.flatten.length := by
  have : wss.flatten = (wss.take i).flatten ++ w ++ (wss.drop (i + 1)).flatten := by rw [← take_flat h, ← List.flatten_append, List.take_append_drop]
  rw [this, List.length_append, List.length_append]; exact Nat.le_add_right _ _

theorem loop_core {elt : Expr} {gens rest : List Comprehension} {g : Comprehension} {d : Nat} {scope : Scope} {pos p : Pos} {D : Addr} (hDF : D ≠ env.locals ∧ ∀ n, env.cells.lookup n ≠ some D) {it : Value} (B : Sem Fin)
    (hturn : compTurn (.ListComp elt gens scope pos) d it (.ref D) env = (do
      standAt p
      let r ← pyNext it
      match r with
      | none => pure (.done .next)
      | some v =>
        letOwnedTupleGo g.target it v
        assign g.target env v
        let ok ← forIn g.ifs true fun c r => if r = true then do let ok ← isTrue c env (eval c env); pure (ForInStep.yield ok) else pure (ForInStep.yield r)
        if ok = true then B else again (.compLoop (.ListComp elt gens scope pos) d it (.ref D) env)))
    {ρ : List (Str × V)} {vs : List V} {wss : List (List V)} (T : Tn C A env σ elt g rest ρ vs wss) {own : List Addr} {St : Nat → Heap → List Addr → List Addr → Prop} {M : List CO → Prop} (hM : M σ) (hit : It C A g.target it own vs St M)
    {s : Shared} {cs xs : List Addr} {out : List V} {R : Result → Shared → Prop} (W : Wd C env ρ σ s.heap cs (own ++ xs)) (a : AccAt s.heap cs (own ++ xs) D out) (hDx : D ∈ xs) (hox : ∀ a ∈ own, a ∉ xs) (hL : env.locals ∈ xs) (hcl : ∀ n c, env.cells.lookup n = some c → c ∈ xs)
    (hst : St 0 s.heap cs (own ++ xs)) (hz : out.length + wss.flatten.length ≤ sizeLine)
    (hB : ∀ (i : Nat) (w : List V) (ρ' : List (Str × V)) (s' : Shared) (out' : List V) (Q : Fin → Shared → Prop), wss[i]? = some w → Sub ρ ρ' → Cg C A env σ elt rest ρ' w → out'.length + w.length ≤ sizeLine → Wd C env ρ' σ s'.heap cs (own ++ xs) → AccAt s'.heap cs (own ++ xs) D out' →
      (∀ h' tk, Gx (FD env D) cs s'.heap cs h' → Wd C env ρ' σ h' cs (own ++ xs) → AccAt h' cs (own ++ xs) D (out' ++ w) → Q (.again (.compLoop (.ListComp elt gens scope pos) d it (.ref D) env)) { s' with heap := h', toks := tk }) → wpAny (model C.prog C.w) A B Q noE s')
    (k : ∀ h' tk, Gx (fun b => FD env D b ∨ b ∈ own) cs s.heap cs h' → Wd C env ρ σ h' cs xs → AccAt h' cs xs D (out ++ wss.flatten) → R (.ok .next) { s with heap := h', toks := tk }) :
    codeAny (model C.prog C.w) A (.compLoop (.ListComp elt gens scope pos) d it (.ref D) env) R s := by
  have hoo : ∀ a ∈ own, a ∈ own ++ xs := fun a ha => List.mem_append_left _ ha
  have hfx : ∀ a, FX env a → a ∈ xs := fun a q => q.elim (fun e => e ▸ hL) fun ⟨_, n, e⟩ => hcl n a e
  have hDF' : ¬ FX env D := fun q => q.elim hDF.1 fun ⟨_, n, e⟩ => hDF.2 n e
  have hDo : D ∉ own := fun q => hox D q hDx
  have hDxx : D ∈ own ++ xs := List.mem_append_right _ hDx
  have hDc : D ∉ cs := W.F.xoff D hDxx
  have hoff : ∀ a ∈ own, a ∉ cs := fun a ha => W.F.xoff a (hoo a ha)
  have hcx : ∀ a ∈ own, a ∉ cs ∧ a ∈ own ++ xs := fun a ha => ⟨hoff a ha, hoo a ha⟩
  have hfo : ∀ b, FX env b → b ∈ own ++ xs ∧ b ∉ own := fun b q => ⟨List.mem_append_right _ (hfx b q), fun z => hox b z (hfx b q)⟩
  refine compC hturn (CompI C env ρ σ own xs cs vs.length D out wss s.heap St s) (fun n st hI => ?_) vs.length (.mk 0 vs.length s.heap s.toks (Nat.zero_add _) W hst (by rw [List.take_zero]; exact (List.append_nil out).symm ▸ a) (Gx.refl _ _ _))
  cases hI with
  | mk i _ h₂ tk₂ hd W₂ hst₂ a₂ G₂ =>
  cases n with
  | zero =>
    obtain rfl : i = vs.length := hd
    refine hit.done _ cs (own ++ xs) _ hst₂ hcx ⟨σ, hM, W₂.R⟩ fun h' tk kp => ?_
    rw [← T.1, List.take_length] at a₂
    exact k h' tk (G₂.ownD kp fun b q => q.elim id .inr) (W₂.ownDone kp hox hL hcl hoff) (a₂.mono (kp.gx (cs := cs)) hoo (fun a ha => .inl (List.mem_append_right _ ha)) hDc hDo)
  | succ m =>
    have hlt : i < vs.length := hd ▸ Nat.lt_add_of_pos_right (Nat.succ_pos m)
    have hv : vs[i]? = some vs[i] := List.getElem?_eq_getElem hlt
    have hw : wss[i]? = some (wss[i]'(T.1 ▸ hlt)) := List.getElem?_eq_getElem (T.1 ▸ hlt)
    revert hw
    generalize wss[i]'(T.1 ▸ hlt) = w
    intro hw
    obtain ⟨ρ', b, hb, hsub, hts, hcg⟩ := T.2 i vs[i] w hv hw
    refine hit.item i vs[i] _ cs (own ++ xs) _ (R (.ok .next)) hv hst₂ W₂.new hcx ⟨σ, hM, W₂.R⟩ fun val h₃ tk₃ kp hst₃ r₃ => ?_
    have W₃ := W₂.own kp hoo (fun a ha q => hox a ha (q ▸ hL)) (fun a ha n q => hox a ha (hcl n a q)) (hit.live _ _ _ _ hst₃) hoff
    refine hb _ cs (own ++ xs) val _ W₃ r₃ fun h₄ tk₄ g₄ W₄ => ?_
    refine wp_tests (fun _ _ => rfl) g.ifs b _ cs (own ++ xs) _ hts W₄ fun h₅ tk₅ g₅ W₅ => ?_
    have hst₅ := hit.mono _ _ _ _ _ _ _ _ (hit.mono _ _ _ _ _ _ _ _ hst₃ g₄ hfo (fun _ q => q) fun _ q => .inl q) g₅ (fun b f => f.elim) (fun _ q => q) fun _ q => .inl q
    have a₅ := ((a₂.mono (kp.gx (cs := cs)) hoo (fun _ q => .inl q) hDc hDo).mono (xs' := own ++ xs) g₄ W.F.fx (fun _ q => .inl q) hDc hDF').mono (xs' := own ++ xs) g₅ (fun _ f => f.elim) (fun _ q => .inl q) hDc fun f => f
    have G₅ := ((G₂.ownD (Y := fun b => FD env D b ∨ b ∈ own) kp fun b q => q.elim id .inr).trans (g₄.upX fun b q => .inl (.inl q))).trans (g₅.upX fun b q => q.elim)
    cases b with
    | false =>
      have hw0 : w = [] := by simpa using hcg
      exact ⟨m, Nat.lt_succ_self m, .mk (i + 1) m h₅ tk₅ ((Nat.succ_add_eq_add_succ i m).trans hd) (W₅.sub hsub) hst₅ (by rw [take_flat hw, hw0, List.append_nil]; exact a₅) G₅⟩
    | true =>
      rw [if_pos rfl] at hcg
      refine hB i w ρ' _ _ _ hw hsub hcg (by have := take_len hw; rw [List.length_append]; omega) W₅ a₅ fun h₆ tk₆ g₆ W₆ a₆ => ⟨rfl, m, Nat.lt_succ_self m, ?_⟩
      exact .mk (i + 1) m h₆ tk₆ ((Nat.succ_add_eq_add_succ i m).trans hd) (W₆.sub hsub) (hit.mono _ _ _ _ _ _ _ _ hst₅ g₆ (fun b q => q.elim (hfo b) fun e => e ▸ ⟨hDxx, hDo⟩) (fun _ q => q) fun _ q => .inl q) (by rw [take_flat hw, ← List.append_assoc]; exact a₆) (G₅.trans (g₆.upX fun b q => .inl q))

theorem drop_get {α : Type} {l : List α} {d : Nat} {a : α} {r : List α} (h : l.drop d = a :: r) : l[d]? = some a ∧ l.drop (d + 1) = r := by
  have h1 : l[d]? = some a := by
    have := congrArg (·[0]?) h
    simpa using this
  refine ⟨h1, ?_⟩
  have := congrArg List.tail h
  simpa [List.tail_drop] using this
theorem drop_none {α : Type} {l : List α} {d : Nat} (h : l.drop d = []) : l[d]? = none := by
  have := List.drop_eq_nil_iff.mp h
  simp; exact this

theorem loop_run {elt : Expr} {gens : List Comprehension} {scope : Scope} {pos : Pos} {D : Addr} (hDF : D ≠ env.locals ∧ ∀ n, env.cells.lookup n ≠ some D) (hasy : ∀ g ∈ gens, g.is_async = 0) :
    ∀ (rest : List Comprehension) (g : Comprehension) (d : Nat), gens.drop d = g :: rest → ∀ (ρ : List (Str × V)) (vs : List V) (wss : List (List V)), Tn C A env σ elt g rest ρ vs wss →
      ∀ (it : Value) (own : List Addr) (St : Nat → Heap → List Addr → List Addr → Prop) (M : List CO → Prop), M σ → It C A g.target it own vs St M →
      ∀ (s : Shared) (cs xs : List Addr) (out : List V) (R : Result → Shared → Prop), Wd C env ρ σ s.heap cs (own ++ xs) → AccAt s.heap cs (own ++ xs) D out → D ∈ xs → (∀ a ∈ own, a ∉ xs) → env.locals ∈ xs → (∀ n c, env.cells.lookup n = some c → c ∈ xs) →
        St 0 s.heap cs (own ++ xs) → out.length + wss.flatten.length ≤ sizeLine →
        (∀ h' tk, Gx (fun b => FD env D b ∨ b ∈ own) cs s.heap cs h' → Wd C env ρ σ h' cs xs → AccAt h' cs xs D (out ++ wss.flatten) → R (.ok .next) { s with heap := h', toks := tk }) →
        codeAny (model C.prog C.w) A (.compLoop (.ListComp elt gens scope pos) d it (.ref D) env) R s := by
  intro rest
  induction rest with
  | nil =>
    intro g d hg ρ vs wss T it own St M hM hit s cs xs out R W a hDx hox hL hcl hst hz k
    obtain ⟨t, iter, ifs, asy⟩ := g
    obtain ⟨h1, h2⟩ := drop_get hg
    cases (show asy = 0 from hasy _ (List.mem_of_getElem? h1))
    refine loop_core hDF _ (compTurn_last h1 (drop_none h2)) T hM hit W a hDx hox hL hcl hst hz (fun i w ρ' s' out' Q hw hsub hcg hlen W' a' kk => ?_) k
    obtain ⟨w', he, rfl⟩ := hcg
    refine wpAny_bind (emit_run he W' a' (List.mem_append_right _ hDx) hDF (by omega) fun h' tk g' W'' a'' => wpAny_pure (kk h' tk g' W'' a''))
  | cons g' rest' ih =>
    intro g d hg ρ vs wss T it own St M hM hit s cs xs out R W a hDx hox hL hcl hst hz k
    obtain ⟨t, iter, ifs, asy⟩ := g
    obtain ⟨t', iter', ifs', asy'⟩ := g'
    obtain ⟨h1, h2⟩ := drop_get hg
    obtain ⟨h3, h4⟩ := drop_get h2
    cases (show asy = 0 from hasy _ (List.mem_of_getElem? h1))
    cases (show asy' = 0 from hasy _ (List.mem_of_getElem? h3))
    · refine loop_core hDF _ (compTurn_more h1 h3) T hM hit W a hDx hox hL hcl hst hz (fun i w ρ' s' out' Q hw hsub hcg hlen W' a' kk => ?_) k
      obtain ⟨_, hfold, vs', wss', ⟨M', hM', hev⟩, rfl, T'⟩ := hcg
      refine wpAny_bind (wpAny_mono (hev s' cs (own ++ xs) (fun i s₁ => ∃ own' St' h₁ tk₁, s₁ = { s' with heap := h₁, toks := tk₁ } ∧ Gx nX cs s'.heap cs h₁ ∧ CR h₁ cs (own' ++ (own ++ xs)) σ ∧ It C A t' i own' vs' St' M' ∧ (∀ a ∈ own', s'.heap.get? a = none) ∧ (∀ a ∈ own', a ∉ cs) ∧ St' 0 h₁ cs (own' ++ (own ++ xs))) W' fun i own' St' h₁ tk₁ cs₁ g₁ R₁ hit' hnew hoff hst' => ?_) (fun x s₁ hx => ?_) fun _ _ f => f.elim)
      · have ec : cs₁ = cs := same_cs W'.R R₁ g₁.pre
        subst ec
        exact ⟨own', St', h₁, tk₁, rfl, g₁, R₁, hit', hnew, hoff, hst'⟩
      · refine wpAny_bind (wpAny_standAt (wpAny_bind (wpAny_of_eq (hfold x) (wpAny_bind (wpAny_holding (wpAny_mono hx (fun i s₂ h₂ => ?_) fun _ _ f => f.elim))))))
        obtain ⟨own', St', h₁, tk₁, rfl, g₁, R₁, hit', hnew, hoff, hst'⟩ := h₂
        have hl' := hit'.live _ _ _ _ hst'
        have W₁ : Wd C env ρ' σ h₁ cs (own' ++ (own ++ xs)) := W'.more g₁ hnew hl' hoff R₁
        have hDc : D ∉ cs := W'.F.xoff D (List.mem_append_right _ hDx)
        have a₁ : AccAt h₁ cs (own' ++ (own ++ xs)) D out' := a'.mono g₁ (fun _ f => f.elim) (fun a ha => (List.mem_append.mp ha).elim (fun q => .inr (hnew a q)) .inl) hDc fun f => f
        have run : codeAny (model C.prog C.w) A (.compLoop (.ListComp elt gens scope pos) (d + 1) i (.ref D) env) (fun r s' => match r with | .ok f => wpAny (model C.prog C.w) A (again (.compLoop (.ListComp elt gens scope pos) d it (.ref D) env)) Q noE s' | .error e => cameBackBy (model C.prog C.w) A env noE e s') { s' with heap := h₁, toks := tk₁ } := by
          refine ih ⟨t', iter', ifs', 0⟩ (d + 1) h2 ρ' vs' wss' T' i own' St' M' hM' hit' _ cs (own ++ xs) out' _ W₁ a₁ (List.mem_append_right _ hDx) (fun a ha hm => ?_) (List.mem_append_right _ hL) (fun n c e => List.mem_append_right _ (hcl n c e)) hst' (by simpa using hlen) fun h' tk g' W'' a'' => ?_
          · obtain ⟨o, e⟩ := W'.F.xlive a hm; rw [hnew a ha] at e; cases e
          · refine wpAny_pure (kk h' tk ⟨g'.pre, fun b o e h1 h2 => ?_, fun _ ha => .inl ha⟩ W'' a'')
            exact g'.keep b o (g₁.keep b o e h1 fun f => f) h1 fun q => q.elim h2 fun q => by rw [hnew b q] at e; cases e
        refine wpAny_bind (wpAny_runOwn ?_)
        exact codeAny_compStart_at h3 run (hit'.self 0 _ cs _ _ hst' run)
end
end Mine

namespace Mine

/-! ### the frame of a comprehension -/

theorem closure_fold {env : Env} {f : Str × NameKind → List (Str × Addr) → Sem (ForInStep (List (Str × Addr)))}
    (hf : ∀ n k cs, f (n, k) cs = if k == .free then (do let a ← cellOf env n; pure (.yield ((n, a) :: cs))) else pure (.yield cs)) :
    ∀ (names : List (Str × NameKind)) (acc : List (Str × Addr)), (∀ n, (n, NameKind.free) ∈ names → (env.cells.lookup n).isSome = true) → (∀ n c, acc.lookup n = some c → env.cells.lookup n = some c) →
      ∃ cl, forIn names acc f = (pure cl : Sem (List (Str × Addr))) ∧ (∀ n c, cl.lookup n = some c → env.cells.lookup n = some c) ∧ (∀ n, (n, NameKind.free) ∈ names ∨ (acc.lookup n).isSome = true → (cl.lookup n).isSome = true) ∧ (∀ n, (cl.lookup n).isSome = true → (n, NameKind.free) ∈ names ∨ (acc.lookup n).isSome = true) := by
  intro names
  induction names with
  | nil => intro acc _ ha; exact ⟨acc, by rw [List.forIn_nil], ha, fun n h => h.elim (fun q => by cases q) id, fun n h => .inr h⟩
  | cons p r ih =>
    obtain ⟨n, k⟩ := p
    intro acc hs ha
    by_cases hk : (k == NameKind.free) = true
    · have hkf : k = .free := by simpa using hk
      obtain ⟨c, hc⟩ := Option.isSome_iff_exists.mp (hs n (hkf ▸ List.mem_cons_self))
      have ha' : ∀ m d, List.lookup m ((n, c) :: acc) = some d → env.cells.lookup m = some d := fun m d e => by
        rw [lookup_cons'] at e
        by_cases q : m = n
        · subst q; rw [if_pos rfl] at e; cases e; exact hc
        · rw [if_neg q] at e; exact ha m d e
      obtain ⟨cl, h1, h2, h3, h4⟩ := ih ((n, c) :: acc) (fun m hm => hs m (List.mem_cons_of_mem _ hm)) ha'
      refine ⟨cl, ?_, h2, fun m hm => h3 m ?_, fun m hm => ?_⟩
      · rw [List.forIn_cons, hf, if_pos hk]
        have : cellOf env n = pure c := by unfold cellOf; rw [hc]
        rw [this]
        exact h1
      · rcases hm with hm | hm
        · rcases List.mem_cons.mp hm with q | q
          · cases q; right; rw [lookup_cons', if_pos rfl]; rfl
          · exact .inl q
        · right
          rw [lookup_cons']
          by_cases q : m = n
          · rw [if_pos q]; rfl
          · rw [if_neg q]; exact hm
      · rcases h4 m hm with q | q
        · exact .inl (List.mem_cons_of_mem _ q)
        · rw [lookup_cons'] at q
          by_cases z : m = n
          · subst z; exact .inl (hkf ▸ List.mem_cons_self)
          · rw [if_neg z] at q; exact .inr q
    · obtain ⟨cl, h1, h2, h3, h4⟩ := ih acc (fun m hm => hs m (List.mem_cons_of_mem _ hm)) ha
      refine ⟨cl, ?_, h2, fun m hm => h3 m ?_, fun m hm => (h4 m hm).imp (List.mem_cons_of_mem _) id⟩
      · rw [List.forIn_cons, hf, if_neg hk]
        exact h1
      · rcases hm with hm | hm
        · rcases List.mem_cons.mp hm with q | q
          · cases q; exact absurd rfl hk
          · exact .inl q
        · exact .inr hm

theorem closure_some {scope : Scope} {env : Env} (hs : ∀ n, (n, NameKind.free) ∈ scope.names → (env.cells.lookup n).isSome = true) :
    ∃ cl, closureFor scope env = pure cl ∧ (∀ n c, cl.lookup n = some c → env.cells.lookup n = some c) ∧ (∀ n, (n, NameKind.free) ∈ scope.names → (cl.lookup n).isSome = true) ∧ (∀ n c, cl.lookup n = some c → (n, NameKind.free) ∈ scope.names) := by
  obtain ⟨cl, h1, h2, h3, h4⟩ := closure_fold (env := env) (f := fun x cs => if x.2 == .free then (do let a ← cellOf env x.1; pure (.yield ((x.1, a) :: cs))) else pure (.yield cs)) (fun _ _ _ => rfl) scope.names [] hs (fun n c e => by simp at e)
  refine ⟨cl, ?_, h2, fun n hn => h3 n (.inl hn), fun n c e => (h4 n (by rw [e]; rfl)).elim id fun q => by simp at q⟩
  unfold closureFor
  have : ∀ (x : Sem (List (Str × Addr))), x = pure cl → (x >>= fun r => pure r) = pure cl := fun x e => by rw [e]; rfl
  exact this _ h1

/-- the cells of a block: new ones, or the frame's around -/
structure CellsN (h : Heap) (lo : Nat) (names : List (Str × NameKind)) (cl cs : List (Str × Addr)) : Prop where
  each : ∀ n c, cs.lookup n = some c → (lo ≤ c ∧ h.IsCell c none ∧ (n, NameKind.cell) ∈ names) ∨ cl.lookup n = some c
  inj : ∀ n n' c, cs.lookup n = some c → cs.lookup n' = some c → n = n'

theorem cellsFrom_new {N : List (Str × NameKind)} {cl : List (Str × Addr)} {lo : Nat} (hcl : ∀ n c, cl.lookup n = some c → @LT.lt Nat _ c lo) :
    ∀ (names : List (Str × NameKind)) (h : Heap) (acc : List (Str × Addr)), (∀ p ∈ names, p ∈ N) → lo ≤ h.objs.size → CellsN h lo N cl acc → CellsN (pushCells h names) lo N cl (cellsFrom h.objs.size names acc)
  | [], h, acc, _, _, x => x
  | (name, kind) :: r, h, acc, hN, hlo, x => by
    unfold pushCells cellsFrom
    split
    · rename_i hk
      have hk' : kind = .cell := by simpa using hk
      have hsz : (h.push { cls := .type "cell", data := .cell none }).objs.size = h.objs.size + 1 := Heap.size_push _ _
      have := cellsFrom_new hcl r (h.push { cls := .type "cell", data := .cell none }) ((name, h.objs.size) :: acc) (fun p hp => hN p (.tail _ hp)) (by rw [hsz]; omega) ⟨?_, ?_⟩
      · rwa [hsz] at this
      · intro n c e
        rw [lookup_cons'] at e
        by_cases q : n = name
        · subst q; rw [if_pos rfl] at e; cases e
          exact .inl ⟨hlo, ⟨_, Heap.get?_push_size _ rfl, rfl⟩, hk' ▸ hN _ (.head _)⟩
        · rw [if_neg q] at e
          exact (x.each n c e).imp (fun y => ⟨y.1, y.2.1.keeps (push_keeps _ _), y.2.2⟩) id
      · have fresh : ∀ n c, acc.lookup n = some c → @Ne Nat c h.objs.size := fun n c e => by
          rcases x.each n c e with y | y
          · exact Nat.ne_of_lt y.2.1.lt
          · have := hcl n c y; omega
        intro n n' c e e'
        rw [lookup_cons'] at e e'
        by_cases q : n = name
        · by_cases q' : n' = name
          · rw [q, q']
          · rw [if_pos q] at e; rw [if_neg q'] at e'; cases e
            exact absurd rfl (fresh n' _ e')
        · rw [if_neg q] at e
          by_cases q' : n' = name
          · rw [if_pos q'] at e'; cases e'
            exact absurd rfl (fresh n _ e)
          · rw [if_neg q'] at e'; exact x.inj n n' c e e'
    · exact cellsFrom_new hcl r h acc (fun p hp => hN p (.tail _ hp)) hlo x

section
variable {C : Cx} {A : Around} {env : Env} {ρ ρ' : List (Str × V)} {σ σ' σ₁ σ₂ : List CO}

theorem newCompEnv {scope : Scope} {cl : List (Str × Addr)} {s : Shared} {Q : Env → Shared → Prop}
    (h : Q { scope := scope, locals := s.heap.objs.size, globals := env.globals, cells := cellsFrom (s.heap.objs.size + 1) scope.names cl, qual := env.qual, func := none, code := env.code, frame := env.frame, builtins := env.builtins }
      { s with heap := pushCells (s.heap.push { cls := .type "dict", data := .dict #[] }) scope.names }) :
    wpAny (model C.prog C.w) A (newFunctionEnv scope env.globals cl [] env.qual none .none (some env)) Q noE s := by
  simp only [newFunctionEnv, Option.isSome_some, if_true]
  refine wpAny_bind (wpAny_alloc ?_)
  refine wpAny_bind (wpAny_layCells _ (fun name kind cells => by cases hkc : kind == NameKind.cell <;> simp [hkc]) _ _ _ _ ?_)
  rw [show ({ s with heap := s.heap.push { cls := .type "dict", data := .dict #[] } } : Shared).heap.objs.size = s.heap.objs.size + 1 from Heap.size_push ..]
  exact wpAny_bind (by rw [List.forIn_nil]; exact wpAny_pure (wpAny_pure h))

theorem filter_lookup {p : Str → Bool} : ∀ {l : List (Str × V)} {x : Str} {v : V}, (l.filter fun q => p q.1).lookup x = some v → l.lookup x = some v ∧ p x = true
  | [], x, v, e => by simp at e
  | (n, w) :: r, x, v, e => by
    rw [lookup_cons']
    by_cases hp : p n = true
    · rw [List.filter_cons_of_pos (by simpa using hp), lookup_cons'] at e
      by_cases q : x = n
      · rw [if_pos q] at e ⊢; exact ⟨e, q ▸ hp⟩
      · rw [if_neg q] at e ⊢; exact filter_lookup e
    · rw [List.filter_cons_of_neg (by simpa using hp)] at e
      have := filter_lookup e
      by_cases q : x = n
      · exact absurd this.2 (q ▸ hp)
      · rw [if_neg q]; exact this

theorem lookup_relabel {env : Env} : ∀ {names : List (Str × NameKind)} {x : Str},
    (names.map fun (n, k) => if (k == NameKind.free && env.scope.kind == .function && env.kindOf n == some .cell) then (n, NameKind.cell) else (n, k)).lookup x =
      (names.lookup x).map fun k => if (k == NameKind.free && env.scope.kind == .function && env.kindOf x == some .cell) then NameKind.cell else k
  | [], x => rfl
  | (n, k) :: r, x => by
    have ih := @lookup_relabel env r x
    show List.lookup x ((if (k == NameKind.free && env.scope.kind == .function && env.kindOf n == some .cell) = true then (n, NameKind.cell) else (n, k)) :: _) = _
    have e : (if (k == NameKind.free && env.scope.kind == .function && env.kindOf n == some .cell) = true then (n, NameKind.cell) else (n, k)) = (n, if (k == NameKind.free && env.scope.kind == .function && env.kindOf n == some .cell) = true then NameKind.cell else k) := by split <;> rfl
    rw [e, lookup_cons', lookup_cons']
    by_cases q : x = n
    · subst q; rw [if_pos rfl, if_pos rfl]; rfl
    · rw [if_neg q, if_neg q]; exact ih

theorem mem_lookup_nodup {α : Type} : ∀ {l : List (Str × α)} {n : Str} {k : α}, (l.map (·.1)).Nodup → (n, k) ∈ l → l.lookup n = some k
  | (m, j) :: r, n, k, hnd, hm => by
    rw [lookup_cons']
    rcases List.mem_cons.mp hm with e | hm
    · cases e; rw [if_pos rfl]
    · have h1 := (List.nodup_cons.mp hnd).1
      have : n ≠ m := fun q => h1 (q ▸ List.mem_map.mpr ⟨(n, k), hm, rfl⟩)
      rw [if_neg this]; exact mem_lookup_nodup (List.nodup_cons.mp hnd).2 hm

/-- what is known of a block's names -/
def inner (scope : Scope) (ρ : List (Str × V)) : List (Str × V) := ρ.filter fun p => scope.names.lookup p.1 == some .free

theorem inner_lookup {scope : Scope} {x : Str} {v : V} (e : (inner scope ρ).lookup x = some v) : ρ.lookup x = some v ∧ scope.names.lookup x = some .free := by
  obtain ⟨h1, h2⟩ := filter_lookup (p := fun n => scope.names.lookup n == some .free) e
  exact ⟨h1, by simpa using h2⟩

/-- a list comprehension: ws all that its turns give -/
theorem comp_run {elt : Expr} {g : Comprehension} {rest : List Comprehension} {scope : Scope} {pos p : Pos} {vs : List V} {wss : List (List V)} {use : Option (Value → Sem Unit)}
    (hnd : (scope.names.map (·.1)).Nodup) (hfree : ∀ n, (n, NameKind.free) ∈ scope.names → env.kindOf n = some .cell) (hkind : scope.kind = .function) (hasy : ∀ g' ∈ g :: rest, g'.is_async = 0) (hfold : ∀ x, foldedSetIterable g.iter env x = pure x)
    {M : List CO → Prop} (hM : M σ₁) (he : EvIM M C A env ρ σ g.iter g.target vs σ₁) (hz : wss.flatten.length ≤ sizeLine)
    (T : ∀ (L : Addr) (cl : List (Str × Addr)), (∀ n c, scope.names.lookup n = some .cell → cl.lookup n = some c → @LT.lt Nat _ L c) → Tn C A (compEnvC scope cl L env) σ₁ elt g rest (inner scope ρ) vs wss)
    {s : Shared} {cs xs : List Addr} {Q : Value → Shared → Prop} (W : Wd C env ρ σ s.heap cs xs)
    (k : ∀ (D L : Addr) (h' : Heap) (tk : Nat) (cs' : List Addr) (m : Str → Option Value), h'.Ns L m → s.heap.get? L = none → s.heap.get? D = none → L ∉ cs' → Gx nX cs s.heap cs' h' → CR h' cs' (L :: xs) σ₁ → VR h' cs' (L :: xs) (.list wss.flatten) (.ref D) →
      compPost (model C.prog C.w) A noE use Q (.ref D) L (.ok .next) { s with heap := h', toks := tk }) :
    wpAny (model C.prog C.w) A (comprehension (.ListComp elt (g :: rest) scope pos) scope env p (newList []) false (eval g.iter env) use) Q noE s := by
  have hcs : ∀ n, (n, NameKind.free) ∈ scope.names → (env.cells.lookup n).isSome = true := fun n hn => W.F.csome n (hfree n hn)
  obtain ⟨cl, hclos, hcl1, hcl2, hcl3⟩ := closure_some hcs
  refine wpAny_comprehension_free (g := g) (gs := rest) (cl := cl) rfl hfold hclos hkind (fun x hx hl => mem_lookup_nodup hnd (by rw [← hl]; exact hx)) ?_
  refine wpAny_mono (he s cs xs (fun it s₁ => ∃ own St h₁ tk₁ cs₁, s₁ = { s with heap := h₁, toks := tk₁ } ∧ Gx nX cs s.heap cs₁ h₁ ∧ CR h₁ cs₁ (own ++ xs) σ₁ ∧ It C A g.target it own vs St M ∧ (∀ a ∈ own, s.heap.get? a = none) ∧ (∀ a ∈ own, a ∉ cs₁) ∧ St 0 h₁ cs₁ (own ++ xs)) W
    fun it own St h₁ tk₁ cs₁ g₁ R₁ hit hnew hoff hst => ⟨own, St, h₁, tk₁, cs₁, rfl, g₁, R₁, hit, hnew, hoff, hst⟩) (fun x s₁ hx => wpAny_mono hx (fun it s₂ h₂ => ?_) fun _ _ f => f.elim) fun _ _ f => f.elim
  obtain ⟨own, St, h₁, tk₁, cs₁, rfl, g₁, R₁, hit, hnew, hoff, hst⟩ := h₂
  have hlive := hit.live _ _ _ _ hst
  have W₁ : Wd C env ρ σ₁ h₁ cs₁ (own ++ xs) := W.more g₁ hnew hlive hoff R₁
  refine wpAny_newList ?_ (Nat.zero_le _)
  refine newCompEnv ?_
  -- the new objects: D the list, L the block's names, behind them its cells
  generalize hH2 : h₁.push { cls := .type "list", data := .seq ([] : List Value).toArray } = H2
  have hL : H2.objs.size = h₁.objs.size + 1 := by rw [← hH2, Heap.size_push]
  generalize hH3 : H2.push { cls := .type "dict", data := .dict #[] } = H3
  have hL3 : H3.objs.size = H2.objs.size + 1 := by rw [← hH3, Heap.size_push]
  generalize hD : h₁.objs.size = D at hL ⊢
  have k12 : ∀ b o, h₁.get? b = some o → H2.get? b = some o := fun b o e => hH2 ▸ push_keeps _ _ b o e
  have k23 : ∀ b o, H2.get? b = some o → H3.get? b = some o := fun b o e => hH3 ▸ push_keeps _ _ b o e
  have k34 : ∀ b o, H3.get? b = some o → (pushCells H3 scope.names).get? b = some o := pushCells_keeps _ _
  have hlt1 : ∀ b o, h₁.get? b = some o → @LT.lt Nat _ b D := fun b o e => hD ▸ Heap.lt_size e
  have hnl : ∀ a, @LE.le Nat _ D a → h₁.get? a = none := fun a ha => by
    cases q : h₁.get? a with
    | none => rfl
    | some o => have := hlt1 a o q; omega
  have hns : ∀ a, @LE.le Nat _ D a → s.heap.get? a = none := fun a ha => g₁.before (hnl a ha) (W₁.new a (hnl a ha)).1
  have hclt : ∀ n c, cl.lookup n = some c → @LT.lt Nat _ c D := fun n c e => by
    obtain ⟨o, q⟩ := W₁.F.xlive c (List.mem_append_right _ (W.F.cx n c (hcl1 n c e)))
    exact hlt1 c o q
  generalize hcells : cellsFrom (H2.objs.size + 1) scope.names cl = cells
  have cn : CellsN (pushCells H3 scope.names) H3.objs.size scope.names cl cells := by
    rw [← hcells, ← hL3]
    exact cellsFrom_new (fun n c e => by have := hclt n c e; omega) scope.names H3 cl (fun _ q => q) (Nat.le_refl _) ⟨fun n c e => .inr e, fun n n' c e e' => W.F.apart n n' c (hcl1 n c e) (hcl1 n' c e')⟩
  generalize hH4 : pushCells H3 scope.names = H4 at cn k34 ⊢
  generalize hLL : H2.objs.size = L at hL hL3 hcells ⊢
  have hHL : H3.get? L = some { cls := .type "dict", data := .dict #[] } := by rw [← hH3, ← hLL]; exact Heap.get?_push_size _ rfl
  have hHD : H4.PlainList D #[] := ⟨0, k34 _ _ (k23 _ _ (by rw [← hH2, ← hD]; exact Heap.get?_push_size _ rfl))⟩
  have hcell : ∀ n c, scope.names.lookup n = some .cell → cells.lookup n = some c → @LT.lt Nat _ L c := fun n c e e' => by
    rcases cn.each n c e' with y | y
    · have := y.1; rw [hL3] at this; omega
    · have := mem_lookup_nodup hnd (hcl3 n c y); rw [e] at this; cases this
  have hcells1 : ∀ n c, cells.lookup n = some c → (@LT.lt Nat _ L c ∧ H4.IsCell c none ∧ scope.names.lookup n = some .cell) ∨ (cl.lookup n = some c ∧ @LT.lt Nat _ c D) := fun n c e =>
    (cn.each n c e).imp (fun y => ⟨by have := y.1; rw [hL3] at this; omega, y.2.1, mem_lookup_nodup hnd y.2.2⟩) fun y => ⟨y, hclt n c y⟩
  let cenv := compEnvC scope cells L env
  let ys : List Addr := L :: ((cells.map (·.1)).filterMap (cells.lookup ·)).filter fun c => decide (@LT.lt Nat _ L c)
  have hys : ∀ a ∈ ys, FX cenv a := fun a ha => by
    rcases List.mem_cons.mp ha with rfl | ha
    · exact .inl rfl
    · obtain ⟨h1, h2⟩ := List.mem_filter.mp ha
      obtain ⟨n, hn, e⟩ := List.mem_filterMap.mp h1
      exact .inr ⟨of_decide_eq_true h2, n, e⟩
  have hfx : ∀ a, FX cenv a → a ∈ ys := fun a ha => by
    rcases ha with rfl | ⟨hlt, n, e⟩
    · exact .head _
    · exact .tail _ (List.mem_filter.mpr ⟨List.mem_filterMap.mpr ⟨n, List.mem_map.mpr ⟨(n, a), mem_of_lookup e, rfl⟩, e⟩, decide_eq_true hlt⟩)
  have hysL : ∀ a ∈ ys, @LE.le Nat _ L a := fun a ha => by
    rcases hys a ha with rfl | ⟨hlt, _⟩
    · exact Nat.le_refl _
    · exact Nat.le_of_lt hlt
  have k14 : ∀ b o, h₁.get? b = some o → H4.get? b = some o := fun b o e => k34 b o (k23 b o (k12 b o e))
  have g14 : Gx nX cs₁ h₁ cs₁ H4 := Gx.keeps k14
  have hnew' : ∀ a ∈ ys ++ (D :: xs), a ∈ xs ∨ @LE.le Nat _ D a := fun a ha => by
    rcases List.mem_append.mp ha with q | q
    · exact .inr (by have := hysL a q; omega)
    · rcases List.mem_cons.mp q with rfl | q
      · exact .inr (Nat.le_refl _)
      · exact .inl q
  have hxsA : ∀ a ∈ own ++ (ys ++ (D :: xs)), a ∈ own ++ xs ∨ h₁.get? a = none := fun a ha => by
    rcases List.mem_append.mp ha with q | q
    · exact .inl (List.mem_append_left _ q)
    · exact (hnew' a q).imp (List.mem_append_right _) (hnl a)
  have hxsB : ∀ a ∈ own ++ (ys ++ (D :: xs)), a ∈ xs ∨ s.heap.get? a = none := fun a ha => by
    rcases List.mem_append.mp ha with q | q
    · exact .inr (hnew a q)
    · exact (hnew' a q).imp id (hns a)
  have hsubA : ∀ a ∈ own ++ xs, a ∈ own ++ (ys ++ (D :: xs)) := fun a ha => by
    rcases List.mem_append.mp ha with q | q
    · exact List.mem_append_left _ q
    · exact List.mem_append_right _ (List.mem_append_right _ (.tail _ q))
  have gs4 : Gx nX cs s.heap cs₁ H4 := g₁.trans g14
  have kindFree : ∀ x, scope.names.lookup x = some .free → cenv.kindOf x = some .cell := fun x hx => by
    show (relabel scope env).names.lookup x = _
    unfold relabel
    rw [lookup_relabel, hx]
    simp [W.F.hk, hfree x (mem_of_lookup hx)]
  have hcx : ∀ n c, cenv.cells.lookup n = some c → c ∈ ys ++ (D :: xs) := fun n c e => by
    rcases hcells1 n c e with y | y
    · exact List.mem_append_left _ (hfx c (.inr ⟨y.1, n, e⟩))
    · exact List.mem_append_right _ (.tail _ (W.F.cx n c (hcl1 n c y.1)))
  have hLys : L ∈ ys ++ (D :: xs) := List.mem_append_left _ (.head _)
  have FRc : FR C.hB cenv (inner scope ρ) H4 cs₁ (own ++ (ys ++ (D :: xs))) := by
    refine ⟨hkind, fun b o e => k14 b o (W₁.F.base b o e), W₁.F.csB, fun a ha => ?_, fun a ha => ?_, fun a ha => ?_, List.mem_append_right _ hLys, fun n c e => List.mem_append_right _ (hcx n c e),
      ⟨fun _ => none, ?_, fun x v e kk => ?_⟩, fun n c e => ?_, cn.inj, fun n c e => ?_, fun n hk => ?_, ?_, W.F.gl, W.F.bl⟩
    · rcases hxsA a ha with q | q
      · exact W₁.F.xsB a q
      · cases z : C.hB.get? a with
        | none => rfl
        | some o => have := W₁.F.base a o z; rw [q] at this; cases this
    · rcases List.mem_append.mp ha with q | q
      · obtain ⟨o, e⟩ := hlive a q; exact ⟨o, k14 a o e⟩
      · rcases List.mem_append.mp q with q | q
        · rcases hys a q with rfl | ⟨hlt, n, e⟩
          · exact ⟨_, k34 _ _ hHL⟩
          · rcases hcells1 n a e with y | y
            · obtain ⟨o, e', _⟩ := y.2.1; exact ⟨o, e'⟩
            · have h3 : @LT.lt Nat _ L a := hlt; have := y.2; omega
        · rcases List.mem_cons.mp q with rfl | q
          · obtain ⟨n, e⟩ := hHD; exact ⟨_, e⟩
          · obtain ⟨o, e⟩ := W₁.F.xlive a (List.mem_append_right _ q); exact ⟨o, k14 a o e⟩
    · rcases hxsA a ha with q | q
      · exact W₁.F.xoff a q
      · exact (W₁.new a q).1
    · have := Heap.Ns.new H2 (.type "dict")
      rw [hH3, hLL] at this
      exact this.keeps k34
    · have := kindFree x (inner_lookup e).2
      rw [this] at kk; cases kk
    · rcases hcells1 n c e with y | y
      · refine ⟨none, y.2.1, fun v e1 e2 => ?_⟩
        have q := (inner_lookup e1).2
        rw [y.2.2] at q; cases q
      · obtain ⟨cv, hi, hv⟩ := W.F.cell n c (hcl1 n c y.1)
        have hcoff : c ∉ cs := W.F.xoff c (W.F.cx n c (hcl1 n c y.1))
        obtain ⟨o, ho, hd⟩ := hi
        refine ⟨cv, ⟨o, gs4.keep c o ho hcoff fun f => f, hd⟩, fun v e1 e2 => ?_⟩
        obtain ⟨e3, q⟩ := inner_lookup e1
        obtain ⟨val, e4, r⟩ := hv v e3 (hfree n (mem_of_lookup q))
        exact ⟨val, e4, r.mono gs4 (fun _ f => f.elim) hxsB⟩
    · rcases hcells1 n c e with y | y
      · exact neA (Nat.ne_of_gt y.1)
      · exact neA (by have := y.2; show @Ne Nat c L; omega)
    · have hk' : (relabel scope env).names.lookup n = some .cell := hk
      unfold relabel at hk'
      rw [lookup_relabel] at hk'
      show (cells.lookup n).isSome = true
      rw [← hcells]
      cases q : scope.names.lookup n with
      | none => rw [q] at hk'; simp at hk'
      | some kd =>
        cases kd with
        | cell => exact cellsFrom_some _ _ _ (.inl q)
        | free => exact cellsFrom_some _ _ _ (.inr (hcl2 n (mem_of_lookup q)))
        | _ => rw [q] at hk'; simp at hk'
    · have := W₁.F.size_le; show @LE.le Nat _ C.hB.objs.size L; omega
  have RRc : CR H4 cs₁ (own ++ (ys ++ (D :: xs))) σ₁ := R₁.mono g14 (fun _ f => f.elim) hxsA fun a _ o e => k14 a o e
  have Wc : Wd C cenv (inner scope ρ) σ₁ H4 cs₁ (own ++ (ys ++ (D :: xs))) := ⟨FRc, RRc⟩
  have hDF : D ≠ cenv.locals ∧ ∀ n, cenv.cells.lookup n ≠ some D := ⟨neA (by show @Ne Nat D L; omega), fun n e => by
    rcases hcells1 n D e with y | y
    · have := y.1; omega
    · exact absurd y.2 (Nat.lt_irrefl _)⟩
  have stc : St 0 H4 cs₁ (own ++ (ys ++ (D :: xs))) := hit.mono _ _ _ _ nX _ _ _ hst g14 (fun _ f => f.elim) hsubA hxsA
  have hDcs : D ∉ cs₁ := (W₁.new D (hnl D (Nat.le_refl _))).1
  have hDxs : D ∉ xs := fun q => (W₁.new D (hnl D (Nat.le_refl _))).2 (List.mem_append_right _ q)
  have hLcs : L ∉ cs₁ := (W₁.new L (hnl L (by omega))).1
  have run : codeAny (model C.prog C.w) A (.compLoop (.ListComp elt (g :: rest) scope pos) 0 it (.ref D) cenv) (compPost (model C.prog C.w) A noE use Q (.ref D) L) { s with heap := H4, toks := tk₁ } := by
    refine loop_run hDF hasy rest g 0 rfl (inner scope ρ) vs wss (T L cells hcell) it own St M hM hit _ cs₁ (ys ++ (D :: xs)) [] _ Wc ⟨#[], hHD, .nil⟩ (List.mem_append_right _ (.head _)) (fun a ha hm => ?_) hLys hcx stc (by simpa using hz) fun h' tk' g' W' a' => ?_
    · rcases hnew' a hm with q | q
      · obtain ⟨o, e⟩ := W.F.xlive a q; rw [hnew a ha] at e; cases e
      · obtain ⟨o, e⟩ := hlive a ha; rw [hnl a q] at e; cases e
    · obtain ⟨m, hm, _⟩ := W'.F.ns
      have hLx : ∀ a ∈ L :: xs, a ∈ ys ++ (D :: xs) := fun a ha => by
        rcases List.mem_cons.mp ha with rfl | ha
        · exact hLys
        · exact List.mem_append_right _ (.tail _ ha)
      refine k D L h' tk' cs₁ m hm (hns L (by omega)) (hns D (Nat.le_refl _)) hLcs ⟨g₁.pre, fun b o e hn _ => ?_, g₁.fresh⟩ (W'.R.less hLx) ?_
      · have e4 := gs4.keep b o e hn fun f => f
        have hb : @LT.lt Nat _ b D := by
          refine Nat.lt_of_not_le fun q => ?_
          rw [hns b q] at e; cases e
        exact g'.keep b o e4 (g₁.off e hn) fun q => by
          rcases q with (q | q) | q
          · rcases q with q | ⟨q, _⟩
            · have : @Eq Nat b L := q; omega
            · have : @LT.lt Nat _ L b := q; omega
          · exact Nat.lt_irrefl _ (q ▸ hb)
          · rw [hnew b q] at e; cases e
      · obtain ⟨us, hp, rs⟩ := a'
        refine .mkList hp hDcs (fun q => ?_) ?_
        · rcases List.mem_cons.mp q with q | q
          · have : @Eq Nat D L := q; omega
          · exact hDxs q
        · have := rs.less hLx
          simpa using this
  have hg0 : (g :: rest)[0]? = some ⟨g.target, g.iter, g.ifs, 0⟩ := by
    have := hasy g (.head _)
    obtain ⟨a, b, c, d⟩ := g
    cases (show d = 0 from this); rfl
  exact codeAny_compStart_at hg0 run (hit.self 0 _ cs₁ _ _ stc run)

/-- the block's names are let go -/
theorem letL {h' h'' : Heap} {cs cs' xs : List Addr} {L : Addr} {h : Heap} (g : Gx nX cs h cs' h') (hL : h.get? L = none) (hLc : L ∉ cs') (hs : Heap.SameBut L h' h'') :
    Gx nX cs h cs' h'' ∧ (∀ {σ}, CR h' cs' (L :: xs) σ → CR h'' cs' xs σ) ∧ (∀ {v x}, VR h' cs' (L :: xs) v x → VR h'' cs' xs v x) := by
  have gL : Gx (· = L) cs' h' cs' h'' := Gx.updX rfl hs
  have hLX : ∀ b, b = L → b ∈ L :: xs := fun b e => e ▸ .head _
  refine ⟨⟨g.pre, fun b o e hn _ => hs.extBut b o (fun q => by rw [q, hL] at e; cases e) (g.keep b o e hn fun f => f), g.fresh⟩, fun R => R.mono gL hLX (fun a ha => .inl (.tail _ ha)) fun a ha o e => hs.extBut a o (fun q => hLc (q ▸ ha)) e, fun r => r.mono gL hLX fun a ha => .inl (.tail _ ha)⟩

theorem Ev.comp {elt t iter : Expr} {ifs : List Expr} {rest : List Comprehension} {scope : Scope} {pos : Pos} {vs : List V} {wss : List (List V)} {ws : List V}
    {M : List CO → Prop} (he : EvIM M C A env ρ σ iter t vs σ') (hw : ws = wss.flatten) (hz : wss.flatten.length ≤ sizeLine)
    (T : ∀ (L : Addr) (cl : List (Str × Addr)), (∀ n c, scope.names.lookup n = some .cell → cl.lookup n = some c → @LT.lt Nat _ L c) → Tn C A (compEnvC scope cl L env) σ' elt ⟨t, iter, ifs, 0⟩ rest (inner scope ρ) vs wss)
    (hnd : (scope.names.map (·.1)).Nodup) (hfree : ∀ n, (n, NameKind.free) ∈ scope.names → env.kindOf n = some .cell) (hkind : scope.kind = .function) (hasy : ∀ g' ∈ rest, g'.is_async = 0) (hfold : ∀ x, foldedSetIterable iter env x = pure x) (hM : M σ' := by trivial) :
    Ev C A env ρ σ (.ListComp elt (⟨t, iter, ifs, 0⟩ :: rest) scope pos) (.list ws) σ' := fun s cs xs Q W k => by
  rw [eval_ListComp]
  refine comp_run (g := ⟨t, iter, ifs, 0⟩) (use := none) hnd hfree hkind (fun g' hg => (List.mem_cons.mp hg).elim (fun q => by rw [q]) (hasy g')) hfold hM he hz T W fun D L h' tk cs' m hm hL hDn hLc g R r => ?_
  refine ⟨m, hm, fun h'' hs => ?_⟩
  obtain ⟨g', R', r'⟩ := letL (xs := xs) g hL hLc hs
  subst hw
  exact k (.ref D) h'' tk cs' g' (R' R) (r' r)

/-- a comprehension stored by a name of the frame's own (its value goes in before the block's names go) -/
theorem X1.asgC {elt t iter : Expr} {ifs : List Expr} {rest : List Comprehension} {scope : Scope} {pos spos xp : Pos} {x : Str} {vs : List V} {wss : List (List V)} {ws : List V} {Φ : Out → Prop}
    {M : List CO → Prop} (he : EvIM M C A env ρ σ iter t vs σ') (hw : ws = wss.flatten) (hz : wss.flatten.length ≤ sizeLine)
    (T : ∀ (L : Addr) (cl : List (Str × Addr)), (∀ n c, scope.names.lookup n = some .cell → cl.lookup n = some c → @LT.lt Nat _ L c) → Tn C A (compEnvC scope cl L env) σ' elt ⟨t, iter, ifs, 0⟩ rest (inner scope ρ) vs wss)
    (hb : Sn C A env ρ σ' x (.list ws) ρ') (hp : Φ (.next ρ' σ'))
    (hsw : swapsWith (.ListComp elt (⟨t, iter, ifs, 0⟩ :: rest) scope pos) (some (.Name x xp)) spos.line env = pure true)
    (hnd : (scope.names.map (·.1)).Nodup) (hfree : ∀ n, (n, NameKind.free) ∈ scope.names → env.kindOf n = some .cell) (hkind : scope.kind = .function) (hasy : ∀ g' ∈ rest, g'.is_async = 0) (hfold : ∀ x, foldedSetIterable iter env x = pure x) (hM : M σ' := by trivial) :
    X1 C A env ρ σ (.Assign [.Name x xp] (.ListComp elt (⟨t, iter, ifs, 0⟩ :: rest) scope pos) spos) Φ := fun s cs xs Q W k => by
  rw [exec_Assign_Name_used _ _ _ _ hsw]
  refine wpAny_bind (wpAny_standAt (wpAny_bind ?_))
  show wpAny _ _ (comprehension (.ListComp elt (⟨t, iter, ifs, 0⟩ :: rest) scope pos) scope env (firstIterPos (⟨t, iter, ifs, 0⟩ :: rest) pos) (newList []) false (eval iter env) (some (assign (.Name x xp) env)) >>= fun _ => pure ()) _ _ s
  refine wpAny_bind (comp_run (g := ⟨t, iter, ifs, 0⟩) (use := some (assign (.Name x xp) env)) hnd hfree hkind (fun g' hg => (List.mem_cons.mp hg).elim (fun q => by rw [q]) (hasy g')) hfold hM he hz T W fun D L h' tk cs' m hm hL hDn hLc g R r => ?_)
  have hLive : ∃ o, h'.get? L = some o := by obtain ⟨o, _, _, e, _⟩ := id hm; exact ⟨o, e⟩
  have hLx : L ∉ xs := fun q => by obtain ⟨o, e⟩ := W.F.xlive L q; rw [hL] at e; cases e
  have hFL : ¬ FX env L := fun q => hLx (W.F.fx L q)
  have W' : Wd C env ρ σ' h' cs' ([L] ++ xs) := W.more g (fun a ha => by rw [List.mem_singleton.mp ha]; exact hL) (fun a ha => by rw [List.mem_singleton.mp ha]; exact hLive) (fun a ha => by rw [List.mem_singleton.mp ha]; exact hLc) R
  refine (Bn.name hb) _ cs' ([L] ++ xs) (.ref D) _ W' (hw ▸ r) fun h₂ tk₂ g₂ W₂ => ?_
  refine ⟨m, hm.at' fun o e => g₂.keep L o e hLc hFL, fun h₃ hs => ?_⟩
  have kp : Kp [L] h₂ h₃ := Kp.same hs (List.mem_singleton.mpr rfl)
  have W₃ : Wd C env ρ' σ' h₃ cs' xs := W₂.ownDone kp (fun a ha => by rw [List.mem_singleton.mp ha]; exact hLx) W.F.Lx W.F.cx (fun a ha => by rw [List.mem_singleton.mp ha]; exact hLc)
  refine wpAny_pure (wpAny_pure (k (.next ρ' σ') .next h₃ tk₂ cs' hp ?_ W₃))
  exact ((g.ofF W.F).trans g₂).own kp fun a ha => by rw [List.mem_singleton.mp ha]; exact hL
end
end Mine

namespace Mine

/-- v is a list with the items vs, frozen or changing -/
inductive LV (σ : List CO) : V → List V → Prop
  | list (vs : List V) : LV σ (.list vs) vs
  | mu {c : Nat} {vs : List V} (h : σ[c]? = some (.list vs)) : LV σ (.mu c) vs

section
variable {C : Cx} {A : Around} {env : Env} {ρ ρ' : List (Str × V)} {σ σ' σ₁ σ₂ : List CO}

theorem LV.at_ {h : Heap} {cs xs : List Addr} {v : V} {vs : List V} {val : Value} (l : LV σ v vs) (R : CR h cs xs σ) (r : VR h cs xs v val) : ∃ a us, val = .ref a ∧ h.PlainList a us ∧ VRs h cs xs vs us.toList := by
  cases l with
  | list vs =>
    obtain ⟨a, us, rfl, hl, _, _, rs⟩ := r.listAt
    exact ⟨a, us, rfl, hl, rs⟩
  | mu h =>
    obtain ⟨a, rfl, hc⟩ := r.muI
    obtain ⟨us, hp, rs⟩ := R.at_ _ _ _ hc h
    exact ⟨_, us, rfl, hp, rs⟩

@[elab_as_elim] theorem LV.atE {h : Heap} {cs xs : List Addr} {v : V} {vs : List V} {val : Value} {motive : Value → Prop} (l : LV σ v vs) (R : CR h cs xs σ) (r : VR h cs xs v val) (k : ∀ a us, h.PlainList a us → VRs h cs xs vs us.toList → motive (.ref a)) : motive val := by
  obtain ⟨a, us, rfl, h1, h2⟩ := l.at_ R r; exact k a us h1 h2

abbrev Li (ns : List Int) : V := .list (ns.map V.int)
abbrev Lb (bs : List Bool) : V := .list (bs.map V.bool)
theorem VRs.toInts {h : Heap} {cs xs : List Addr} : ∀ {ns : List Int} {us : List Value}, VRs h cs xs (ns.map V.int) us → IntsAre us ns
  | [], us, r => by
    have := r.1; simp at this
    rw [List.length_eq_zero_iff.mp this.symm]; exact .nil
  | n :: ns, [], r => by have := r.1; simp at this
  | n :: ns, u :: us, r => by
    have r0 : VR h cs xs (.int n) u := r.2 0 _ u rfl rfl
    obtain ⟨t0, rfl⟩ := r0.intI
    exact .cons n _ (VRs.toInts (ns := ns) ⟨by have := r.1; simp at this ⊢; omega, fun i v x e1 e2 => r.2 (i + 1) v x (by simpa using e1) (by simpa using e2)⟩)
theorem VRs.ofInts {h : Heap} {cs xs : List Addr} : ∀ {ns : List Int} {us : List Value}, IntsAre us ns → VRs h cs xs (ns.map V.int) us
  | _, _, .nil => .nil
  | _, _, .cons n t r => .cons (.int n t) (VRs.ofInts r)

theorem VRs.sub {h : Heap} {cs xs : List Addr} {vs : List V} {us : List Value} (r : VRs h cs xs vs us) (f : Nat → Nat) {vs' : List V} {us' : List Value} (hl : vs'.length = us'.length) (h1 : ∀ i v, vs'[i]? = some v → vs[f i]? = some v) (h2 : ∀ i u, us'[i]? = some u → us[f i]? = some u) : VRs h cs xs vs' us' :=
  ⟨hl, fun i v x e1 e2 => r.2 (f i) v x (h1 i v e1) (h2 i x e2)⟩
theorem VRs.take {h : Heap} {cs xs : List Addr} {vs : List V} {us : List Value} (r : VRs h cs xs vs us) (n : Nat) : VRs h cs xs (vs.take n) (us.take n) :=
  r.sub id (by simp [r.1]) (fun i v e => by rw [List.getElem?_take] at e; split at e; exact e; cases e) fun i v e => by rw [List.getElem?_take] at e; split at e; exact e; cases e
theorem VRs.drop {h : Heap} {cs xs : List Addr} {vs : List V} {us : List Value} (r : VRs h cs xs vs us) (n : Nat) : VRs h cs xs (vs.drop n) (us.drop n) :=
  r.sub (n + ·) (by simp [r.1]) (fun i v e => by rwa [List.getElem?_drop] at e) fun i v e => by rwa [List.getElem?_drop] at e
theorem VRs.append {h : Heap} {cs xs : List Addr} : ∀ {vs ws : List V} {us ts : List Value}, VRs h cs xs vs us → VRs h cs xs ws ts → VRs h cs xs (vs ++ ws) (us ++ ts)
  | [], ws, us, ts, r, r' => by
    have := r.1; simp at this
    rw [List.length_eq_zero_iff.mp this.symm]; exact r'
  | v :: vs, ws, [], ts, r, _ => by have := r.1; simp at this
  | v :: vs, ws, u :: us, ts, r, r' => .cons (r.2 0 v u rfl rfl) (VRs.append ⟨by have := r.1; simp at this ⊢; omega, fun i v x e1 e2 => r.2 (i + 1) v x (by simpa using e1) (by simpa using e2)⟩ r')
theorem VRs.rev {h : Heap} {cs xs : List Addr} : ∀ {vs : List V} {us : List Value}, VRs h cs xs vs us → VRs h cs xs vs.reverse us.reverse
  | [], us, r => by
    have := r.1; simp at this
    rw [List.length_eq_zero_iff.mp this.symm]; exact .nil
  | v :: vs, [], r => by have := r.1; simp at this
  | v :: vs, u :: us, r => by
    rw [List.reverse_cons, List.reverse_cons]
    exact (VRs.rev ⟨by have := r.1; simp at this ⊢; omega, fun i v x e1 e2 => r.2 (i + 1) v x (by simpa using e1) (by simpa using e2)⟩).append (.cons (r.2 0 v u rfl rfl) .nil)

theorem VR.intAt {h : Heap} {cs xs : List Addr} {i : Int} {val : Value} (r : VR h cs xs (.int i) val) : ∃ t, val = .int i t := r.inv

/-- a new list -/
theorem Kt.newList {s : Shared} {cs xs : List Addr} {vs : List V} {us : List Value} {h' : Heap} {tk : Nat} {D : Addr} {Q : Value → Shared → Prop} (k : Kt σ (.list vs) s cs xs Q) (W : Wd C env ρ σ s.heap cs xs) (hk : ∀ b o, s.heap.get? b = some o → h'.get? b = some o)
    (hD : s.heap.get? D = none) (hp : h'.PlainList D us.toArray) (r : VRs s.heap cs xs vs us) : Q (.ref D) { s with heap := h', toks := tk } :=
  k.keeps W hk (.mkList hp (W.new D hD).1 (W.new D hD).2 (by simpa using r.on (Gx.keeps (cs := cs) hk)))

/-! items -/
theorem tail_list {value slice : Expr} {a : Addr} {us : Array Value} {i : Int} {t : Tok} {x : Value} {s : Shared} {Q : Value → Shared → Prop} (hl : s.heap.PlainList a us) (h0 : 0 ≤ i) (hfit : i < 2 ^ 63) (hx : us[i.toNat]? = some x) (h : Q x s)
    (hs : subscripted slice false (.ref a) (.int i t) = operate [.ref a, .int i t] (getItem (.ref a) (.int i t))) : wpAny (model C.prog C.w) A (subscriptTail value slice (.ref a) (.int i t)) Q noE s :=
  tail_any hl.isList.typeIs slot_list_getitem.lookup (wpAny_getItem_list hl.isList h0 hfit hx h) hs

theorem Ev.item {e₁ e₂ : Expr} {pos : Pos} {v₁ v : V} {vs : List V} {i : Int} (h₁ : Ev C A env ρ σ e₁ v₁ σ₁) (h₂ : Ev C A env ρ σ₁ e₂ (.int i) σ') (hl : LV σ' v₁ vs) (h0 : 0 ≤ i) (hfit : i < 2 ^ 63) (hv : vs[i.toNat]? = some v)
    (hs : ∀ o j, subscripted e₂ false o j = operate [o, j] (getItem o j)) : Ev C A env ρ σ (.Subscript e₁ e₂ pos) v σ' := fun s cs xs Q W k => by
  refine Subscript_ (h₁ s cs xs _ W fun a ha ta ca ga Ra ra => ?_)
  refine h₂ _ ca xs _ (W.on ga Ra) fun b hb tb cb gb Rb rb => ?_
  refine rb.intE fun tk => hl.atE Rb (ra.on gb) fun a' us hp rs => ?_
  obtain ⟨x, ex, rx⟩ := rs.getA hv
  exact tail_list hp h0 hfit ex (((k.after ga).after gb).here ((W.on ga Ra).on gb Rb) rx) (hs _ _)
theorem Ev.itemNeg {e₁ e₂ : Expr} {pos : Pos} {v₁ v : V} {vs : List V} {i : Int} (h₁ : Ev C A env ρ σ e₁ v₁ σ₁) (h₂ : Ev C A env ρ σ₁ e₂ (.int i) σ') (hl : LV σ' v₁ vs) (h0 : i < 0) (h1 : -(vs.length : Int) ≤ i) (hfit : -(2 ^ 63) ≤ i) (hv : vs[(i + vs.length).toNat]? = some v)
    (hs : ∀ o j, subscripted e₂ false o j = operate [o, j] (getItem o j)) : Ev C A env ρ σ (.Subscript e₁ e₂ pos) v σ' := fun s cs xs Q W k => by
  refine Subscript_ (h₁ s cs xs _ W fun a ha ta ca ga Ra ra => ?_)
  refine h₂ _ ca xs _ (W.on ga Ra) fun b hb tb cb gb Rb rb => ?_
  refine rb.intE fun tk => hl.atE Rb (ra.on gb) fun a' us hp rs => ?_
  obtain ⟨x, ex, rx⟩ := rs.getA hv
  have hn := rs.sz
  exact tail_any hp.isList.typeIs slot_list_getitem.lookup (wpAny_getItem_list_neg hp.isList h0 (by rw [hn]; exact h1) hfit (by rw [hn]; exact ex) (((k.after ga).after gb).here ((W.on ga Ra).on gb Rb) rx)) (hs _ _)
theorem Ev.itemT {e₁ e₂ : Expr} {pos : Pos} {v : V} {vs : List V} {i : Int} (h₁ : Ev C A env ρ σ e₁ (.tup vs) σ₁) (h₂ : Ev C A env ρ σ₁ e₂ (.int i) σ') (h0 : 0 ≤ i) (hfit : i < 2 ^ 63) (hv : vs[i.toNat]? = some v)
    (hs : ∀ o j, subscripted e₂ false o j = operate [o, j] (getItem o j)) : Ev C A env ρ σ (.Subscript e₁ e₂ pos) v σ' := fun s cs xs Q W k => by
  refine Subscript_ (h₁ s cs xs _ W fun a ha ta ca ga Ra ra => ?_)
  refine h₂ _ ca xs _ (W.on ga Ra) fun b hb tb cb gb Rb rb => ?_
  refine rb.intE fun tk => (ra.on gb).tupE fun a' us hp _ _ rs => ?_
  obtain ⟨x, ex, rx⟩ := rs.get hv
  have hi : i.toNat < us.toList.length := (List.getElem?_eq_some_iff.mp ex).1
  refine item_tupleT (l := us.toList) (j := i.toNat) (show IsTup _ _ _ from hp) (by omega) hfit ?_ ex (((k.after ga).after gb).here ((W.on ga Ra).on gb Rb) rx) (hs _ _)
  unfold seqIndex?
  simp only [show ¬ i < 0 by omega, if_false]
  rw [if_pos (by simp only [Bool.and_eq_true, decide_eq_true_eq]; omega)]

/-! slices of a list under a name -/
theorem Ev.upto {e₁ e₂ : Expr} {p pos : Pos} {v₁ : V} {vs : List V} {n : Nat} (h₁ : Ev C A env ρ σ e₁ v₁ σ₁) (h₂ : Ev C A env ρ σ₁ e₂ (.int n) σ') (hl : LV σ' v₁ vs) (hz : vs.length ≤ sizeLine) (ht : ∀ o r, letTemporaryGo e₁ o r = pure ()) :
    Ev C A env ρ σ (.Subscript e₁ (.Slice none (some e₂) none p) pos) (.list (vs.take n)) σ' := fun s cs xs Q W k => by
  refine wpAny_Subscript_list_slice (h₁ s cs xs _ W fun a ha ta ca ga Ra ra => ?_) ht
  refine wpAny_evalPart_none (wpAny_evalPart_some (h₂ _ ca xs _ (W.on ga Ra) fun b hb tb cb gb Rb rb => ?_))
  refine rb.intE fun tt => hl.atE Rb (ra.on gb) fun a' us hp rs => ?_
  have hn := rs.sz
  refine ⟨a', us, none, some (n : Int), rfl, hp.isList, by rw [hn]; exact hz, .none, .int _ _, ?_⟩
  rw [slicePick_upto']
  have kk : ∀ b o, hb.get? b = some o → ((hb.push { cls := .type "slice", data := .fields #[.none, .int (n : Int) tt, .none] }).push { cls := .type "list", data := .seq (us.toList.take n).toArray }).get? b = some o := fun b o e => push_keeps _ _ b o (push_keeps _ _ b o e)
  refine ((k.after ga).after gb).newList (D := hb.objs.size + 1) (us := us.toList.take n) ((W.on ga Ra).on gb Rb) kk (size_more hb 1) ⟨0, ?_⟩ (rs.take n)
  rw [← Heap.size_push hb { cls := .type "slice", data := .fields #[.none, .int (n : Int) tt, .none] }]
  exact Heap.get?_push_size _ rfl
theorem Ev.from {e₁ e₂ : Expr} {p pos : Pos} {v₁ : V} {vs : List V} {n : Nat} (h₁ : Ev C A env ρ σ e₁ v₁ σ₁) (h₂ : Ev C A env ρ σ₁ e₂ (.int n) σ') (hl : LV σ' v₁ vs) (hz : vs.length ≤ sizeLine) (ht : ∀ o r, letTemporaryGo e₁ o r = pure ()) :
    Ev C A env ρ σ (.Subscript e₁ (.Slice (some e₂) none none p) pos) (.list (vs.drop n)) σ' := fun s cs xs Q W k => by
  refine wpAny_Subscript_list_slice (h₁ s cs xs _ W fun a ha ta ca ga Ra ra => ?_) ht
  refine wpAny_evalPart_some (h₂ _ ca xs _ (W.on ga Ra) fun b hb tb cb gb Rb rb => wpAny_evalPart_none ?_)
  refine rb.intE fun tt => hl.atE Rb (ra.on gb) fun a' us hp rs => ?_
  have hn := rs.sz
  refine ⟨a', us, some (n : Int), none, rfl, hp.isList, by rw [hn]; exact hz, .int _ _, .none, ?_⟩
  rw [slicePick_from']
  have kk : ∀ b o, hb.get? b = some o → ((hb.push { cls := .type "slice", data := .fields #[.int (n : Int) tt, .none, .none] }).push { cls := .type "list", data := .seq (us.toList.drop n).toArray }).get? b = some o := fun b o e => push_keeps _ _ b o (push_keeps _ _ b o e)
  refine ((k.after ga).after gb).newList (D := hb.objs.size + 1) (us := us.toList.drop n) ((W.on ga Ra).on gb Rb) kk (size_more hb 1) ⟨0, ?_⟩ (rs.drop n)
  rw [← Heap.size_push hb { cls := .type "slice", data := .fields #[.int (n : Int) tt, .none, .none] }]
  exact Heap.get?_push_size _ rfl
theorem Ev.rev {e₁ e₂ : Expr} {p pos : Pos} {v₁ : V} {vs : List V} (h₁ : Ev C A env ρ σ e₁ v₁ σ₁) (h₂ : Ev C A env ρ σ₁ e₂ (.int (-1)) σ') (hl : LV σ' v₁ vs) (hz : vs.length ≤ sizeLine) (ht : ∀ o r, letTemporaryGo e₁ o r = pure ()) :
    Ev C A env ρ σ (.Subscript e₁ (.Slice none none (some e₂) p) pos) (.list vs.reverse) σ' := fun s cs xs Q W k => by
  refine wpAny_Subscript_Slice_step (T := "list") slot_list_getitem.lookup (h₁ s cs xs _ W fun a ha ta ca ga Ra ra => ?_) ht
  refine wpAny_Slice (wpAny_evalPart_none (wpAny_evalPart_none (wpAny_evalPart_some (h₂ _ ca xs _ (W.on ga Ra) fun b hb tb cb gb Rb rb => ?_))))
  refine rb.intE fun tt => hl.atE Rb (ra.on gb) fun a' us hp rs => ?_
  have hn := rs.sz
  have k1 := push_keeps hb { cls := .type "slice", data := .fields #[.none, .none, .int (-1) tt] }
  have hp' : (hb.push { cls := .type "slice", data := .fields #[.none, .none, .int (-1) tt] }).PlainList a' us := hp.at fun o e => k1 _ o e
  refine ⟨hp'.isList.typeIs, wpAny_getItem_list_slice hp'.isList ⟨_, Heap.get?_push_size _ rfl, rfl, rfl⟩ .none .none (.int _ _) (by decide) ?_ (by rw [hn]; exact hz)⟩
  rw [krv_pick]
  have kk : ∀ b o, hb.get? b = some o → ((hb.push { cls := .type "slice", data := .fields #[.none, .none, .int (-1) tt] }).push { cls := .type "list", data := .seq us.toList.reverse.toArray }).get? b = some o := fun b o e => push_keeps _ _ b o (k1 b o e)
  refine ((k.after (t₁ := ta) ga).after (t₁ := tb) gb).newList (us := us.toList.reverse) ((W.on ga Ra).on gb Rb) kk ?_ ⟨0, Heap.get?_push_size _ rfl⟩ rs.rev
  rw [Heap.size_push]; exact size_more hb 1
end
end Mine

namespace Mine

/-! ### data compared -/
inductive Cmp (σ : List CO) : Nat → V → V → Bool → Prop
  | int {n : Nat} (a b : Int) : Cmp σ n (.int a) (.int b) (a == b)
  | bool {n : Nat} (a b : Bool) : Cmp σ n (.bool a) (.bool b) (a == b)
  | str {n : Nat} (a b : Str) : Cmp σ n (.str a) (.str b) (a == b)
  | intStr {n : Nat} (a : Int) (b : Str) : Cmp σ n (.int a) (.str b) false
  | strInt {n : Nat} (a : Str) (b : Int) : Cmp σ n (.str a) (.int b) false
  | lists {n : Nat} {v w : V} {vs ws : List V} {e : Nat → Bool} (hv : LV σ v vs) (hw : LV σ w ws) (hl : vs.length = ws.length)
      (he : ∀ (j : Nat) (a b : V), vs[j]? = some a → ws[j]? = some b → Cmp σ n a b (e j)) : Cmp σ (n + 1) v w ((List.range vs.length).all e)
  | listsLen {n : Nat} {v w : V} {vs ws : List V} (hv : LV σ v vs) (hw : LV σ w ws) (hl : vs.length ≠ ws.length) : Cmp σ (n + 1) v w false
  | tups {n : Nat} {vs ws : List V} {e : Nat → Bool} (hl : vs.length = ws.length)
      (he : ∀ (j : Nat) (a b : V), vs[j]? = some a → ws[j]? = some b → Cmp σ n a b (e j)) : Cmp σ (n + 1) (.tup vs) (.tup ws) ((List.range vs.length).all e)

section
variable {C : Cx} {A : Around} {env : Env} {ρ ρ' : List (Str × V)} {σ σ' σ₁ σ₂ : List CO}

theorem plainList_inj {h : Heap} {a : Addr} {us ts : Array Value} (x : h.PlainList a us) (y : h.PlainList a ts) : us = ts := by
  obtain ⟨n, e⟩ := x
  obtain ⟨m, e'⟩ := y
  rw [e] at e'; cases e'; rfl
theorem isTuple_inj {h : Heap} {a : Addr} {us ts : Array Value} (x : h.IsTuple a us) (y : h.IsTuple a ts) : us = ts := by
  obtain ⟨o, e, _, n, d⟩ := x
  obtain ⟨o', e', _, n', d'⟩ := y
  rw [e] at e'; cases e'; rw [d] at d'; cases d'; rfl

theorem range_all_true {n : Nat} {e : Nat → Bool} (h : ∀ j, j < n → e j = true) : (List.range n).all e = true := by
  rw [List.all_eq_true]; intro j hj; exact h j (List.mem_range.mp hj)

theorem Cmp.same {n : Nat} {v w : V} {b : Bool} (c : Cmp σ n v w b) : ∀ {h : Heap} {cs xs : List Addr} {x : Value}, CR h cs xs σ → VR h cs xs v x → VR h cs xs w x → b = true := by
  induction c with
  | int a b => intro h cs xs x R r r'; cases r; cases r'; simp
  | bool a b => intro h cs xs x R r r'; cases r; cases r'; simp
  | str a b => intro h cs xs x R r r'; cases r; cases r'; simp
  | intStr a b => intro h cs xs x R r r'; cases r; cases r'
  | strInt a b => intro h cs xs x R r r'; cases r; cases r'
  | lists hv hw hl he ih =>
    intro h cs xs x R r r'
    obtain ⟨a, us, rfl, hp, rs⟩ := hv.at_ R r
    obtain ⟨a', us', ea, hp', rs'⟩ := hw.at_ R r'
    cases ea
    cases plainList_inj hp hp'
    refine range_all_true fun j hj => ?_
    obtain ⟨u, eu, ru⟩ := rs.get (v := _) (List.getElem?_eq_getElem hj)
    obtain ⟨u', eu', ru'⟩ := rs'.get (v := _) (List.getElem?_eq_getElem (hl ▸ hj))
    rw [eu] at eu'; cases eu'
    exact ih j _ _ (List.getElem?_eq_getElem hj) (List.getElem?_eq_getElem (hl ▸ hj)) R ru ru'
  | listsLen hv hw hl =>
    intro h cs xs x R r r'
    obtain ⟨a, us, rfl, hp, rs⟩ := hv.at_ R r
    obtain ⟨a', us', ea, hp', rs'⟩ := hw.at_ R r'
    cases ea
    cases plainList_inj hp hp'
    exact absurd (rs.1.trans rs'.1.symm) hl
  | tups hl he ih =>
    intro h cs xs x R r r'
    obtain ⟨a, us, rfl, hp, _, _, rs⟩ := r.tupAt
    obtain ⟨a', us', ea, hp', _, _, rs'⟩ := r'.tupAt
    cases ea
    cases isTuple_inj hp hp'
    refine range_all_true fun j hj => ?_
    obtain ⟨u, eu, ru⟩ := rs.get (v := _) (List.getElem?_eq_getElem hj)
    obtain ⟨u', eu', ru'⟩ := rs'.get (v := _) (List.getElem?_eq_getElem (hl ▸ hj))
    rw [eu] at eu'; cases eu'
    exact ih j _ _ (List.getElem?_eq_getElem hj) (List.getElem?_eq_getElem (hl ▸ hj)) R ru ru'

theorem VRs.elem {h : Heap} {cs xs : List Addr} {vs : List V} {us : Array Value} (r : VRs h cs xs vs us.toList) {j : Nat} (hj : j < us.size) : ∃ v, vs[j]? = some v ∧ VR h cs xs v us[j] := by
  have hj' : j < vs.length := by have := r.1; simp at this; omega
  exact ⟨vs[j], by simp [hj'], r.2 j _ _ (by simp [hj']) (by simp [hj])⟩

theorem Cmp.eqAt {n : Nat} {v w : V} {b : Bool} (c : Cmp σ n v w b) : ∀ {B : Around} {s : Shared} {cs xs : List Addr} {x y : Value}, B.units + n < cLine → CR s.heap cs xs σ → VR s.heap cs xs v x → VR s.heap cs xs w y → EqAt B s x y b := by
  induction c with
  | int a b => intro B s cs xs x y _ R r r'; obtain ⟨t1, rfl⟩ := r.intI; obtain ⟨t2, rfl⟩ := r'.intI; exact EqAt.int_int _ _ _ _
  | bool a b => intro B s cs xs x y _ R r r'; obtain rfl := r.boolI; obtain rfl := r'.boolI; exact EqAt.bool_bool _ _
  | str a b => intro B s cs xs x y _ R r r'; obtain ⟨t1, rfl⟩ := r.strI; obtain ⟨t2, rfl⟩ := r'.strI; exact EqAt.str_str _ _ _ _
  | intStr a b => intro B s cs xs x y _ R r r'; obtain ⟨t1, rfl⟩ := r.intI; obtain ⟨t2, rfl⟩ := r'.strI; exact EqAt.int_str _ _ _ _
  | strInt a b => intro B s cs xs x y _ R r r'; obtain ⟨t1, rfl⟩ := r.strI; obtain ⟨t2, rfl⟩ := r'.intI; exact EqAt.str_int _ _ _ _
  | lists hv hw hl he ih =>
    intro B s cs xs x y hu R r r'
    have hsame := (Cmp.lists hv hw hl he).same R r
    obtain ⟨a, us, rfl, hp, rs⟩ := hv.at_ R r
    obtain ⟨a', us', rfl, hp', rs'⟩ := hw.at_ R r'
    by_cases q : a = a'
    · subst q; rw [hsame r']; exact EqAt.same _
    · have e1 := rs.1; have e2 := rs'.1
      simp at e1 e2
      rw [e1]
      refine EqAt.of_refs q (RcAt.lists hp.isList hp'.isList (by omega) (by omega) fun j h1 h2 => ?_)
      obtain ⟨v, ev, rv⟩ := rs.elem h1
      obtain ⟨w, ew, rw'⟩ := rs'.elem h2
      exact ih j v w ev ew (by show B.units + 1 + _ < _; omega) R rv rw'
  | listsLen hv hw hl =>
    intro B s cs xs x y hu R r r'
    have hsame := (Cmp.listsLen (n := 0) hv hw hl).same R r
    obtain ⟨a, us, rfl, hp, rs⟩ := hv.at_ R r
    obtain ⟨a', us', rfl, hp', rs'⟩ := hw.at_ R r'
    by_cases q : a = a'
    · subst q; exact absurd (hsame r') (by simp)
    · have e1 := rs.1; have e2 := rs'.1
      simp at e1 e2
      exact EqAt.of_refs q (RcAt.lists_lengths hp.isList hp'.isList (by simp; omega) (by omega))
  | tups hl he ih =>
    intro B s cs xs x y hu R r r'
    have hsame := (Cmp.tups hl he).same R r
    obtain ⟨a, us, rfl, hp, _, _, rs⟩ := r.tupAt
    obtain ⟨a', us', rfl, hp', _, _, rs'⟩ := r'.tupAt
    by_cases q : a = a'
    · subst q; rw [hsame r']; exact EqAt.same _
    · have e1 := rs.1; have e2 := rs'.1
      simp at e1 e2
      have := RcAt.tuples (A := B) (s := s) (e := _) hp hp' (by omega) fun j h1 h2 => by
        obtain ⟨v, ev, rv⟩ := rs.elem h1
        obtain ⟨w, ew, rw'⟩ := rs'.elem h2
        exact ih j v w ev ew (by show B.units + 1 + _ < _; omega) R rv rw'
      have hs : us.size = us'.size := by omega
      rw [hs, Nat.min_self, beq_self_eq_true, Bool.and_true, ← e2, ← hl] at this
      exact EqAt.of_refs q this

theorem Op2.eqC {n : Nat} {v w : V} {b : Bool} (c : Cmp σ n v w b) (hu : A.units + n < cLine) : Op2 C A σ v w (compareOp .Eq) (.bool b) σ := fun env ρ s cs xs x y Q W r r' k => by
  have kk : Q (.bool b) s := k.here W (.bool _)
  have R := W.R
  cases c with
  | int a b => obtain ⟨t1, rfl⟩ := r.intI; obtain ⟨t2, rfl⟩ := r'.intI; exact PyProof.Rows.eq_int kk
  | bool a b => obtain rfl := r.boolI; obtain rfl := r'.boolI; exact PyProof.Rows.eq_bool kk
  | str a b => obtain ⟨t1, rfl⟩ := r.strI; obtain ⟨t2, rfl⟩ := r'.strI; exact PyProof.Rows.eq_str kk
  | intStr a b => obtain ⟨t1, rfl⟩ := r.intI; obtain ⟨t2, rfl⟩ := r'.strI; exact PySem.EqMixed.eq_int_str kk
  | strInt a b => obtain ⟨t1, rfl⟩ := r.strI; obtain ⟨t2, rfl⟩ := r'.intI; exact PySem.EqMixed.eq_str_int kk
  | lists hv hw hl he =>
    obtain ⟨a, us, rfl, hp, rs⟩ := hv.at_ R r
    obtain ⟨a', us', rfl, hp', rs'⟩ := hw.at_ R r'
    have e1 := rs.1; have e2 := rs'.1
    simp at e1 e2
    rw [e1] at kk
    refine eq_listAt hp.isList hp'.isList (by omega) (by omega) (fun j h1 h2 => ?_) kk
    obtain ⟨v, ev, rv⟩ := rs.elem h1
    obtain ⟨w, ew, rw'⟩ := rs'.elem h2
    exact (he j v w ev ew).eqAt (by show A.units + 1 + _ < _; omega) R rv rw'
  | listsLen hv hw hl =>
    obtain ⟨a, us, rfl, hp, rs⟩ := hv.at_ R r
    obtain ⟨a', us', rfl, hp', rs'⟩ := hw.at_ R r'
    have e1 := rs.1; have e2 := rs'.1
    simp at e1 e2
    exact eq_list_lengthsAt hp.isList hp'.isList (by simp; omega) (by omega) kk
  | @tups _ _ _ e hl he =>
    obtain ⟨a, us, rfl, hp, _, _, rs⟩ := r.tupAt
    obtain ⟨a', us', rfl, hp', _, _, rs'⟩ := r'.tupAt
    have e1 := rs.1; have e2 := rs'.1
    simp at e1 e2
    have hs : us.size = us'.size := by omega
    refine eq_tupleAt (e := e) hp hp' (by omega) (fun j h1 h2 => ?_) ?_
    rotate_left
    · rw [hs, Nat.min_self, beq_self_eq_true, Bool.and_true, ← e2, ← hl]; exact kk
    · obtain ⟨v, ev, rv⟩ := rs.elem h1
      obtain ⟨w, ew, rw'⟩ := rs'.elem h2
      exact (he j v w ev ew).eqAt (by show A.units + 1 + _ < _; omega) R rv rw'

theorem Op2.neC {n : Nat} {v w : V} {b : Bool} (c : Cmp σ n v w b) (hu : A.units + n < cLine) : Op2 C A σ v w (compareOp .NotEq) (.bool (!b)) σ := fun env ρ s cs xs x y Q W r r' k => by
  have kk : Q (.bool (!b)) s := k.here W (.bool _)
  have R := W.R
  cases c with
  | int a b => obtain ⟨t1, rfl⟩ := r.intI; obtain ⟨t2, rfl⟩ := r'.intI; exact PyProof.Rows.ne_int kk
  | bool a b => obtain rfl := r.boolI; obtain rfl := r'.boolI; exact PySem.EqBoolInt.of_rcne (RcNeAt.bool_bool _ _) kk
  | str a b => obtain ⟨t1, rfl⟩ := r.strI; obtain ⟨t2, rfl⟩ := r'.strI; exact PyProof.Rows.ne_str kk
  | intStr a b => obtain ⟨t1, rfl⟩ := r.intI; obtain ⟨t2, rfl⟩ := r'.strI; exact PySem.EqMixed.ne_int_str kk
  | strInt a b => obtain ⟨t1, rfl⟩ := r.strI; obtain ⟨t2, rfl⟩ := r'.intI; exact PySem.EqMixed.ne_str_int kk
  | lists hv hw hl he =>
    obtain ⟨a, us, rfl, hp, rs⟩ := hv.at_ R r
    obtain ⟨a', us', rfl, hp', rs'⟩ := hw.at_ R r'
    have e1 := rs.1; have e2 := rs'.1
    simp at e1 e2
    rw [e1] at kk
    refine PySem.EqBoolInt.of_rcne (RcNeAt.lists hp.isList hp'.isList (by omega) (by omega) (fun j h1 h2 => ?_)) kk
    obtain ⟨v, ev, rv⟩ := rs.elem h1
    obtain ⟨w, ew, rw'⟩ := rs'.elem h2
    exact (he j v w ev ew).eqAt (by show A.units + 1 + _ < _; omega) R rv rw'
  | listsLen hv hw hl =>
    obtain ⟨a, us, rfl, hp, rs⟩ := hv.at_ R r
    obtain ⟨a', us', rfl, hp', rs'⟩ := hw.at_ R r'
    have e1 := rs.1; have e2 := rs'.1
    simp at e1 e2
    exact PySem.EqBoolInt.of_rcne (RcNeAt.lists_lengths hp.isList hp'.isList (by simp; omega) (by omega)) kk
  | @tups _ _ _ e hl he =>
    obtain ⟨a, us, rfl, hp, _, _, rs⟩ := r.tupAt
    obtain ⟨a', us', rfl, hp', _, _, rs'⟩ := r'.tupAt
    have e1 := rs.1; have e2 := rs'.1
    simp at e1 e2
    have hs : us.size = us'.size := by omega
    refine PySem.EqBoolInt.of_rcne (RcNeAt.tuples (e := e) hp hp' (by omega) (fun j h1 h2 => ?_)) ?_
    rotate_left
    · rw [hs, Nat.min_self, beq_self_eq_true, Bool.and_true, ← e2, ← hl]; exact kk
    · obtain ⟨v, ev, rv⟩ := rs.elem h1
      obtain ⟨w, ew, rw'⟩ := rs'.elem h2
      exact (he j v w ev ew).eqAt (by show A.units + 1 + _ < _; omega) R rv rw'

/-- lists of like data -/
theorem Cmp.of {α : Type} [BEq α] [LawfulBEq α] {n : Nat} {enc : α → V} (h : ∀ a b, Cmp σ n (enc a) (enc b) (a == b)) {v w : V} {as bs : List α} (hv : LV σ v (as.map enc)) (hw : LV σ w (bs.map enc)) : Cmp σ (n + 1) v w (as == bs) := by
  by_cases hl : as.length = bs.length
  · have e : (as == bs) = (List.range (as.map enc).length).all fun j => (as[j]? == bs[j]?) := by
      rw [Bool.eq_iff_iff, List.all_eq_true]
      constructor
      · intro q j _; rw [eq_of_beq q]; simp
      · intro q
        refine beq_iff_eq.mpr (List.ext_getElem? fun j => ?_)
        by_cases hj : j < as.length
        · exact eq_of_beq (q j (by simpa using hj))
        · rw [List.getElem?_eq_none (by omega), List.getElem?_eq_none (by omega)]
    rw [e]
    refine .lists hv hw (by simpa using hl) fun j a b ea eb => ?_
    rw [List.getElem?_map] at ea eb
    cases qa : as[j]? with
    | none => rw [qa] at ea; simp at ea
    | some x =>
      cases qb : bs[j]? with
      | none => rw [qb] at eb; simp at eb
      | some y =>
        rw [qa] at ea; rw [qb] at eb
        simp at ea eb
        subst ea; subst eb
        have : (some x == some y) = (x == y) := rfl
        rw [this]; exact h x y
  · have e : (as == bs) = false := by
      cases q : as == bs with
      | false => rfl
      | true => rw [eq_of_beq q] at hl; exact absurd rfl hl
    rw [e]
    exact .listsLen hv hw (by simpa using hl)

theorem Cmp.pair {n : Nat} {a b c d : V} {p q : Bool} (h₁ : Cmp σ n a c p) (h₂ : Cmp σ n b d q) : Cmp σ (n + 1) (.tup [a, b]) (.tup [c, d]) (p && q) := by
  have := Cmp.tups (σ := σ) (n := n) (vs := [a, b]) (ws := [c, d]) (e := fun j => if j = 0 then p else q) rfl fun j x y ex ey => by
    match j with
    | 0 => simp at ex ey; subst ex; subst ey; simpa using h₁
    | 1 => simp at ex ey; subst ex; subst ey; simpa using h₂
    | j + 2 => simp at ex
  have e : (List.range [a, b].length).all (fun j => if j = 0 then p else q) = (p && q) := by simp [List.range, List.range.loop]
  rw [e] at this; exact this

theorem Cmp.ints {v w : V} {ns ms : List Int} (hv : LV σ v (ns.map V.int)) (hw : LV σ w (ms.map V.int)) : Cmp σ 1 v w (ns == ms) := Cmp.of (n := 0) (fun a b => .int a b) hv hw
end
end Mine

namespace Mine

section
variable {C : Cx} {A : Around} {env : Env} {ρ ρ' : List (Str × V)} {σ σ' σ₁ σ₂ : List CO}

theorem Cl.len {v : V} {vs : List V} (l : LV σ v vs) (hz : (vs.length : Int) < 2 ^ 63) : Cl C A σ (.builtin "len") [v] (.int vs.length) σ := fun env ρ s cs xs us Q W r k => r.oneE fun u ru => l.atE W.R ru fun a us hp rs =>
  len_list hp.isList (rs.sz.symm ▸ hz) (rs.sz.symm ▸ k.tok W (.int _ _))
theorem Cl.abs {a : Int} : Cl C A σ (.builtin "abs") [.int a] (.int (if a < 0 then -a else a)) σ := fun env ρ s cs xs us Q W r k => r.oneE fun u ru => ru.intE fun tu => PyProof.Rows.call_abs_int fun u tk => k.tok W (.int _ _)
theorem Cl.intI {a : Int} : Cl C A σ (.type "int") [.int a] (.int a) σ := fun env ρ s cs xs us Q W r k => r.oneE fun u ru => ru.intE fun tu => call_int_int (k.here W (.int _ _))
theorem Cl.intB {b : Bool} : Cl C A σ (.type "int") [.bool b] (.int (if b then 1 else 0)) σ := fun env ρ s cs xs us Q W r k => r.oneE fun u ru => ru.boolE <| call_int_bool (k.tok W (.int _ _))

/-- the walk over a list of bools -/
theorem bools_walk (hh : A.handled = none) {v : V} {bs : List Bool} {s : Shared} {cs xs : List Addr} {u : Value} {Q : Value → Shared → Prop} {f : (Nat → Bool) → Bool} (l : LV σ v (bs.map V.bool)) (W : Wd C env ρ σ s.heap cs xs) (ru : VR s.heap cs xs v u)
    (k : ∀ h' tk, (∀ b o, s.heap.get? b = some o → h'.get? b = some o) → Q (.bool (f fun i => bs.getD i false)) { s with heap := h', toks := tk }) :
    wpAny (model C.prog C.w) A.in1 (pyIter u) (fun it s₂ => ∃ I fp wr n P St tr, it = .ref I ∧ Walks C.prog C.w A.in1 I fp wr n P St ∧ St 0 s₂.heap ∧ TruthOf C.prog C.w A.in1 P tr ∧ n = bs.length ∧ (tr = fun i => bs.getD i false) ∧
      ∀ h' tk, (∀ b o, b ∉ wr → s₂.heap.get? b = some o → h'.get? b = some o) → Q (.bool (f tr)) { s₂ with heap := h', toks := tk }) noE s := by
  refine l.atE W.R ru fun a us hp rs => ?_
  have e : us.size = bs.length := rs.sz.trans (List.length_map _)
  obtain ⟨n, ho⟩ := hp
  have hlt := Heap.lt_size ho
  have hne : a ≠ s.heap.objs.size := neA (Nat.ne_of_lt hlt)
  refine wpAny_pyIter_list ⟨_, ho, rfl, n, rfl⟩ ?_
  have kk := push_keeps s.heap { cls := .type "list_iterator", data := .fields #[.ref a, .int 0 0] }
  refine ⟨_, _, _, _, _, _, fun i => bs.getD i false, rfl, Walks.list (by exact hh) s.heap.objs.size a hne us, ⟨⟨_, Heap.get?_push_size _ rfl, rfl, rfl⟩, ⟨_, kk _ _ ho, rfl, n, rfl⟩⟩, ?_, e, rfl, fun h' tk hk => k h' tk fun b o eb => hk b o (fun hm => ?_) (kk b o eb)⟩
  · intro i w s' Q' E' hw hq
    have hw' : us[i]? = some w := hw
    have hi : i < us.size := (Array.getElem?_eq_some_iff.mp hw').1
    obtain ⟨v', ev, rv⟩ := rs.elem hi
    have : us[i] = w := by have := (Array.getElem?_eq_some_iff.mp hw').2; exact this
    rw [this] at rv
    rw [List.getElem?_map] at ev
    cases q : bs[i]? with
    | none => rw [q] at ev; simp at ev
    | some b =>
      rw [q] at ev; simp at ev; subst ev
      obtain rfl := rv.boolI
      have hq' : Q' b s' := by
        have hb : bs.getD i false = b := by simp [List.getD, q]
        have hq : Q' (bs.getD i false) s' := hq
        rwa [hb] at hq
      exact wpAny_truthy_bool hq'
  · exact absurd (Heap.lt_size eb) ((List.mem_singleton.mp hm) ▸ Nat.lt_irrefl _)

theorem range_all (bs : List Bool) : (List.range bs.length).all (fun i => bs.getD i false) = bs.all id := by
  rw [Bool.eq_iff_iff, List.all_eq_true, List.all_eq_true]
  constructor
  · intro h b hb
    obtain ⟨i, hi, rfl⟩ := List.mem_iff_getElem.mp hb
    have := h i (List.mem_range.mpr hi)
    simpa [List.getD, hi] using this
  · intro h i hi
    have hi := List.mem_range.mp hi
    have := h bs[i] (List.getElem_mem hi)
    simpa [List.getD, hi] using this
theorem range_any (bs : List Bool) : (List.range bs.length).any (fun i => bs.getD i false) = bs.any id := by
  rw [Bool.eq_iff_iff, List.any_eq_true, List.any_eq_true]
  constructor
  · rintro ⟨i, hi, h⟩
    have hi := List.mem_range.mp hi
    exact ⟨bs[i], List.getElem_mem hi, by simpa [List.getD, hi] using h⟩
  · rintro ⟨b, hb, h⟩
    obtain ⟨i, hi, rfl⟩ := List.mem_iff_getElem.mp hb
    exact ⟨i, List.mem_range.mpr hi, by simpa [List.getD, hi] using h⟩

theorem Cl.all (hh : A.handled = none) {v : V} {bs : List Bool} (l : LV σ v (bs.map V.bool)) : Cl C A σ (.builtin "all") [v] (.bool (bs.all id)) σ := fun env ρ s cs xs us Q W r k => by
  refine r.oneE fun u ru => ?_
  refine call_all_walk (wpAny_mono (bools_walk (Q := Q) (f := fun tr => (List.range bs.length).all tr) hh l W ru fun h' tk hk => ?_) (fun it s₂ h₂ => ?_) fun _ _ f => f.elim)
  · show Q (.bool ((List.range bs.length).all fun i => bs.getD i false)) _
    rw [range_all]; exact k.keeps W hk (.bool _)
  · obtain ⟨I, fp, wr, n, P, St, tr, e1, e2, e3, e4, rfl, rfl, e7⟩ := h₂
    exact ⟨I, fp, wr, _, P, St, _, e1, e2, e3, e4, e7⟩
theorem Cl.any (hh : A.handled = none) {v : V} {bs : List Bool} (l : LV σ v (bs.map V.bool)) : Cl C A σ (.builtin "any") [v] (.bool (bs.any id)) σ := fun env ρ s cs xs us Q W r k => by
  refine r.oneE fun u ru => ?_
  refine call_any_walk (wpAny_mono (bools_walk (Q := Q) (f := fun tr => (List.range bs.length).any tr) hh l W ru fun h' tk hk => ?_) (fun it s₂ h₂ => ?_) fun _ _ f => f.elim)
  · show Q (.bool ((List.range bs.length).any fun i => bs.getD i false)) _
    rw [range_any]; exact k.keeps W hk (.bool _)
  · obtain ⟨I, fp, wr, n, P, St, tr, e1, e2, e3, e4, rfl, rfl, e7⟩ := h₂
    exact ⟨I, fp, wr, _, P, St, _, e1, e2, e3, e4, e7⟩

/-- the ints sorted -/
def isort (ns : List Int) : List Int := ns.mergeSort (fun a b => decide (a ≤ b))
theorem isort_perm (ns : List Int) : (isort ns).Perm ns := List.mergeSort_perm _ _
theorem isort_sorted (ns : List Int) : (isort ns).Pairwise (· ≤ ·) := by
  have := List.pairwise_mergeSort (le := fun a b : Int => decide (a ≤ b)) (fun a b c h1 h2 => by simp at *; omega) (fun a b => by simp; omega) ns
  exact this.imp fun h => by simpa using h
theorem isort_eq {ns ms : List Int} (hp : ms.Perm ns) (hs : ms.Pairwise (· ≤ ·)) : ms = isort ns :=
  (hp.trans (isort_perm ns).symm).eq_of_pairwise (fun a b _ _ h1 h2 => Int.le_antisymm h1 h2) hs (isort_sorted ns)

theorem Cl.sorted {v : V} {ns : List Int} (l : LV σ v (ns.map V.int)) (h64 : ns.length < 64) : Cl C A σ (.builtin "sorted") [v] (Li (isort ns)) σ := fun env ρ s cs xs us Q W r k => by
  refine r.oneE fun u ru => l.atE W.R ru fun a us hp rs => ?_
  have e : us.size = ns.length := rs.sz.trans (List.length_map _)
  refine PyProof.Rows.sorted_ints (vs := us.toList) (hp.isList) rs.toInts (by simpa [e] using h64) fun out ns' hI hpm hs => ?_
  have en := isort_eq hpm hs
  subst en
  obtain ⟨n, hat⟩ := sortedAll_at s.heap us.toList out
  exact k.newList (us := out.toList) W (fun b o eb => sortedAll_old eb) (size_more s.heap 1) ⟨n, by simpa using hat⟩ (.ofInts hI)

theorem Op2.cat {v w : V} {vs ws : List V} (hv : LV σ v vs) (hw : LV σ w ws) (hz : vs.length + ws.length ≤ sizeLine) : Op2 C A σ v w (binaryOp .Add) (.list (vs ++ ws)) σ := fun env ρ s cs xs x y Q W r r' k => by
  refine hv.atE W.R r fun a us hp rs => hw.atE W.R r' fun b ts hq qs => ?_
  obtain ⟨n, ho⟩ := hp
  obtain ⟨m, ho'⟩ := hq
  have e1 := rs.1; have e2 := qs.1
  simp at e1 e2
  refine PySem.P.add_list ho ho' ?_ (by omega)
  refine k.newList (us := us.toList ++ ts.toList) W (push_keeps _ _) (get_size_none _) ⟨0, ?_⟩ (rs.append qs)
  have := Heap.get?_push_size s.heap (o := { cls := .type "list", data := .seq (us ++ ts) }) rfl
  rw [this]
  have e : (us.toList ++ ts.toList).toArray = us ++ ts := by simp
  rw [e]

/-! methods of lists -/
theorem Cl.count {v : V} {ns : List Int} {k₀ : Int} (l : LV σ v (ns.map V.int)) : Cl C A σ (.builtin "list.count") [v, .int k₀] (.int (ns.count k₀ : Nat)) σ := fun env ρ s cs xs us Q W r k => r.twoE fun u t ru rt => l.atE W.R ru fun a us hp rs => rt.intE fun tt =>
  count_list_ints (vs := us.toList) hp.isList rs.toInts (k.tok W (.int _ _))

theorem kf_ints_of {us : List Value} {ns : List Int} (h : IntsAre us ns) : kf_ints us = true := by
  induction h with
  | nil => rfl
  | cons n t r ih => exact ih
theorem kf_at_of {k : Int} {us : List Value} {ns : List Int} (h : IntsAre us ns) : k ∈ ns → kf_at k us = some (ns.idxOf k) := by
  induction h with
  | nil => intro h; cases h
  | @cons n t vs ns r ih =>
    intro h
    unfold kf_at
    by_cases q : n = k
    · subst q
      have : isInt n (.int n t) = true := by simp [isInt]
      rw [this]; simp
    · have : isInt k (.int n t) = false := by simp [isInt, q]
      have hm : k ∈ ns := (List.mem_cons.mp h).resolve_left (Ne.symm q)
      rw [this, ih hm]
      have q' : (n == k) = false := by simpa using q
      simp [List.idxOf_cons, q']

def nilHeap : Heap := { (default : Heap) with objs := #[] }

theorem Cl.index {v : V} {ns : List Int} {k₀ : Int} (l : LV σ v (ns.map V.int)) (hk : k₀ ∈ ns) (hz : ns.length ≤ sizeLine) : Cl C A σ (.builtin "list.index") [v, .int k₀] (.int (ns.idxOf k₀ : Nat)) σ := fun env ρ s cs xs us Q W r k => by
  refine r.twoE fun u t ru rt => l.atE W.R ru fun a us hp rs => rt.intE fun tt => ?_
  obtain ⟨n, ho⟩ := hp
  have e : us.size = ns.length := rs.sz.trans (List.length_map _)
  have hnil : nilHeap.get? a = none := by unfold Heap.get? nilHeap; simp
  refine kf_index (h₀ := nilHeap) (L := a + 1) (news := [(a, listOf us n)]) (its := us) (fun p hp => ?_) (.head _) (kf_ints_of rs.toInts) (kf_at_of rs.toInts hk) rfl (by simpa [e] using hz) (k.tok W (.int _ _))
  rw [List.mem_singleton.mp hp]
  exact ⟨ho, neA (Nat.ne_of_lt (Nat.lt_succ_self a)), hnil⟩

theorem mu_at {c : Nat} {vs : List V} {s : Shared} {cs xs : List Addr} {u : Value} (hc : σ[c]? = some (.list vs)) (W : Wd C env ρ σ s.heap cs xs) (ru : VR s.heap cs xs (.mu c) u) :
    ∃ a us, u = .ref a ∧ cs[c]? = some a ∧ s.heap.PlainList a us ∧ VRs s.heap cs xs vs us.toList := by
  obtain ⟨a, rfl, h⟩ := ru.muI
  obtain ⟨us, hp, rs⟩ := W.R.at_ c _ _ h hc
  exact ⟨_, us, rfl, h, hp, rs⟩

/-- a changing list is changed -/
theorem Kt.chg {c : Nat} {ws : List V} {v : V} {val : Value} {s : Shared} {cs xs : List Addr} {a : Addr} {us : Array Value} {h' : Heap} {tk : Nat} {Q : Value → Shared → Prop} (k : Kt (σ.set c (.list ws)) v s cs xs Q) (W : Wd C env ρ σ s.heap cs xs) (ea : cs[c]? = some a)
    (hs : Heap.SameBut a s.heap h') (hp : h'.PlainList a us) (rs : VRs s.heap cs xs ws us.toList) (rv : VR s.heap cs xs v val) : Q val { s with heap := h', toks := tk } := by
  have g : Gx nX cs s.heap cs h' := Gx.upd (List.mem_of_getElem? ea) hs
  exact k val h' tk cs g (W.R.upd ea hs ⟨us, hp, rs.on g⟩) (rv.on g)

theorem Cl.append {c : Nat} {vs : List V} {v : V} (hc : σ[c]? = some (.list vs)) (hz : vs.length ≤ sizeLine) : Cl C A σ (.builtin "list.append") [.mu c, v] .non (σ.set c (.list (vs ++ [v]))) := fun env ρ s cs xs us Q W r k => by
  obtain ⟨u, t, rfl, ru, rt⟩ := r.two'
  obtain ⟨a, us, rfl, ea, hp, rs⟩ := mu_at hc W ru
  have e := rs.sz
  refine wpAny_list_append_plain hp (fun h' hp' hs => ?_) (by omega)
  exact k.chg W ea hs hp' (by simpa using rs.snoc rt) .non

/-- a method of a list, called -/
theorem Ev.meth {o : Expr} {name : Str} {apos pos : Pos} {es : List Expr} {id : String} {v₀ v : V} {vs ws : List V}
    (h : Ev C A env ρ σ o v₀ σ₁) (hl : LV σ₁ v₀ ws) (hargs : Args C A env ρ σ₁ pos es vs σ₂) (hcl : Cl C A σ₂ (.builtin id) (v₀ :: vs) v σ')
    (hbase : attributeBase o name env (eval o env) = eval o env)
    (hfew : ((backTo pos (starEach es env)).all (fun x => !x.1) && (backToKw pos (keywordEach [] env)).all (fun x => x.1.isSome) && decide (es.length + ([] : List Keyword).length + (if ([] : List Keyword).isEmpty then 0 else 1) < 30)) = true)
    (hline : (apos.endLine == pos.line) = true) (slot : Slot "list" name id) (hty : typeOf (.builtin id) = pure (.type "method_descriptor"))
    (hw : ∀ (ov : Value) (s : Shared) (Q : Value → Shared → Prop), wpAny (model C.prog C.w) A (spliced (backTo pos (starEach es env))) (fun us s₁ => wpAny (model C.prog C.w) A (call (.builtin id) (ov :: us)) Q noE s₁) noE s → wpAny (model C.prog C.w) A (callWith pos (.builtin id) [ov] (backTo pos (starEach es env)) []) Q noE s) :
    Ev C A env ρ σ (.Call (.Attribute o name apos) es [] pos) v σ' := fun s cs xs Q W k => by
  refine wpAny_Call_method hbase hfew hline PySem.F.plainAttrs_list slot hty (h s cs xs _ W fun a h₁ t₁ c₁ g₁ R₁ r₁ => ?_)
  obtain ⟨a', us, rfl, hp, rs⟩ := hl.at_ R₁ r₁
  obtain ⟨n, ho⟩ := hp
  refine ⟨⟨_, ho, rfl⟩, fun b hb => by cases hb; exact ⟨_, ho, rfl⟩, hw _ _ _ ?_⟩
  refine hargs _ c₁ xs _ (W.on g₁ R₁) fun us h₂ t₂ c₂ g₂ R₂ r₂ => ?_
  exact hcl env ρ _ c₂ xs _ Q ((W.on g₁ R₁).on g₂ R₂) (.cons (r₁.on g₂) r₂) ((k.after g₁).after g₂)
theorem meth_with1 {pos : Pos} {id : String} {e : Expr} {es : List Expr} (he : starEach (e :: es) env = (false, eval e env) :: starEach es env) (hp : (backTo pos (starEach es env)).any (·.1) = false) :
    ∀ (ov : Value) (s : Shared) (Q : Value → Shared → Prop), wpAny (model C.prog C.w) A (spliced (backTo pos (starEach (e :: es) env))) (fun us s₁ => wpAny (model C.prog C.w) A (call (.builtin id) (ov :: us)) Q noE s₁) noE s → wpAny (model C.prog C.w) A (callWith pos (.builtin id) [ov] (backTo pos (starEach (e :: es) env)) []) Q noE s := fun ov s Q h =>
  PyProof.Rows.callWith_method1 h he hp
theorem meth_with0 {pos : Pos} {id : String} :
    ∀ (ov : Value) (s : Shared) (Q : Value → Shared → Prop), wpAny (model C.prog C.w) A (spliced (backTo pos (starEach [] env))) (fun us s₁ => wpAny (model C.prog C.w) A (call (.builtin id) (ov :: us)) Q noE s₁) noE s → wpAny (model C.prog C.w) A (callWith pos (.builtin id) [ov] (backTo pos (starEach [] env)) []) Q noE s := fun ov s Q h =>
  PyProof.Rows.callWith_method0 (fun Γ p hΓ => by
    have := h Γ p hΓ
    exact (show wpAny (model C.prog C.w) A (pure [] : Sem (List Value)) (fun us s₁ => wpAny (model C.prog C.w) A (call (.builtin id) (ov :: us)) Q noE s₁) noE s from h) Γ p hΓ Γ p hΓ)
end
end Mine

namespace Mine

/-- an object with attributes, seen through: done with, or still changing -/
inductive AV (σ : List CO) : V → Addr → List (Str × V) → Prop
  | obj (cl : Addr) (fs : List (Str × V)) : AV σ (.obj cl fs) cl fs
  | inst {cl : Addr} {c : Nat} {fs : List (Str × V)} (h : σ[c]? = some (.attrs fs)) : AV σ (.inst cl c) cl fs

def notRaw : V → Bool
  | .raw _ => false
  | _ => true
theorem VR.handed {h : Heap} {cs xs : List Addr} {v : V} {x : Value} (r : VR h cs xs v x) (hv : notRaw v = true) : handedIn x = true := by
  cases r <;> first | rfl | simp [notRaw] at hv

section
variable {C : Cx} {A : Around} {env : Env} {ρ ρ' : List (Str × V)} {σ σ' σ₁ σ₂ : List CO}

theorem AV.at_ {h : Heap} {cs xs : List Addr} {v : V} {cl : Addr} {fs : List (Str × V)} {val : Value} (l : AV σ v cl fs) (R : CR h cs xs σ) (r : VR h cs xs v val) :
    ∃ a d es n, ∃ g : Str → Value, val = .ref a ∧ h.get? a = some (instObj cl d) ∧ h.get? d = some (dictOf es n) ∧ (∀ x v, fs.lookup x = some v → getL x es = some (some (g x))) ∧ ∀ x v, fs.lookup x = some v → VR h cs xs v (g x) := by
  cases l with
  | obj cl fs => exact r.inv
  | inst hc =>
    obtain ⟨a, d, rfl, ha, _, _, hcs⟩ := r.instI
    obtain ⟨es, n, g, e1, _, _, e2, e3⟩ := R.at_ _ _ _ hcs hc
    exact ⟨_, _, es, n, g, rfl, ha, e1, e2, e3⟩

/-- what a class of the text must be for a plain load of an attribute -/
def getOk (K : Frag) (cl : Addr) (x : Str) : Bool := plainGet K cl x && hasDictIn K cl && match findIn K (.ref cl) x with
  | some a => noGet K a
  | none => false

theorem getAttr_run {K : Frag} (X : K.In C.hB) {cl : Addr} {x : Str} {v₀ v : V} {fs : List (Str × V)} {val : Value} {s : Shared} {cs xs : List Addr} {Q : Value → Shared → Prop} {b : Bool} (l : AV σ v₀ cl fs) (hv : fs.lookup x = some v) (hr : notRaw v = true) (hK : getOk K cl x = true)
    (W : Wd C env ρ σ s.heap cs xs) (r : VR s.heap cs xs v₀ val) (k : Kt σ v s cs xs Q) : wpAny (model C.prog C.w) A (getAttr val x b) Q noE s := by
  obtain ⟨a, d, es, n, g, rfl, ha, hd, h1, h2⟩ := l.at_ W.R r
  simp only [getOk, Bool.and_eq_true] at hK
  obtain ⟨⟨k1, k2⟩, k3⟩ := hK
  cases q : findIn K (.ref cl) x with
  | none => rw [q] at k3; simp at k3
  | some at_ =>
    rw [q] at k3
    exact get_value (od := some (dictOf es n)) (ox := instObj cl d) (X.keeps W.F.base) ⟨ha, rfl, rfl, hd⟩ (plainGet_of k1).1 (findObj_own k2 q k3 (h1 _ _ hv)) ((h2 _ _ hv).handed hr) (k.tok W (h2 _ _ hv))

theorem Ev.attr {K : Frag} (X : K.In C.hB) {e : Expr} {cl : Addr} {x : Str} {pos : Pos} {v₀ v : V} {fs : List (Str × V)} (h : Ev C A env ρ σ e v₀ σ') (l : AV σ' v₀ cl fs) (hv : fs.lookup x = some v) (hr : notRaw v = true) (hK : getOk K cl x = true)
    (he : eval (.Attribute e x pos) env = (do
      let o ← eval e env
      standAt pos.atName
      let r ← holding [o] (getAttr o x true)
      letTemporaryGo e o r
      pure r)) : Ev C A env ρ σ (.Attribute e x pos) v σ' := fun s cs xs Q W k => by
  refine Attribute_any_ (h s cs xs _ W fun val h₁ t₁ c₁ g₁ R₁ r₁ => ?_) he
  exact getAttr_run X l hv hr hK (W.on g₁ R₁) r₁ (k.after g₁)

/-- isinstance of a class of the text -/
theorem Cl.isA {K : Frag} (X : K.In C.hB) {v₀ : V} {cl cl' : Addr} {fs : List (Str × V)} (l : AV σ v₀ cl fs) (hK : isIn K (.ref cl) cl' = true) : Cl C A σ (.builtin "isinstance") [v₀, .raw (.ref cl')] (.bool true) σ := fun env ρ s cs xs us Q W r k => by
  obtain ⟨u, t, rfl, ru, rt⟩ := r.two'
  obtain ⟨a, d, es, n, g, rfl, ha, hd, _⟩ := l.at_ W.R ru
  obtain rfl := rt.rawI
  refine isi_call (t := .ref cl) (X.keeps W.F.base) (fun M => (Looks.ld ha).andThen .now) hK (by simp) (k.here W (.bool _))
theorem Cl.isInt {i : Int} : Cl C A σ (.builtin "isinstance") [.int i, .raw (.type "int")] (.bool true) σ := fun env ρ s cs xs us Q W r k => by
  obtain ⟨u, t, rfl, ru, rt⟩ := r.two'
  obtain ⟨tu, rfl⟩ := ru.intI
  obtain rfl := rt.rawI
  exact IsiPair.int_int (k.here W (.bool _))

/-- a global's value -/
theorem Ev.glb {x : Str} {pos : Pos} {val : Value} (G : Glb C.hB x val) (hx : env.kindOf x = some .globalImplicit) (hd : (x == ("__debug__" : Str)) = false) : Ev C A env ρ σ (.Name x pos) (.raw val) σ := fun s cs xs Q W k =>
  evGlb G hx hd W (k.here W (.raw _))

/-! targets that unpack -/
/-- the targets take the values, one after another -/
def Bns (C : Cx) (A : Around) (env : Env) (σ : List CO) : List Expr → List V → List (Str × V) → List (Str × V) → Prop
  | [], [], ρ, ρ' => ρ' = ρ
  | t :: ts, v :: vs, ρ, ρ' => ∃ ρ₁, Bn C A env ρ σ t v ρ₁ σ ∧ Bns C A env σ ts vs ρ₁ ρ'
  | _, _, _, _ => False

theorem bns_run {ts : List Expr} : ∀ {vs : List V} {us : List Value} {ρ ρ' : List (Str × V)} {s : Shared} {cs xs : List Addr} {Q : Unit → Shared → Prop}, Bns C A env σ ts vs ρ ρ' → Wd C env ρ σ s.heap cs xs → VRs s.heap cs xs vs us →
    (∀ h' tk, Gx (FX env) cs s.heap cs h' → Wd C env ρ' σ h' cs xs → Q () { s with heap := h', toks := tk }) → wpAny (model C.prog C.w) A (assignInOrder (ts.map fun t => assign t env) us) Q noE s := by
  induction ts with
  | nil =>
    intro vs us ρ ρ' s cs xs Q hb W r k
    cases vs with
    | cons _ _ => exact hb.elim
    | nil =>
      have e : ρ' = ρ := hb
      subst e
      have := r.1; simp at this
      rw [List.length_eq_zero_iff.mp this.symm]
      exact wpAny_assignInOrder_none (k _ _ (Gx.refl _ _ _) W)
  | cons t ts ih =>
    intro vs us ρ ρ' s cs xs Q hb W r k
    cases vs with
    | nil => exact hb.elim
    | cons v vs =>
      cases us with
      | nil => have := r.1; simp at this
      | cons u us =>
        obtain ⟨ρ₁, h1, h2⟩ := hb
        have r0 : VR s.heap cs xs v u := r.2 0 v u rfl rfl
        have rs : VRs s.heap cs xs vs us := ⟨by have := r.1; simp at this; omega, fun i a b e1 e2 => r.2 (i + 1) a b (by simpa using e1) (by simpa using e2)⟩
        refine wpAny_assignInOrder_more (h1 s cs xs u _ W r0 fun h' tk g W' => ?_)
        exact ih h2 W' (rs.onF W.F g) fun h'' tk' g' W'' => k h'' tk' (g.trans g') W''

theorem Bn.tup (hh : A.handled = none) {elts : List Expr} {n : Nat} {pos : Pos} {vs : List V} (h : Bns C A env σ elts vs ρ ρ')
    (he : assignEach elts env = elts.map fun t => (false, assign t env)) (hlen : elts.length = vs.length) : Bn C A env ρ σ (.Tuple elts n pos) (.tup vs) ρ' σ := fun s cs xs val Q W r k => by
  obtain ⟨a, us, rfl, ht, hac, hax, rs⟩ := r.tupAt
  have hus : us.size = vs.length := by have := rs.1; simpa using this.symm
  refine wpAny_assign_Tuple hh ht (by rw [he]; simp [hus, hlen]) (by rw [he]; simp [List.findIdx?_eq_none_iff]) fun h' hE => ?_
  have kk : ∀ b o, s.heap.get? b = some o → h'.get? b = some o := fun b o e => hE b o (neA (Nat.ne_of_lt (Heap.lt_size e))) e
  have g : Gx nX cs s.heap cs h' := Gx.keeps kk
  rw [he]
  have e : (elts.map fun t => (false, assign t env)).map (·.2) = elts.map fun t => assign t env := by simp
  rw [e]
  exact bns_run h (W.on g (W.R.keeps kk)) (rs.on g) fun h'' tk' g' W'' => k h'' tk' ((g.ofF W.F).trans g') W''
end
end Mine

namespace Mine

theorem isStr_str (x y : Str) (t : Tok) : (Value.str x t).isStr y = (x == y) := rfl
theorem isStr_two {v : Value} {x y : Str} (h : v.isStr x = true) (hn : y ≠ x) : v.isStr y = false := by
  cases v <;> first | rfl | skip
  rename_i z t
  rw [isStr_str] at h ⊢
  have := beq_iff_eq.mp h
  subst this
  exact beq_eq_false_iff_ne.mpr (Ne.symm hn)
theorem putL_noRef {x : Str} {hs : Int} {t : Tok} {v : Value} : ∀ {es : List DictEntry}, es.any (·.refKey) = false → (putL x hs (.str x t) v es).any (·.refKey) = false
  | [], _ => rfl
  | e :: r, h => by
    rw [List.any_cons, Bool.or_eq_false_iff] at h
    unfold putL
    split
    · rw [List.any_cons, Bool.or_eq_false_iff]; exact ⟨h.1, h.2⟩
    · rw [List.any_cons, Bool.or_eq_false_iff]; exact ⟨h.1, putL_noRef h.2⟩
theorem putL_len {x : Str} {hs : Int} {k v : Value} : ∀ {es : List DictEntry}, (putL x hs k v es).length ≤ es.length + 1
  | [] => by simp [putL]
  | e :: r => by
    unfold putL
    split
    · simp
    · simp; exact putL_len
theorem getL_noRef {x : Str} {es : List DictEntry} (h : es.any (·.refKey) = false) : getL x es = some ((es.find? (·.key.isStr x)).map (·.val)) := by
  unfold getL
  cases es.find? (·.key.isStr x) with
  | some e => rfl
  | none => simp [h]
theorem putL_self {x : Str} {hs : Int} {t : Tok} {v : Value} : ∀ {es : List DictEntry}, ((putL x hs (.str x t) v es).find? (·.key.isStr x)).map (·.val) = some v
  | [] => by simp [putL, isStr_str]
  | e :: r => by
    unfold putL
    split
    · rename_i h; rw [List.find?_cons_of_pos (by simpa using h)]; rfl
    · rename_i h; rw [List.find?_cons_of_neg (by simpa using h)]; exact putL_self
theorem putL_other {x y : Str} {hs : Int} {t : Tok} {v : Value} (hn : y ≠ x) : ∀ {es : List DictEntry}, ((putL x hs (.str x t) v es).find? (·.key.isStr y)).map (·.val) = (es.find? (·.key.isStr y)).map (·.val)
  | [] => by
    unfold putL
    rw [List.find?_cons_of_neg (by rw [isStr_str]; simpa using Ne.symm hn)]
  | e :: r => by
    unfold putL
    split
    · rename_i h
      have := isStr_two h hn
      rw [List.find?_cons_of_neg (by simp [this]), List.find?_cons_of_neg (by simp [this])]
    · rw [List.find?_cons, List.find?_cons]
      split
      · rfl
      · exact putL_other hn

/-- what a class of the text must be for a plain store of an attribute -/
def setOk (K : Frag) (cl : Addr) (x : Str) : Bool := plainOver K cl && (clsIn K cl).any (·.hasDict) && takerIn K cl x == some none && findIn K (.ref cl) "__setattr__" == some (some (.builtin "object.__setattr__"))

section
variable {C : Cx} {A : Around} {env : Env} {ρ ρ' : List (Str × V)} {σ σ' σ₁ σ₂ : List CO}

/-- the store itself -/
theorem setattr_core {prog : Program} {w : World} {K : Frag} {E : Value → Shared → Prop} {cl x dx : Addr} {name : Str} {v : Value} {es : List DictEntry} {n : Nat} {s : Shared} {Q : Unit → Shared → Prop} (X : K.In s.heap) (hK : setOk K cl name = true)
    (hx : s.heap.get? x = some (instObj cl dx)) (hd : s.heap.get? dx = some (dictOf es n)) (hr : es.any (·.refKey) = false) (hz : es.length ≤ 100)
    (h : ∀ (h' : Heap) (tk : Nat) (hs : Int) (t : Tok), Heap.SameBut dx s.heap h' → h'.get? dx = some (dictOf (putL name hs (.str name t) v es) (putN name es n)) → Q () { s with heap := h', toks := tk }) :
    wpAny (model prog w) A (setAttr (.ref x) name v) Q E s := by
  simp only [setOk, Bool.and_eq_true, beq_iff_eq] at hK
  obtain ⟨⟨⟨k1, k2⟩, k3⟩, k4⟩ := hK
  have I : InstAt s.heap x (instObj cl dx) cl (some (dictOf es n)) := ⟨hx, rfl, rfl, hd⟩
  refine set_plain X I k4 ?_
  refine osa_open (s := { s with toks := s.toks + 1 }) X I k1 k3 fun b => ?_
  obtain ⟨cd, hc, hd'⟩ := any_some k2
  have D : (s.heap.update dx (Obj.putName name (PyData.keyHash w.params name) (.str name (s.toks + 1)) v)).get? dx = some (Obj.putName name (PyData.keyHash w.params name) (.str name (s.toks + 1)) v (dictOf es n)) :=
    Heap.get?_update_self _ hd (by rw [putName_dict]; rfl)
  refine wpAny_bind (wpAny_pure (wpAny_bind (wpAny_bind (wpAny_loadPart hx (wpAny_bind (looks_clsIn X hc _ _ _ _ (fun _ _ e => e) ?_))))))
  rw [hd']
  refine wpAny_pure (a := some dx) (wpAny_bind (wpAny_pure (wpAny_bind ?_)))
  unfold nsSet
  refine wpAny_bind (wpAny_bind (wpAny_askSetting (wpAny_pure (wpAny_bind (wpAny_mkText (wpAny_bind (wpAny_loadPart hd ?_)))))))
  dsimp only
  have c : (!es.toArray.any (·.key.isStr name) && es.toArray.any (·.refKey)) = false := by simp [hr]
  rw [aRefKeyMayBeTheName_at, c]
  refine wpAny_updatePart hd ?_
  refine wpAny_bind (wpAny_lookBehind D (by rw [putName_dict]; exact pastItsLine_dict (by rw [List.size_toArray, sizeLine_eq]; have := @putL_len name (PyData.keyHash w.params name) (.str name (s.toks + 1)) v es; omega)) ?_)
  exact wpAny_pure (h _ _ (PyData.keyHash w.params name) (s.toks + 1) (Heap.SameBut.update ..) (D.trans (congrArg some (putName_dict ..))))

theorem X1.setA {K : Frag} (X : K.In C.hB) {e o : Expr} {x : Str} {ap pos : Pos} {v : V} {cl : Addr} {c : Nat} {fs : List (Str × V)} {Φ : Out → Prop} (h₁ : Ev C A env ρ σ e v σ₁) (h₂ : Ev C A env ρ σ₁ o (.inst cl c) σ₂) (hc : σ₂[c]? = some (.attrs fs)) (hz : fs.length < 99)
    (hK : setOk K cl x = true) (hp : Φ (.next ρ (σ₂.set c (.attrs ((x, v) :: fs))))) (hs : swapsWith e (some (.Attribute o x ap)) pos.line env = pure false) : X1 C A env ρ σ (.Assign [.Attribute o x ap] e pos) Φ := fun s cs xs Q W k => by
  refine plainObj_wpAny_Assign_Attribute (h₁ s cs xs _ W fun val ha ta ca ga Ra ra => ?_) hs
  refine h₂ _ ca xs _ (W.on ga Ra) fun ov hb tb cb gb Rb rb => ?_
  have Wb : Wd C env ρ σ₂ hb cb xs := (W.on ga Ra).on gb Rb
  obtain ⟨_, _, rfl, hx, hnx, hxx, hcs⟩ := rb.instI
  obtain ⟨es, n, g, hd, hlen, hnr, hg, hv⟩ := Rb.at_ _ _ _ hcs hc
  refine setattr_core (s := { s with heap := hb, toks := tb }) (X.keeps Wb.F.base) hK hx hd hnr (by omega) fun h' tk hsh t hS hD => ?_
  have g' : Gx nX cb hb cb h' := Gx.upd (List.mem_of_getElem? hcs) hS
  have R' : CR h' cb xs (σ₂.set c (.attrs ((x, v) :: fs))) := by
    refine Rb.upd hcs hS ⟨_, _, fun y => if y = x then val else g y, hD, by have := @putL_len x hsh (.str x t) val es; simp; omega, putL_noRef hnr, fun y w ey => ?_, fun y w ey => ?_⟩
    · rw [lookup_cons'] at ey
      rw [getL_noRef (putL_noRef hnr)]
      by_cases q : y = x
      · subst q; simp [putL_self]
      · rw [if_neg q] at ey
        have := hg y w ey
        rw [getL_noRef hnr] at this
        rw [putL_other q]; simp only [if_neg q]; exact this
    · rw [lookup_cons'] at ey
      by_cases q : y = x
      · rw [if_pos q] at ey; cases ey; simp only [if_pos q]; exact (ra.on gb).on g'
      · rw [if_neg q] at ey; simp only [if_neg q]; exact (hv y w ey).on g'
  exact k (.next ρ _) .next h' tk cb hp ((((ga.trans gb).trans g')).ofF W.F) (Wb.on g' R')

/-- a class of the text is called: its `__init__` runs over a fresh object -/
theorem ClK.make {K : Frag} (X : K.In C.hB) {cl fI : Addr} {vs : List V} (hm : makesIn K cl = true) (hi : findIn K (.ref cl) "__init__" = some (some (.ref fI))) (hf : typeIn K (.ref fI) = some (.type "function"))
    (h : ∀ A' : Around, A'.handled = A.handled → A'.depth = A.depth + 1 → A'.units = A.units + 1 → ClK C A' (σ ++ [.attrs []]) (.ref fI) (.inst cl σ.length :: vs) .non σ') : ClK C A σ (.ref cl) vs (.inst cl σ.length) σ' := fun env ρ s cs xs us R W r k => by
  obtain ⟨hh, g, d, t, os⟩ := s
  have XX := X.keeps W.F.base
  refine make_core (makes_of XX hm) (looks_findIn XX hi) (fun self => bind_fn XX self hf) (.inl rfl) ?_
  have kk : ∀ b o, hh.get? b = some o → ((hh.push emptyDict).push (instObj cl hh.objs.size)).get? b = some o := fun b o e => Heap.get?_push_of_some _ (Heap.get?_push_of_some _ e)
  have hD : ((hh.push emptyDict).push (instObj cl hh.objs.size)).get? hh.objs.size = some emptyDict := Heap.get?_push_of_some _ (Heap.get?_push_size _ rfl)
  have hX : ((hh.push emptyDict).push (instObj cl hh.objs.size)).get? (hh.objs.size + 1) = some (instObj cl hh.objs.size) := by
    have := Heap.get?_push_size (hh.push emptyDict) (o := instObj cl hh.objs.size) rfl
    rwa [Heap.size_push] at this
  have nD := W.new _ (get_size_none hh)
  have nX' := W.new _ (size_more hh 1)
  have g1 : Gx nX cs hh (cs ++ [hh.objs.size]) ((hh.push emptyDict).push (instObj cl hh.objs.size)) := by
    refine ⟨List.prefix_append _ _, fun b o e _ _ => kk b o e, fun a ha => ?_⟩
    rcases List.mem_append.mp ha with q | q
    · exact .inl q
    · rw [List.mem_singleton.mp q]; exact .inr ⟨get_size_none hh, fun f => f⟩
  have R1 : CR ((hh.push emptyDict).push (instObj cl hh.objs.size)) (cs ++ [hh.objs.size]) xs (σ ++ [.attrs []]) := by
    refine ⟨by simp [W.R.len], List.nodup_append.mpr ⟨W.R.nodup, by simp, fun a ha b hb => ?_⟩, fun i a c e1 e2 => ?_⟩
    · rw [List.mem_singleton.mp hb]; exact fun q => nD.1 (q ▸ ha)
    · by_cases hi : i < cs.length
      · rw [List.getElem?_append_left hi] at e1
        rw [List.getElem?_append_left (W.R.len ▸ hi)] at e2
        have := W.R.at_ i a c e1 e2
        cases c with
        | list vs => obtain ⟨us, ⟨n, p⟩, q⟩ := this; exact ⟨us, ⟨n, kk _ _ p⟩, q.on g1⟩
        | attrs fs => obtain ⟨es, n, g, p, q1, q2, q3, q4⟩ := this; exact ⟨es, n, g, kk _ _ p, q1, q2, q3, fun x v e => (q4 x v e).on g1⟩
        | dict kvs => exact DictC.go this (fun o e => kk _ _ e) fun b o e hn hx => ⟨kk _ _ e, fun q => (List.mem_append.mp q).elim hn fun z => (by rw [List.mem_singleton.mp z, get_size_none] at e; cases e), hx⟩
      · have hi' : cs.length ≤ i := Nat.le_of_not_lt hi
        rw [List.getElem?_append_right hi'] at e1
        rw [List.getElem?_append_right (W.R.len ▸ hi'), ← W.R.len] at e2
        cases q : i - cs.length with
        | zero =>
          rw [q] at e1 e2; simp at e1 e2; subst e1; subst e2
          exact ⟨[], 0, fun _ => .none, hD, Nat.le_refl _, rfl, fun x v e => by simp at e, fun x v e => by simp at e⟩
        | succ j => rw [q] at e1; simp at e1
  have W1 : Wd C env ρ (σ ++ [.attrs []]) ((hh.push emptyDict).push (instObj cl hh.objs.size)) (cs ++ [hh.objs.size]) xs := W.on g1 R1
  have rx : VR ((hh.push emptyDict).push (instObj cl hh.objs.size)) (cs ++ [hh.objs.size]) xs (.inst cl σ.length) (.ref (hh.objs.size + 1)) := by
    refine .inst hX (fun hm => ?_) nX'.2 (by rw [← W.R.len]; simp)
    rcases List.mem_append.mp hm with q | q
    · exact nX'.1 q
    · exact absurd (List.mem_singleton.mp q) (neA (Nat.succ_ne_self _))
  refine h (A.under (.builtin "type.__call__" ⟨.ref cl :: us, []⟩)) rfl (by kernel_rfl) (by kernel_rfl) env ρ ⟨_, g, d, t, os⟩ (cs ++ [hh.objs.size]) xs _ (InitBack (hh.objs.size + 1) R) W1 (.cons rx (r.on g1)) fun val h' tk cs' g2 R2 r2 => ?_
  obtain rfl := r2.nonI
  exact ⟨rfl, k _ h' tk cs' (g1.trans g2) R2 (rx.on g2)⟩
end
end Mine

namespace Mine

section
variable {C : Cx} {A : Around} {env : Env} {ρ ρ' : List (Str × V)} {σ σ' σ₁ σ₂ σ₃ : List CO}

/-- one more changing object, made just now -/
theorem CR.snoc {h h' : Heap} {cs xs : List Addr} {D : Addr} {c : CO} (R : CR h cs xs σ) (hk : ∀ b o, h.get? b = some o → h'.get? b = some o) (hD : D ∉ cs) (hn : h.get? D = none) (hc : COR h' (cs ++ [D]) xs D c) :
    Gx nX cs h (cs ++ [D]) h' ∧ CR h' (cs ++ [D]) xs (σ ++ [c]) := by
  have g1 : Gx nX cs h (cs ++ [D]) h' := by
    refine ⟨List.prefix_append _ _, fun b o e _ _ => hk b o e, fun a ha => ?_⟩
    rcases List.mem_append.mp ha with q | q
    · exact .inl q
    · rw [List.mem_singleton.mp q]; exact .inr ⟨hn, fun f => f⟩
  refine ⟨g1, by simp [R.len], List.nodup_append.mpr ⟨R.nodup, by simp, fun a ha b hb => ?_⟩, fun i a c' e1 e2 => ?_⟩
  · rw [List.mem_singleton.mp hb]; exact fun q => hD (q ▸ ha)
  · by_cases hi : i < cs.length
    · rw [List.getElem?_append_left hi] at e1
      rw [List.getElem?_append_left (R.len ▸ hi)] at e2
      have := R.at_ i a c' e1 e2
      cases c' with
      | list vs => obtain ⟨us, ⟨n, p⟩, q⟩ := this; exact ⟨us, ⟨n, hk _ _ p⟩, q.on g1⟩
      | attrs fs => obtain ⟨es, n, g, p, q1, q2, q3, q4⟩ := this; exact ⟨es, n, g, hk _ _ p, q1, q2, q3, fun x v e => (q4 x v e).on g1⟩
      | dict kvs => exact DictC.go this (fun o e => hk _ _ e) fun b o e hn' hx => ⟨hk _ _ e, fun q => (List.mem_append.mp q).elim hn' fun z => (by rw [List.mem_singleton.mp z, hn] at e; cases e), hx⟩
    · have hi' : cs.length ≤ i := Nat.le_of_not_lt hi
      rw [List.getElem?_append_right hi'] at e1
      rw [List.getElem?_append_right (R.len ▸ hi'), ← R.len] at e2
      cases q : i - cs.length with
      | zero => rw [q] at e1 e2; simp at e1 e2; subst e1; subst e2; exact hc
      | succ j => rw [q] at e1; simp at e1

theorem Kt.newMu {s : Shared} {cs xs : List Addr} {vs : List V} {us : List Value} {h' : Heap} {tk : Nat} {D : Addr} {Q : Value → Shared → Prop} (k : Kt (σ ++ [.list vs]) (.mu σ.length) s cs xs Q) (W : Wd C env ρ σ s.heap cs xs) (hk : ∀ b o, s.heap.get? b = some o → h'.get? b = some o)
    (hD : s.heap.get? D = none) (hp : h'.PlainList D us.toArray) (r : VRs s.heap cs xs vs us) : Q (.ref D) { s with heap := h', toks := tk } := by
  have nD := (W.new _ hD).1
  have g1 : Gx nX cs s.heap (cs ++ [D]) h' := by
    refine ⟨List.prefix_append _ _, fun b o e _ _ => hk b o e, fun a ha => ?_⟩
    rcases List.mem_append.mp ha with q | q
    · exact .inl q
    · rw [List.mem_singleton.mp q]; exact .inr ⟨hD, fun f => f⟩
  obtain ⟨g, R⟩ := W.R.snoc (c := .list vs) hk nD hD ⟨us.toArray, hp, by simpa using r.on g1⟩
  exact k _ h' tk _ g R (.mu (by rw [← W.R.len]; simp))

theorem foldl_rep (u : Value) : ∀ (n : Nat) (acc : Array Value), List.foldl (fun x1 x2 => x1 ++ x2) acc (List.replicate n #[u]) = acc ++ (List.replicate n u).toArray
  | 0, acc => by simp
  | n + 1, acc => by
    rw [List.replicate_succ, List.foldl_cons, foldl_rep u n]
    apply Array.toList_inj.mp
    simp [List.replicate_succ]
theorem VRs.rep {h : Heap} {cs xs : List Addr} {v : V} {u : Value} (r : VR h cs xs v u) : ∀ n : Nat, VRs h cs xs (List.replicate n v) (List.replicate n u)
  | 0 => .nil
  | n + 1 => .cons r (VRs.rep r n)

/-- `[v] * n`, a new list that may change -/
theorem Op2.rep {v : V} {n : Int} (hlo : -(2 ^ 63 : Int) ≤ n) (hhi : n ≤ sizeLine) : Op2 C A σ (.list [v]) (.int n) (binaryOp .Mult) (.mu σ.length) (σ ++ [.list (List.replicate n.toNat v)]) := fun env ρ s cs xs x y Q W r r' k => by
  obtain ⟨l, us, rfl, ⟨m, hl⟩, _, _, rs⟩ := r.listAt
  obtain ⟨u, rfl⟩ := r'.intI
  obtain ⟨u0, eu, r0⟩ := rs.one
  have eus : us = #[u0] := by rw [← Array.toList_inj]; simpa using eu
  subst eus
  have hs : sizeLine = 2 ^ 24 := by rw [sizeLine_eq]
  have h2 : n.toNat ≤ 2 ^ 24 := by omega
  refine wpAny_binaryOp_repeat_ref (T := "list") (U := "int") (by decide) ⟨_, hl, rfl⟩ (fun s' => typeIs_int s' n u) noFill_list_mul F.fills_int_mul F.slot_int_rmul repeat_list F.slot_int_index.lookup
    (call_meets F.slot_int_rmul (typeIs_int s n u) F.entry_int_rmul (F.args_int_rmul_2 _ _) (int___rmul___int_list n u l #[u0] m)
      ⟨hl, rfl, ⟨_, hl, rfl⟩, call_meets F.slot_list_mul ⟨_, hl, rfl⟩ F.entry_list_mul (F.args_list_mul_2 _ _)
        (AutoListH.list___mul___list_int_3 l #[u0] m n u (by simp [Builtin.List.listFitsIndex]; omega) (by simp; omega) (by simp [Builtin.List.listTooLong, hs]; omega))
        ⟨hl, ?_⟩⟩)
  refine k.newMu (us := List.replicate n.toNat u0) W (push_keeps _ _) (get_size_none _) ⟨0, ?_⟩ (VRs.rep r0 _)
  have := Heap.get?_push_size s.heap (o := { cls := Value.type "list", data := Data.seq (List.foldl (fun x1 x2 => x1 ++ x2) #[] (List.replicate (if (#[u0] : Array Value).isEmpty = true then 0 else n.toNat) #[u0])) }) rfl
  rw [this]
  simp [foldl_rep]

/-- a list display, a new list that may change -/
theorem Ev.listMu {es : List Expr} {pos : Pos} {vs : List V} (h : Args C A env ρ σ pos es vs σ') (hz : vs.length ≤ sizeLine) : Ev C A env ρ σ (.List es pos) (.mu σ'.length) (σ' ++ [.list vs]) := fun s cs xs Q W k => by
  refine wpAny_List (h s cs xs _ W fun us h' tk cs' g R r => ⟨r.1 ▸ hz, ?_⟩)
  exact (k.after (t₁ := tk) g).newMu (us := us) (W.on g R) (push_keeps _ _) (get_size_none _) ⟨0, Heap.get?_push_size _ rfl⟩ r

/-- an item of a changing list takes a value -/
theorem X1.setI {e o i : Expr} {sp pos : Pos} {v : V} {c : Nat} {n : Int} {vs : List V} {Φ : Out → Prop} (h₁ : Ev C A env ρ σ e v σ₁) (h₂ : Ev C A env ρ σ₁ o (.mu c) σ₂) (h₃ : Ev C A env ρ σ₂ i (.int n) σ₃) (hc : σ₃[c]? = some (.list vs))
    (h0 : 0 ≤ n) (hn : n < vs.length) (hfit : n < 2 ^ 63) (hp : Φ (.next ρ (σ₃.set c (.list (vs.set n.toNat v))))) (hs : swapsWith e (some (.Subscript o i sp)) pos.line env = pure false) : X1 C A env ρ σ (.Assign [.Subscript o i sp] e pos) Φ := fun s cs xs Q W k => by
  refine wpAny_Assign_Subscript (h₁ s cs xs _ W fun val ha ta ca ga Ra ra => ?_) hs
  refine h₂ _ ca xs _ (W.on ga Ra) fun ov hb tb cb gb Rb rb => ?_
  refine h₃ _ cb xs _ ((W.on ga Ra).on gb Rb) fun iv hd td cd gd Rd rd => ?_
  have Wd' : Wd C env ρ σ₃ hd cd xs := ((W.on ga Ra).on gb Rb).on gd Rd
  obtain ⟨t, rfl⟩ := rd.intAt
  obtain ⟨a, us, rfl, ea, ⟨m, ho⟩, rs⟩ := mu_at (s := { s with heap := hd, toks := td }) hc Wd' (rb.on gd)
  have eus : us.size = vs.length := by have := rs.1; simpa using this.symm
  refine PySem.W.ki_setAt (n := m) ho h0 hfit (by omega) ?_
  have hS : Heap.SameBut a hd (hd.update a (Obj.mapSeq (·.setIfInBounds n.toNat val))) := Heap.SameBut.update ..
  have hD : (hd.update a (Obj.mapSeq (·.setIfInBounds n.toNat val))).PlainList a (us.setIfInBounds n.toNat val) := ⟨_, Heap.get?_update_self (h := hd) (Obj.mapSeq (·.setIfInBounds n.toNat val)) ho rfl⟩
  have g' : Gx nX cd hd cd (hd.update a (Obj.mapSeq (·.setIfInBounds n.toNat val))) := Gx.upd (List.mem_of_getElem? ea) hS
  have rv : VR hd cd xs v val := (ra.on gb).on gd
  have R' : CR (hd.update a (Obj.mapSeq (·.setIfInBounds n.toNat val))) cd xs (σ₃.set c (.list (vs.set n.toNat v))) := by
    refine Rd.upd ea hS ⟨_, hD, ⟨by simp [eus], fun j w y e1 e2 => ?_⟩⟩
    rw [Array.toList_setIfInBounds] at e2
    by_cases q : n.toNat = j
    · subst q
      rw [List.getElem?_set_self (by omega)] at e1; cases e1
      rw [List.getElem?_set_self (by simp; omega)] at e2; cases e2
      exact rv.on g'
    · rw [List.getElem?_set_ne q] at e1 e2
      exact (rs.2 j w y e1 e2).on g'
  exact k (.next ρ _) .next _ td cd hp ((((ga.trans gb).trans gd).trans g').ofF W.F) (Wd'.on g' R')

/-- `a op b op c` as a test -/
theorem Ts.chain {l r₁ r₂ : Expr} {op₁ op₂ : CmpOp} {pos : Pos} {a b c : V} {p q : Bool} (h₁ : Ev C A env ρ σ l a σ) (h₂ : Ev C A env ρ σ r₁ b σ) (c₁ : Op2 C A σ a b (compareOp op₁) (.bool p) σ) (h₃ : Ev C A env ρ σ r₂ c σ) (c₂ : Op2 C A σ b c (compareOp op₂) (.bool q) σ)
    (hm : lastMarks [op₁, op₂] [r₁, r₂] = false) : Ts C A env ρ σ (.Compare l [op₁, op₂] [r₁, r₂] pos) (p && q) σ := fun s cs xs Q W k => by
  refine isTrue_chain (h₁ s cs xs _ W fun x ha ta ca ga Ra ra => ?_) hm
  refine test_link (h₂ _ ca xs _ (W.on ga Ra) fun y hb tb cb gb Rb rb => ?_)
  have Wb := (W.on ga Ra).on gb Rb
  refine c₁ env ρ _ cb xs x y _ Wb (ra.on gb) rb fun z hz tz cz gz Rz rz => ?_
  obtain rfl := rz.boolI
  refine wpAny_truthy_bool ?_
  cases p with
  | false => exact k hz tz cz ((ga.trans gb).trans gz) Rz
  | true =>
    refine test_last (h₃ _ cz xs _ (Wb.on gz Rz) fun u hd td cd gd Rd rd => ?_)
    refine c₂ env ρ _ cd xs y u _ ((Wb.on gz Rz).on gd Rd) ((rb.on gz).on gd) rd fun z' hz' tz' cz' gz' Rz' rz' => ?_
    obtain rfl := rz'.boolI
    exact wpAny_truthy_bool (k hz' tz' cz' ((((ga.trans gb).trans gz).trans gd).trans gz') Rz')

/-- a call of a class of the text, or of a def, found in K -/
theorem with_K {K : Frag} (X : K.In C.hB) {f : Value} {e : Expr} {es : List Expr} {pos : Pos} (hk : keepIn K f = true) (he : starEach (e :: es) env = (false, eval e env) :: starEach es env) (hp : (backTo pos (starEach es env)).any (·.1) = false) :
    ∀ (s : Shared) (Q : Value → Shared → Prop), (∀ b o, C.hB.get? b = some o → s.heap.get? b = some o) →
      wpAny (model C.prog C.w) A (spliced (backTo pos (starEach (e :: es) env))) (fun us s₁ => (∀ b o, C.hB.get? b = some o → s₁.heap.get? b = some o) ∧ wpAny (model C.prog C.w) A (call f us) Q noE s₁) noE s →
      wpAny (model C.prog C.w) A (callWith pos f [] (backTo pos (starEach (e :: es) env)) []) Q noE s := fun _ _ _ h =>
  callWith_K X hk (wpAny_mono h (fun _ _ x => ⟨X.keeps x.1, x.2⟩) fun _ _ x => x) he hp

/-- `Cls.m(args)`: a def of a class's body, called through the class -/
def clsOk (K : Frag) (cl f : Addr) (m : Str) : Bool := specialIn K (.ref cl) "__getattribute__" == some (some (.builtin "type.__getattribute__")) && readsIn K cl (.type "type") && (match findCls K (.ref cl) (.type "type") m with
  | some (.val v) => v == .ref f
  | _ => false) && keepIn K (.ref f)
theorem Ev.callC {K : Frag} (X : K.In C.hB) {o e : Expr} {m : Str} {ap pos : Pos} {es : List Expr} {cl f : Addr} {vs : List V} {v : V} {pl : Sem Bool} (ho : Ev C A env ρ σ o (.raw (.ref cl)) σ₁) (hK : clsOk K cl f m = true) (hargs : Args C A env ρ σ₁ pos (e :: es) vs σ₂) (h : Cl C A σ₂ (.ref f) vs v σ')
    (hc : eval (.Call (.Attribute o m ap) (e :: es) [] pos) env = (do
      let ov ← eval o env
      standAt ap.atName
      let (f, first) ← holding [ov] (getMethod ov m pl)
      callWith pos f first (backTo pos (starEach (e :: es) env)) (backToKw pos (keywordEach [] env))))
    (he : starEach (e :: es) env = (false, eval e env) :: starEach es env) (hp : (backTo pos (starEach es env)).any (·.1) = false) : Ev C A env ρ σ (.Call (.Attribute o m ap) (e :: es) [] pos) v σ' := fun s cs xs Q W k => by
  simp only [clsOk, Bool.and_eq_true, beq_iff_eq] at hK
  obtain ⟨⟨⟨k1, k2⟩, k3⟩, k4⟩ := hK
  refine methodCall_KW (ho s cs xs _ W fun ov ha ta ca ga Ra ra => ?_) hc
  obtain rfl := ra.rawI
  have Wa := W.on ga Ra
  have XX := X.keeps Wa.F.base
  refine method_cls XX k1 ?_
  cases q : findCls K (.ref cl) (.type "type") m with
  | none => rw [q] at k3; simp at k3
  | some r =>
    cases r with
    | val w =>
      rw [q] at k3
      have := beq_iff_eq.mp k3
      subst this
      refine cls_value XX k2 q rfl ?_
      refine callWith_K XX k4 ?_ he hp
      refine hargs _ ca xs _ (Wa.on (Gx.refl _ _ _) Ra) fun us h' tk cs' g R r => ⟨X.keeps (Wa.on g R).F.base, ?_⟩
      exact h env ρ _ cs' xs us Q (Wa.on g R) r ((k.after ga).after g)
    | get _ _ _ _ => rw [q] at k3; simp at k3
end
end Mine

namespace Mine

/-! facts of the frozen heap K, for the rules -/
def fnAt (K : Frag) (f : Addr) : Option FuncData := match K.lookup f with
  | some o => (match o.data with
    | .func fd => some fd
    | _ => none)
  | none => none
theorem fnAt_at {K : Frag} {h : Heap} (X : K.In h) {f : Addr} {fd : FuncData} (e : fnAt K f = some fd) : ∃ o, h.get? f = some o ∧ o.data = .func fd := by
  unfold fnAt at e
  split at e
  · rename_i o ho
    split at e
    · rename_i fd' hd; cases e; exact ⟨o, X _ _ ho, hd⟩
    · cases e
  · cases e
/-- the names of a def are its own, or cells -/
def kindsOk (sc : Scope) (names : List Str) : Bool := names.all fun x => sc.names.lookup x == some .local || sc.names.lookup x == some .cell
theorem Fun.of {K : Frag} {h : Heap} (X : K.In h) (hl : h.NoLimit) {f : Addr} {fd : FuncData} {names : List Str} {body : List Stmt} (e : fnAt K f = some fd) (hc : codeIn K fd.code fd.qualname = true) (hb : fd.body = .stmts body) (hclo : fd.closure = [])
    (hbind : ∀ us : List Value, us.length = names.length → bindArgs fd ⟨us, []⟩ = pure (names.zip us)) (hnd : names.Nodup) (hk : kindsOk fd.scope names = true) (hco : fd.scope.isCoroutine = false) (hgen : fd.scope.isGenerator = false) (hfn : fd.scope.kind = .function)
    (hg : fd.globals = mainGlobals) (hbl : fd.builtins = builtinsNs) : Fun h f fd names body where
  at_ := fnAt_at X e
  lim := hl
  code := codeRec_of X hc
  body := hb
  clo := hclo
  bind := hbind
  nodup := hnd
  kind := fun x hx => by
    have := List.all_eq_true.mp hk x hx
    rcases Bool.or_eq_true_iff.mp this with q | q
    · exact .inl (beq_iff_eq.mp q)
    · exact .inr ⟨beq_iff_eq.mp q, fun n => cellsFrom_some _ _ _ (.inl (beq_iff_eq.mp q))⟩
  co := hco
  gen := hgen
  fn := hfn
  gl := hg
  bl := hbl

theorem findBy_find {α : Type} {p : α → Value → Bool} : ∀ {es : List DictEntry} {x : α}, findBy p es.toArray x = (es.find? fun e => p x e.key).map (·.val) := by
  intro es x
  unfold findBy
  simp
/-- a name in the frozen heap's namespace -/
theorem ns_of {K : Frag} {h : Heap} (X : K.In h) {a : Addr} {m : Str → Option Value} (hn : h.Ns a m) {x : Str} {r : Option Value} (e : nsIn K a x = some r) : m x = r := by
  unfold nsIn at e
  split at e
  · rename_i es n sl ho
    obtain ⟨o', es', ep, ho', hd, _, hm⟩ := hn
    have := (X _ _ ho).symm.trans ho'
    cases this
    cases hd
    rw [← hm x]
    unfold nsFind
    obtain ⟨l⟩ := es
    rw [findBy_find]
    split at e
    · rename_i en hen; cases e; simp only [List.toList_toArray] at hen ⊢; rw [hen]; rfl
    · rename_i hen; simp only [List.toList_toArray] at hen ⊢; rw [hen]
      split at e
      · cases e
      · cases e; rfl
  · cases e
theorem Glb.mod {K : Frag} {h : Heap} (X : K.In h) {mg mb : Str → Option Value} (hg : h.Ns mainGlobals mg) (hb : h.Ns builtinsNs mb) {x : Str} {val : Value} (e : nsIn K mainGlobals x = some (some val)) : Glb h x val := ⟨mg, mb, hg, hb, .inl (ns_of X hg e)⟩
theorem Glb.bui {K : Frag} {h : Heap} (X : K.In h) {mg mb : Str → Option Value} (hg : h.Ns mainGlobals mg) (hb : h.Ns builtinsNs mb) (hbt : ∀ x : Str, x ≠ "__name__" → mb x = bootBuiltins x) {x : Str} {val : Value} (e : nsIn K mainGlobals x = some none)
    (hx : x ≠ "__name__") (e' : bootBuiltins x = some val) : Glb h x val := ⟨mg, mb, hg, hb, .inr ⟨ns_of X hg e, (hbt x hx).trans e'⟩⟩

theorem cellsFrom_facts (names : List (Str × NameKind)) (L : Nat) : (cellsFrom (L + 1) names []).Pairwise (fun x y => x.2 ≠ y.2) ∧ ∀ n c, (n, c) ∈ cellsFrom (L + 1) names [] → @LT.lt Nat _ L c := by
  let h : Heap := { (default : Heap) with objs := Array.replicate (L + 1) default }
  have hs : h.objs.size = L + 1 := by simp [h]
  have := cellsFrom_ok names h (L + 1) [] ⟨fun n c hm => by simp at hm, .nil⟩ (by rw [hs]; exact Nat.le_refl _)
  rw [hs] at this
  exact ⟨this.apart, fun n c hm => (this.empty n c hm).2⟩

/-- the law's own frame, at its start -/
theorem law_top {prog : Program} {w : World} {h₀ h₁ : Heap} {nm : Str} {sc : Scope} {fa : Addr} {cd : Value} {a : Addr} {us : List Value} {ns : List Int} {P : Params} {m cm : Str → Option Value} {news : List (Addr × Obj)} (hf : sc.kind = .function)
    (F : Fr h₀ h₀.objs.size h₁ m) (N : News h₀ h₀.objs.size h₁ news) (X : CellsAre cm (cellsFrom (h₀.objs.size + 1) sc.names []) news)
    (w1 : Well P h₀ (.ref a) (ofPy (.list (ns.map .int)))) (hL : h₀.IsList a us.toArray) (hI : IntsAre us ns) (hm : m "script" = some (.ref a)) (hk : sc.names.lookup ("script" : Str) = some .local) :
    ∃ xs, Wd ⟨prog, w, h₀⟩ (envOfC nm sc h₀.objs.size fa cd) [("script", Li ns)] [] h₁ [] xs := by
  obtain ⟨hap, hab⟩ := cellsFrom_facts sc.names h₀.objs.size
  have hcl := PyProof.Rows.Cl.of_news (own := []) N X hap hab
  let env := envOfC nm sc h₀.objs.size fa cd
  let ys : List Addr := env.locals :: (env.cells.map (·.1)).filterMap (env.cells.lookup ·)
  have hin : ∀ n c, env.cells.lookup n = some c → c ∈ ys := fun n c e => .tail _ (List.mem_filterMap.mpr ⟨n, List.mem_map.mpr ⟨(n, c), mem_of_lookup e, rfl⟩, e⟩)
  have hout : ∀ b ∈ ys, b = h₀.objs.size ∨ ∃ n, env.cells.lookup n = some b := fun b hb => by
    rcases List.mem_cons.mp hb with rfl | hb
    · exact .inl rfl
    · obtain ⟨n, _, e⟩ := List.mem_filterMap.mp hb; exact .inr ⟨n, e⟩
  have hnew : ∀ b ∈ ys, h₀.get? b = none := fun b hb => by
    have hle : h₀.objs.size ≤ b := by
      rcases hout b hb with rfl | ⟨n, e⟩
      · exact Nat.le_refl _
      · exact Nat.le_of_lt (hab n b (mem_of_lookup e))
    cases q : h₀.get? b with
    | none => rfl
    | some o => exact absurd (Heap.lt_size q) (Nat.not_lt.mpr hle)
  have hplain : h₀.PlainList a us.toArray := by
    cases w1 with
    | list ho _ =>
      obtain ⟨o, ho', _, n, hd⟩ := hL
      have := ho.symm.trans ho'
      cases this
      cases hd
      exact ⟨_, ho⟩
  have hax : a ∉ ys := fun hm => by obtain ⟨n, e⟩ := hplain; rw [hnew a hm] at e; cases e
  obtain ⟨pn, pe⟩ := hplain
  refine ⟨ys, ⟨hf, F.keep, fun _ hm => by simp at hm, hnew, fun b hb => ?_, fun _ _ hm => by simp at hm, .head _, hin, ⟨m, F.ns, fun x v e kk => ?_⟩, fun n c e => ⟨cm n, hcl.cell n c e, fun v e1 e2 => ?_⟩,
    fun n n' c e e' => name_of_addr hap (mem_of_lookup e) (mem_of_lookup e'), fun n c e => neA (Nat.ne_of_gt (hab n c (mem_of_lookup e))), fun n hk => cellsFrom_some _ _ _ (.inl hk), Nat.le_refl _, rfl, rfl⟩, ⟨rfl, List.nodup_nil, fun i a c e => by simp at e⟩⟩
  · rcases hout b hb with rfl | ⟨n, e⟩
    · obtain ⟨o, _, _, e, _⟩ := F.ns; exact ⟨o, e⟩
    · obtain ⟨o, e, _⟩ := hcl.cell n b e; exact ⟨o, e⟩
  · rw [lookup_cons'] at e
    by_cases q : x = ("script" : Str)
    · rw [if_pos q] at e; cases e
      subst q
      exact ⟨.ref a, hm, .mkList ⟨pn, F.keep _ _ pe⟩ (by simp) hax (.ofInts (by simpa using hI))⟩
    · rw [if_neg q] at e; simp at e
  · rw [lookup_cons'] at e1
    by_cases q : n = ("script" : Str)
    · subst q
      have : sc.names.lookup ("script" : Str) = some .cell := e2
      rw [hk] at this; cases this
    · rw [if_neg q] at e1; simp at e1

theorem law_fin {C : Cx} {A : Around} {env : Env} {ρ : List (Str × V)} {body : List Stmt} {s : Shared} {xs : List Addr} {Q : Flow → Shared → Prop} {E : Value → Shared → Prop} (W : Wd C env ρ [] s.heap [] xs)
    (h : Ex C A env ρ [] body fun o => ∃ σ, o = .ret (.bool true) σ) (hQ : ∀ h' tk, (∀ b o, C.hB.get? b = some o → h'.get? b = some o) → Q (.ret (.bool true)) { s with heap := h', toks := tk }) : wpAny (model C.prog C.w) A (execs body env) Q E s := by
  refine wpAny_mono (h s [] xs Q W fun o f h' tk cs' ho g r => ?_) (fun _ _ q => q) fun _ _ f => f.elim
  obtain ⟨σ, rfl⟩ := ho
  cases f with
  | ret val =>
    obtain ⟨_, r⟩ := r
    cases r
    exact hQ h' tk fun b o e => g.keep b o (W.F.base b o e) (by simp) fun q => by rw [W.F.xsB b (W.F.fx b q)] at e; cases e
  | _ => exact r.elim
end Mine

namespace Mine

abbrev Rho := List (Str × V)
/-- room for d calls more -/
structure Rm (A : Around) (d : Nat) : Prop where
  h : A.handled = none
  dep : A.depth + d ≤ 1000
  un : A.units + 8 * d < 9900
theorem Rm.deeper {A : Around} {d : Nat} {env : Env} (r : Rm A (d + 1)) : Rm (A.deeper env) d := ⟨r.h, by have := r.dep; show A.depth + 1 + d ≤ 1000; omega, by have := r.un; show A.units + 3 + 8 * d < 9900; omega⟩
theorem Rm.cls {A A' : Around} {d : Nat} (r : Rm A (d + 1)) (h1 : A'.handled = A.handled) (h2 : A'.depth = A.depth + 1) (h3 : A'.units = A.units + 1) : Rm A' d := ⟨h1.trans r.h, by have := r.dep; omega, by have := r.un; omega⟩
theorem Rm.less {A : Around} {d e : Nat} (r : Rm A d) (h : e ≤ d) : Rm A e := ⟨r.h, by have := r.dep; omega, by have := r.un; omega⟩
theorem Rm.room {A : Around} {d : Nat} (r : Rm A (d + 1)) : A.depth < recursionLimit := by have := r.dep; show A.depth < 1000; omega
theorem Rm.cmp {A : Around} {d n : Nat} (r : Rm A (d + 1)) (h : n ≤ 8) : A.units + n < cLine := by have := r.un; show A.units + n < 9900; omega

section
variable {C : Cx} {A : Around} {env : Env} {ρ ρ' : List (Str × V)} {σ σ' σ₁ σ₂ σ₃ : List CO}
theorem X1.iteT {t : Expr} {a b : List Stmt} {pos : Pos} {Φ : Out → Prop} (ht : Ts C A env ρ σ t true σ₁) (h : Ex C A env ρ σ₁ a Φ) : X1 C A env ρ σ (.If t a b pos) Φ := X1.ite ht (by rw [if_pos rfl]; exact h)
theorem X1.iteF {t : Expr} {a b : List Stmt} {pos : Pos} {Φ : Out → Prop} (ht : Ts C A env ρ σ t false σ₁) (h : Ex C A env ρ σ₁ b Φ) : X1 C A env ρ σ (.If t a b pos) Φ := X1.ite ht (by rw [if_neg (by decide)]; exact h)
/-- a return ends the body -/
theorem Ex.ret {e : Expr} {pos : Pos} {rest : List Stmt} {v : V} {Φ : Out → Prop} (h : Ev C A env ρ σ e v σ') (hp : Φ (.ret v σ')) : Ex C A env ρ σ (.Return (some e) pos :: rest) Φ := Ex.cons (X1.ret h hp)
theorem Ex.asg {x : Str} {xp pos : Pos} {e : Expr} {v : V} {rest : List Stmt} {Φ : Out → Prop} (h : Ev C A env ρ σ e v σ₁) (hs : swapsWith e (some (.Name x xp)) pos.line env = pure false) (hb : Sn C A env ρ σ₁ x v ρ') (hr : Ex C A env ρ' σ₁ rest Φ) :
    Ex C A env ρ σ (.Assign [.Name x xp] e pos :: rest) Φ := Ex.cons (X1.asg h hb hr hs)
theorem Ex.asgT {es : List Expr} {n : Nat} {tp pos : Pos} {e : Expr} {v : V} {rest : List Stmt} {Φ : Out → Prop} (h : Ev C A env ρ σ e v σ₁) (hs : swapsWithSole [.Tuple es n tp] e pos.line env = pure false) (hw : swappedStores [.Tuple es n tp] e env = pure none)
    (hb : Bn C A env ρ σ₁ (.Tuple es n tp) v ρ' σ') (hr : Ex C A env ρ' σ' rest Φ) : Ex C A env ρ σ (.Assign [.Tuple es n tp] e pos :: rest) Φ := Ex.cons (X1.asgT h hb hr hs hw)
theorem Ex.ifT {t : Expr} {a b rest : List Stmt} {pos : Pos} {Φ : Out → Prop} (ht : Ts C A env ρ σ t true σ₁) (h : Ex C A env ρ σ₁ a (fun o => match o with | .next ρ' σ' => Ex C A env ρ' σ' rest Φ | o => Φ o)) : Ex C A env ρ σ (.If t a b pos :: rest) Φ := Ex.cons (X1.iteT ht h)
theorem Ex.ifF {t : Expr} {a b rest : List Stmt} {pos : Pos} {Φ : Out → Prop} (ht : Ts C A env ρ σ t false σ₁) (h : Ex C A env ρ σ₁ b (fun o => match o with | .next ρ' σ' => Ex C A env ρ' σ' rest Φ | o => Φ o)) : Ex C A env ρ σ (.If t a b pos :: rest) Φ := Ex.cons (X1.iteF ht h)
theorem Ex.skip {rest : List Stmt} {Φ : Out → Prop} (h : Ex C A env ρ σ rest Φ) : Ex C A env ρ σ [] (fun o => match o with | .next ρ' σ' => Ex C A env ρ' σ' rest Φ | o => Φ o) := Ex.nil h
theorem Ex.expr {e : Expr} {pos : Pos} {v : V} {rest : List Stmt} {Φ : Out → Prop} (h : Ev C A env ρ σ e v σ') (hi : interactive env = false) (hs : swapsWith e none pos.line env = pure false) (hr : Ex C A env ρ σ' rest Φ) : Ex C A env ρ σ (.Expr e pos :: rest) Φ := Ex.cons (X1.expr h hr hi hs)
theorem Ex.setA {K : Frag} (X : K.In C.hB) {e o : Expr} {x : Str} {ap pos : Pos} {v : V} {cl : Addr} {c : Nat} {fs : List (Str × V)} {rest : List Stmt} {Φ : Out → Prop} (h₁ : Ev C A env ρ σ e v σ₁) (h₂ : Ev C A env ρ σ₁ o (.inst cl c) σ₂) (hc : σ₂[c]? = some (.attrs fs)) (hz : fs.length < 99)
    (hK : setOk K cl x = true) (hs : swapsWith e (some (.Attribute o x ap)) pos.line env = pure false) (hr : Ex C A env ρ (σ₂.set c (.attrs ((x, v) :: fs))) rest Φ) : Ex C A env ρ σ (.Assign [.Attribute o x ap] e pos :: rest) Φ := Ex.cons (X1.setA X h₁ h₂ hc hz hK hr hs)
theorem Ex.setI {e o i : Expr} {sp pos : Pos} {v : V} {c : Nat} {n : Int} {vs : List V} {rest : List Stmt} {Φ : Out → Prop} (h₁ : Ev C A env ρ σ e v σ₁) (h₂ : Ev C A env ρ σ₁ o (.mu c) σ₂) (h₃ : Ev C A env ρ σ₂ i (.int n) σ₃) (hc : σ₃[c]? = some (.list vs))
    (h0 : 0 ≤ n) (hn : n < vs.length) (hfit : n < 2 ^ 63) (hs : swapsWith e (some (.Subscript o i sp)) pos.line env = pure false) (hr : Ex C A env ρ (σ₃.set c (.list (vs.set n.toNat v))) rest Φ) : Ex C A env ρ σ (.Assign [.Subscript o i sp] e pos :: rest) Φ := Ex.cons (X1.setI h₁ h₂ h₃ hc h0 hn hfit hr hs)
theorem Ts.eq {e : Expr} {b b' : Bool} (h : Ts C A env ρ σ e b σ') (q : b = b') : Ts C A env ρ σ e b' σ' := q ▸ h
theorem Ev.eq {e : Expr} {v v' : V} (h : Ev C A env ρ σ e v σ') (q : v = v') : Ev C A env ρ σ e v' σ' := q ▸ h
theorem Cl.eq {fv : Value} {vs : List V} {v v' : V} (h : Cl C A σ fv vs v σ') (q : v = v') : Cl C A σ fv vs v' σ' := q ▸ h
theorem Ev.negc {i : Int} {k pos pos'} : Ev C A env ρ σ (.UnaryOp .USub (.Constant (.int i) k pos) pos') (.int (-i)) σ := fun s cs xs Q W kk => by
  refine PyProof.Rows.lit_neg Q fun v tk hd => ?_
  have := hd s.heap
  cases this
  exact kk.tok W (.int _ _)
/-- `a, b = x, y`, both names the frame's own: the latter takes its value first -/
theorem Ex.asg2 (hh : A.handled = none) {es : List Expr} {n : Nat} {tp pos : Pos} {e : Expr} {x y : Str} {v w : V} {ρ₁ ρ₂ : Rho} {rest : List Stmt} {Φ : Out → Prop} (h : Ev C A env ρ σ e (.tup [v, w]) σ₁)
    (hs : swapsWithSole [.Tuple es n tp] e pos.line env = pure false) (hw : swappedStores [.Tuple es n tp] e env = pure (some [x, y])) (h₁ : Sn C A env ρ σ₁ y w ρ₁) (h₂ : Sn C A env ρ₁ σ₁ x v ρ₂) (hr : Ex C A env ρ₂ σ₁ rest Φ) :
    Ex C A env ρ σ (.Assign [.Tuple es n tp] e pos :: rest) Φ := Ex.cons fun s cs xs Q W k => by
  refine Assign_Tuple_swapped (h s cs xs _ W fun a h' tk cs' g R r => ?_) hs hw
  obtain ⟨t, us, rfl, ht, hac, hax, rs⟩ := r.tupAt
  obtain ⟨u1, u2, eu, r1, r2⟩ := rs.two'
  have W' := W.on g R
  have hsz : ([x, y] : List Str).length = us.size := by have := rs.1; simpa using this
  rw [hsz]
  refine wpAny_unpackItems_tuple hh ht fun h₂' hE => ?_
  have kk : ∀ b o, h'.get? b = some o → h₂'.get? b = some o := fun b o e => hE b o (neA (Nat.ne_of_lt (Heap.lt_size e))) e
  have g2 : Gx nX cs' h' cs' h₂' := Gx.keeps kk
  have W2 := W'.on g2 (R.keeps kk)
  rw [eu]
  refine wpAny_assignInOrder_more (wpAny_bindName (h₁ _ cs' xs u2 _ W2 (r2.on g2) fun h₃ tk₃ g₃ W₃ => ?_))
  refine wpAny_assignInOrder_more (wpAny_bindName (h₂ _ cs' xs u1 _ W₃ ((r1.on g2).onF W2.F g₃) fun h₄ tk₄ g₄ W₄ => ?_))
  exact wpAny_assignInOrder_none (k (.next ρ₂ σ₁) .next h₄ tk₄ cs' hr ((((g.trans g2).ofF W.F).trans g₃).trans g₄) W₄)
theorem Sn.cell {x : Str} {v : V} {sc : Scope} {L fa : Addr} {nm : Str} {cd : Value} (hl : (envOfC nm sc L fa cd).kindOf x = some .cell) : Sn C A (envOfC nm sc L fa cd) ρ σ x v ((x, v) :: ρ) := Sn.cel hl fun c e => (cellsFrom_facts sc.names L).2 x c (mem_of_lookup e)
theorem Sn.cellF {x : Str} {v : V} {fd : FuncData} {L a : Addr} (hl : (callEnvC fd L a).kindOf x = some .cell) : Sn C A (callEnvC fd L a) ρ σ x v ((x, v) :: ρ) := Sn.cel hl fun c e => (cellsFrom_facts fd.scope.names L).2 x c (mem_of_lookup e)
theorem Ex.castS {ss : List Stmt} {Φ : Out → Prop} (h : Ex C A env ρ σ' ss Φ) (e : σ = σ') : Ex C A env ρ σ ss Φ := e ▸ h
theorem Sub.nil : Sub [] ρ := fun _ _ h => by simp at h
theorem Sub.refl : Sub ρ ρ := fun _ _ h => h
theorem Sub.cons {x : Str} {v : V} {l : List (Str × V)} (h : ρ.lookup x = some v) (r : Sub l ρ) : Sub ((x, v) :: l) ρ := fun y w e => by
  rw [lookup_cons'] at e
  by_cases q : y = x
  · rw [if_pos q] at e; cases e; subst q; exact h
  · rw [if_neg q] at e; exact r y w e
theorem Sub.skip {x : Str} {v : V} {l : List (Str × V)} (h : l.lookup x = none) (r : Sub l ρ) : Sub l ((x, v) :: ρ) := fun y w e => by
  rw [lookup_cons']
  by_cases q : y = x
  · subst q; rw [h] at e; cases e
  · rw [if_neg q]; exact r y w e
theorem inner_none {scope : Scope} {x : Str} (h : (scope.names.lookup x == some .free) = false) : (inner scope ρ).lookup x = none := by
  cases q : (inner scope ρ).lookup x with
  | none => rfl
  | some v => have := (inner_lookup q).2; rw [this] at h; simp at h
theorem Sub.inr {scope : Scope} {x : Str} {v : V} (h : (scope.names.lookup x == some .free) = false) : Sub (inner scope ρ) ((x, v) :: inner scope ρ) := Sub.skip (inner_none h) Sub.refl
theorem Sub.inr2 {scope : Scope} {x y : Str} {v w : V} (h : (scope.names.lookup x == some .free) = false) (h' : (scope.names.lookup y == some .free) = false) : Sub (inner scope ρ) ((x, v) :: (y, w) :: inner scope ρ) := Sub.skip (inner_none h) (Sub.inr h')

/-! comprehensions over lists -/
theorem freeOk {scope : Scope} (h : (scope.names.all fun p => p.2 != .free || env.kindOf p.1 == some .cell) = true) : ∀ n, (n, NameKind.free) ∈ scope.names → env.kindOf n = some .cell := fun n hn => by
  have := List.all_eq_true.mp h _ hn
  simpa using this
/-- one clause, one test -/
theorem tn1 {α : Type} {env : Env} {elt t iter : Expr} {ifs : List Expr} {ρ : Rho} (as : List α) (f g : α → V) (p : α → Bool)
    (T : ∀ (i : Nat) (a : α), as[i]? = some a → ∃ ρ', Bn C A env ρ σ t (f a) ρ' σ ∧ Sub ρ ρ' ∧ Tests C A env ρ' σ ifs (p a) ∧ (p a = true → Ev C A env ρ' σ elt (g a) σ)) :
    Tn C A env σ elt ⟨t, iter, ifs, 0⟩ [] ρ (as.map f) (as.map fun a => if p a then [g a] else []) := by
  refine ⟨by simp, fun i v w hv hw => ?_⟩
  rw [List.getElem?_map] at hv hw
  cases q : as[i]? with
  | none => rw [q] at hv; cases hv
  | some a =>
    rw [q] at hv hw; cases hv; cases hw
    obtain ⟨ρ', h1, h2, h3, h4⟩ := T i a q
    refine ⟨ρ', p a, h1, h2, h3, ?_⟩
    cases hp : p a with
    | false => simp [hp]
    | true => simp only [if_true]; exact ⟨_, h4 hp, by simp [hp]⟩
theorem flat1 {α : Type} (g : α → V) (p : α → Bool) : ∀ as : List α, (as.map fun a => if p a then [g a] else []).flatten = (as.filter p).map g
  | [] => rfl
  | a :: as => by
    have ih := flat1 g p as
    simp only [List.map_cons, List.flatten_cons, List.filter_cons, ih]
    cases p a <;> simp
theorem Ev.mapIf {α : Type} {elt t iter : Expr} {ifs : List Expr} {scope : Scope} {pos : Pos} (as : List α) (f g : α → V) (p : α → Bool) {M : List CO → Prop} (he : EvIM M C A env ρ σ iter t (as.map f) σ') (hz : as.length ≤ sizeLine)
    (T : ∀ (L : Addr) (cl : List (Str × Addr)) (i : Nat) (a : α), as[i]? = some a → (∀ n c, scope.names.lookup n = some .cell → cl.lookup n = some c → @LT.lt Nat _ L c) →
      ∃ ρ', Bn C A (compEnvC scope cl L env) (inner scope ρ) σ' t (f a) ρ' σ' ∧ Sub (inner scope ρ) ρ' ∧ Tests C A (compEnvC scope cl L env) ρ' σ' ifs (p a) ∧ (p a = true → Ev C A (compEnvC scope cl L env) ρ' σ' elt (g a) σ'))
    (hnd : (scope.names.map (·.1)).Nodup) (hfree : (scope.names.all fun p => p.2 != .free || env.kindOf p.1 == some .cell) = true) (hkind : scope.kind = .function) (hfold : ∀ x, foldedSetIterable iter env x = pure x) (hM : M σ' := by trivial) :
    Ev C A env ρ σ (.ListComp elt [⟨t, iter, ifs, 0⟩] scope pos) (.list ((as.filter p).map g)) σ' :=
  Ev.comp he (flat1 g p as).symm (by rw [flat1, List.length_map]; exact Nat.le_trans (List.length_filter_le _ _) hz) (fun L cl hcl => tn1 as f g p fun i a ha => T L cl i a ha hcl) hnd (freeOk hfree) hkind (fun _ h => by simp at h) hfold hM
theorem Ev.map {α : Type} {elt t iter : Expr} {scope : Scope} {pos : Pos} (as : List α) (f g : α → V) {M : List CO → Prop} (he : EvIM M C A env ρ σ iter t (as.map f) σ') (hz : as.length ≤ sizeLine)
    (T : ∀ (L : Addr) (cl : List (Str × Addr)) (i : Nat) (a : α), as[i]? = some a → (∀ n c, scope.names.lookup n = some .cell → cl.lookup n = some c → @LT.lt Nat _ L c) →
      ∃ ρ', Bn C A (compEnvC scope cl L env) (inner scope ρ) σ' t (f a) ρ' σ' ∧ Sub (inner scope ρ) ρ' ∧ Ev C A (compEnvC scope cl L env) ρ' σ' elt (g a) σ')
    (hnd : (scope.names.map (·.1)).Nodup) (hfree : (scope.names.all fun p => p.2 != .free || env.kindOf p.1 == some .cell) = true) (hkind : scope.kind = .function) (hfold : ∀ x, foldedSetIterable iter env x = pure x) (hM : M σ' := by trivial) :
    Ev C A env ρ σ (.ListComp elt [⟨t, iter, [], 0⟩] scope pos) (.list (as.map g)) σ' := by
  have := Ev.mapIf (ifs := []) as f g (fun _ => true) he hz (pos := pos) (fun L cl i a ha hcl => by obtain ⟨ρ', h1, h2, h3⟩ := T L cl i a ha hcl; exact ⟨ρ', h1, h2, rfl, fun _ => h3⟩) hnd hfree hkind hfold hM
  have e : as.filter (fun _ => true) = as := List.filter_eq_self.mpr fun _ _ => rfl
  rwa [e] at this
theorem Ex.asgMap {α : Type} {elt t iter : Expr} {scope : Scope} {pos spos xp : Pos} {x : Str} {rest : List Stmt} {Φ : Out → Prop} {v : V} (as : List α) (f g : α → V) (ev : V.list (as.map g) = v) {M : List CO → Prop} (he : EvIM M C A env ρ σ iter t (as.map f) σ') (hz : as.length ≤ sizeLine)
    (T : ∀ (L : Addr) (cl : List (Str × Addr)) (i : Nat) (a : α), as[i]? = some a → (∀ n c, scope.names.lookup n = some .cell → cl.lookup n = some c → @LT.lt Nat _ L c) →
      ∃ ρ', Bn C A (compEnvC scope cl L env) (inner scope ρ) σ' t (f a) ρ' σ' ∧ Sub (inner scope ρ) ρ' ∧ Ev C A (compEnvC scope cl L env) ρ' σ' elt (g a) σ')
    (hb : Sn C A env ρ σ' x v ρ')
    (hsw : swapsWith (.ListComp elt [⟨t, iter, [], 0⟩] scope pos) (some (.Name x xp)) spos.line env = pure true)
    (hnd : (scope.names.map (·.1)).Nodup) (hfree : (scope.names.all fun p => p.2 != .free || env.kindOf p.1 == some .cell) = true) (hkind : scope.kind = .function) (hfold : ∀ x, foldedSetIterable iter env x = pure x)
    (hr : Ex C A env ρ' σ' rest Φ) (hM : M σ' := by trivial) : Ex C A env ρ σ (.Assign [.Name x xp] (.ListComp elt [⟨t, iter, [], 0⟩] scope pos) spos :: rest) Φ := by
  subst ev
  have e : as.map g = (as.map fun a => if (fun _ => true) a then [g a] else []).flatten := by
    have e' : as.filter (fun _ => true) = as := List.filter_eq_self.mpr fun _ _ => rfl
    rw [flat1, e']
  exact Ex.cons (X1.asgC he e (by rw [← e, List.length_map]; exact hz) (fun L cl hcl => tn1 (ifs := []) as f g (fun _ => true) fun i a ha => by obtain ⟨ρ', h1, h2, h3⟩ := T L cl i a ha hcl; exact ⟨ρ', h1, h2, rfl, fun _ => h3⟩) hb hr hsw hnd (freeOk hfree) hkind (fun _ h => by simp at h) hfold hM)
theorem Ex.nilS {Φ : Out → Prop} (hs : Sub ρ' ρ) (h : Φ (.next ρ' σ)) : Ex C A env ρ σ [] Φ := Ex.sub (Ex.nil h) hs
theorem Ex.for_ {t e : Expr} {body rest : List Stmt} {pos : Pos} {vs : List V} {Φ : Out → Prop} (Inv : Nat → List (Str × V) → List CO → Prop) (he : EvI C A env ρ σ e t vs σ₁) (h0 : Inv 0 ρ σ₁)
    (turn : ∀ i v ρ σ, vs[i]? = some v → Inv i ρ σ → ∃ ρ', Bn C A env ρ σ t v ρ' σ ∧ Ex C A env ρ' σ body (fun o => match o with
      | .next ρ σ => Inv (i + 1) ρ σ
      | .cont ρ σ => Inv (i + 1) ρ σ
      | .brk ρ σ => Ex C A env ρ σ rest Φ
      | .ret v σ => Φ (.ret v σ)))
    (hd : ∀ ρ σ, Inv vs.length ρ σ → Ex C A env ρ σ rest Φ) (hs : ∀ x, foldedSetIterable e env x = pure x) : Ex C A env ρ σ (.For t e body [] pos :: rest) Φ := Ex.cons (X1.for Inv he h0 (fun i v ρ σ hv hI => let ⟨ρ', h1, h2⟩ := turn i v ρ σ hv hI; ⟨ρ', h1, h2.mono fun o ho => by
      cases o <;> exact ho⟩) hd hs)
/-- a for that may break off; J: what holds behind it -/
theorem Ex.forB {t e : Expr} {body rest : List Stmt} {pos : Pos} {vs : List V} {Φ : Out → Prop} (Inv : Nat → List (Str × V) → List CO → Prop) (J : List (Str × V) → List CO → Prop) (he : EvI C A env ρ σ e t vs σ₁) (h0 : Inv 0 ρ σ₁)
    (turn : ∀ i v ρ σ, vs[i]? = some v → Inv i ρ σ → ∃ ρ', Bn C A env ρ σ t v ρ' σ ∧ Ex C A env ρ' σ body (fun o => match o with
      | .next ρ σ => Inv (i + 1) ρ σ
      | .cont ρ σ => Inv (i + 1) ρ σ
      | .brk ρ σ => J ρ σ
      | .ret v σ => Φ (.ret v σ)))
    (hd : ∀ ρ σ, Inv vs.length ρ σ → J ρ σ) (hs : ∀ x, foldedSetIterable e env x = pure x) (hr : ∀ ρ σ, J ρ σ → Ex C A env ρ σ rest Φ) : Ex C A env ρ σ (.For t e body [] pos :: rest) Φ :=
  Ex.for_ Inv he h0 (fun i v ρ σ hv hI => let ⟨ρ', h1, h2⟩ := turn i v ρ σ hv hI; ⟨ρ', h1, h2.mono fun o ho => by
    cases o <;> first | exact hr _ _ ho | exact ho⟩) (fun ρ σ h => hr ρ σ (hd ρ σ h)) hs
theorem Ev.ifT {t a b : Expr} {pos : Pos} {v : V} (ht : Ts C A env ρ σ t true σ₁) (h : Ev C A env ρ σ₁ a v σ') : Ev C A env ρ σ (.IfExp t a b pos) v σ' := Ev.ifexp ht (by rw [if_pos rfl]; exact h)
theorem Ev.ifF {t a b : Expr} {pos : Pos} {v : V} (ht : Ts C A env ρ σ t false σ₁) (h : Ev C A env ρ σ₁ b v σ') : Ev C A env ρ σ (.IfExp t a b pos) v σ' := Ev.ifexp ht (by rw [if_neg (by decide)]; exact h)
end
end Mine

namespace Mine
section
variable {C : Cx} {A : Around} {env : Env} {ρ ρ' : List (Str × V)} {σ σ' σ₁ σ₂ : List CO}

/-! greatest, sum, list of a range, count of unlike ones -/
theorem LV.intsAt {h : Heap} {cs xs : List Addr} {v : V} {ns : List Int} {a : Addr} {us : Array Value} (rs : VRs h cs xs (ns.map V.int) us.toList) : ∃ xs' : Array (Int × Tok), us = PySem.intItems xs' ∧ ns = xs'.toList.map (·.1) := by
  have hi : IntsAre us.toList ns := rs.toInts
  obtain ⟨xs', hx⟩ := hi.allInts.items
  refine ⟨xs', by simpa using hx, ?_⟩
  rw [← PySem.nums_intItems, ← hx]
  exact (show PySem.numsOf us.toList.toArray.toList = ns from hi.numsOf).symm
theorem Cl.max (hh : A.handled = none) {v : V} {ns : List Int} {M : Int} (l : LV σ v (ns.map V.int)) (hM : M ∈ ns) (hle : ∀ a ∈ ns, a ≤ M) : Cl C A σ (.builtin "max") [v] (.int M) σ := fun env ρ s cs xs us Q W r k => by
  refine r.oneE fun u ru => l.atE W.R ru fun a us hp rs => ?_
  obtain ⟨xs', rfl, hns⟩ := LV.intsAt (v := v) (a := a) rs
  have hsz : 0 < xs'.size := by
    have : 0 < ns.length := List.length_pos_of_mem hM
    rw [hns, List.length_map, Array.length_toList] at this; exact this
  refine PySem.max_intList hh hp.isList hsz fun val h' tk hv hk => ?_
  obtain ⟨t, rfl⟩ := PySem.intItems_at hv
  obtain ⟨h1, h2⟩ := PySem.argBest_gt (PySem.numAt xs') (xs'.size - 1)
  have e : PySem.numAt xs' (PySem.argBest (fun i j => decide (PySem.numAt xs' i > PySem.numAt xs' j)) (xs'.size - 1)) = M := by
    refine Int.le_antisymm (hle _ ?_) ?_
    · rw [hns, PySem.numAt_eq]; exact PySem.getD_mem (by rw [List.length_map, Array.length_toList]; omega)
    · have hM' := hM
      rw [hns] at hM'
      obtain ⟨j, hj, rfl⟩ := PySem.mem_getD hM'
      rw [List.length_map, Array.length_toList] at hj
      rw [← PySem.numAt_eq]; exact h2 j (by omega)
  rw [e]
  exact k.keeps W hk (.int _ _)
theorem Cl.sum (hh : A.handled = none) {v : V} {ns : List Int} (l : LV σ v (ns.map V.int)) : Cl C A σ (.builtin "sum") [v] (.int ns.sum) σ := fun env ρ s cs xs us Q W r k => by
  refine r.oneE fun u ru => l.atE W.R ru fun a us hp rs => ?_
  obtain ⟨xs', rfl, hns⟩ := LV.intsAt (v := v) (a := a) rs
  refine PySem.sum_intListG hh hp.isList fun h' tk t' hk => ?_
  rw [PySem.preSum_eq, List.take_of_length_le (by simp), ← hns]
  exact k.keeps W hk (.int _ _)
theorem Cl.listRange (hh : A.handled = none) {n : Nat} (hn : n ≤ 2 ^ 20) : Cl C A σ (.type "list") [.rng 0 n] (Li ((List.range n).map fun (i : Nat) => (i : Int))) σ := fun env ρ s cs xs us Q W r k => by
  refine r.oneE fun u ru => ?_
  obtain ⟨a, t, u, v, rfl, hr, hac, hax⟩ := ru.rngI
  refine PySem.call_list_range (n := n) hh hr (small_one (by decide) (by decide) (by omega) (by omega)) ?_ (by omega) fun h' tk acc' c' hk hS hacc => ?_
  · unfold Builtin.Range.rangeSize; simp; intro e; rw [e]; rfl
  · refine k.newList (us := acc'.toList) W hk (get_size_none _) ⟨c', by simpa using hS⟩ ?_
    refine ⟨by simp [hacc.1], fun i w y e1 e2 => ?_⟩
    rw [Array.getElem?_toList] at e2
    obtain ⟨t, rfl⟩ := hacc.2 i y e2
    have hi : i < n := by have := (Array.getElem?_eq_some_iff.mp e2).1; rw [hacc.1] at this; exact this
    simp [hi] at e1
    subst e1
    have e : (0 : Int) + (i : Nat) * 1 = (i : Int) := by omega
    rw [e]; exact .int _ _

theorem Ev.or2 {e₁ e₂ : Expr} {pos : Pos} {v₁ v : V} {b : Bool} (h₁ : Ev C A env ρ σ e₁ v₁ σ₁) (hb : Tru C A σ₁ v₁ b) (h₂ : if b then v = v₁ ∧ σ' = σ₁ else Ev C A env ρ σ₁ e₂ v σ') : Ev C A env ρ σ (.BoolOp .Or [e₁, e₂] pos) v σ' := fun s cs xs Q W k => by
  refine wpAny_Or2 (h₁ s cs xs _ W fun a ha ta ca ga Ra ra => hb env ρ _ ca xs a _ (W.on ga Ra) ra fun t => ?_)
  cases b with
  | false => exact h₂ _ ca xs _ (W.on ga Ra) (k.after ga)
  | true => obtain ⟨rfl, rfl⟩ := h₂; exact k a ha t ca ga Ra ra

/-- how many unlike ones -/
def unlike (ns : List Int) : Nat := (firstMet (fun i => ns.getD i 0) ns.length).length
theorem Ev.lenSet (hh : A.handled = none) {x y : Str} {np np' pos pos' : Pos} {e : Expr} {v : V} {ns : List Int} (G : Glb C.hB x (.builtin "len")) (hx : env.kindOf x = some .globalImplicit) (hd : (x == ("__debug__" : Str)) = false)
    (G' : Glb C.hB y (.type "set")) (hy : env.kindOf y = some .globalImplicit) (hd' : (y == ("__debug__" : Str)) = false) (h : Ev C A env ρ σ e v σ') (l : LV σ' v (ns.map V.int)) (hb : ns.length + 1 < 4096)
    (he : starEach [.Call (.Name y np') [e] [] pos'] env = (false, eval (.Call (.Name y np') [e] [] pos') env) :: starEach [] env) (he' : starEach [e] env = (false, eval e env) :: starEach [] env) :
    Ev C A env ρ σ (.Call (.Name x np) [.Call (.Name y np') [e] [] pos'] [] pos) (.int (unlike ns)) σ' := fun s cs xs Q W k => by
  refine wpAny_Call_ofName (evGlb G hx hd W ?_)
  refine with_builtin he rfl s Q W.F.base (spliced_more ?_ he)
  refine wpAny_Call_ofName (evGlb G' hy hd' W ?_)
  refine with_type (es := []) he' rfl s _ W.F.base ((Args.cons h Args.nil he') s cs xs _ W fun us h₁ tk₁ cs₁ g R r => ⟨(W.on g R).F.base, ?_⟩)
  have W₁ := W.on g R
  refine r.oneE fun u ru => l.atE R ru fun a us hp rs => ?_
  have hi : IntsAre us.toList ns := rs.toInts
  have hsz : us.size = ns.length := rs.sz.trans (List.length_map _)
  refine PySem.call_set_list hh hp.isList hi (by rw [hsz]; exact hb) fun h₂ tk₂ hS hk => ?_
  have kk : ∀ b o, h₁.get? b = some o → h₂.get? b = some o := fun b o e => hk b o (Heap.lt_size e) e
  refine spliced_nil ⟨fun b o e => kk b o (W₁.F.base b o e), ?_⟩
  obtain ⟨o, es, ep, t, ho, hex, hdt, _, _, hz, hf, hn⟩ := hS
  have hz : es.size < 4096 := hz
  refine call_len_set ho hex hdt hf (by omega) ?_
  have e1 : ((es.size : Nat) : Int) = (unlike ns : Int) := by unfold unlike; rw [hn, hsz]
  rw [e1]
  exact (k.after (t₁ := tk₁) g).keeps W₁ kk (.int _ _)

/-! two clauses -/
theorem tn2 {α β : Type} {env : Env} {elt t iter t' iter' : Expr} {ρ : Rho} (as : List α) (bs : α → List β) (f : α → V) (g : α → β → V) (e : α → β → V) (hfold : ∀ x, foldedSetIterable iter' env x = pure x)
    (T : ∀ (i : Nat) (a : α), as[i]? = some a → ∃ ρ', Bn C A env ρ σ t (f a) ρ' σ ∧ Sub ρ ρ' ∧ ∃ M : List CO → Prop, M σ ∧ EvIM M C A env ρ' σ iter' t' ((bs a).map (g a)) σ ∧ ∀ (j : Nat) (b : β), (bs a)[j]? = some b → ∃ ρ'', Bn C A env ρ' σ t' (g a b) ρ'' σ ∧ Sub ρ' ρ'' ∧ Ev C A env ρ'' σ elt (e a b) σ) :
    Tn C A env σ elt ⟨t, iter, [], 0⟩ [⟨t', iter', [], 0⟩] ρ (as.map f) (as.map fun a => (bs a).map (e a)) := by
  refine ⟨by simp, fun i v w hv hw => ?_⟩
  rw [List.getElem?_map] at hv hw
  cases q : as[i]? with
  | none => rw [q] at hv; cases hv
  | some a =>
    rw [q] at hv hw; cases hv; cases hw
    obtain ⟨ρ', h1, h2, M, hM, h3, h4⟩ := T i a q
    refine ⟨ρ', true, h1, h2, rfl, ?_⟩
    rw [if_pos rfl]
    refine ⟨rfl, hfold, (bs a).map (g a), (bs a).map (fun b => [e a b]), ⟨M, hM, h3⟩, ?_, by simp, fun j v w hv hw => ?_⟩
    · show (bs a).map (e a) = _
      generalize bs a = l
      induction l with
      | nil => rfl
      | cons b l ih => rw [List.map_cons, List.map_cons, List.flatten_cons, ← ih]; rfl
    · rw [List.getElem?_map] at hv hw
      cases q' : (bs a)[j]? with
      | none => rw [q'] at hv; cases hv
      | some b =>
        rw [q'] at hv hw; cases hv; cases hw
        obtain ⟨ρ'', g1, g2, g3⟩ := h4 j b q'
        exact ⟨ρ'', true, g1, g2, rfl, by rw [if_pos rfl]; exact ⟨_, g3, rfl⟩⟩
theorem Ev.map2 {α β : Type} {elt t iter t' iter' : Expr} {scope : Scope} {pos : Pos} (as : List α) (bs : α → List β) (f : α → V) (g : α → β → V) (e : α → β → V) {M : List CO → Prop} (he : EvIM M C A env ρ σ iter t (as.map f) σ') {ws : List V} (hw : ws = as.flatMap fun a => (bs a).map (e a)) (hz : ws.length ≤ sizeLine)
    (T : ∀ (L : Addr) (cl : List (Str × Addr)) (i : Nat) (a : α), as[i]? = some a → (∀ n c, scope.names.lookup n = some .cell → cl.lookup n = some c → @LT.lt Nat _ L c) →
      ∃ ρ', Bn C A (compEnvC scope cl L env) (inner scope ρ) σ' t (f a) ρ' σ' ∧ Sub (inner scope ρ) ρ' ∧ ∃ M : List CO → Prop, M σ' ∧ EvIM M C A (compEnvC scope cl L env) ρ' σ' iter' t' ((bs a).map (g a)) σ' ∧
        ∀ (j : Nat) (b : β), (bs a)[j]? = some b → ∃ ρ'', Bn C A (compEnvC scope cl L env) ρ' σ' t' (g a b) ρ'' σ' ∧ Sub ρ' ρ'' ∧ Ev C A (compEnvC scope cl L env) ρ'' σ' elt (e a b) σ')
    (hnd : (scope.names.map (·.1)).Nodup) (hfree : (scope.names.all fun p => p.2 != .free || env.kindOf p.1 == some .cell) = true) (hkind : scope.kind = .function) (hfold : ∀ x, foldedSetIterable iter env x = pure x)
    (hfold' : ∀ L cl x, foldedSetIterable iter' (compEnvC scope cl L env) x = pure x) (hM : M σ' := by trivial) :
    Ev C A env ρ σ (.ListComp elt [⟨t, iter, [], 0⟩, ⟨t', iter', [], 0⟩] scope pos) (.list ws) σ' :=
  Ev.comp (wss := as.map fun a => (bs a).map (e a)) he (by rw [hw, List.flatMap_def]) (by rw [← List.flatMap_def, ← hw]; exact hz) (fun L cl hcl => tn2 as bs f g e (hfold' L cl) fun i a ha => T L cl i a ha hcl) hnd (freeOk hfree) hkind (fun g' h => by simp at h; subst h; rfl) hfold hM
theorem Ex.asgMap2 {α β : Type} {elt t iter t' iter' : Expr} {scope : Scope} {pos spos xp : Pos} {x : Str} {rest : List Stmt} {Φ : Out → Prop} (as : List α) (bs : α → List β) (f : α → V) (g : α → β → V) (e : α → β → V) {M : List CO → Prop} (he : EvIM M C A env ρ σ iter t (as.map f) σ') {ws : List V} (hw : ws = as.flatMap fun a => (bs a).map (e a)) (hz : ws.length ≤ sizeLine)
    (T : ∀ (L : Addr) (cl : List (Str × Addr)) (i : Nat) (a : α), as[i]? = some a → (∀ n c, scope.names.lookup n = some .cell → cl.lookup n = some c → @LT.lt Nat _ L c) →
      ∃ ρ', Bn C A (compEnvC scope cl L env) (inner scope ρ) σ' t (f a) ρ' σ' ∧ Sub (inner scope ρ) ρ' ∧ ∃ M : List CO → Prop, M σ' ∧ EvIM M C A (compEnvC scope cl L env) ρ' σ' iter' t' ((bs a).map (g a)) σ' ∧
        ∀ (j : Nat) (b : β), (bs a)[j]? = some b → ∃ ρ'', Bn C A (compEnvC scope cl L env) ρ' σ' t' (g a b) ρ'' σ' ∧ Sub ρ' ρ'' ∧ Ev C A (compEnvC scope cl L env) ρ'' σ' elt (e a b) σ')
    (hb : Sn C A env ρ σ' x (.list ws) ρ')
    (hsw : swapsWith (.ListComp elt [⟨t, iter, [], 0⟩, ⟨t', iter', [], 0⟩] scope pos) (some (.Name x xp)) spos.line env = pure true)
    (hnd : (scope.names.map (·.1)).Nodup) (hfree : (scope.names.all fun p => p.2 != .free || env.kindOf p.1 == some .cell) = true) (hkind : scope.kind = .function) (hfold : ∀ x, foldedSetIterable iter env x = pure x)
    (hfold' : ∀ L cl x, foldedSetIterable iter' (compEnvC scope cl L env) x = pure x) (hr : Ex C A env ρ' σ' rest Φ) (hM : M σ' := by trivial) :
    Ex C A env ρ σ (.Assign [.Name x xp] (.ListComp elt [⟨t, iter, [], 0⟩, ⟨t', iter', [], 0⟩] scope pos) spos :: rest) Φ :=
  Ex.cons (X1.asgC (wss := as.map fun a => (bs a).map (e a)) he (by rw [hw, List.flatMap_def]) (by rw [← List.flatMap_def, ← hw]; exact hz) (fun L cl hcl => tn2 as bs f g e (hfold' L cl) fun i a ha => T L cl i a ha hcl) hb hr hsw hnd (freeOk hfree) hkind (fun g' h => by simp at h; subst h; rfl) hfold hM)

/-- an if whose ways meet -/
theorem Ex.join {t : Expr} {a b rest : List Stmt} {pos : Pos} {c : Bool} {Φ : Out → Prop} (J : Rho → List CO → Prop) (ht : Ts C A env ρ σ t c σ₁)
    (h1 : c = true → Ex C A env ρ σ₁ a (fun o => match o with | .next ρ σ => J ρ σ | _ => False)) (h2 : c = false → Ex C A env ρ σ₁ b (fun o => match o with | .next ρ σ => J ρ σ | _ => False))
    (hr : ∀ ρ σ, J ρ σ → Ex C A env ρ σ rest Φ) : Ex C A env ρ σ (.If t a b pos :: rest) Φ := by
  cases c with
  | true => exact Ex.ifT ht ((h1 rfl).mono fun o ho => by cases o <;> first | exact hr _ _ ho | exact ho.elim)
  | false => exact Ex.ifF ht ((h2 rfl).mono fun o ho => by cases o <;> first | exact hr _ _ ho | exact ho.elim)
end
end Mine

namespace Mine
def toI (l : List Nat) : List Int := l.map fun (n : Nat) => (n : Int)
abbrev Ln (ns : List Nat) : V := Li (toI ns)
theorem toI_len (ns : List Nat) : (toI ns).length = ns.length := by simp [toI]
theorem toI_get {ns : List Nat} {i : Nat} (h : i < ns.length) : ((toI ns).map V.int)[i]? = some (.int (ns.getD i 0)) := by simp [toI, h]
def absI (a : Int) : Int := if a < 0 then -a else a
theorem absI_nat (a : Int) : absI a = (a.natAbs : Nat) := by unfold absI; split <;> omega
theorem three (x y z : Nat) (ns : List Int) : ∃ a b c : Nat, V.list (((ns.take 3).map fun n => V.int (absI n)) ++ [V.int x, V.int y, V.int z].drop ((ns.map V.int).take 3).length) = Ln [a, b, c] := by
  match ns with
  | [] => exact ⟨x, y, z, rfl⟩
  | [p] => exact ⟨p.natAbs, y, z, by simp [absI_nat, toI]⟩
  | [p, q] => exact ⟨p.natAbs, q.natAbs, z, by simp [absI_nat, toI]⟩
  | p :: q :: r :: _ => exact ⟨p.natAbs, q.natAbs, r.natAbs, by simp [absI_nat, toI]⟩
theorem four (x y z u : Nat) (ns : List Int) : ∃ a b c d : Nat, V.list (((ns.take 4).map fun n => V.int (absI n)) ++ [V.int x, V.int y, V.int z, V.int u].drop ((ns.map V.int).take 4).length) = Ln [a, b, c, d] := by
  match ns with
  | [] => exact ⟨x, y, z, u, rfl⟩
  | [p] => exact ⟨p.natAbs, y, z, u, by simp [absI_nat, toI]⟩
  | [p, q] => exact ⟨p.natAbs, q.natAbs, z, u, by simp [absI_nat, toI]⟩
  | [p, q, r] => exact ⟨p.natAbs, q.natAbs, r.natAbs, u, by simp [absI_nat, toI]⟩
  | p :: q :: r :: s :: _ => exact ⟨p.natAbs, q.natAbs, r.natAbs, s.natAbs, by simp [absI_nat, toI]⟩
end Mine

namespace Mine
section
variable {C : Cx} {A : Around} {env : Env} {ρ ρ' : List (Str × V)} {σ σ' σ₁ σ₂ : List CO}

/-! a list is popped -/
theorem mapSeq_plain (f : Array Value → Array Value) (its : Array Value) (n : Nat) : ∃ m, Obj.mapSeq f { cls := .type "list", data := .seq its n } = { cls := .type "list", data := .seq (f its) m } := ⟨_, rfl⟩
theorem update_plain {h : Heap} {a : Addr} {its : Array Value} {n : Nat} (f : Array Value → Array Value) (ho : h.get? a = some { cls := .type "list", data := .seq its n }) : (h.update a (Obj.mapSeq f)).PlainList a (f its) := by
  obtain ⟨m, e⟩ := mapSeq_plain f its n
  refine ⟨m, ?_⟩
  rw [Heap.get?_update_self _ ho (by rw [e]; rfl), e]
theorem VRs.erase {h : Heap} {cs xs : List Addr} {vs : List V} {us : List Value} (r : VRs h cs xs vs us) (k : Nat) : VRs h cs xs (vs.eraseIdx k) (us.eraseIdx k) := by
  refine r.sub (fun i => if i < k then i else i + 1) (by rw [List.length_eraseIdx, List.length_eraseIdx, r.1]) (fun i v e => ?_) fun i v e => ?_
  · rw [List.getElem?_eraseIdx] at e; split at e <;> rename_i hk <;> simp only [hk, if_true, if_false] <;> exact e
  · rw [List.getElem?_eraseIdx] at e; split at e <;> rename_i hk <;> simp only [hk, if_true, if_false] <;> exact e
theorem Cl.popAt {c k : Nat} {vs : List V} {v : V} {i : Int} (hc : σ[c]? = some (.list vs)) (hi : i = (k : Int)) (hk : vs[k]? = some v) (hz : vs.length ≤ sizeLine) : Cl C A σ (.builtin "list.pop") [.mu c, .int i] v (σ.set c (.list (vs.eraseIdx k))) := fun env ρ s cs xs us Q W r kk => by
  obtain ⟨u, t, rfl, ru, rt⟩ := r.two'
  obtain ⟨a, us, rfl, ea, hp, rs⟩ := mu_at hc W ru
  refine rt.intE fun tk => ?_
  have e := rs.sz
  obtain ⟨y, ey, ry⟩ := rs.getA hk
  have hlt : k < us.size := (Array.getElem?_eq_some_iff.mp ey).1
  obtain ⟨n, ho⟩ := id hp
  rw [sizeLine_eq] at hz
  refine call_meets PySem.F.slot_list_pop ⟨_, ho, rfl⟩ PySem.F.entry_list_pop (PySem.F.args_list_pop_2 _ _) (PySem.MeetsSeq.list_pop_at a us n i tk k y ?_ ?_ ey (by rw [sizeLine_eq]; omega)) ⟨ho, ?_⟩
  · subst hi; unfold Builtin.List.listFitsIndex; simp; omega
  · subst hi; unfold seqIndex?; simp; omega
  · refine kk.chg W ea (Heap.SameBut.update ..) (update_plain (fun xs => xs.eraseIdxIfInBounds k) ho) ?_ ry
    have : (us.eraseIdxIfInBounds k).toList = us.toList.eraseIdx k := by
      unfold Array.eraseIdxIfInBounds; rw [dif_pos hlt]; simp
    rw [this]; exact rs.erase k
theorem Cl.popLast {c : Nat} {vs : List V} {v : V} (hc : σ[c]? = some (.list vs)) (hk : vs[vs.length - 1]? = some v) (hz : vs.length ≤ sizeLine) : Cl C A σ (.builtin "list.pop") [.mu c] v (σ.set c (.list (vs.eraseIdx (vs.length - 1)))) := fun env ρ s cs xs us Q W r kk => by
  refine r.oneE fun u ru => ?_
  obtain ⟨a, us, rfl, ea, hp, rs⟩ := mu_at hc W ru
  have e := rs.sz
  obtain ⟨y, ey, ry⟩ := rs.getA hk
  have hlt : vs.length - 1 < us.size := (Array.getElem?_eq_some_iff.mp ey).1
  obtain ⟨n, ho⟩ := id hp
  rw [sizeLine_eq] at hz
  refine call_meets PySem.F.slot_list_pop ⟨_, ho, rfl⟩ PySem.F.entry_list_pop (PySem.F.args_list_pop_1 _) (PySem.MeetsSeq.list_pop_last a us n y (by rw [e]; exact ey) (by rw [sizeLine_eq]; omega)) ⟨ho, ?_⟩
  refine kk.chg W ea (Heap.SameBut.update ..) (update_plain (fun xs => xs.eraseIdxIfInBounds (us.size - 1)) ho) ?_ ry
  have : (us.eraseIdxIfInBounds (us.size - 1)).toList = us.toList.eraseIdx (vs.length - 1) := by
    unfold Array.eraseIdxIfInBounds; rw [dif_pos (by omega)]; simp [e]
  rw [this]; exact rs.erase _
theorem Cl.listRangeMu (hh : A.handled = none) {n : Nat} (hn : n ≤ 2 ^ 20) : Cl C A σ (.type "list") [.rng 0 n] (.mu σ.length) (σ ++ [.list (((List.range n).map fun (i : Nat) => (i : Int)).map V.int)]) := fun env ρ s cs xs us Q W r k => by
  refine r.oneE fun u ru => ?_
  obtain ⟨a, t, u, v, rfl, hr, hac, hax⟩ := ru.rngI
  refine PySem.call_list_range (n := n) hh hr (small_one (by decide) (by decide) (by omega) (by omega)) ?_ (by omega) fun h' tk acc' c' hk hS hacc => ?_
  · unfold Builtin.Range.rangeSize; simp; intro e; rw [e]; rfl
  · refine k.newMu (us := acc'.toList) W hk (get_size_none _) ⟨c', by simpa using hS⟩ ?_
    refine ⟨by simp [hacc.1], fun i w y e1 e2 => ?_⟩
    rw [Array.getElem?_toList] at e2
    obtain ⟨t, rfl⟩ := hacc.2 i y e2
    have hi : i < n := by have := (Array.getElem?_eq_some_iff.mp e2).1; rw [hacc.1] at this; exact this
    simp [hi] at e1
    subst e1
    have e : (0 : Int) + (i : Nat) * 1 = (i : Int) := by omega
    rw [e]; exact .int _ _

/-- a slice of whatever list -/
theorem Ev.uptoA {e₁ e₂ : Expr} {p pos : Pos} {v₁ : V} {vs : List V} {n : Nat} (h₁ : Ev C A env ρ σ e₁ v₁ σ₁) (h₂ : Ev C A env ρ σ₁ e₂ (.int n) σ') (hl : LV σ' v₁ vs) (hz : vs.length ≤ sizeLine) :
    Ev C A env ρ σ (.Subscript e₁ (.Slice none (some e₂) none p) pos) (.list (vs.take n)) σ' := fun s cs xs Q W k => by
  refine Subscript_ (h₁ s cs xs _ W fun a ha ta ca ga Ra ra => wpAny_Slice ?_)
  refine wpAny_evalPart_none (wpAny_evalPart_some (h₂ _ ca xs _ (W.on ga Ra) fun b hb tb cb gb Rb rb => ?_))
  rw [evalPart_none]
  refine wpAny_pure ?_
  refine rb.intE fun tt => hl.atE Rb (ra.on gb) fun a' us hp rs => ?_
  have hn := rs.sz
  refine tail_any (hp.isList.push _).typeIs list_getitem_lookup (wpAny_getItem_list_slice (hp.isList.push _) (Heap.IsSliceOf.new ..) .none (.int _ _) .none (by simp) ?_ (by rw [hn]; exact hz)) rfl
  rw [slicePick_upto']
  have kk : ∀ b o, hb.get? b = some o → ((hb.push { cls := .type "slice", data := .fields #[.none, .int (n : Int) tt, .none] }).push { cls := .type "list", data := .seq (us.toList.take n).toArray }).get? b = some o := fun b o e => push_keeps _ _ b o (push_keeps _ _ b o e)
  rw [Heap.size_push]
  refine ((k.after (t₁ := ta) ga).after (t₁ := tb) gb).newList (D := hb.objs.size + 1) (us := us.toList.take n) ((W.on ga Ra).on gb Rb) kk (size_more hb 1) ⟨0, ?_⟩ (rs.take n)
  rw [← Heap.size_push hb { cls := .type "slice", data := .fields #[.none, .int (n : Int) tt, .none] }]
  exact Heap.get?_push_size _ rfl

/-! while -/
inductive WhI (C : Cx) (env : Env) (xs : List Addr) (Inv : Nat → List (Str × V) → List CO → Prop) (s : Shared) (cs : List Addr) : Nat → Shared → Prop
  | mk (n : Nat) (ρ : List (Str × V)) (σ : List CO) (h : Heap) (tk : Nat) (cs₂ : List Addr) (hI : Inv n ρ σ) (W : Wd C env ρ σ h cs₂ xs) (g : Gx (FX env) cs s.heap cs₂ h) : WhI C env xs Inv s cs n { s with heap := h, toks := tk }
theorem X1.while {t : Expr} {body : List Stmt} {pos : Pos} {Φ : Out → Prop} (Inv : Nat → List (Str × V) → List CO → Prop) {n₀ : Nat} (h0 : Inv n₀ ρ σ)
    (turn : ∀ n ρ σ, Inv n ρ σ → ∃ b σ₁, Ts C A env ρ σ t b σ₁ ∧ if b then Ex C A env ρ σ₁ body (fun o => match o with
      | .next ρ σ => ∃ m, m < n ∧ Inv m ρ σ
      | .cont ρ σ => ∃ m, m < n ∧ Inv m ρ σ
      | .brk ρ σ => Φ (.next ρ σ)
      | .ret v σ => Φ (.ret v σ)) else Φ (.next ρ σ₁)) : X1 C A env ρ σ (.While t body [] pos) Φ := fun s cs xs Q W k => by
  refine wpAny_While (codeAny_whileLoop (WhI C env xs Inv s cs) (fun n st hI => ?_) n₀ (.mk n₀ ρ σ s.heap s.toks cs h0 W (Gx.refl _ _ _)))
  cases hI with
  | mk ρ₂ σ₂ h₂ tk₂ cs₂ hI W₂ G₂ =>
  obtain ⟨b, σ₁, hts, hb⟩ := turn n ρ₂ σ₂ hI
  refine wpE (hts _ cs₂ xs _ W₂ fun h₃ tk₃ cs₃ g₃ R₃ => ?_)
  have W₃ := W₂.on g₃ R₃
  have G₃ := G₂.trans (g₃.ofF W₂.F)
  cases b with
  | false =>
    rw [if_neg (by decide)] at hb
    rw [if_neg (by decide)]
    exact wpAny_execs_nil (k (.next ρ₂ σ₁) .next h₃ tk₃ cs₃ hb G₃ W₃)
  | true =>
    rw [if_pos rfl] at hb
    rw [if_pos rfl]
    refine wpE (hb _ cs₃ xs _ W₃ fun o f h₅ tk₅ cs₅ ho g₅ r₅ => ?_)
    have G₅ := G₃.trans g₅
    cases o <;> cases f <;> first
      | exact r₅.elim
      | exact (let ⟨m, hm, hI'⟩ := ho; ⟨m, hm, .mk m _ _ h₅ tk₅ cs₅ hI' r₅ G₅⟩)
      | exact k _ _ h₅ tk₅ cs₅ ho G₅ r₅
theorem Ex.while_ {t : Expr} {body rest : List Stmt} {pos : Pos} {Φ : Out → Prop} (Inv : Nat → List (Str × V) → List CO → Prop) {n₀ : Nat} (h0 : Inv n₀ ρ σ)
    (turn : ∀ n ρ σ, Inv n ρ σ → ∃ b σ₁, Ts C A env ρ σ t b σ₁ ∧ if b then Ex C A env ρ σ₁ body (fun o => match o with
      | .next ρ σ => ∃ m, m < n ∧ Inv m ρ σ
      | .cont ρ σ => ∃ m, m < n ∧ Inv m ρ σ
      | .brk ρ σ => Ex C A env ρ σ rest Φ
      | .ret v σ => Φ (.ret v σ)) else Ex C A env ρ σ₁ rest Φ) : Ex C A env ρ σ (.While t body [] pos :: rest) Φ := Ex.cons (X1.while Inv h0 fun n ρ σ hI => by
  obtain ⟨b, σ₁, h1, h2⟩ := turn n ρ σ hI
  refine ⟨b, σ₁, h1, ?_⟩
  cases b with
  | false => rw [if_neg (by decide)] at h2 ⊢; exact h2
  | true => rw [if_pos rfl] at h2 ⊢; exact h2.mono fun o ho => by cases o <;> exact ho)
end
end Mine

namespace Mine
section
variable {C : Cx} {A : Around} {env : Env} {ρ ρ' : List (Str × V)} {σ σ' σ₁ σ₂ σ₃ : List CO}

/-! texts -/
theorem Op2.adds {a b : Str} (hz : a.length + b.length ≤ sizeLine) : Op2 C A σ (.str a) (.str b) (binaryOp .Add) (.str (a ++ b)) σ := fun _ _ _ _ _ _ _ _ W ra rb k => ra.strE fun _ => rb.strE fun _ => PyProof.Rows.add_str (fun t tk => k.tok W (.str _ _)) hz
theorem Ev.itemS {e₁ e₂ : Expr} {pos : Pos} {x : Str} {i : Nat} {ch : Nat} (h₁ : Ev C A env ρ σ e₁ (.str x) σ₁) (h₂ : Ev C A env ρ σ₁ e₂ (.int i) σ') (hi : i < x.length) (hz : x.length ≤ 1000) (hc : x.cps[i]? = some ch)
    (hs : ∀ o j, subscripted e₂ false o j = operate [o, j] (getItem o j)) : Ev C A env ρ σ (.Subscript e₁ e₂ pos) (.str ⟨#[ch]⟩) σ' := fun s cs xs Q W k => by
  refine Subscript_ (h₁ s cs xs _ W fun a ha ta ca ga Ra ra => ?_)
  refine h₂ _ ca xs _ (W.on ga Ra) fun b hb tb cb gb Rb rb => ?_
  refine rb.intE fun tk => ra.strE fun tx => ?_
  refine tail_any (typeIs_str _ _ _) PySem.F.slot_str_getitem.lookup (PySem.P.getItem_str (c := ch) ?_ ?_ ?_) (hs _ _)
  · simp only [Bool.or_eq_false_iff, decide_eq_false_iff_not]; omega
  · have : seqIndex? (i : Int) x.length = some i := by unfold seqIndex?; simp; omega
    rw [this]; exact hc
  · exact ((k.after (t₁ := ta) ga).after (t₁ := tb) gb).tok ((W.on ga Ra).on gb Rb) (.str _ _)
theorem VRs.toStrs {h : Heap} {cs xs : List Addr} : ∀ {ys : List Str} {us : List Value}, VRs h cs xs (ys.map V.str) us → StrsAre us ys
  | [], us, r => by rw [List.length_eq_zero_iff.mp r.1.symm]; exact .nil
  | y :: ys, us, r => by
    obtain ⟨u, l, rfl, _⟩ := len_succ r.1
    have r0 : VR h cs xs (.str y) u := r.2 0 _ u rfl rfl
    obtain ⟨t, rfl⟩ := r0.strI
    exact .cons y t (VRs.toStrs ⟨by have := r.1; simpa using this, fun i a b e1 e2 => r.2 (i + 1) a b (by simpa using e1) (by simpa using e2)⟩)
theorem Cl.joinS {v : V} {x : Str} {ys : List Str} (l : LV σ v (ys.map V.str)) (hz : (ys.map (·.length)).sum + ys.length * x.length ≤ 16777216) : Cl C A σ (.builtin "str.join") [.str x, v] (.str (Txt.join x ys)) σ := fun env ρ s cs xs us Q W r k => r.twoE fun u t ru rt => l.atE W.R rt fun a us hp rs => ru.strE fun tx =>
  join_list hp.isList rs.toStrs hz fun t' tk => k.tok W (.str _ _)
theorem Cl.countS {x y : Str} : Cl C A σ (.builtin "str.count") [.str x, .str y] (.int (Txt.count x y)) σ := fun env ρ s cs xs us Q W r k => r.twoE fun u t ru rt => ru.strE fun tx => rt.strE fun ty => PySem.SC.count (k.tok W (.int _ _))
/-- a method of a text, called -/
theorem Ev.methS {o : Expr} {name : Str} {apos pos : Pos} {es : List Expr} {id : String} {x : Str} {v : V} {vs : List V}
    (h : Ev C A env ρ σ o (.str x) σ₁) (hargs : Args C A env ρ σ₁ pos es vs σ₂) (hcl : Cl C A σ₂ (.builtin id) (.str x :: vs) v σ')
    (hbase : attributeBase o name env (eval o env) = eval o env)
    (hfew : ((backTo pos (starEach es env)).all (fun x => !x.1) && (backToKw pos (keywordEach [] env)).all (fun x => x.1.isSome) && decide (es.length + ([] : List Keyword).length + (if ([] : List Keyword).isEmpty then 0 else 1) < 30)) = true)
    (hline : (apos.endLine == pos.line) = true) (slot : Slot "str" name id) (hty : typeOf (.builtin id) = pure (.type "method_descriptor"))
    (hw : ∀ (ov : Value) (s : Shared) (Q : Value → Shared → Prop), wpAny (model C.prog C.w) A (spliced (backTo pos (starEach es env))) (fun us s₁ => wpAny (model C.prog C.w) A (call (.builtin id) (ov :: us)) Q noE s₁) noE s → wpAny (model C.prog C.w) A (callWith pos (.builtin id) [ov] (backTo pos (starEach es env)) []) Q noE s) :
    Ev C A env ρ σ (.Call (.Attribute o name apos) es [] pos) v σ' := fun s cs xs Q W k => by
  refine wpAny_Call_method hbase hfew hline PySem.F.plainAttrs_str slot hty (h s cs xs _ W fun a h₁ t₁ c₁ g₁ R₁ r₁ => ?_)
  obtain ⟨t, rfl⟩ := r₁.strI
  refine ⟨typeIs_str _ _ _, fun b hb => (by cases hb), hw _ _ _ ?_⟩
  refine hargs _ c₁ xs _ (W.on g₁ R₁) fun us h₂ t₂ c₂ g₂ R₂ r₂ => ?_
  exact hcl env ρ _ c₂ xs _ Q ((W.on g₁ R₁).on g₂ R₂) (.cons (r₁.on g₂) r₂) ((k.after g₁).after g₂)
def strIs (x : Str) : Value → Bool
  | .str y _ => y == x
  | _ => false
theorem strs_any {x : Str} {l : List Value} {ys : List Str} (h : StrsAre l ys) : l.any (strIs x) = ys.any (· == x) := by
  induction h with
  | nil => rfl
  | cons y t r ih => rw [List.any_cons, List.any_cons]; exact congrArg (fun z => (y == x) || z) ih
theorem Op2.inTupS {x : Str} {ys : List Str} (hu : A.in1.units + 0 < cLine) : Op2 C A σ (.str x) (.tup (ys.map V.str)) (compareOp .In) (.bool (ys.any (· == x))) σ := fun env ρ s cs xs u t Q W ru rt k => by
  obtain ⟨a, us, rfl, ht, hac, hax, rs⟩ := rt.tupAt
  obtain ⟨tx, rfl⟩ := ru.strI
  refine in_tupleAt (strIs x) ht (fun y hy => ?_) ?_
  · obtain ⟨j, hj, rfl⟩ := Array.mem_iff_getElem.mp hy
    obtain ⟨v, ev, rv⟩ := rs.elem hj
    rw [List.getElem?_map] at ev
    obtain ⟨z, _, rfl⟩ := Option.map_eq_some_iff.mp ev
    have := (Cmp.str (σ := σ) (n := 0) z x).eqAt (B := A.in1) hu W.R rv (.str x tx)
    obtain ⟨tz, ez⟩ := rv.strI
    rw [ez] at this ⊢
    exact this
  · have : us.any (strIs x) = ys.any (· == x) := by
      rw [← Array.any_toList]
      exact strs_any rs.toStrs
    rw [this]; exact k.here W (.bool _)

/-! a tuple among a list's tuples -/
def tupV (p : Int × Int) : V := .tup [.int p.1, .int p.2]
theorem tup_at {h : Heap} {cs xs : List Addr} {p : Int × Int} {y : Value} (r : VR h cs xs (tupV p) y) : ∃ a us, y = .ref a ∧ h.IsTuple a us ∧ IntsAre us.toList [p.1, p.2] := by
  obtain ⟨a, us, rfl, ht, _, _, rs⟩ := r.tupAt
  exact ⟨a, us, rfl, ht, VRs.toInts (ns := [p.1, p.2]) rs⟩
theorem tup_inj {h : Heap} {cs xs : List Addr} {p q : Int × Int} {y : Value} (r : VR h cs xs (tupV p) y) (r' : VR h cs xs (tupV q) y) : p = q := by
  obtain ⟨a, us, rfl, ht, hi⟩ := tup_at r
  obtain ⟨a', us', e, ht', hi'⟩ := tup_at r'
  cases e
  cases isTuple_inj ht ht'
  have := hi.numsOf.symm.trans hi'.numsOf
  simp at this
  exact Prod.ext this.1 this.2
open Classical in
theorem Op2.notInL {p : Int × Int} {ps : List (Int × Int)} {v : V} (l : LV σ v (ps.map tupV)) (hu : A.in1.units + 1 < cLine) : Op2 C A σ (tupV p) v (compareOp .NotIn) (.bool (!ps.any (· == p))) σ := fun env ρ s cs xs u t Q W ru rt k => by
  refine l.atE W.R rt fun a us hp rs => ?_
  refine notIn_listAt (fun y => decide (∃ (j : Nat) (q : Int × Int), us.toList[j]? = some y ∧ ps[j]? = some q ∧ q = p)) hp.isList (fun y hy => ?_) ?_
  · obtain ⟨j, hj, rfl⟩ := Array.mem_iff_getElem.mp hy
    obtain ⟨v', ev, rv⟩ := rs.elem hj
    rw [List.getElem?_map] at ev
    obtain ⟨q, eq, rfl⟩ := Option.map_eq_some_iff.mp ev
    have hc := (Cmp.pair (σ := σ) (n := 0) (.int q.1 p.1) (.int q.2 p.2)).eqAt (B := A.in1) hu W.R rv ru
    have e : decide (∃ (j' : Nat) (q' : Int × Int), us.toList[j']? = some us[j] ∧ ps[j']? = some q' ∧ q' = p) = (q.1 == p.1 && q.2 == p.2) := by
      rw [Bool.eq_iff_iff, decide_eq_true_iff, Bool.and_eq_true, beq_iff_eq, beq_iff_eq]
      constructor
      · rintro ⟨j', q', e1, e2, rfl⟩
        have r' : VR s.heap cs xs (tupV q') us[j] := rs.2 j' _ _ (by rw [List.getElem?_map, e2]; rfl) e1
        have := tup_inj rv r'
        rw [this]; exact ⟨rfl, rfl⟩
      · rintro ⟨e1, e2⟩
        exact ⟨j, q, by simp [hj], eq, Prod.ext e1 e2⟩
    rw [e]; exact hc
  · have : (us.any fun y => decide (∃ (j : Nat) (q : Int × Int), us.toList[j]? = some y ∧ ps[j]? = some q ∧ q = p)) = ps.any (· == p) := by
      rw [Bool.eq_iff_iff, Array.any_eq_true', List.any_eq_true]
      constructor
      · rintro ⟨y, hy, e⟩
        obtain ⟨j, q, _, e2, e3⟩ := of_decide_eq_true e
        exact ⟨q, List.mem_of_getElem? e2, by simpa using e3⟩
      · rintro ⟨q, hq, e⟩
        obtain ⟨j, hj, rfl⟩ := List.mem_iff_getElem.mp hq
        have hj' : j < us.size := by have := rs.1; simp at this; omega
        exact ⟨us[j], Array.getElem_mem hj', decide_eq_true ⟨j, ps[j], by simp [hj'], by simp [hj], by simpa using e⟩⟩
    rw [this]; exact k.here W (.bool _)

/-! dicts by tuples -/
theorem nodup_find {α β : Type} [DecidableEq β] {f : α → β} : ∀ {l : List α} {x : α}, (l.map f).Nodup → x ∈ l → l.find? (fun y => decide (f y = f x)) = some x
  | [], x, _, h => by simp at h
  | a :: l, x, hn, h => by
    rw [List.map_cons, List.nodup_cons] at hn
    rw [List.find?_cons]
    rcases List.mem_cons.mp h with rfl | h
    · simp
    · have : f a ≠ f x := fun q => hn.1 (q ▸ List.mem_map.mpr ⟨x, h, rfl⟩)
      simp only [this, decide_false]
      exact nodup_find hn.2 h
theorem Ev.dict0 {pos : Pos} : Ev C A env ρ σ (.Dict [] [] pos) (.mu σ.length) (σ ++ [.dict []]) := fun s cs xs Q W k => by
  refine wpAny_Dict_empty ?_
  have nD := (W.new _ (get_size_none s.heap)).1
  have hg : (s.heap.push { cls := .type "dict", data := .dict #[] }).get? s.heap.objs.size = some { cls := .type "dict", data := .dict #[] } := Heap.get?_push_size _ rfl
  obtain ⟨g, R⟩ := W.R.snoc (c := .dict []) (push_keeps s.heap { cls := .type "dict", data := .dict #[] }) nD (get_size_none s.heap) ⟨[], ⟨_, #[], _, hg, ⟨rfl, rfl, rfl⟩, rfl, rfl, (fun x hx => by simp at hx), List.nodup_nil⟩, fun x hx => by simp at hx, rfl, fun i x p e => by simp at e⟩
  exact k _ _ s.toks _ g R (.mu (by rw [← W.R.len]; simp))
theorem Ev.itemD {e₁ e₂ : Expr} {pos : Pos} {c i : Nat} {p : Int × Int} {kvs : List (List Int × Str)} {x : Str} (h₁ : Ev C A env ρ σ e₁ (.mu c) σ₁) (h₂ : Ev C A env ρ σ₁ e₂ (tupV p) σ') (hc : σ'[c]? = some (.dict kvs)) (hi : kvs[i]? = some ([p.1, p.2], x)) (hu : A.in1.units < cLine)
    (hs : ∀ o j, subscripted e₂ false o j = operate [o, j] (getItem o j)) : Ev C A env ρ σ (.Subscript e₁ e₂ pos) (.str x) σ' := fun s cs xs Q W k => by
  refine Subscript_ (h₁ s cs xs _ W fun a ha ta ca ga Ra ra => ?_)
  refine h₂ _ ca xs _ (W.on ga Ra) fun b hb tb cb gb Rb rb => ?_
  obtain ⟨d, rfl, ed⟩ := (ra.on gb).muI
  obtain ⟨ds, hd, hk, hl, hv⟩ := Rb.at_ c d _ ed hc
  obtain ⟨kt, us, rfl, ⟨o, eo, oc, n, od⟩, hint⟩ := tup_at rb
  have hlt : i < ds.length := by have := (List.getElem?_eq_some_iff.mp hi).1; omega
  obtain ⟨e1, t, e2⟩ := hv i ds[i] _ (List.getElem?_eq_getElem hlt) hi
  have hnd : (ds.map (·.1)).Nodup := let ⟨_, _, _, _, _, _, _, _, n⟩ := hd; n
  have hat : atKey ds [p.1, p.2] = some ds[i].2 := by
    unfold atKey
    have e1' : ds[i].1 = [p.1, p.2] := e1
    have := nodup_find (f := fun x : List Int × Addr × Value => x.1) hnd (List.getElem_mem hlt)
    rw [e1'] at this
    rw [this]; rfl
  have hT : Shared.TypeIs { s with heap := hb, toks := tb } (.ref d) "dict" := (hd.to (prog := C.prog) (w := C.w)).typeIs
  refine tail_any hT slot_dict_getitem.lookup (wpAny_getItem_heap (knd := tupleKind (intKind C.prog C.w)) (k := [p.1, p.2]) hu (IsTupK.to ⟨o, us, n, eo, oc, od, hint⟩) hd.to hat ?_) (hs _ _)
  have e2' : ds[i].2.2 = .str x t := e2
  rw [e2']
  exact ((k.after (t₁ := ta) ga).after (t₁ := tb) gb).tok ((W.on ga Ra).on gb Rb) (.str _ _)
theorem X1.setD {e o i : Expr} {sp pos : Pos} {c : Nat} {p : Int × Int} {kvs : List (List Int × Str)} {x : Str} {Φ : Out → Prop} (h₁ : Ev C A env ρ σ e (.str x) σ₁) (h₂ : Ev C A env ρ σ₁ o (.mu c) σ₂) (h₃ : Ev C A env ρ σ₂ i (tupV p) σ₃) (hc : σ₃[c]? = some (.dict kvs))
    (hn : [p.1, p.2] ∉ kvs.map (·.1)) (hz : kvs.length ≤ 1000) (hu : A.in1.units < cLine) (hp : Φ (.next ρ (σ₃.set c (.dict (kvs ++ [([p.1, p.2], x)]))))) (hs : swapsWith e (some (.Subscript o i sp)) pos.line env = pure false) : X1 C A env ρ σ (.Assign [.Subscript o i sp] e pos) Φ := fun s cs xs Q W k => by
  refine wpAny_Assign_Subscript (h₁ s cs xs _ W fun val ha ta ca ga Ra ra => ?_) hs
  refine h₂ _ ca xs _ (W.on ga Ra) fun ov hb tb cb gb Rb rb => ?_
  refine h₃ _ cb xs _ ((W.on ga Ra).on gb Rb) fun iv hd td cd gd Rd rd => ?_
  have Wd' : Wd C env ρ σ₃ hd cd xs := ((W.on ga Ra).on gb Rb).on gd Rd
  obtain ⟨d, rfl, ed⟩ := (rb.on gd).muI
  obtain ⟨ds, hdt, hk, hl, hv⟩ := Rd.at_ c d _ ed hc
  obtain ⟨kt, us, rfl, ⟨ko, eo, oc, n, od⟩, hkc, hkx, rs⟩ := rd.tupAt
  have hint : IntsAre us.toList [p.1, p.2] := VRs.toInts (ns := [p.1, p.2]) rs
  obtain ⟨tx, rfl⟩ := ra.strI
  have hno : atKey ds [p.1, p.2] = none := by
    unfold atKey
    rw [Option.map_eq_none_iff, List.find?_eq_none]
    intro y hy
    obtain ⟨j, hj, rfl⟩ := List.mem_iff_getElem.mp hy
    have hj' : j < kvs.length := by omega
    have := (hv j ds[j] kvs[j] (List.getElem?_eq_getElem hj) (List.getElem?_eq_getElem hj')).1
    simp only [decide_eq_true_eq]
    intro q
    exact hn (List.mem_map.mpr ⟨kvs[j], List.getElem_mem hj', by rw [← this, q]⟩)
  have hsz : ds.length ≤ sizeLine := by rw [sizeLine_eq]; omega
  refine wpAny_setItem_heap (hsz := hsz) (knd := tupleKind (intKind C.prog C.w)) (k := [p.1, p.2]) hu (IsTupK.to ⟨ko, us, n, eo, oc, od, hint⟩) hdt.to fun h' hm' hS => ?_
  rw [storedH_new hno] at hm'
  have g' : Gx nX cd hd cd h' := Gx.upd (List.mem_of_getElem? ed) hS
  have R' : CR h' cd xs (σ₃.set c (.dict (kvs ++ [([p.1, p.2], x)]))) := by
    refine Rd.upd ed hS ⟨_, DictT.of hm', fun y hy => ?_, by simp [hl], fun j y q e1 e2 => ?_⟩
    · rcases List.mem_append.mp hy with hy | hy
      · exact hk y hy
      · rw [List.mem_singleton.mp hy]; exact ⟨hkc, hkx⟩
    · by_cases hj : j < ds.length
      · rw [List.getElem?_append_left hj] at e1
        rw [List.getElem?_append_left (by omega)] at e2
        exact hv j y q e1 e2
      · rw [List.getElem?_append_right (by omega)] at e1
        rw [List.getElem?_append_right (by omega), ← hl] at e2
        cases z : j - ds.length with
        | zero =>
          rw [z] at e1 e2
          simp at e1 e2
          subst e1 e2
          exact ⟨rfl, tx, rfl⟩
        | succ z' => rw [z] at e1; simp at e1
  exact k (.next ρ _) .next _ _ cd hp ((((ga.trans gb).trans gd).trans g').ofF W.F) (Wd'.on g' R')
theorem Ex.setD {e o i : Expr} {sp pos : Pos} {c : Nat} {p : Int × Int} {kvs : List (List Int × Str)} {x : Str} {rest : List Stmt} {Φ : Out → Prop} (h₁ : Ev C A env ρ σ e (.str x) σ₁) (h₂ : Ev C A env ρ σ₁ o (.mu c) σ₂) (h₃ : Ev C A env ρ σ₂ i (tupV p) σ₃) (hc : σ₃[c]? = some (.dict kvs))
    (hn : [p.1, p.2] ∉ kvs.map (·.1)) (hz : kvs.length ≤ 1000) (hu : A.in1.units < cLine) (hs : swapsWith e (some (.Subscript o i sp)) pos.line env = pure false) (hr : Ex C A env ρ (σ₃.set c (.dict (kvs ++ [([p.1, p.2], x)]))) rest Φ) : Ex C A env ρ σ (.Assign [.Subscript o i sp] e pos :: rest) Φ := Ex.cons (X1.setD h₁ h₂ h₃ hc hn hz hu hr hs)
end
end Mine

namespace Mine
section
variable {C : Cx} {A : Around} {env : Env} {ρ ρ' : List (Str × V)} {σ σ' σ₁ σ₂ σ₃ : List CO}

/-- `x += e`, ints, a name of the frame's own -/
theorem X1.aug {x : Str} {xp pos : Pos} {e : Expr} {a b : Int} {Φ : Out → Prop} (hx : ρ.lookup x = some (.int a)) (hk : env.kindOf x = some .local) (h : Ev C A env ρ σ e (.int b) σ₁) (hb : Sn C A env ρ σ₁ x (.int (a + b)) ρ') (hp : Φ (.next ρ' σ₁)) :
    X1 C A env ρ σ (.AugAssign (.Name x xp) .Add e pos) Φ := fun s cs xs Q W k => by
  refine wpAny_AugAssign_Name (loadLocal hx hk s cs xs _ W fun o h₀ t₀ c₀ g₀ R₀ r₀ => ?_)
  have W₀ := W.on g₀ R₀
  refine h _ c₀ xs _ W₀ fun v h₁ t₁ c₁ g₁ R₁ r₁ => ?_
  have W₁ := W₀.on g₁ R₁
  obtain ⟨ta, rfl⟩ := r₀.intAt
  obtain ⟨tb, rfl⟩ := r₁.intAt
  refine wpAny_iadd_int ?_
  exact hb _ c₁ xs _ _ W₁ (.int _ _) fun h'' tk' g' W' => k (.next ρ' σ₁) .next h'' tk' c₁ hp (((g₀.trans g₁).ofF W.F).trans g') W'
theorem Ex.aug {x : Str} {xp pos : Pos} {e : Expr} {a b : Int} {rest : List Stmt} {Φ : Out → Prop} (hx : ρ.lookup x = some (.int a)) (hk : env.kindOf x = some .local) (h : Ev C A env ρ σ e (.int b) σ₁) (hb : Sn C A env ρ σ₁ x (.int (a + b)) ρ') (hr : Ex C A env ρ' σ₁ rest Φ) :
    Ex C A env ρ σ (.AugAssign (.Name x xp) .Add e pos :: rest) Φ := Ex.cons (X1.aug hx hk h hb hr)

/-- a comprehension of texts, stored as a list that will change (the first one) -/
theorem X1.asgMu {elt t iter : Expr} {ifs : List Expr} {rest : List Comprehension} {scope : Scope} {pos spos xp : Pos} {x : Str} {vs : List V} {wss : List (List V)} {ys : List Str} {Φ : Out → Prop}
    {M : List CO → Prop} (he : EvIM M C A env ρ [] iter t vs []) (hw : ys.map V.str = wss.flatten) (hz : wss.flatten.length ≤ sizeLine)
    (T : ∀ (L : Addr) (cl : List (Str × Addr)), (∀ n c, scope.names.lookup n = some .cell → cl.lookup n = some c → @LT.lt Nat _ L c) → Tn C A (compEnvC scope cl L env) [] elt ⟨t, iter, ifs, 0⟩ rest (inner scope ρ) vs wss)
    (hb : Sn C A env ρ [.list (ys.map V.str)] x (.mu 0) ρ') (hp : Φ (.next ρ' [.list (ys.map V.str)]))
    (hsw : swapsWith (.ListComp elt (⟨t, iter, ifs, 0⟩ :: rest) scope pos) (some (.Name x xp)) spos.line env = pure true)
    (hnd : (scope.names.map (·.1)).Nodup) (hfree : ∀ n, (n, NameKind.free) ∈ scope.names → env.kindOf n = some .cell) (hkind : scope.kind = .function) (hasy : ∀ g' ∈ rest, g'.is_async = 0) (hfold : ∀ x, foldedSetIterable iter env x = pure x) (hM : M [] := by trivial) :
    X1 C A env ρ [] (.Assign [.Name x xp] (.ListComp elt (⟨t, iter, ifs, 0⟩ :: rest) scope pos) spos) Φ := fun s cs xs Q W k => by
  rw [exec_Assign_Name_used _ _ _ _ hsw]
  refine wpAny_bind (wpAny_standAt (wpAny_bind ?_))
  show wpAny _ _ (comprehension (.ListComp elt (⟨t, iter, ifs, 0⟩ :: rest) scope pos) scope env (firstIterPos (⟨t, iter, ifs, 0⟩ :: rest) pos) (newList []) false (eval iter env) (some (assign (.Name x xp) env)) >>= fun _ => pure ()) _ _ s
  refine wpAny_bind (comp_run (g := ⟨t, iter, ifs, 0⟩) (use := some (assign (.Name x xp) env)) hnd hfree hkind (fun g' hg => (List.mem_cons.mp hg).elim (fun q => by rw [q]) (hasy g')) hfold hM he hz T W fun D L h' tk cs' m hm hL hDn hLc g R r => ?_)
  have hLive : ∃ o, h'.get? L = some o := by obtain ⟨o, _, _, e, _⟩ := id hm; exact ⟨o, e⟩
  have hLx : L ∉ xs := fun q => by obtain ⟨o, e⟩ := W.F.xlive L q; rw [hL] at e; cases e
  have hFL : ¬ FX env L := fun q => hLx (W.F.fx L q)
  obtain rfl : cs' = [] := List.length_eq_zero_iff.mp R.len
  obtain ⟨D', us, e, hp', hDc, hDx, rs⟩ := r.listAt
  cases e
  have hLD : L ≠ D := fun q => hDx (q ▸ .head _)
  have gD : Gx nX cs s.heap [D] h' := ⟨g.pre.trans (List.nil_prefix), g.keep, fun a ha => by rw [List.mem_singleton.mp ha]; exact .inr ⟨hDn, fun f => f⟩⟩
  have RD : CR h' [D] (L :: xs) [.list (ys.map V.str)] := by
    refine ⟨rfl, by simp, fun i a c e1 e2 => ?_⟩
    cases i with
    | succ i => simp at e1
    | zero =>
      simp at e1 e2
      subst e1 e2
      refine ⟨us, hp', by rw [hw]; exact rs.1, fun i v u e1 e2 => ?_⟩
      rw [hw] at e1
      have r' := rs.2 i v u e1 e2
      rw [← hw, List.getElem?_map] at e1
      obtain ⟨y, _, rfl⟩ := Option.map_eq_some_iff.mp e1
      obtain ⟨t, rfl⟩ := r'.strI
      exact .str _ _
  have hLD' : L ∉ [D] := fun q => hLD (List.mem_singleton.mp q)
  have W' : Wd C env ρ [.list (ys.map V.str)] h' [D] ([L] ++ xs) := W.more gD (fun a ha => by rw [List.mem_singleton.mp ha]; exact hL) (fun a ha => by rw [List.mem_singleton.mp ha]; exact hLive) (fun a ha => by rw [List.mem_singleton.mp ha]; exact hLD') RD
  refine (Bn.name hb) _ [D] ([L] ++ xs) (.ref D) _ W' (.mu rfl) fun h₂ tk₂ g₂ W₂ => ?_
  refine ⟨m, hm.at' fun o e => g₂.keep L o e hLD' hFL, fun h₃ hs => ?_⟩
  have kp : Kp [L] h₂ h₃ := Kp.same hs (List.mem_singleton.mpr rfl)
  have W₃ : Wd C env ρ' [.list (ys.map V.str)] h₃ [D] xs := W₂.ownDone kp (fun a ha => by rw [List.mem_singleton.mp ha]; exact hLx) W.F.Lx W.F.cx (fun a ha => by rw [List.mem_singleton.mp ha]; exact hLD')
  refine wpAny_pure (wpAny_pure (k (.next ρ' _) .next h₃ tk₂ [D] hp ?_ W₃))
  exact ((gD.ofF W.F).trans g₂).own kp fun a ha => by rw [List.mem_singleton.mp ha]; exact hL
theorem Ex.asgMapMu {α : Type} {elt t iter : Expr} {scope : Scope} {pos spos xp : Pos} {x : Str} {rest : List Stmt} {Φ : Out → Prop} {ys : List Str} (as : List α) (f : α → V) (g : α → Str) (ev : as.map g = ys) {M : List CO → Prop} (he : EvIM M C A env ρ [] iter t (as.map f) []) (hz : as.length ≤ sizeLine)
    (T : ∀ (L : Addr) (cl : List (Str × Addr)) (i : Nat) (a : α), as[i]? = some a → (∀ n c, scope.names.lookup n = some .cell → cl.lookup n = some c → @LT.lt Nat _ L c) →
      ∃ ρ', Bn C A (compEnvC scope cl L env) (inner scope ρ) [] t (f a) ρ' [] ∧ Sub (inner scope ρ) ρ' ∧ Ev C A (compEnvC scope cl L env) ρ' [] elt (.str (g a)) [])
    (hb : Sn C A env ρ [.list (ys.map V.str)] x (.mu 0) ρ')
    (hsw : swapsWith (.ListComp elt [⟨t, iter, [], 0⟩] scope pos) (some (.Name x xp)) spos.line env = pure true)
    (hnd : (scope.names.map (·.1)).Nodup) (hfree : (scope.names.all fun p => p.2 != .free || env.kindOf p.1 == some .cell) = true) (hkind : scope.kind = .function) (hfold : ∀ x, foldedSetIterable iter env x = pure x)
    (hr : Ex C A env ρ' [.list (ys.map V.str)] rest Φ) (hM : M [] := by trivial) : Ex C A env ρ [] (.Assign [.Name x xp] (.ListComp elt [⟨t, iter, [], 0⟩] scope pos) spos :: rest) Φ := by
  subst ev
  have e : (as.map g).map V.str = (as.map fun a => if (fun _ => true) a then [V.str (g a)] else []).flatten := by
    have e' : as.filter (fun _ => true) = as := List.filter_eq_self.mpr fun _ _ => rfl
    rw [flat1, e', List.map_map]; rfl
  exact Ex.cons (X1.asgMu he e (by rw [← e, List.length_map, List.length_map]; exact hz) (fun L cl hcl => tn1 (ifs := []) as f (fun a => .str (g a)) (fun _ => true) fun i a ha => by obtain ⟨ρ', h1, h2, h3⟩ := T L cl i a ha hcl; exact ⟨ρ', h1, h2, rfl, fun _ => h3⟩) hb hr hsw hnd (freeOk hfree) hkind (fun _ h => by simp at h) hfold hM)

/-- `x, xs[i] = v, w` -/
theorem wpAny_assign_Subscript' {M : Model} {E : Value → Shared → Prop} {s : Shared} {o i : Expr} {pos : Pos} {v : Value} {Q : Unit → Shared → Prop} (h : wpAny M A (eval o env) (fun ov s₂ => wpAny M A (eval i env) (fun iv s₃ => wpAny M A (setItem ov iv v) (fun _ => Q ()) E s₃) E s₂) E s) :
    wpAny M A (assign (.Subscript o i pos) env v) Q E s := fun Γ p hΓ => by
  simp only [assign_Subscript, Sem.wp_bind', Sem.wp_holding, Sem.wp_cmd_standAt, Sem.wp_release]
  exact Sem.wp_mono M Γ _ (fun ov p₂ s₂ h₂ => Sem.wp_mono M Γ _ (fun iv _ s₃ h₃ => h₃ Γ _ hΓ) (fun _ _ _ h' => h') _ _ (h₂ Γ p₂ hΓ)) (fun _ _ _ h' => h') _ _ (h Γ _ hΓ)
theorem Bn.item {o i : Expr} {sp : Pos} {v : V} {c : Nat} {n : Nat} {vs : List V} (h₂ : Ev C A env ρ σ o (.mu c) σ) (h₃ : Ev C A env ρ σ i (.int n) σ) (hc : σ[c]? = some (.list vs)) (hn : n < vs.length) (hfit : n < 2 ^ 20) :
    Bn C A env ρ σ (.Subscript o i sp) v ρ (σ.set c (.list (vs.set n v))) := fun s cs xs val Q W r k => by
  refine wpAny_assign_Subscript' ?_
  refine h₂ _ cs xs _ W fun ov hb tb cb gb Rb rb => ?_
  obtain rfl := same_cs W.R Rb gb.pre
  refine h₃ _ cb xs _ (W.on gb Rb) fun iv hd td cd gd Rd rd => ?_
  obtain rfl := same_cs Rb Rd gd.pre
  have Wd' : Wd C env ρ σ hd cd xs := (W.on gb Rb).on gd Rd
  obtain ⟨t, rfl⟩ := rd.intAt
  obtain ⟨a, us, rfl, ea, ⟨m, ho⟩, rs⟩ := mu_at (s := { s with heap := hd, toks := td }) hc Wd' (rb.on gd)
  have eus : us.size = vs.length := by have := rs.1; simpa using this.symm
  refine PySem.W.ki_setAt (n := m) ho (Int.natCast_nonneg _) (by omega) (by omega) ?_
  rw [Int.toNat_natCast]
  have hS : Heap.SameBut a hd (hd.update a (Obj.mapSeq (·.setIfInBounds n val))) := Heap.SameBut.update ..
  have hD : (hd.update a (Obj.mapSeq (·.setIfInBounds n val))).PlainList a (us.setIfInBounds n val) := ⟨_, Heap.get?_update_self (h := hd) (Obj.mapSeq (·.setIfInBounds n val)) ho rfl⟩
  have g' : Gx nX cd hd cd (hd.update a (Obj.mapSeq (·.setIfInBounds n val))) := Gx.upd (List.mem_of_getElem? ea) hS
  have rv : VR hd cd xs v val := (r.on gb).on gd
  have R' : CR (hd.update a (Obj.mapSeq (·.setIfInBounds n val))) cd xs (σ.set c (.list (vs.set n v))) := by
    refine Rd.upd ea hS ⟨_, hD, ⟨by simp [eus], fun j w y e1 e2 => ?_⟩⟩
    rw [Array.toList_setIfInBounds] at e2
    by_cases q : n = j
    · subst q
      rw [List.getElem?_set_self (by omega)] at e1; cases e1
      rw [List.getElem?_set_self (by simp; omega)] at e2; cases e2
      exact rv.on g'
    · rw [List.getElem?_set_ne q] at e1 e2
      exact (rs.2 j w y e1 e2).on g'
  exact k _ _ (((gb.trans gd).trans g').ofF W.F) (Wd'.on g' R')
theorem Ex.asgNI (hh : A.handled = none) {x : Str} {xp sp tp pos : Pos} {o i e : Expr} {m : Nat} {v w : V} {c n : Nat} {vs : List V} {rest : List Stmt} {Φ : Out → Prop} (h : Ev C A env ρ σ e (.tup [v, w]) σ)
    (hx : Sn C A env ρ σ x v ρ') (h₂ : Ev C A env ρ' σ o (.mu c) σ) (h₃ : Ev C A env ρ' σ i (.int n) σ) (hc : σ[c]? = some (.list vs)) (hn : n < vs.length) (hfit : n < 2 ^ 20)
    (he : assignEach [.Name x xp, .Subscript o i sp] env = [(false, assign (.Name x xp) env), (false, assign (.Subscript o i sp) env)])
    (hs : swapsWithSole [.Tuple [.Name x xp, .Subscript o i sp] m tp] e pos.line env = pure false) (hw : swappedStores [.Tuple [.Name x xp, .Subscript o i sp] m tp] e env = pure none)
    (hr : Ex C A env ρ' (σ.set c (.list (vs.set n w))) rest Φ) : Ex C A env ρ σ (.Assign [.Tuple [.Name x xp, .Subscript o i sp] m tp] e pos :: rest) Φ :=
  Ex.asgT h hs hw (fun s cs xs val Q W r k => by
    obtain ⟨a, us, rfl, ht, hac, hax, rs⟩ := r.tupAt
    have hus : us.size = 2 := by have := rs.1; simpa using this.symm
    obtain ⟨u1, u2, eu, r1, r2⟩ := rs.two'
    refine wpAny_assign_Tuple hh ht (by rw [he]; simp [hus]) (by rw [he]; rfl) fun h' hE => ?_
    have kk : ∀ b o, s.heap.get? b = some o → h'.get? b = some o := fun b o e => hE b o (neA (Nat.ne_of_lt (Heap.lt_size e))) e
    have g : Gx nX cs s.heap cs h' := Gx.keeps kk
    have W2 := W.on g (W.R.keeps kk)
    rw [he, eu]
    refine wpAny_assignInOrder_more ((Bn.name hx) _ cs xs u1 _ W2 (r1.on g) fun h₃' tk₃ g₃ W₃ => ?_)
    refine wpAny_assignInOrder_more ((Bn.item (v := w) h₂ h₃ hc hn hfit) _ cs xs u2 _ W₃ ((r2.on g).onF W2.F g₃) fun h₄ tk₄ g₄ W₄ => ?_)
    exact wpAny_assignInOrder_none (k h₄ tk₄ (((g.ofF W.F).trans g₃).trans g₄) W₄)) hr
theorem five (x y z : Nat) (ns : List Int) : ∃ cs : List Nat, V.list (((ns.take 5).map fun n => V.int (absI n)) ++ [V.int x, V.int y, V.int z].drop ((ns.map V.int).take 5).length) = Ln cs ∧ 3 ≤ cs.length ∧ cs.length ≤ 5 := by
  match ns with
  | [] => exact ⟨[x, y, z], rfl, by simp, by simp⟩
  | [p] => exact ⟨[p.natAbs, y, z], by simp [absI_nat, toI], by simp, by simp⟩
  | [p, q] => exact ⟨[p.natAbs, q.natAbs, z], by simp [absI_nat, toI], by simp, by simp⟩
  | [p, q, r] => exact ⟨[p.natAbs, q.natAbs, r.natAbs], by simp [absI_nat, toI], by simp, by simp⟩
  | [p, q, r, s] => exact ⟨[p.natAbs, q.natAbs, r.natAbs, s.natAbs], by simp [absI_nat, toI], by simp, by simp⟩
  | p :: q :: r :: s :: t :: _ => exact ⟨[p.natAbs, q.natAbs, r.natAbs, s.natAbs, t.natAbs], by simp [absI_nat, toI], by simp, by simp⟩
end
end Mine

namespace Mine
/-! what is looked at when the text's top has run -/
def frag (as : List Addr) (h : Heap) : Frag := as.filterMap fun a => (h.get? a).map fun o => (a, o)
theorem frag_in (as : List Addr) (h : Heap) : (frag as h).In h := fun a o e => by
  unfold frag at e
  induction as with
  | nil => simp at e
  | cons b r ih =>
    rw [List.filterMap_cons] at e
    cases q : h.get? b with
    | none => rw [q] at e; exact ih e
    | some ob =>
      rw [q] at e
      simp only [Option.map_some] at e
      rw [List.lookup_cons] at e
      cases z : a == b with
      | true => rw [z] at e; cases e; rw [beq_iff_eq.mp z]; exact q
      | false => rw [z] at e; exact ih e
abbrev Core := Str × Str × Arguments × FuncBody × Scope × Addr × List (Str × Addr) × Value × Value × Addr
def core (fd : FuncData) : Core := (fd.name, fd.qualname, fd.params, fd.body, fd.scope, fd.globals, fd.closure, fd.defaults, fd.kwdefaults, fd.builtins)
def coreOf (q : Str → Str) : Stmt → Option Core
  | .FunctionDef n ps body _ _ _ sc _ _ _ => some (n, q n, ps, .stmts body, sc, mainGlobals, [], .none, .none, builtinsNs)
  | _ => none
def coreT (p : Program) (i : Nat) : Option Core := (p.main.body[i]?).bind (coreOf fun n => n)
def coreM (p : Program) (i j : Nat) : Option Core := match p.main.body[i]? with
  | some (.ClassDef c _ _ body _ _ _ _ _ _ _) => (body[j]?).bind (coreOf fun n => c ++ "." ++ n)
  | _ => none
def mkF (c : Core) (fd : FuncData) : FuncData :=
  { name := c.1, qualname := c.2.1, params := c.2.2.1, body := c.2.2.2.1, scope := c.2.2.2.2.1, globals := c.2.2.2.2.2.1, closure := c.2.2.2.2.2.2.1, defaults := c.2.2.2.2.2.2.2.1, kwdefaults := c.2.2.2.2.2.2.2.2.1,
     doc := fd.doc, pyModule := fd.pyModule, annotations := fd.annotations, code := fd.code, closureTuple := fd.closureTuple, builtins := c.2.2.2.2.2.2.2.2.2 }
theorem mkF_eq {c : Core} {fd : FuncData} (h : core fd = c) : fd = mkF c fd := by subst h; rfl
def bodyC (c : Core) : List Stmt := match c.2.2.2.1 with
  | .stmts b => b
  | _ => []
def codeOk (K : Frag) (a : Addr) : Bool := match fnAt K a with
  | some fd => codeIn K fd.code fd.qualname
  | none => false
noncomputable section
def factsL (K : Frag) : List Bool := [
  getOk K 208 "word",
  setOk K 208 "word",
  getOk K 208 "number",
  setOk K 208 "number",
  getOk K 208 "mark",
  setOk K 208 "mark",
  getOk K 208 "told",
  setOk K 208 "told",
  getOk K 208 "bounds",
  setOk K 208 "bounds",
  getOk K 208 "items",
  setOk K 208 "items",
  getOk K 117 "kind",
  setOk K 117 "kind",
  getOk K 117 "owner",
  setOk K 117 "owner",
  getOk K 117 "key",
  setOk K 117 "key",
  makesIn K 208,
  findIn K (.ref 208) "__init__" == some (some (.ref 205)),
  typeIn K (.ref 205) == some (.type "function"),
  makesIn K 117,
  findIn K (.ref 117) "__init__" == some (some (.ref 114)),
  typeIn K (.ref 114) == some (.type "function"),
  clsOk K 138 135 "__init__",
  isIn K (.ref 208) 208,
  keepIn K (.ref 114),
  keepIn K (.ref 117),
  keepIn K (.ref 135),
  keepIn K (.ref 177),
  keepIn K (.ref 184),
  keepIn K (.ref 205),
  keepIn K (.ref 208),
  keepIn K (.ref 236),
  keepIn K (.ref 243),
  keepIn K (.ref 262),
  keepIn K (.ref 269),
  keepIn K (.ref 276),
  keepIn K (.ref 283),
  keepIn K (.ref 290),
  keepIn K (.ref 295),
  codeOk K 114,
  codeOk K 135,
  codeOk K 177,
  codeOk K 184,
  codeOk K 205,
  codeOk K 236,
  codeOk K 243,
  codeOk K 262,
  codeOk K 269,
  codeOk K 276,
  codeOk K 283,
  codeOk K 290,
  codeOk K 295,
  nsIn K mainGlobals "isinstance" == some none,
  nsIn K mainGlobals "len" == some none,
  nsIn K mainGlobals "range" == some none,
  nsIn K mainGlobals "zip" == some none,
  nsIn K mainGlobals "enumerate" == some none,
  nsIn K mainGlobals "abs" == some none,
  nsIn K mainGlobals "int" == some none,
  nsIn K mainGlobals "any" == some none,
  nsIn K mainGlobals "all" == some none,
  nsIn K mainGlobals "sorted" == some none,
  nsIn K mainGlobals "list" == some none,
  nsIn K mainGlobals "sum" == some none,
  nsIn K mainGlobals "max" == some none,
  nsIn K mainGlobals "set" == some none,
  nsIn K mainGlobals "size_of_bounds" == some (some (.ref 236)),
  nsIn K mainGlobals "array_place" == some (some (.ref 243)),
  nsIn K mainGlobals "item_ref" == some (some (.ref 262)),
  nsIn K mainGlobals "slot_get" == some (some (.ref 269)),
  nsIn K mainGlobals "slot_set" == some (some (.ref 276)),
  nsIn K mainGlobals "to_whole" == some (some (.ref 177)),
  nsIn K mainGlobals "need_whole" == some (some (.ref 184)),
  nsIn K mainGlobals "Array" == some (some (.ref 208)),
  nsIn K mainGlobals "NameRef" == some (some (.ref 117)),
  nsIn K mainGlobals "Holder" == some (some (.ref 138)),
  nsIn K mainGlobals "_law_read" == some (some (.ref 283)),
  nsIn K mainGlobals "_law_turns" == some (some (.ref 290)),
  nsIn K mainGlobals "law" == some (some (.ref 295))]
def fnAddrs : List Addr := [114, 135, 177, 184, 205, 236, 243, 262, 269, 276, 283, 290, 295]
def fnCores : List (Option Core) := [coreM PySem.Challenge.pw_xm0945_04 5 0, coreM PySem.Challenge.pw_xm0945_04 6 0, coreT PySem.Challenge.pw_xm0945_04 11, coreT PySem.Challenge.pw_xm0945_04 12, coreM PySem.Challenge.pw_xm0945_04 15 0, coreT PySem.Challenge.pw_xm0945_04 17, coreT PySem.Challenge.pw_xm0945_04 18, coreT PySem.Challenge.pw_xm0945_04 21, coreT PySem.Challenge.pw_xm0945_04 22, coreT PySem.Challenge.pw_xm0945_04 23, coreT PySem.Challenge.pw_xm0945_04 25, coreT PySem.Challenge.pw_xm0945_04 26, coreT PySem.Challenge.pw_xm0945_04 27]
def obsB (s : Shared) : Bool × List (Option Core) := ((factsL (frag (List.range 296) s.heap)).all id, fnAddrs.map fun a => (fnAt (frag (List.range 296) s.heap) a).map core)
def valB (w : World) : Bool × List (Option Core) := (true, fnCores)
structure Says (K : Frag) (h : Heap) : Prop where
  X : K.In h
  f : (factsL K).all id = true
  fn : (fnAddrs.map fun a => (fnAt K a).map core) = fnCores
def hookB : Hook := ⟨Bool × List (Option Core), obsB, valB, fun _ h => ∃ K, Says K h, fun _ s e => ⟨frag (List.range 296) s.heap, frag_in _ _, congrArg Prod.fst e, congrArg Prod.snd e⟩, fun _ _ _ x k => let ⟨K, Y⟩ := x; ⟨K, Y.X.keeps k, Y.f, Y.fn⟩⟩
structure Base (K : Frag) (C : Cx) : Prop where
  Y : Says K C.hB
  lim : C.hB.NoLimit
  ns : ∃ mg mb, C.hB.Ns mainGlobals mg ∧ C.hB.Ns builtinsNs mb ∧ ∀ x : Str, x ≠ "__name__" → mb x = bootBuiltins x
section
variable {K : Frag} {C : Cx}
theorem Base.X (B : Base K C) : K.In C.hB := B.Y.X
theorem Base.get (B : Base K C) (i : Nat) {b : Bool} (h : (factsL K)[i]? = some b) : b = true := List.all_eq_true.mp B.Y.f b (List.mem_of_getElem? h)
theorem Base.mod (B : Base K C) {x : Str} {val : Value} (e : nsIn K mainGlobals x = some (some val)) : Glb C.hB x val := let ⟨_, _, h1, h2, _⟩ := B.ns; Glb.mod B.X h1 h2 e
theorem Base.bui (B : Base K C) {x : Str} {val : Value} (e : nsIn K mainGlobals x = some none) (hx : x ≠ "__name__") (e' : bootBuiltins x = some val) : Glb C.hB x val := let ⟨_, _, h1, h2, h3⟩ := B.ns; Glb.bui B.X h1 h2 h3 e hx e'
theorem Base.fn (B : Base K C) (i : Nat) {a : Addr} {c : Core} (h1 : fnAddrs[i]? = some a) (h2 : fnCores[i]? = some (some c)) : ∃ fd, fnAt K a = some (mkF c fd) := by
  have := congrArg (fun l => l[i]?) B.Y.fn
  simp only [List.getElem?_map, h1, h2, Option.map_some] at this
  obtain ⟨fd, e1, e2⟩ := Option.map_eq_some_iff.mp (Option.some.inj this)
  exact ⟨fd, e1.trans (congrArg some (mkF_eq e2))⟩
theorem codeOk_of {a : Addr} {fd : FuncData} (h : codeOk K a = true) (e : fnAt K a = some fd) : codeIn K fd.code fd.qualname = true := by
  unfold codeOk at h; rw [e] at h; exact h
theorem FunB (B : Base K C) (i : Nat) {f : Addr} {c : Core} {names : List Str} (h1 : fnAddrs[i]? = some f) (h2 : fnCores[i]? = some (some c)) (hc : codeOk K f = true) (hb : c.2.2.2.1 = .stmts (bodyC c)) (hclo : c.2.2.2.2.2.2.1 = [])
    (hbind : ∀ fd (us : List Value), us.length = names.length → bindArgs (mkF c fd) ⟨us, []⟩ = pure (names.zip us)) (hnd : names.Nodup) (hk : kindsOk c.2.2.2.2.1 names = true) (hco : c.2.2.2.2.1.isCoroutine = false) (hgen : c.2.2.2.2.1.isGenerator = false) (hfn : c.2.2.2.2.1.kind = .function)
    (hg : c.2.2.2.2.2.1 = mainGlobals) (hbl : c.2.2.2.2.2.2.2.2.2 = builtinsNs) : ∃ fd, Fun C.hB f (mkF c fd) names (bodyC c) := by
  obtain ⟨fd, e⟩ := B.fn i h1 h2
  exact ⟨fd, Fun.of B.X B.lim e (codeOk_of hc e) hb hclo (hbind fd) hnd hk hco hgen hfn hg hbl⟩
theorem us1 {us : List Value} (h : us.length = 1) : ∃ a, us = [a] := let ⟨a, _, e, h⟩ := len_succ h.symm; ⟨a, e.trans (congrArg _ (List.length_eq_zero_iff.mp h.symm))⟩
theorem us2 {us : List Value} (h : us.length = 2) : ∃ a b, us = [a, b] := let ⟨a, _, e, h⟩ := len_succ h.symm; let ⟨b, e'⟩ := us1 h.symm; ⟨a, b, e.trans (congrArg _ e')⟩
theorem us3 {us : List Value} (h : us.length = 3) : ∃ a b c, us = [a, b, c] := let ⟨a, _, e, h⟩ := len_succ h.symm; let ⟨b, c, e'⟩ := us2 h.symm; ⟨a, b, c, e.trans (congrArg _ e')⟩
theorem us4 {us : List Value} (h : us.length = 4) : ∃ a b c d, us = [a, b, c, d] := let ⟨a, _, e, h⟩ := len_succ h.symm; let ⟨b, c, d, e'⟩ := us3 h.symm; ⟨a, b, c, d, e.trans (congrArg _ e')⟩
theorem us5 {us : List Value} (h : us.length = 5) : ∃ a b c d e, us = [a, b, c, d, e] := let ⟨a, _, e, h⟩ := len_succ h.symm; let ⟨b, c, d, f, e'⟩ := us4 h.symm; ⟨a, b, c, d, f, e.trans (congrArg _ e')⟩
theorem get208_word (B : Base K C) : getOk K 208 "word" = true := B.get 0 rfl
theorem set208_word (B : Base K C) : setOk K 208 "word" = true := B.get 1 rfl
theorem get208_number (B : Base K C) : getOk K 208 "number" = true := B.get 2 rfl
theorem set208_number (B : Base K C) : setOk K 208 "number" = true := B.get 3 rfl
theorem get208_mark (B : Base K C) : getOk K 208 "mark" = true := B.get 4 rfl
theorem set208_mark (B : Base K C) : setOk K 208 "mark" = true := B.get 5 rfl
theorem get208_told (B : Base K C) : getOk K 208 "told" = true := B.get 6 rfl
theorem set208_told (B : Base K C) : setOk K 208 "told" = true := B.get 7 rfl
theorem get208_bounds (B : Base K C) : getOk K 208 "bounds" = true := B.get 8 rfl
theorem set208_bounds (B : Base K C) : setOk K 208 "bounds" = true := B.get 9 rfl
theorem get208_items (B : Base K C) : getOk K 208 "items" = true := B.get 10 rfl
theorem set208_items (B : Base K C) : setOk K 208 "items" = true := B.get 11 rfl
theorem get117_kind (B : Base K C) : getOk K 117 "kind" = true := B.get 12 rfl
theorem set117_kind (B : Base K C) : setOk K 117 "kind" = true := B.get 13 rfl
theorem get117_owner (B : Base K C) : getOk K 117 "owner" = true := B.get 14 rfl
theorem set117_owner (B : Base K C) : setOk K 117 "owner" = true := B.get 15 rfl
theorem get117_key (B : Base K C) : getOk K 117 "key" = true := B.get 16 rfl
theorem set117_key (B : Base K C) : setOk K 117 "key" = true := B.get 17 rfl
theorem makes208 (B : Base K C) : makesIn K 208 = true := B.get 18 rfl
theorem init208 (B : Base K C) : findIn K (.ref 208) "__init__" = some (some (.ref 205)) := beq_iff_eq.mp (B.get 19 rfl)
theorem initf208 (B : Base K C) : typeIn K (.ref 205) = some (.type "function") := beq_iff_eq.mp (B.get 20 rfl)
theorem makes117 (B : Base K C) : makesIn K 117 = true := B.get 21 rfl
theorem init117 (B : Base K C) : findIn K (.ref 117) "__init__" = some (some (.ref 114)) := beq_iff_eq.mp (B.get 22 rfl)
theorem initf117 (B : Base K C) : typeIn K (.ref 114) = some (.type "function") := beq_iff_eq.mp (B.get 23 rfl)
theorem holderInit (B : Base K C) : clsOk K 138 135 "__init__" = true := B.get 24 rfl
theorem isArr (B : Base K C) : isIn K (.ref 208) 208 = true := B.get 25 rfl
theorem keep114 (B : Base K C) : keepIn K (.ref 114) = true := B.get 26 rfl
theorem keep117 (B : Base K C) : keepIn K (.ref 117) = true := B.get 27 rfl
theorem keep135 (B : Base K C) : keepIn K (.ref 135) = true := B.get 28 rfl
theorem keep177 (B : Base K C) : keepIn K (.ref 177) = true := B.get 29 rfl
theorem keep184 (B : Base K C) : keepIn K (.ref 184) = true := B.get 30 rfl
theorem keep205 (B : Base K C) : keepIn K (.ref 205) = true := B.get 31 rfl
theorem keep208 (B : Base K C) : keepIn K (.ref 208) = true := B.get 32 rfl
theorem keep236 (B : Base K C) : keepIn K (.ref 236) = true := B.get 33 rfl
theorem keep243 (B : Base K C) : keepIn K (.ref 243) = true := B.get 34 rfl
theorem keep262 (B : Base K C) : keepIn K (.ref 262) = true := B.get 35 rfl
theorem keep269 (B : Base K C) : keepIn K (.ref 269) = true := B.get 36 rfl
theorem keep276 (B : Base K C) : keepIn K (.ref 276) = true := B.get 37 rfl
theorem keep283 (B : Base K C) : keepIn K (.ref 283) = true := B.get 38 rfl
theorem keep290 (B : Base K C) : keepIn K (.ref 290) = true := B.get 39 rfl
theorem keep295 (B : Base K C) : keepIn K (.ref 295) = true := B.get 40 rfl
theorem codeOk114 (B : Base K C) : codeOk K 114 = true := B.get 41 rfl
theorem codeOk135 (B : Base K C) : codeOk K 135 = true := B.get 42 rfl
theorem codeOk177 (B : Base K C) : codeOk K 177 = true := B.get 43 rfl
theorem codeOk184 (B : Base K C) : codeOk K 184 = true := B.get 44 rfl
theorem codeOk205 (B : Base K C) : codeOk K 205 = true := B.get 45 rfl
theorem codeOk236 (B : Base K C) : codeOk K 236 = true := B.get 46 rfl
theorem codeOk243 (B : Base K C) : codeOk K 243 = true := B.get 47 rfl
theorem codeOk262 (B : Base K C) : codeOk K 262 = true := B.get 48 rfl
theorem codeOk269 (B : Base K C) : codeOk K 269 = true := B.get 49 rfl
theorem codeOk276 (B : Base K C) : codeOk K 276 = true := B.get 50 rfl
theorem codeOk283 (B : Base K C) : codeOk K 283 = true := B.get 51 rfl
theorem codeOk290 (B : Base K C) : codeOk K 290 = true := B.get 52 rfl
theorem codeOk295 (B : Base K C) : codeOk K 295 = true := B.get 53 rfl
theorem ns_isinstance (B : Base K C) : nsIn K mainGlobals "isinstance" = some none := beq_iff_eq.mp (B.get 54 rfl)
theorem ns_len (B : Base K C) : nsIn K mainGlobals "len" = some none := beq_iff_eq.mp (B.get 55 rfl)
theorem ns_range (B : Base K C) : nsIn K mainGlobals "range" = some none := beq_iff_eq.mp (B.get 56 rfl)
theorem ns_zip (B : Base K C) : nsIn K mainGlobals "zip" = some none := beq_iff_eq.mp (B.get 57 rfl)
theorem ns_enumerate (B : Base K C) : nsIn K mainGlobals "enumerate" = some none := beq_iff_eq.mp (B.get 58 rfl)
theorem ns_abs (B : Base K C) : nsIn K mainGlobals "abs" = some none := beq_iff_eq.mp (B.get 59 rfl)
theorem ns_int (B : Base K C) : nsIn K mainGlobals "int" = some none := beq_iff_eq.mp (B.get 60 rfl)
theorem ns_any (B : Base K C) : nsIn K mainGlobals "any" = some none := beq_iff_eq.mp (B.get 61 rfl)
theorem ns_all (B : Base K C) : nsIn K mainGlobals "all" = some none := beq_iff_eq.mp (B.get 62 rfl)
theorem ns_sorted (B : Base K C) : nsIn K mainGlobals "sorted" = some none := beq_iff_eq.mp (B.get 63 rfl)
theorem ns_list (B : Base K C) : nsIn K mainGlobals "list" = some none := beq_iff_eq.mp (B.get 64 rfl)
theorem ns_sum (B : Base K C) : nsIn K mainGlobals "sum" = some none := beq_iff_eq.mp (B.get 65 rfl)
theorem ns_max (B : Base K C) : nsIn K mainGlobals "max" = some none := beq_iff_eq.mp (B.get 66 rfl)
theorem ns_set (B : Base K C) : nsIn K mainGlobals "set" = some none := beq_iff_eq.mp (B.get 67 rfl)
theorem ns_size_of_bounds (B : Base K C) : nsIn K mainGlobals "size_of_bounds" = some (some (.ref 236)) := beq_iff_eq.mp (B.get 68 rfl)
theorem ns_array_place (B : Base K C) : nsIn K mainGlobals "array_place" = some (some (.ref 243)) := beq_iff_eq.mp (B.get 69 rfl)
theorem ns_item_ref (B : Base K C) : nsIn K mainGlobals "item_ref" = some (some (.ref 262)) := beq_iff_eq.mp (B.get 70 rfl)
theorem ns_slot_get (B : Base K C) : nsIn K mainGlobals "slot_get" = some (some (.ref 269)) := beq_iff_eq.mp (B.get 71 rfl)
theorem ns_slot_set (B : Base K C) : nsIn K mainGlobals "slot_set" = some (some (.ref 276)) := beq_iff_eq.mp (B.get 72 rfl)
theorem ns_to_whole (B : Base K C) : nsIn K mainGlobals "to_whole" = some (some (.ref 177)) := beq_iff_eq.mp (B.get 73 rfl)
theorem ns_need_whole (B : Base K C) : nsIn K mainGlobals "need_whole" = some (some (.ref 184)) := beq_iff_eq.mp (B.get 74 rfl)
theorem ns_Array (B : Base K C) : nsIn K mainGlobals "Array" = some (some (.ref 208)) := beq_iff_eq.mp (B.get 75 rfl)
theorem ns_NameRef (B : Base K C) : nsIn K mainGlobals "NameRef" = some (some (.ref 117)) := beq_iff_eq.mp (B.get 76 rfl)
theorem ns_Holder (B : Base K C) : nsIn K mainGlobals "Holder" = some (some (.ref 138)) := beq_iff_eq.mp (B.get 77 rfl)
theorem ns_law_read (B : Base K C) : nsIn K mainGlobals "_law_read" = some (some (.ref 283)) := beq_iff_eq.mp (B.get 78 rfl)
theorem ns_law_turns (B : Base K C) : nsIn K mainGlobals "_law_turns" = some (some (.ref 290)) := beq_iff_eq.mp (B.get 79 rfl)
theorem ns_law (B : Base K C) : nsIn K mainGlobals "law" = some (some (.ref 295)) := beq_iff_eq.mp (B.get 80 rfl)
theorem g_isinstance (B : Base K C) : Glb C.hB "isinstance" (.builtin "isinstance") := B.bui (ns_isinstance B) (by decide) (by decide +kernel)
theorem g_len (B : Base K C) : Glb C.hB "len" (.builtin "len") := B.bui (ns_len B) (by decide) (by decide +kernel)
theorem g_range (B : Base K C) : Glb C.hB "range" (.type "range") := B.bui (ns_range B) (by decide) (by decide +kernel)
theorem g_zip (B : Base K C) : Glb C.hB "zip" (.type "zip") := B.bui (ns_zip B) (by decide) (by decide +kernel)
theorem g_enumerate (B : Base K C) : Glb C.hB "enumerate" (.type "enumerate") := B.bui (ns_enumerate B) (by decide) (by decide +kernel)
theorem g_abs (B : Base K C) : Glb C.hB "abs" (.builtin "abs") := B.bui (ns_abs B) (by decide) (by decide +kernel)
theorem g_int (B : Base K C) : Glb C.hB "int" (.type "int") := B.bui (ns_int B) (by decide) (by decide +kernel)
theorem g_any (B : Base K C) : Glb C.hB "any" (.builtin "any") := B.bui (ns_any B) (by decide) (by decide +kernel)
theorem g_all (B : Base K C) : Glb C.hB "all" (.builtin "all") := B.bui (ns_all B) (by decide) (by decide +kernel)
theorem g_sorted (B : Base K C) : Glb C.hB "sorted" (.builtin "sorted") := B.bui (ns_sorted B) (by decide) (by decide +kernel)
theorem g_list (B : Base K C) : Glb C.hB "list" (.type "list") := B.bui (ns_list B) (by decide) (by decide +kernel)
theorem g_sum (B : Base K C) : Glb C.hB "sum" (.builtin "sum") := B.bui (ns_sum B) (by decide) (by decide +kernel)
theorem g_max (B : Base K C) : Glb C.hB "max" (.builtin "max") := B.bui (ns_max B) (by decide) (by decide +kernel)
theorem g_set (B : Base K C) : Glb C.hB "set" (.type "set") := B.bui (ns_set B) (by decide) (by decide +kernel)
theorem g_size_of_bounds (B : Base K C) : Glb C.hB "size_of_bounds" (.ref 236) := B.mod (ns_size_of_bounds B)
theorem g_array_place (B : Base K C) : Glb C.hB "array_place" (.ref 243) := B.mod (ns_array_place B)
theorem g_item_ref (B : Base K C) : Glb C.hB "item_ref" (.ref 262) := B.mod (ns_item_ref B)
theorem g_slot_get (B : Base K C) : Glb C.hB "slot_get" (.ref 269) := B.mod (ns_slot_get B)
theorem g_slot_set (B : Base K C) : Glb C.hB "slot_set" (.ref 276) := B.mod (ns_slot_set B)
theorem g_to_whole (B : Base K C) : Glb C.hB "to_whole" (.ref 177) := B.mod (ns_to_whole B)
theorem g_need_whole (B : Base K C) : Glb C.hB "need_whole" (.ref 184) := B.mod (ns_need_whole B)
theorem g_Array (B : Base K C) : Glb C.hB "Array" (.ref 208) := B.mod (ns_Array B)
theorem g_NameRef (B : Base K C) : Glb C.hB "NameRef" (.ref 117) := B.mod (ns_NameRef B)
theorem g_Holder (B : Base K C) : Glb C.hB "Holder" (.ref 138) := B.mod (ns_Holder B)
theorem g_law_read (B : Base K C) : Glb C.hB "_law_read" (.ref 283) := B.mod (ns_law_read B)
theorem g_law_turns (B : Base K C) : Glb C.hB "_law_turns" (.ref 290) := B.mod (ns_law_turns B)
theorem g_law (B : Base K C) : Glb C.hB "law" (.ref 295) := B.mod (ns_law B)
def c114 : Core := (coreM PySem.Challenge.pw_xm0945_04 5 0).getD default
theorem fun114 (B : Base K C) : ∃ fd, Fun C.hB 114 (mkF c114 fd) ["self", "kind", "owner", "key"] (bodyC c114) :=
  FunB B 0 rfl rfl (codeOk114 B) rfl rfl (fun fd us h => let ⟨u0, u1, u2, u3, e⟩ := us4 h; e ▸ rfl) (by decide) rfl rfl rfl rfl rfl rfl
def c135 : Core := (coreM PySem.Challenge.pw_xm0945_04 6 0).getD default
theorem fun135 (B : Base K C) : ∃ fd, Fun C.hB 135 (mkF c135 fd) ["self", "word", "number"] (bodyC c135) :=
  FunB B 1 rfl rfl (codeOk135 B) rfl rfl (fun fd us h => let ⟨u0, u1, u2, e⟩ := us3 h; e ▸ rfl) (by decide) rfl rfl rfl rfl rfl rfl
def c177 : Core := (coreT PySem.Challenge.pw_xm0945_04 11).getD default
theorem fun177 (B : Base K C) : ∃ fd, Fun C.hB 177 (mkF c177 fd) ["value", "width"] (bodyC c177) :=
  FunB B 2 rfl rfl (codeOk177 B) rfl rfl (fun fd us h => let ⟨u0, u1, e⟩ := us2 h; e ▸ rfl) (by decide) rfl rfl rfl rfl rfl rfl
def c184 : Core := (coreT PySem.Challenge.pw_xm0945_04 12).getD default
theorem fun184 (B : Base K C) : ∃ fd, Fun C.hB 184 (mkF c184 fd) ["value", "width"] (bodyC c184) :=
  FunB B 3 rfl rfl (codeOk184 B) rfl rfl (fun fd us h => let ⟨u0, u1, e⟩ := us2 h; e ▸ rfl) (by decide) rfl rfl rfl rfl rfl rfl
def c205 : Core := (coreM PySem.Challenge.pw_xm0945_04 15 0).getD default
theorem fun205 (B : Base K C) : ∃ fd, Fun C.hB 205 (mkF c205 fd) ["self", "number", "told", "bounds", "value"] (bodyC c205) :=
  FunB B 4 rfl rfl (codeOk205 B) rfl rfl (fun fd us h => let ⟨u0, u1, u2, u3, u4, e⟩ := us5 h; e ▸ rfl) (by decide) rfl rfl rfl rfl rfl rfl
def c236 : Core := (coreT PySem.Challenge.pw_xm0945_04 17).getD default
theorem fun236 (B : Base K C) : ∃ fd, Fun C.hB 236 (mkF c236 fd) ["bounds"] (bodyC c236) :=
  FunB B 5 rfl rfl (codeOk236 B) rfl rfl (fun fd us h => let ⟨u0, e⟩ := us1 h; e ▸ rfl) (by decide) rfl rfl rfl rfl rfl rfl
def c243 : Core := (coreT PySem.Challenge.pw_xm0945_04 18).getD default
theorem fun243 (B : Base K C) : ∃ fd, Fun C.hB 243 (mkF c243 fd) ["array", "places"] (bodyC c243) :=
  FunB B 6 rfl rfl (codeOk243 B) rfl rfl (fun fd us h => let ⟨u0, u1, e⟩ := us2 h; e ▸ rfl) (by decide) rfl rfl rfl rfl rfl rfl
def c262 : Core := (coreT PySem.Challenge.pw_xm0945_04 21).getD default
theorem fun262 (B : Base K C) : ∃ fd, Fun C.hB 262 (mkF c262 fd) ["owner", "keys", "width"] (bodyC c262) :=
  FunB B 7 rfl rfl (codeOk262 B) rfl rfl (fun fd us h => let ⟨u0, u1, u2, e⟩ := us3 h; e ▸ rfl) (by decide) rfl rfl rfl rfl rfl rfl
def c269 : Core := (coreT PySem.Challenge.pw_xm0945_04 22).getD default
theorem fun269 (B : Base K C) : ∃ fd, Fun C.hB 269 (mkF c269 fd) ["ref"] (bodyC c269) :=
  FunB B 8 rfl rfl (codeOk269 B) rfl rfl (fun fd us h => let ⟨u0, e⟩ := us1 h; e ▸ rfl) (by decide) rfl rfl rfl rfl rfl rfl
def c276 : Core := (coreT PySem.Challenge.pw_xm0945_04 23).getD default
theorem fun276 (B : Base K C) : ∃ fd, Fun C.hB 276 (mkF c276 fd) ["ref", "value"] (bodyC c276) :=
  FunB B 9 rfl rfl (codeOk276 B) rfl rfl (fun fd us h => let ⟨u0, u1, e⟩ := us2 h; e ▸ rfl) (by decide) rfl rfl rfl rfl rfl rfl
def c283 : Core := (coreT PySem.Challenge.pw_xm0945_04 25).getD default
theorem fun283 (B : Base K C) : ∃ fd, Fun C.hB 283 (mkF c283 fd) ["table", "places", "low", "letters"] (bodyC c283) :=
  FunB B 10 rfl rfl (codeOk283 B) rfl rfl (fun fd us h => let ⟨u0, u1, u2, u3, e⟩ := us4 h; e ▸ rfl) (by decide) rfl rfl rfl rfl rfl rfl
def c290 : Core := (coreT PySem.Challenge.pw_xm0945_04 26).getD default
theorem fun290 (B : Base K C) : ∃ fd, Fun C.hB 290 (mkF c290 fd) ["found", "size"] (bodyC c290) :=
  FunB B 11 rfl rfl (codeOk290 B) rfl rfl (fun fd us h => let ⟨u0, u1, e⟩ := us2 h; e ▸ rfl) (by decide) rfl rfl rfl rfl rfl rfl
def c295 : Core := (coreT PySem.Challenge.pw_xm0945_04 27).getD default
theorem fun295 (B : Base K C) : ∃ fd, Fun C.hB 295 (mkF c295 fd) ["script"] (bodyC c295) :=
  FunB B 12 rfl rfl (codeOk295 B) rfl rfl (fun fd us h => let ⟨u0, e⟩ := us1 h; e ▸ rfl) (by decide) rfl rfl rfl rfl rfl rfl
end
end
end Mine

namespace Mine
section
variable {K : Frag} {C : Cx} {A : Around} {σ : List CO}

theorem c_to_whole (B : Base K C) (r : Rm A 1) {n w : Int} : Cl C A σ (.ref 177) [.int n, .int w] (.int n) σ := by
  obtain ⟨fd, D⟩ := fun177 B
  refine Cl.fn D rfl r.room (Nat.le_refl _) fun L => ?_
  refine Ex.ifT (Ts.of (Ev.callG (g_isinstance B) rfl rfl (Args.cons (Ev.loc rfl rfl rfl) (Args.cons (Ev.glb (g_int B) rfl rfl) Args.nil rfl) rfl) Cl.isInt (with_builtin rfl rfl)) Tru.bool rfl) ?_
  exact Ex.ret (Ev.loc rfl rfl rfl) RetOk.same

theorem c_need_whole (B : Base K C) (r : Rm A 2) {n w : Int} : Cl C A σ (.ref 184) [.int n, .int w] (.int n) σ := by
  obtain ⟨fd, D⟩ := fun184 B
  refine Cl.fn D rfl r.room (Nat.le_refl _) fun L => ?_
  refine Ex.asg (Ev.callG (g_to_whole B) rfl rfl (Args.cons (Ev.loc rfl rfl rfl) (Args.cons (Ev.loc rfl rfl rfl) Args.nil rfl) rfl) (c_to_whole B r.deeper) (with_K B.X (keep177 B) rfl rfl)) rfl (Sn.loc rfl) ?_
  refine Ex.ifF (Ts.cmp (Ev.loc rfl rfl rfl) Ev.cnone Op2.isN rfl) (Ex.skip ?_)
  exact Ex.ret (Ev.loc rfl rfl rfl) RetOk.same

/-- bounds, as a value -/
def bsV (bs : List (Int × Int)) : V := .list (bs.map fun p => .tup [.int p.1, .int p.2])
def sizeOf (bs : List (Int × Int)) : Int := bs.foldl (fun f p => f * (p.2 - p.1 + 1)) 1

theorem foldl_take {α β : Type} (f : α → β → α) (a : α) (l : List β) {i : Nat} {x : β} (h : l[i]? = some x) : (l.take (i + 1)).foldl f a = f ((l.take i).foldl f a) x := by
  rw [List.take_add_one, h, List.foldl_append]; rfl

theorem bsV_get {bs : List (Int × Int)} {i : Nat} {v : V} (h : (bs.map fun p => V.tup [.int p.1, .int p.2])[i]? = some v) : ∃ lo hi, bs[i]? = some (lo, hi) ∧ v = .tup [.int lo, .int hi] := by
  rw [List.getElem?_map] at h
  cases q : bs[i]? with
  | none => rw [q] at h; cases h
  | some p => rw [q] at h; cases h; exact ⟨p.1, p.2, rfl, rfl⟩

/-- bounds of a small array -/
def Sm (bs : List (Int × Int)) : Prop := ∀ p ∈ bs, (p.2 - p.1 + 1).natAbs < 2 ^ 20
theorem small_mul {a b : Int} (h : b.natAbs < 2 ^ 20) : IntMulOk a b := .of_right (intBits_le_iff.mpr (Nat.lt_of_lt_of_le h (Nat.pow_le_pow_right (by decide) (by decide))))

theorem c_size (B : Base K C) (r : Rm A 1) {bs : List (Int × Int)} (hs : Sm bs) : Cl C A σ (.ref 236) [bsV bs] (.int (sizeOf bs)) σ := by
  obtain ⟨fd, D⟩ := fun236 B
  refine Cl.fn D rfl r.room (Nat.le_refl _) fun L => ?_
  have hh : (A.deeper (callEnvC (mkF c236 fd) L 236)).handled = none := r.h
  refine Ex.asg Ev.cint rfl (Sn.loc rfl) ?_
  refine Ex.for_ (fun i ρ σ' => ρ = ([("found", .int ((bs.take i).foldl (fun f p => f * (p.2 - p.1 + 1)) 1)), ("bounds", bsV bs)] : Rho) ∧ σ' = σ) (EvI.list hh (Ev.loc rfl rfl rfl) (.inr ⟨tupT, fun v hv => ?_⟩)) ⟨rfl, rfl⟩ ?_ ?_ (fun _ => rfl)
  · obtain ⟨p, _, rfl⟩ := List.mem_map.mp hv; exact ⟨_, rfl⟩
  · rintro i v ρ σ' hv ⟨rfl, rfl⟩
    obtain ⟨lo, hi, hb, rfl⟩ := bsV_get hv
    refine ⟨_, Bn.tup hh ⟨_, Bn.name (Sn.loc rfl), _, Bn.name (Sn.loc rfl), rfl⟩ rfl rfl, ?_⟩
    refine Ex.asg (Ev.bin2 (Ev.loc rfl rfl rfl) (Ev.bin2 (Ev.bin2 (Ev.loc rfl rfl rfl) (Ev.loc rfl rfl rfl) Op2.sub) Ev.cint Op2.add) (Op2.mul (small_mul (hs _ (List.mem_of_getElem? hb))))) rfl (Sn.loc rfl) ?_
    refine Ex.nilS (Sub.cons ?_ (Sub.cons rfl Sub.nil)) ⟨rfl, rfl⟩
    rw [foldl_take _ _ _ hb]; rfl
  · rintro ρ σ' ⟨rfl, rfl⟩
    refine Ex.ret (Ev.loc rfl rfl rfl) (RetOk.eq rfl ?_)
    rw [List.length_map, List.take_length]; rfl

/-- the place of an item, or none -/
def placeOf : Int → List (Int × Int) → List Int → Option Int
  | f, b :: bs, p :: ps => if decide (b.1 ≤ p) && decide (p ≤ b.2) then placeOf (f * (b.2 - b.1 + 1) + p - b.1) bs ps else none
  | f, _, _ => some f
def opt : Option Int → V
  | none => .non
  | some n => .int n

theorem c_place (B : Base K C) (r : Rm A 1) {bs : List (Int × Int)} {ps : List Int} {c : Nat} {fs : Rho} (hc : σ[c]? = some (.attrs fs)) (hb : fs.lookup ("bounds" : Str) = some (bsV bs)) (hlen : ps.length = bs.length) (hs : Sm bs) (hz : ps.length < 2 ^ 20) :
    Cl C A σ (.ref 243) [.inst 208 c, Li ps] (opt (placeOf 0 bs ps)) σ := by
  obtain ⟨fd, D⟩ := fun243 B
  refine Cl.fn D rfl r.room (Nat.le_refl _) fun L => ?_
  have hh : (A.deeper (callEnvC (mkF c243 fd) L 243)).handled = none := r.h
  have rr : Rm (A.deeper (callEnvC (mkF c243 fd) L 243)) 0 := r.deeper
  have hl1 : ((ps.map V.int).length : Int) < 2 ^ 63 := by simp; omega
  have hl2 : (((bs.map fun p => V.tup [.int p.1, .int p.2]).length : Nat) : Int) < 2 ^ 63 := by simp; omega
  have hat : ∀ {A' : Around} {env : Env} {ρ : Rho} {x : Str} {xp ap : Pos} (hx : ρ.lookup x = some (.inst 208 c)) (hk : env.kindOf x = some .local) (hd : (x == ("__debug__" : Str)) = false), Ev C A' env ρ σ (.Attribute (.Name x xp) "bounds" ap) (bsV bs) σ := fun hx hk hd =>
    Ev.attr B.X (Ev.loc hx hk hd) (.inst hc) hb rfl (get208_bounds B) rfl
  refine Ex.ifF (Ts.eq (Ts.cmp (Ev.callG (g_len B) rfl rfl (Args.cons (Ev.loc rfl rfl rfl) Args.nil rfl) (Cl.len (.list _) hl1) (with_builtin rfl rfl)) (Ev.callG (g_len B) rfl rfl (Args.cons (hat rfl rfl rfl) Args.nil rfl) (Cl.len (.list _) hl2) (with_builtin rfl rfl)) Op2.ne rfl) (by simp [hlen])) (Ex.skip ?_)
  refine Ex.asg Ev.cint rfl (Sn.loc rfl) ?_
  refine Ex.for_ (fun i ρ σ' => (∃ f, ρ = ([("found", .int f), ("array", .inst 208 c), ("places", Li ps)] : Rho) ∧ placeOf f (bs.drop i) (ps.drop i) = placeOf 0 bs ps) ∧ σ' = σ)
    (EvI.zip hh (g_zip B) rfl rfl (hat rfl rfl rfl) (Ev.loc rfl rfl rfl) tupT rfl rfl rfl) ⟨⟨0, rfl, rfl⟩, rfl⟩ ?_ ?_ (fun _ => rfl)
  · rintro i v ρ σ' hv ⟨⟨f, rfl, hf⟩, rfl⟩
    obtain ⟨a, b, rfl, ha, hb'⟩ := zipT_get hv
    obtain ⟨lo, hi, hbb, rfl⟩ := bsV_get ha
    rw [List.getElem?_map] at hb'
    cases q : ps[i]? with
    | none => rw [q] at hb'; cases hb'
    | some p =>
    rw [q] at hb'; cases hb'
    have hd1 : bs.drop i = (lo, hi) :: bs.drop (i + 1) := by rw [List.drop_eq_getElem_cons (List.getElem?_eq_some_iff.mp hbb).1, (List.getElem?_eq_some_iff.mp hbb).2]
    have hd2 : ps.drop i = p :: ps.drop (i + 1) := by rw [List.drop_eq_getElem_cons (List.getElem?_eq_some_iff.mp q).1, (List.getElem?_eq_some_iff.mp q).2]
    rw [hd1, hd2, placeOf] at hf
    refine ⟨_, Bn.tup hh ⟨_, Bn.tup hh ⟨_, Bn.name (Sn.loc rfl), _, Bn.name (Sn.loc rfl), rfl⟩ rfl rfl, _, Bn.name (Sn.loc rfl), rfl⟩ rfl rfl, ?_⟩
    by_cases hin : (decide (lo ≤ p) && decide (p ≤ hi)) = true
    · rw [if_pos hin] at hf
      refine Ex.ifF (Ts.eq (Ts.not (Ts.chain (Ev.loc rfl rfl rfl) (Ev.loc rfl rfl rfl) Op2.le (Ev.loc rfl rfl rfl) Op2.le rfl)) (by rw [hin]; rfl)) (Ex.skip ?_)
      refine Ex.asg (Ev.bin2 (Ev.bin2 (Ev.bin2 (Ev.loc rfl rfl rfl) (Ev.bin2 (Ev.bin2 (Ev.loc rfl rfl rfl) (Ev.loc rfl rfl rfl) Op2.sub) Ev.cint Op2.add) (Op2.mul (small_mul (hs _ (List.mem_of_getElem? hbb))))) (Ev.loc rfl rfl rfl) Op2.add) (Ev.loc rfl rfl rfl) Op2.sub) rfl (Sn.loc rfl) ?_
      exact Ex.nilS (Sub.cons rfl (Sub.cons rfl (Sub.cons rfl Sub.nil))) ⟨⟨_, rfl, hf⟩, rfl⟩
    · rw [if_neg hin] at hf
      refine Ex.ifT (Ts.eq (Ts.not (Ts.chain (Ev.loc rfl rfl rfl) (Ev.loc rfl rfl rfl) Op2.le (Ev.loc rfl rfl rfl) Op2.le rfl)) (by rw [Bool.not_eq_true] at hin; rw [hin]; rfl)) ?_
      exact Ex.ret Ev.cnone (RetOk.eq rfl (by rw [← hf]; rfl))
  · rintro ρ σ' ⟨⟨f, rfl, hf⟩, rfl⟩
    refine Ex.ret (Ev.loc rfl rfl rfl) (RetOk.eq rfl ?_)
    rw [zipT_len, List.length_map, List.length_map, ← hlen, Nat.min_self, List.drop_length, hlen, List.drop_length] at hf
    rw [← hf]; rfl

/-! the classes -/
theorem set_last {α : Type} {l : List α} {a b : α} : (l ++ [a]).set l.length b = l ++ [b] := by simp
theorem get_last {α : Type} {l : List α} {a : α} : (l ++ [a])[l.length]? = some a := by simp

def nrFs (c : Nat) (n : Int) : Rho := [("key", .int n), ("owner", .inst 208 c), ("kind", .str "item")]
theorem c_nref_init (B : Base K C) (r : Rm A 1) {c : Nat} {n : Int} : ClK C A (σ ++ [.attrs []]) (.ref 114) [.inst 117 σ.length, .str "item", .inst 208 c, .int n] .non (σ ++ [.attrs (nrFs c n)]) := by
  obtain ⟨fd, D⟩ := fun114 B
  refine ClK.fn D rfl r.room (by simp) fun L => ?_
  refine Ex.setA B.X (Ev.loc rfl rfl rfl) (Ev.loc rfl rfl rfl) get_last (by decide) (set117_kind B) rfl ?_
  rw [set_last]
  refine Ex.setA B.X (Ev.loc rfl rfl rfl) (Ev.loc rfl rfl rfl) get_last (by simp) (set117_owner B) rfl ?_
  rw [set_last]
  refine Ex.setA B.X (Ev.loc rfl rfl rfl) (Ev.loc rfl rfl rfl) get_last (by simp) (set117_key B) rfl ?_
  rw [set_last]
  exact Ex.nil RetOk.same
theorem c_nref (B : Base K C) (r : Rm A 2) {c : Nat} {n : Int} : Cl C A σ (.ref 117) [.str "item", .inst 208 c, .int n] (.inst 117 σ.length) (σ ++ [.attrs (nrFs c n)]) :=
  (ClK.make B.X (makes117 B) (init117 B) (initf117 B) fun A' h1 h2 h3 => c_nref_init B (r.cls h1 h2 h3)).cl

def nref (c : Nat) (n : Int) : V := .obj 117 (nrFs c n)
def optRef (c : Nat) : Option Int → V
  | none => .non
  | some n => nref c n

theorem low_opt {n c : Nat} (hc : c < n) : ∀ o : Option Int, Low n (optRef c o)
  | none => .non
  | some k => .obj fun x v e => by
    unfold nrFs at e
    rw [lookup_cons'] at e
    split at e
    · cases e; exact .int _
    · rw [lookup_cons'] at e
      split at e
      · cases e; exact .inst hc
      · rw [lookup_cons'] at e
        split at e
        · cases e; exact .str _
        · simp at e

theorem c_item (B : Base K C) (r : Rm A 4) {bs : List (Int × Int)} {ps : List Int} {c : Nat} {fs : Rho} {w : Int} (hl : ∀ c ∈ σ, LowC σ.length c) (hc : σ[c]? = some (.attrs fs)) (hb : fs.lookup ("bounds" : Str) = some (bsV bs)) (hlen : ps.length = bs.length) (hs : Sm bs) (hz : ps.length < 2 ^ 20) :
    Cl C A σ (.ref 262) [.inst 208 c, Li ps, .int w] (optRef c (placeOf 0 bs ps)) σ := by
  obtain ⟨fd, D⟩ := fun262 B
  refine Cl.fn D rfl r.room (Nat.le_refl _) fun L => ?_
  have hh : (A.deeper (callEnvC (mkF c262 fd) L 262)).handled = none := r.h
  have rr : Rm (A.deeper (callEnvC (mkF c262 fd) L 262)) 3 := r.deeper
  have hcn : c < σ.length := (List.getElem?_eq_some_iff.mp hc).1
  refine Ex.ifT (Ts.of (Ev.callG (g_isinstance B) rfl rfl (Args.cons (Ev.loc rfl rfl rfl) (Args.cons (Ev.glb (g_Array B) rfl rfl) Args.nil rfl) rfl) (Cl.isA B.X (.inst hc) (isArr B)) (with_builtin rfl rfl)) Tru.bool rfl) ?_
  refine Ex.asg (Ev.callG (g_array_place B) rfl rfl (Args.cons (Ev.loc rfl rfl rfl) (Args.cons (Ev.map ps V.int V.int (EvI.list hh (Ev.loc rfl rfl rfl) (.inl nameT)) (by rw [sizeLine_eq]; omega) (fun L' cl i a ha hcl => ⟨_, Bn.name (Sn.loc rfl), Sub.inr rfl, ?_⟩) (by decide) rfl rfl (fun _ => rfl)) Args.nil rfl) rfl) (c_place B (rr.less (by decide)) hc hb hlen hs hz) (with_K B.X (keep243 B) rfl rfl)) rfl (Sn.loc rfl) ?_
  · exact Ev.callG (g_need_whole B) rfl rfl (Args.cons (Ev.loc rfl rfl rfl) (Args.cons (Ev.cel rfl rfl rfl) Args.nil rfl) rfl) (c_need_whole B (rr.less (by decide))) (with_K B.X (keep184 B) rfl rfl)
  · cases hp : placeOf 0 bs ps with
    | none => exact Ex.ret (Ev.ifT (Ts.cmp (Ev.loc rfl rfl rfl) Ev.cnone Op2.isN rfl) Ev.cnone) RetOk.same
    | some n =>
      refine Ex.ret (Ev.ifF (Ts.cmp (Ev.loc rfl rfl rfl) Ev.cnone Op2.isN rfl) (Ev.callG (g_NameRef B) rfl rfl (Args.cons Ev.cstr (Args.cons (Ev.loc rfl rfl rfl) (Args.cons (Ev.loc rfl rfl rfl) Args.nil rfl) rfl) rfl) (c_nref B (rr.less (by decide))) (with_K B.X (keep117 B) rfl rfl))) ?_
      refine RetOk.freezeI hl (Nat.le_refl _) get_last fun x v e => ?_
      have := low_opt hcn (some n)
      cases this with
      | obj h => exact h x v e

theorem c_get (B : Base K C) (r : Rm A 1) {c m : Nat} {n : Int} {fs : Rho} {vs : List V} {v : V} (hc : σ[c]? = some (.attrs fs)) (hi : fs.lookup ("items" : Str) = some (.mu m)) (hm : σ[m]? = some (.list vs)) (h0 : 0 ≤ n) (hz : n < 2 ^ 63) (hv : vs[n.toNat]? = some v) :
    Cl C A σ (.ref 269) [nref c n] v σ := by
  obtain ⟨fd, D⟩ := fun269 B
  refine Cl.fn D rfl r.room (Nat.le_refl _) fun L => ?_
  have ho : ∀ {p q : Pos}, Ev C (A.deeper (callEnvC (mkF c269 fd) L 269)) (callEnvC (mkF c269 fd) L 269) ([("ref", nref c n)] : Rho) σ (.Attribute (.Name "ref" p) "owner" q) (.inst 208 c) σ := Ev.attr B.X (Ev.loc rfl rfl rfl) (.obj _ _) rfl rfl (get117_owner B) rfl
  refine Ex.ifT (Ts.of (Ev.callG (g_isinstance B) rfl rfl (Args.cons ho (Args.cons (Ev.glb (g_Array B) rfl rfl) Args.nil rfl) rfl) (Cl.isA B.X (.inst hc) (isArr B)) (with_builtin rfl rfl)) Tru.bool rfl) ?_
  exact Ex.ret (Ev.item (Ev.attr B.X ho (.inst hc) hi rfl (get208_items B) rfl) (Ev.attr B.X (Ev.loc rfl rfl rfl) (.obj _ _) rfl rfl (get117_key B) rfl) (.mu hm) h0 hz hv (fun _ _ => rfl)) RetOk.same

theorem c_set (B : Base K C) (r : Rm A 1) {c m : Nat} {n : Int} {fs : Rho} {vs : List V} {v : V} (hc : σ[c]? = some (.attrs fs)) (hi : fs.lookup ("items" : Str) = some (.mu m)) (hm : σ[m]? = some (.list vs)) (h0 : 0 ≤ n) (hz : n < 2 ^ 63) (hn : n < vs.length) :
    Cl C A σ (.ref 276) [nref c n, v] .non (σ.set m (.list (vs.set n.toNat v))) := by
  obtain ⟨fd, D⟩ := fun276 B
  refine Cl.fn D rfl r.room (by simp) fun L => ?_
  have ho : ∀ {p q : Pos}, Ev C (A.deeper (callEnvC (mkF c276 fd) L 276)) (callEnvC (mkF c276 fd) L 276) ([("ref", nref c n), ("value", v)] : Rho) σ (.Attribute (.Name "ref" p) "owner" q) (.inst 208 c) σ := Ev.attr B.X (Ev.loc rfl rfl rfl) (.obj _ _) rfl rfl (get117_owner B) rfl
  refine Ex.ifT (Ts.of (Ev.callG (g_isinstance B) rfl rfl (Args.cons ho (Args.cons (Ev.glb (g_Array B) rfl rfl) Args.nil rfl) rfl) (Cl.isA B.X (.inst hc) (isArr B)) (with_builtin rfl rfl)) Tru.bool rfl) ?_
  refine Ex.setI (Ev.loc rfl rfl rfl) (Ev.attr B.X ho (.inst hc) hi rfl (get208_items B) rfl) (Ev.attr B.X (Ev.loc rfl rfl rfl) (.obj _ _) rfl rfl (get117_key B) rfl) hm h0 hn hz rfl ?_
  exact Ex.nil (Ex.nil RetOk.same)

/-- an array's attributes -/
def arrFs (n : Int) (told : Str) (bs : List (Int × Int)) (m : Nat) : Rho := [("items", .mu m), ("bounds", bsV bs), ("told", .str told), ("mark", .int 0), ("number", .int n), ("word", .str "ARRAY")]

theorem c_holder (B : Base K C) (r : Rm A 1) {x : Str} {n : Int} : Cl C A (σ ++ [.attrs []]) (.ref 135) [.inst 208 σ.length, .str x, .int n] .non (σ ++ [.attrs [("mark", .int 0), ("number", .int n), ("word", .str x)]]) := by
  obtain ⟨fd, D⟩ := fun135 B
  refine Cl.fn D rfl r.room (by simp) fun L => ?_
  refine Ex.setA B.X (Ev.loc rfl rfl rfl) (Ev.loc rfl rfl rfl) get_last (by decide) (set208_word B) rfl ?_
  rw [set_last]
  refine Ex.setA B.X (Ev.loc rfl rfl rfl) (Ev.loc rfl rfl rfl) get_last (by simp) (set208_number B) rfl ?_
  rw [set_last]
  refine Ex.setA B.X Ev.cint (Ev.loc rfl rfl rfl) get_last (by simp) (set208_mark B) rfl ?_
  rw [set_last]
  exact Ex.nil RetOk.same

theorem c_array_init (B : Base K C) (r : Rm A 2) {n : Int} {told : Str} {bs : List (Int × Int)} {v : V} (hs : Sm bs) (h0 : 0 ≤ sizeOf bs) (h1 : sizeOf bs < 2 ^ 20) :
    ClK C A (σ ++ [.attrs []]) (.ref 205) [.inst 208 σ.length, .int n, .str told, bsV bs, v] .non (σ ++ [.attrs (arrFs n told bs (σ.length + 1)), .list (List.replicate (sizeOf bs).toNat v)]) := by
  obtain ⟨fd, D⟩ := fun205 B
  refine ClK.fn D rfl r.room (by simp) fun L => ?_
  have rr : Rm (A.deeper (callEnvC (mkF c205 fd) L 205)) 1 := r.deeper
  refine Ex.expr (Ev.callC B.X (Ev.glb (g_Holder B) rfl rfl) (holderInit B) (Args.cons (Ev.loc rfl rfl rfl) (Args.cons Ev.cstr (Args.cons (Ev.loc rfl rfl rfl) Args.nil rfl) rfl) rfl) (c_holder B rr) rfl rfl rfl) rfl rfl ?_
  refine Ex.setA B.X (Ev.loc rfl rfl rfl) (Ev.loc rfl rfl rfl) get_last (by simp) (set208_told B) rfl ?_
  rw [set_last]
  refine Ex.setA B.X (Ev.loc rfl rfl rfl) (Ev.loc rfl rfl rfl) get_last (by simp) (set208_bounds B) rfl ?_
  rw [set_last]
  refine Ex.setA B.X (Ev.bin2 (Ev.list (Args.cons (Ev.loc rfl rfl rfl) Args.nil rfl) (by rw [sizeLine_eq]; simp)) (Ev.callG (g_size_of_bounds B) rfl rfl (Args.cons (Ev.loc rfl rfl rfl) Args.nil rfl) (c_size B rr hs) (with_K B.X (keep236 B) rfl rfl)) (Op2.rep (by omega) (by rw [sizeLine_eq]; omega))) (Ev.loc rfl rfl rfl) (by rw [List.getElem?_append_left (by simp)]; exact get_last) (by simp) (set208_items B) rfl ?_
  refine Ex.nil (RetOk.eq ?_ rfl)
  simp [arrFs]
theorem c_array (B : Base K C) (r : Rm A 3) {n : Int} {told : Str} {bs : List (Int × Int)} {v : V} (hs : Sm bs) (h0 : 0 ≤ sizeOf bs) (h1 : sizeOf bs < 2 ^ 20) :
    Cl C A σ (.ref 208) [.int n, .str told, bsV bs, v] (.inst 208 σ.length) (σ ++ [.attrs (arrFs n told bs (σ.length + 1)), .list (List.replicate (sizeOf bs).toNat v)]) :=
  (ClK.make B.X (makes208 B) (init208 B) (initf208 B) fun A' h1 h2 h3 => c_array_init B (r.cls h1 h2 h3) hs h0 (by assumption)).cl
end
end Mine

namespace Mine
/-! letters, texts of letters -/
def lt (k : Nat) : Str := ⟨#[97 + k]⟩
def txt (ws : List Nat) : Str := ⟨(ws.map (97 + ·)).toArray⟩
theorem txt_len (ws : List Nat) : (txt ws).length = ws.length := by show (List.toArray _).size = _; simp
theorem glue_foldl : ∀ (ws : List Nat) (a : Array Nat), ((ws.map lt).foldl (fun acc p => acc ++ (Str.empty).cps ++ p.cps) a) = a ++ (ws.map (97 + ·)).toArray
  | [], a => by simp
  | w :: ws, a => by
    rw [List.map_cons, List.foldl_cons, glue_foldl ws]
    show a ++ #[] ++ #[97 + w] ++ _ = _
    apply Array.ext'
    simp
theorem join_lt (ws : List Nat) : Txt.join "" (ws.map lt) = txt ws := by
  cases ws with
  | nil => rfl
  | cons w ws =>
    show (⟨((ws.map lt).foldl (fun acc p => acc ++ (Str.empty).cps ++ p.cps) #[97 + w])⟩ : Str) = _
    rw [glue_foldl]
    unfold txt
    congr 1
    apply Array.ext'
    simp

def occStep (s sub : Str) (r : Array Nat × Nat) (i : Nat) : Array Nat × Nat :=
  if (decide (r.1.size < s.length + 1) && decide (r.2 ≤ i) && decide (i + sub.length ≤ s.length) && PySem.Builtin.Str.subAt s sub i) = true then (r.1.push i, i + sub.length) else r
theorem occ_fold (s sub : Str) : PySem.Builtin.Str.occurrences s sub 0 s.length (s.length + 1) = ((List.range (s.length + 1)).foldl (occStep s sub) (#[], 0)).1.toList := by
  unfold PySem.Builtin.Str.occurrences
  simp only [Std.Legacy.Range.forIn_eq_forIn_range', Std.Legacy.Range.size]
  have key : ∀ (l : List Nat) (r : Array Nat × Nat), (forIn (m := Id) l r fun i r => 
      if (decide (r.1.size < s.length + 1) && decide (r.2 ≤ i) && decide (i + sub.length ≤ s.length) && PySem.Builtin.Str.subAt s sub i) = true then pure (ForInStep.yield (r.1.push i, i + sub.length)) else pure (ForInStep.yield (r.1, r.2))) = pure (l.foldl (occStep s sub) r) := by
    intro l
    induction l with
    | nil => intro r; rfl
    | cons a l ih =>
      intro r
      rw [List.forIn_cons, List.foldl_cons, ← ih]
      unfold occStep
      split <;> rfl
  have e : List.range' 0 ((s.length + 1 - 0 + 1 - 1) / 1) = List.range (s.length + 1) := by rw [List.range_eq_range']; simp
  rw [e]
  exact congrArg (fun r : Id (Array Nat × Nat) => (Id.run r).1.toList) (key _ _)
theorem take2 (l : List Nat) (i a b : Nat) : (l.drop i).take 2 = [a, b] ↔ l[i]? = some a ∧ l[i + 1]? = some b := by
  have e0 : l[i]? = (l.drop i)[0]? := by rw [List.getElem?_drop]; rfl
  have e1 : l[i + 1]? = (l.drop i)[1]? := by rw [List.getElem?_drop]
  rw [e0, e1]
  match l.drop i with
  | [] => simp
  | [x] => simp
  | x :: y :: r => simp
theorem sub_at (p q : Nat) (ws : List Nat) (i : Nat) : PySem.Builtin.Str.subAt (txt ws) (txt [p, q]) i = true ↔ ws[i]? = some p ∧ ws[i + 1]? = some q := by
  show (Array.extract (ws.map (97 + ·)).toArray i (i + 2) == #[97 + p, 97 + q]) = true ↔ _
  rw [beq_iff_eq]
  have e : Array.extract (ws.map (97 + ·)).toArray i (i + 2) = #[97 + p, 97 + q] ↔ ((ws.map (97 + ·)).drop i).take 2 = [97 + p, 97 + q] := by
    constructor
    · intro e; have e' := congrArg Array.toList e; simpa using e'
    · intro e; apply Array.ext'; simpa using e
  rw [e, take2, List.getElem?_map, List.getElem?_map]
  cases ws[i]? <;> cases ws[i + 1]? <;> simp
theorem occ_inv {s sub : Str} (h2 : sub.length = 2) (hno : ∀ i, PySem.Builtin.Str.subAt s sub i = true → PySem.Builtin.Str.subAt s sub (i + 1) = false) (n : Nat) (hn : n ≤ s.length + 1) :
    ((List.range n).foldl (occStep s sub) (#[], 0)).1.size = ((List.range n).filter fun i => decide (i + 2 ≤ s.length) && PySem.Builtin.Str.subAt s sub i).length ∧ ((List.range n).foldl (occStep s sub) (#[], 0)).1.size ≤ n ∧
      (((List.range n).foldl (occStep s sub) (#[], 0)).2 ≤ n ∨ (∃ j, n = j + 1 ∧ ((List.range n).foldl (occStep s sub) (#[], 0)).2 = n + 1 ∧ PySem.Builtin.Str.subAt s sub j = true)) := by
  induction n with
  | zero => exact ⟨rfl, Nat.le_refl _, .inl (Nat.le_refl _)⟩
  | succ n ih =>
    obtain ⟨h1, h3, h4⟩ := ih (by omega)
    rw [List.range_succ, List.foldl_append, List.filter_append, List.length_append]
    generalize (List.range n).foldl (occStep s sub) (#[], 0) = r at h1 h3 h4 ⊢
    show (occStep s sub r n).1.size = _ ∧ (occStep s sub r n).1.size ≤ _ ∧ ((occStep s sub r n).2 ≤ _ ∨ ∃ j, _ ∧ (occStep s sub r n).2 = _ ∧ _)
    unfold occStep
    rw [h2]
    by_cases c : (decide (n + 2 ≤ s.length) && PySem.Builtin.Str.subAt s sub n) = true
    · obtain ⟨c1, c2⟩ := Bool.and_eq_true_iff.mp c
      have c1' := of_decide_eq_true c1
      have hf : r.2 ≤ n := by
        rcases h4 with h4 | ⟨j, rfl, h4, h5⟩
        · exact h4
        · rw [hno j h5] at c2; cases c2
      have q : (decide (r.1.size < s.length + 1) && decide (r.2 ≤ n) && decide (n + 2 ≤ s.length) && PySem.Builtin.Str.subAt s sub n) = true := by
        rw [c1, c2, decide_eq_true (by omega : r.1.size < s.length + 1), decide_eq_true hf]; rfl
      rw [if_pos q]
      refine ⟨?_, ?_, .inr ⟨n, rfl, rfl, c2⟩⟩
      · rw [Array.size_push, h1]; simp only [List.filter_cons, c, if_true, List.filter_nil, List.length_cons, List.length_nil]
      · rw [Array.size_push]; omega
    · have c' : (decide (n + 2 ≤ s.length) && PySem.Builtin.Str.subAt s sub n) = false := by simpa using c
      have q : (decide (r.1.size < s.length + 1) && decide (r.2 ≤ n) && decide (n + 2 ≤ s.length) && PySem.Builtin.Str.subAt s sub n) = false := by rw [Bool.and_assoc, c']; simp
      rw [if_neg (by rw [q]; decide)]
      refine ⟨?_, by omega, .inl ?_⟩
      · rw [h1]; simp only [List.filter_cons, c', if_false, List.filter_nil, List.length_nil]; simp
      · rcases h4 with h4 | ⟨j, rfl, h4, _⟩ <;> omega
def mtL (p q : Nat) (ws : List Nat) (i : Nat) : Bool := decide (ws[i]? = some p) && decide (ws[i + 1]? = some q)
theorem sub_txt (p q : Nat) (ws : List Nat) (i : Nat) : (decide (i + 2 ≤ (txt ws).length) && PySem.Builtin.Str.subAt (txt ws) (txt [p, q]) i) = mtL p q ws i := by
  rw [txt_len, Bool.eq_iff_iff, Bool.and_eq_true, decide_eq_true_iff, sub_at]
  unfold mtL
  rw [Bool.and_eq_true, decide_eq_true_iff, decide_eq_true_iff]
  exact ⟨fun h => h.2, fun h => ⟨by have := (List.getElem?_eq_some_iff.mp h.2).1; omega, h⟩⟩
def pairs (p q : Nat) : List Nat → Nat
  | a :: b :: r => (if a = p ∧ b = q then 1 else 0) + pairs p q (b :: r)
  | _ => 0
theorem mtL_count (p q : Nat) : ∀ (ws : List Nat) (n : Nat), ws.length ≤ n → ((List.range n).filter (mtL p q ws)).length = pairs p q ws
  | [], n, _ => by
    rw [List.filter_eq_nil_iff.mpr fun i _ => by simp [mtL]]; rfl
  | [a], n, _ => by
    rw [List.filter_eq_nil_iff.mpr fun i _ => by simp [mtL]]; rfl
  | a :: b :: r, n + 1, h => by
    have ih := mtL_count p q (b :: r) n (by simp at h ⊢; omega)
    rw [List.range_succ_eq_map, List.filter_cons, List.filter_map, pairs]
    have e : (mtL p q (a :: b :: r) ∘ Nat.succ) = mtL p q (b :: r) := by funext i; rfl
    rw [e]
    have e0 : mtL p q (a :: b :: r) 0 = decide (a = p ∧ b = q) := by unfold mtL; simp
    rw [e0]
    by_cases c : a = p ∧ b = q
    · rw [if_pos (decide_eq_true c), if_pos c, List.length_cons, List.length_map, ih]; omega
    · rw [if_neg (by simpa using c), if_neg c, List.length_map, ih]; omega
  | a :: b :: r, 0, h => by simp at h
theorem count_txt {p q : Nat} (h : p ≠ q) (ws : List Nat) : Txt.count (txt ws) (txt [p, q]) = (pairs p q ws : Int) := by
  unfold Txt.count
  have hno : ∀ i, PySem.Builtin.Str.subAt (txt ws) (txt [p, q]) i = true → PySem.Builtin.Str.subAt (txt ws) (txt [p, q]) (i + 1) = false := fun i h1 => by
    cases z : PySem.Builtin.Str.subAt (txt ws) (txt [p, q]) (i + 1) with
    | false => rfl
    | true =>
      have a := ((sub_at p q ws i).mp h1).2
      have b := ((sub_at p q ws (i + 1)).mp z).1
      rw [a] at b; cases b; exact absurd rfl h
  rw [occ_fold, Array.length_toList, (occ_inv (s := txt ws) (sub := txt [p, q]) rfl hno _ (Nat.le_refl _)).1, ← mtL_count p q ws ((txt ws).length + 1) (by rw [txt_len]; omega)]
  congr 3
  funext i
  exact sub_txt p q ws i

/-! triangles -/
def e2 (x y : Nat) : Int := if x = 0 ∧ y = 1 then 1 else if x = 1 ∧ y = 0 then -1 else 0
theorem e2_anti (x y : Nat) : e2 x y = - e2 y x := by unfold e2; split <;> split <;> (try split) <;> (try split) <;> omega
def e2s : List Nat → Int
  | a :: b :: r => e2 a b + e2s (b :: r)
  | _ => 0
theorem e2s_pairs : ∀ ws : List Nat, e2s ws = (pairs 0 1 ws : Int) - (pairs 1 0 ws : Int)
  | [] => rfl
  | [a] => rfl
  | a :: b :: r => by
    rw [e2s, e2s_pairs (b :: r), pairs, pairs]
    unfold e2
    split <;> split <;> (try split) <;> (try split) <;> omega
def tri (x y z : Nat) : Int := e2 x y + e2 y z + e2 z x
def word (x y z : Nat) : Str := lt x ++ lt y ++ lt z
def fwd : List Str := ["abc", "bca", "cab"]
def bwd : List Str := ["acb", "cba", "bac"]
theorem tri_word : ∀ x, x < 3 → ∀ y, y < 3 → ∀ z, z < 3 → (if fwd.any (· == word x y z) then (1 : Int) else 0) - (if bwd.any (· == word x y z) then 1 else 0) = tri x y z := by decide +kernel
/-- the letter at a place, told of its number in the row of all places -/
def gAt (f : Nat → Nat) (r c : Nat) : Nat := f (r * (r + 1) / 2 + c)
def cellT (g : Nat → Nat → Nat) (r c : Nat) : Int := tri (g r c) (g (r + 1) c) (g (r + 1) (c + 1)) + if c < r then tri (g r c) (g (r + 1) (c + 1)) (g r (c + 1)) else 0
def rowT (g : Nat → Nat → Nat) (r : Nat) : Nat → Int
  | 0 => 0
  | k + 1 => rowT g r k + cellT g r k
def turnsT (g : Nat → Nat → Nat) : Nat → Int
  | 0 => 0
  | k + 1 => turnsT g k + rowT g k (k + 1)
def rimP (n : Nat) : List (Nat × Nat) := (List.range n).map (fun k => (k, 0)) ++ (List.range n).map (fun k => (n, k)) ++ (List.range (n + 1)).map fun k => (n - k, n - k)
def rimW (g : Nat → Nat → Nat) (n : Nat) : List Nat := (rimP n).map fun p => g p.1 p.2
theorem sperner (g : Nat → Nat → Nat) {n : Nat} (h1 : 1 ≤ n) (h3 : n ≤ 3) : turnsT g n = e2s (rimW g n) := by
  obtain rfl | rfl | rfl : n = 1 ∨ n = 2 ∨ n = 3 := by omega
  · show turnsT g 1 = e2s [g 0 0, g 1 0, g 1 1, g 0 0]
    simp only [turnsT, rowT, cellT, tri, e2s]
    simp
    omega
  · show turnsT g 2 = e2s [g 0 0, g 1 0, g 2 0, g 2 1, g 2 2, g 1 1, g 0 0]
    simp only [turnsT, rowT, cellT, tri, e2s]
    simp
    rw [e2_anti (g 2 1) (g 1 0), e2_anti (g 1 1) (g 1 0), e2_anti (g 2 1) (g 1 1)]
    omega
  · show turnsT g 3 = e2s [g 0 0, g 1 0, g 2 0, g 3 0, g 3 1, g 3 2, g 3 3, g 2 2, g 1 1, g 0 0]
    simp only [turnsT, rowT, cellT, tri, e2s]
    simp
    rw [e2_anti (g 2 1) (g 1 0), e2_anti (g 1 1) (g 1 0), e2_anti (g 2 1) (g 1 1), e2_anti (g 3 1) (g 2 0), e2_anti (g 2 1) (g 2 0), e2_anti (g 3 2) (g 2 1), e2_anti (g 2 2) (g 2 1), e2_anti (g 3 1) (g 2 1), e2_anti (g 3 2) (g 2 2)]
    omega

/-! places -/
def plc (n : Nat) : List (Nat × Nat) := (List.range (n + 1)).flatMap fun r => (List.range (r + 1)).map fun c => (r, c)
def pN (n i : Nat) : Nat × Nat := (plc n).getD i (0, 0)
def many (n : Nat) : Nat := (plc n).length
def pl (n : Nat) (p : Nat × Nat) : Nat := p.1 * (n + 1) + p.2
theorem plc_len : ∀ n, n < 4 → many n ≤ 10 ∧ 0 < many n := by decide +kernel
theorem plc_ix : ∀ n, n < 4 → ∀ r, r < n + 1 → ∀ c, c < r + 1 → (plc n)[r * (r + 1) / 2 + c]? = some (r, c) := by decide +kernel
theorem plc_le : ∀ n, n < 4 → ∀ i, i < many n → (pN n i).2 ≤ (pN n i).1 ∧ (pN n i).1 ≤ n := by decide +kernel
theorem plc_inj : ∀ n, n < 4 → ∀ i, i < many n → ∀ j, j < many n → pl n (pN n i) = pl n (pN n j) → i = j := by decide +kernel
theorem plc_rim : ∀ n, n < 4 → ∀ p ∈ rimP n, p.2 ≤ p.1 ∧ p.1 ≤ n := by decide +kernel
structure Pf (n : Nat) : Prop where
  h1 : 1 ≤ n
  h3 : n ≤ 3
theorem Pf.lt4 {n : Nat} (P : Pf n) : n < 4 := Nat.lt_succ_of_le P.h3
theorem Pf.ten {n : Nat} (P : Pf n) : many n ≤ 10 := (plc_len n P.lt4).1
theorem Pf.pos {n : Nat} (P : Pf n) : 0 < many n := (plc_len n P.lt4).2
theorem Pf.ix {n : Nat} (P : Pf n) {r c : Nat} (h : c ≤ r) (h' : r ≤ n) : (plc n)[r * (r + 1) / 2 + c]? = some (r, c) := plc_ix n P.lt4 r (by omega) c (by omega)
theorem Pf.ixlt {n : Nat} (P : Pf n) {r c : Nat} (h : c ≤ r) (h' : r ≤ n) : r * (r + 1) / 2 + c < many n := (List.getElem?_eq_some_iff.mp (P.ix h h')).1
theorem Pf.le {n : Nat} (P : Pf n) {i : Nat} (h : i < many n) : (pN n i).2 ≤ (pN n i).1 ∧ (pN n i).1 ≤ n := plc_le n P.lt4 i h
theorem Pf.inj {n : Nat} (P : Pf n) {i j : Nat} (h : i < many n) (h' : j < many n) (e : pl n (pN n i) = pl n (pN n j)) : i = j := plc_inj n P.lt4 i h j h' e
theorem Pf.rim {n : Nat} (P : Pf n) {p : Nat × Nat} (h : p ∈ rimP n) : p.2 ≤ p.1 ∧ p.1 ≤ n := plc_rim n P.lt4 p h
theorem Pf.at {n : Nat} (P : Pf n) {i : Nat} (h : i < many n) : (plc n)[i]? = some (pN n i) := by
  unfold pN; rw [List.getD_eq_getElem?_getD, List.getElem?_eq_getElem h]; rfl
theorem Pf.pN {n : Nat} (P : Pf n) {r c : Nat} (h : c ≤ r) (h' : r ≤ n) : pN n (r * (r + 1) / 2 + c) = (r, c) := by
  have := P.at (P.ixlt h h'); rw [P.ix h h'] at this; exact (Option.some.inj this).symm
theorem Pf.pl_lt {n : Nat} (P : Pf n) {i : Nat} (h : i < many n) : pl n (Mine.pN n i) < (n + 1) * (n + 1) := by
  obtain ⟨h1, h2⟩ := P.le h
  have : (Mine.pN n i).1 * (n + 1) ≤ n * (n + 1) := Nat.mul_le_mul_right _ h2
  unfold pl
  rw [Nat.add_mul]; omega
def upd (f : Nat → Nat) (k v : Nat) : Nat → Nat := fun i => if i = k then v else f i
/-- the array's items: the first m places have their letters -/
def Full (n : Nat) (f : Nat → Nat) (ts : List Str) (m : Nat) : Prop := ts.length = (n + 1) * (n + 1) ∧ ∀ i, i < m → ts[pl n (pN n i)]? = some (lt (f i))
theorem Full.step {n : Nat} (P : Pf n) {f : Nat → Nat} {ts : List Str} {m : Nat} (F : Full n f ts m) (hm : m < many n) : Full n f (ts.set (pl n (pN n m)) (lt (f m))) (m + 1) := by
  refine ⟨by rw [List.length_set]; exact F.1, fun i hi => ?_⟩
  by_cases e : i = m
  · subst e; rw [List.getElem?_set_self (by rw [F.1]; exact P.pl_lt hm)]
  · rw [List.getElem?_set_ne fun q => e (P.inj (by omega) hm q.symm)]; exact F.2 i (by omega)
theorem Full.upd {n : Nat} (P : Pf n) {f : Nat → Nat} {ts : List Str} {k v : Nat} (F : Full n f ts (many n)) (hk : k < many n) : Full n (upd f k v) (ts.set (pl n (pN n k)) (lt v)) (many n) := by
  refine ⟨by rw [List.length_set]; exact F.1, fun i hi => ?_⟩
  by_cases e : i = k
  · subst e; rw [List.getElem?_set_self (by rw [F.1]; exact P.pl_lt hk)]; simp [Mine.upd]
  · rw [List.getElem?_set_ne fun q => e (P.inj hi hk q.symm), F.2 i hi]; simp [Mine.upd, e]
def lets (n : Nat) (f : Nat → Nat) : List Str := (List.range (many n)).map fun i => lt (f i)
theorem lets_upd {n : Nat} (f : Nat → Nat) (k v : Nat) (hk : k < many n) : (lets n f).set k (lt v) = lets n (upd f k v) := by
  unfold lets
  apply List.ext_getElem?; intro j
  rw [List.getElem?_set]
  by_cases e : k = j
  · subst e; simp [hk, upd]
  · simp only [e, if_false, List.getElem?_map]
    cases q : (List.range (many n))[j]? with
    | none => rfl
    | some z =>
      have : z = j := by have := List.getElem?_eq_some_iff.mp q; obtain ⟨_, h⟩ := this; simpa using h.symm
      subst this
      simp [upd, Ne.symm e]
def kvs (n : Nat) (f : Nat → Nat) (m : Nat) : List (List Int × Str) := (List.range m).map fun i => ([((pN n i).1 : Int), ((pN n i).2 : Int)], lt (f i))
theorem kvs_succ (n : Nat) (f : Nat → Nat) (m : Nat) : kvs n f (m + 1) = kvs n f m ++ [([((pN n m).1 : Int), ((pN n m).2 : Int)], lt (f m))] := by unfold kvs; rw [List.range_succ, List.map_append]; rfl
theorem kvs_new {n : Nat} (P : Pf n) (f : Nat → Nat) {m : Nat} (hm : m < many n) : [((pN n m).1 : Int), ((pN n m).2 : Int)] ∉ (kvs n f m).map (·.1) := by
  unfold kvs
  rw [List.map_map]
  intro h
  obtain ⟨i, hi, e⟩ := List.mem_map.mp h
  have hi' : i < m := by simpa using hi
  simp at e
  have : i = m := P.inj (by omega) hm (by unfold pl; have a := Int.ofNat.inj e.1; have b := Int.ofNat.inj e.2; rw [a, b])
  omega
theorem kvs_at {n : Nat} (P : Pf n) (f : Nat → Nat) {r c : Nat} (h : c ≤ r) (h' : r ≤ n) : (kvs n f (many n))[r * (r + 1) / 2 + c]? = some ([(r : Int), (c : Int)], lt (gAt f r c)) := by
  unfold kvs gAt
  rw [List.getElem?_map, List.getElem?_range (P.ixlt h h')]
  simp only [Option.map_some, P.pN h h']
theorem rim_same {n : Nat} (P : Pf n) {f : Nat → Nat} {k v : Nat} (hk : k < many n) (h : pN n k ∉ rimP n) : rimW (gAt (upd f k v)) n = rimW (gAt f) n := by
  unfold rimW
  refine List.map_congr_left fun p hp => ?_
  obtain ⟨h1, h2⟩ := P.rim hp
  unfold gAt upd
  rw [if_neg]
  intro e
  have := P.pN h1 h2
  rw [e] at this
  exact h (this ▸ hp)
end Mine

namespace Mine
section
variable {K : Frag} {C : Cx} {A : Around} {σ : List CO}
theorem low_arr {k m : Nat} {n : Int} {told : Str} {bs : List (Int × Int)} (hm : m < k) : LowC k (.attrs (arrFs n told bs m)) := fun x v e => by
  have hb : Low k (bsV bs) := .list fun v hv => by
    obtain ⟨p, _, rfl⟩ := List.mem_map.mp hv
    exact .tup fun v hv => by rcases List.mem_cons.mp hv with rfl | hv; exact .int _; rcases List.mem_cons.mp hv with rfl | hv; exact .int _; simp at hv
  have := lookup_mem e
  unfold arrFs at this
  simp only [List.mem_cons, Prod.mk.injEq, List.not_mem_nil, or_false] at this
  rcases this with ⟨_, rfl⟩ | ⟨_, rfl⟩ | ⟨_, rfl⟩ | ⟨_, rfl⟩ | ⟨_, rfl⟩ | ⟨_, rfl⟩
  · exact .mu hm
  · exact hb
  · exact .str _
  · exact .int _
  · exact .int _
  · exact .str _
theorem low_strs {k : Nat} (ns : List Str) : ∀ v ∈ ns.map V.str, Low k v := fun v hv => by
  obtain ⟨n, _, rfl⟩ := List.mem_map.mp hv; exact .str n
abbrev bdS (n : Nat) (low : Int) : List (Int × Int) := [(low, low + n), (1, (n : Int) + 1)]
theorem place_two (low : Int) {n r c : Nat} (hr : r ≤ n) (hc : c ≤ n) : placeOf 0 (bdS n low) [low + r, 1 + c] = some ((r * (n + 1) + c : Nat) : Int) := by
  have h1 : low ≤ low + (r : Int) := by omega
  have h2 : low + (r : Int) ≤ low + n := by omega
  have h3 : (1 : Int) ≤ 1 + (c : Int) := by omega
  have h4 : 1 + (c : Int) ≤ (n : Int) + 1 := by omega
  simp only [placeOf, h1, h2, h3, h4, decide_true, Bool.and_self, if_true]
  congr 1
  have e1 : (0 : Int) * (low + n - low + 1) + (low + r) - low = r := by omega
  have e2 : (n : Int) + 1 - 1 + 1 = n + 1 := by omega
  rw [e1, e2]; push_cast; omega
theorem sm_two (low : Int) {n : Nat} (h : n ≤ 3) : Sm (bdS n low) := fun p hp => by
  rcases List.mem_cons.mp hp with rfl | hp
  · show (low + n - low + 1).natAbs < _; omega
  · rw [List.mem_singleton.mp hp]; show ((n : Int) + 1 - 1 + 1).natAbs < _; omega
theorem size_two (low : Int) (n : Nat) : sizeOf (bdS n low) = ((n + 1) * (n + 1) : Nat) := by
  show (1 : Int) * (low + n - low + 1) * ((n : Int) + 1 - 1 + 1) = _
  have e1 : (1 : Int) * (low + n - low + 1) = n + 1 := by omega
  have e2 : (n : Int) + 1 - 1 + 1 = n + 1 := by omega
  rw [e1, e2]; push_cast; rfl
abbrev pV (p : Nat × Nat) : V := tupV ((p.1 : Int), (p.2 : Int))
abbrev plV (n : Nat) : V := .list ((plc n).map pV)
/-- letters, array, items, and the tables of places found so far -/
def SL (n : Nat) (low : Int) (f : Nat → Nat) (ts : List Str) (ds : List CO) : List CO := .list ((lets n f).map V.str) :: .attrs (arrFs 1 "triangle" (bdS n low) 2) :: .list (ts.map V.str) :: ds
def Dk (ds : List CO) : Prop := ∀ d ∈ ds, ∃ k, d = CO.dict k
theorem Dk.snoc {ds : List CO} (h : Dk ds) (k : List (List Int × Str)) : Dk (ds ++ [.dict k]) := fun d hd => by
  rcases List.mem_append.mp hd with hd | hd
  · exact h d hd
  · exact ⟨k, List.mem_singleton.mp hd⟩
theorem low_SL {n : Nat} {low : Int} {f : Nat → Nat} {ts : List Str} {ds : List CO} (hd : Dk ds) : ∀ c ∈ SL n low f ts ds, LowC (SL n low f ts ds).length c := fun c hc => by
  rcases List.mem_cons.mp hc with rfl | hc
  · exact low_strs _
  rcases List.mem_cons.mp hc with rfl | hc
  · exact low_arr (by show 2 < ds.length + 1 + 1 + 1; omega)
  rcases List.mem_cons.mp hc with rfl | hc
  · exact low_strs _
  obtain ⟨k, rfl⟩ := hd c hc
  exact trivial
theorem SL_last {n : Nat} {low : Int} {f : Nat → Nat} {ts : List Str} {ds : List CO} {d : CO} : (SL n low f ts (ds ++ [d]))[ds.length + 3]? = some d := by
  show (ds ++ [d])[ds.length]? = _; simp
theorem SL_set {n : Nat} {low : Int} {f : Nat → Nat} {ts : List Str} {ds : List CO} {d d' : CO} : (SL n low f ts (ds ++ [d])).set (ds.length + 3) d' = SL n low f ts (ds ++ [d']) := by
  unfold SL
  simp [List.set_cons_succ]

theorem ev_item2 (B : Base K C) {env : Env} {ρ : Rho} (r : Rm A 4) {n i : Nat} {low : Int} {f : Nat → Nat} {ts : List Str} {ds : List CO} {arr le ke : Expr} {np p4 p5 p6 : Pos} (P : Pf n) (hd : Dk ds) (hi : i < many n)
    (ha : Ev C A env ρ (SL n low f ts ds) arr (.inst 208 1) (SL n low f ts ds)) (he : Ev C A env ρ (SL n low f ts ds) le (.int (low + ((pN n i).1 : Nat))) (SL n low f ts ds)) (he' : Ev C A env ρ (SL n low f ts ds) ke (.int (1 + ((pN n i).2 : Nat))) (SL n low f ts ds))
    (hk : env.kindOf "item_ref" = some .globalImplicit) (h1 : starEach [arr, .List [le, ke] p4, .Constant (.int 32) 0 p5] env = (false, eval arr env) :: starEach [.List [le, ke] p4, .Constant (.int 32) 0 p5] env) (h2 : starEach [le, ke] env = (false, eval le env) :: starEach [ke] env) (h3 : starEach [ke] env = (false, eval ke env) :: starEach [] env) :
    Ev C A env ρ (SL n low f ts ds) (.Call (.Name "item_ref" np) [arr, .List [le, ke] p4, .Constant (.int 32) 0 p5] [] p6) (nref 1 (pl n (pN n i) : Nat)) (SL n low f ts ds) := by
  obtain ⟨g1, g2⟩ := P.le hi
  exact Ev.eq (Ev.callG (g_item_ref B) hk rfl (Args.cons ha (Args.cons (Ev.list (Args.cons he (Args.cons he' Args.nil h3) h2) (by rw [sizeLine_eq]; simp)) (Args.cons Ev.cint Args.nil rfl) rfl) h1)
    (c_item B r (c := 1) (bs := bdS n low) (ps := [low + ((pN n i).1 : Nat), 1 + ((pN n i).2 : Nat)]) (low_SL hd) rfl rfl rfl (sm_two low P.h3) (by simp)) (with_K B.X (keep262 B) h1 rfl)) (by rw [place_two low g2 (by omega)]; rfl)
theorem pl_small {n i : Nat} (P : Pf n) (hi : i < many n) : pl n (pN n i) < 16 := by
  have h := P.pl_lt hi
  have : (n + 1) * (n + 1) ≤ 4 * 4 := Nat.mul_le_mul (by have := P.h3; omega) (by have := P.h3; omega)
  omega
theorem ev_get2 (B : Base K C) {env : Env} {ρ : Rho} (r : Rm A 1) {n i m : Nat} {low : Int} {f g : Nat → Nat} {ts : List Str} {ds : List CO} {e : Expr} {np pos : Pos} (P : Pf n) (F : Full n f ts m) (hi : i < many n) (hm : i < m)
    (he : Ev C A env ρ (SL n low g ts ds) e (nref 1 (pl n (pN n i) : Nat)) (SL n low g ts ds)) (hk : env.kindOf "slot_get" = some .globalImplicit) (hst : starEach [e] env = (false, eval e env) :: starEach [] env) : Ev C A env ρ (SL n low g ts ds) (.Call (.Name "slot_get" np) [e] [] pos) (.str (lt (f i))) (SL n low g ts ds) := by
  have hp := pl_small P hi
  exact Ev.callG (g_slot_get B) hk rfl (Args.cons he Args.nil hst) (c_get B r (c := 1) (m := 2) rfl rfl rfl (by omega) (by omega) (by rw [Int.toNat_natCast, List.getElem?_map, F.2 i hm]; rfl)) (with_K B.X (keep269 B) hst rfl)
theorem Ex.slotSet2 (B : Base K C) {env : Env} {ρ : Rho} (r : Rm A 1) {n i : Nat} {low : Int} {g : Nat → Nat} {ts : List Str} {ds : List CO} {x : Str} {e e' : Expr} {np pos pos' : Pos} {rest : List Stmt} {Φ : Out → Prop} (P : Pf n) (hl : ts.length = (n + 1) * (n + 1)) (hi : i < many n)
    (he : Ev C A env ρ (SL n low g ts ds) e (nref 1 (pl n (pN n i) : Nat)) (SL n low g ts ds)) (he' : Ev C A env ρ (SL n low g ts ds) e' (.str x) (SL n low g ts ds)) (hk : env.kindOf "slot_set" = some .globalImplicit) (hst : starEach [e, e'] env = (false, eval e env) :: starEach [e'] env) (hst' : starEach [e'] env = (false, eval e' env) :: starEach [] env)
    (hin : interactive env = false) (hs : swapsWith (.Call (.Name "slot_set" np) [e, e'] [] pos) none pos'.line env = pure false) (hr : Ex C A env ρ (SL n low g (ts.set (pl n (pN n i)) x) ds) rest Φ) (hp : (backTo pos (starEach [e'] env)).any (·.1) = false := by rfl) : Ex C A env ρ (SL n low g ts ds) (.Expr (.Call (.Name "slot_set" np) [e, e'] [] pos) pos' :: rest) Φ := by
  have hq := pl_small P hi
  have hq2 := P.pl_lt hi
  exact Ex.expr (Ev.callG (g_slot_set B) hk rfl (Args.cons he (Args.cons he' Args.nil hst') hst) (c_set B r (c := 1) (m := 2) rfl rfl rfl (by omega) (by omega) (by rw [List.length_map, hl]; exact Int.ofNat_lt.mpr hq2)) (with_K B.X (keep276 B) hst hp)) hin hs (Ex.castS hr (by rw [Int.toNat_natCast]; unfold SL; simp [List.set_cons_succ, List.map_set]))
theorem Rm.in1 {d n : Nat} (r : Rm A (d + 1)) (h : n ≤ 6) : A.in1.units + n < cLine := by have := r.un; show A.units + 1 + n < 9900; omega
theorem lets_get {n i : Nat} (f : Nat → Nat) (hi : i < many n) : ((lets n f).map V.str)[i]? = some (.str (lt (f i))) := by
  unfold lets; simp [hi]

theorem c_read (B : Base K C) (r : Rm A 6) {n : Nat} {low : Int} {f : Nat → Nat} {ts : List Str} {ds : List CO} (P : Pf n) (F : Full n f ts (many n)) (hd : Dk ds) :
    Cl C A (SL n low f ts ds) (.ref 283) [.inst 208 1, plV n, .int low, .mu 0] (.mu (ds.length + 3)) (SL n low f ts (ds ++ [.dict (kvs n f (many n))])) := by
  obtain ⟨fd, D⟩ := fun283 B
  refine Cl.fn D rfl r.room (by show ds.length + 3 ≤ (ds ++ _).length + 3; simp) fun L => ?_
  have hh : (A.deeper (callEnvC (mkF c283 fd) L 283)).handled = none := r.h
  have rr : Rm (A.deeper (callEnvC (mkF c283 fd) L 283)) 5 := r.deeper
  refine Ex.asg Ev.dict0 rfl (Sn.loc rfl) ?_
  refine Ex.for_ (fun i ρ σ => σ = SL n low f ts (ds ++ [.dict (kvs n f i)]) ∧ Sub ([("found", .mu (ds.length + 3)), ("table", .inst 208 1), ("places", plV n), ("low", .int low), ("letters", .mu 0)] : Rho) ρ)
    (EvI.enum hh (g_enumerate B) rfl rfl (Ev.loc rfl rfl rfl) tupT rfl) ⟨rfl, Sub.cons rfl (Sub.cons rfl (Sub.cons rfl (Sub.cons rfl (Sub.cons rfl Sub.nil))))⟩ ?_ ?_ (fun _ => rfl)
  · rintro i v ρ σ hv ⟨rfl, hs⟩
    obtain ⟨a, rfl, ha⟩ := enumT_get hv
    have hi : i < many n := by have := (List.getElem?_eq_some_iff.mp ha).1; rwa [List.length_map] at this
    rw [List.getElem?_map, P.at hi] at ha
    cases ha
    refine ⟨_, Bn.tup hh ⟨_, Bn.name (Sn.loc rfl), _, Bn.name (Sn.loc rfl), rfl⟩ rfl rfl, ?_⟩
    refine Ex.sub (ρ' := [("place", pV (pN n i)), ("at", .int i), ("found", .mu (ds.length + 3)), ("table", .inst 208 1), ("places", plV n), ("low", .int low), ("letters", .mu 0)]) ?_ (Sub.cons rfl (Sub.cons rfl (Sub.skip rfl (Sub.skip rfl hs))))
    have hdd := hd.snoc (kvs n f i)
    have h10 := P.ten
    refine Ex.asg (ev_item2 B (rr.less (by decide)) P hdd hi (Ev.loc rfl rfl rfl) (Ev.bin2 (Ev.loc rfl rfl rfl) (Ev.itemT (Ev.loc rfl rfl rfl) Ev.cint (by decide) (by decide) rfl (fun _ _ => rfl)) Op2.add) (Ev.bin2 Ev.cint (Ev.itemT (Ev.loc rfl rfl rfl) Ev.cint (by decide) (by decide) rfl (fun _ _ => rfl)) Op2.add) rfl rfl rfl rfl) rfl (Sn.loc rfl) ?_
    refine Ex.ifF (Ts.bop (AllT.or_on (Ts.cmp (Ev.loc rfl rfl rfl) Ev.cnone Op2.isN rfl) (AllT.or_on (Ts.eq (Ts.cmp (ev_get2 B (rr.less (by decide)) P F hi hi (Ev.loc rfl rfl rfl) rfl rfl) (Ev.item (Ev.loc rfl rfl rfl) (Ev.loc rfl rfl rfl) (.mu (vs := (lets n f).map V.str) rfl) (by omega) (by omega) (by rw [Int.toNat_natCast]; exact lets_get f hi) (fun _ _ => rfl)) Op2.nes rfl) (by simp)) AllT.or_nil))) (Ex.skip ?_)
    refine Ex.setD (ev_get2 B (rr.less (by decide)) P F hi hi (Ev.loc rfl rfl rfl) rfl rfl) (Ev.loc rfl rfl rfl) (Ev.loc rfl rfl rfl) SL_last (kvs_new P f hi) (by unfold kvs; rw [List.length_map, List.length_range]; omega) (rr.in1 (n := 0) (by decide)) rfl ?_
    refine Ex.nilS (ρ' := [("found", .mu (ds.length + 3)), ("table", .inst 208 1), ("places", plV n), ("low", .int low), ("letters", .mu 0)]) (Sub.cons rfl (Sub.cons rfl (Sub.cons rfl (Sub.cons rfl (Sub.cons rfl Sub.nil))))) ⟨?_, Sub.refl⟩
    rw [SL_set, kvs_succ]
  · rintro ρ σ ⟨rfl, hs⟩
    have e : (enumT ((plc n).map pV)).length = many n := by rw [enumT_len, List.length_map]; rfl
    rw [e]
    exact Ex.ret (Ev.loc (hs _ _ rfl) rfl rfl) RetOk.same

theorem word_len (x y : Nat) : (lt x ++ lt y).length = 2 := rfl
theorem c_turns (B : Base K C) (r : Rm A 3) {n c : Nat} {f : Nat → Nat} (P : Pf n) (hc : σ[c]? = some (.dict (kvs n f (many n)))) (hf : ∀ i, f i < 3) :
    Cl C A σ (.ref 290) [.mu c, .int n] (.int (turnsT (gAt f) n)) σ := by
  obtain ⟨fd, D⟩ := fun290 B
  refine Cl.fn D rfl r.room (Nat.le_refl _) fun L => ?_
  have hh : (A.deeper (callEnvC (mkF c290 fd) L 290)).handled = none := r.h
  have rr : Rm (A.deeper (callEnvC (mkF c290 fd) L 290)) 2 := r.deeper
  have h3 := P.h3
  obtain ⟨g, hg⟩ : ∃ g, g = gAt f := ⟨_, rfl⟩
  have hgl : ∀ r c, g r c < 3 := fun r c => by rw [hg]; exact hf _
  rw [← hg]
  have hitem : ∀ {ρ : Rho} {e1 e2 : Expr} {r0 c0 k : Nat} {p0 p1 p2 : Pos} (hρ : ρ.lookup ("found" : Str) = some (.mu c)) (h1 : c0 ≤ r0) (h2 : r0 ≤ n) (a : Ev C (A.deeper (callEnvC (mkF c290 fd) L 290)) (callEnvC (mkF c290 fd) L 290) ρ σ e1 (.int r0) σ) (b : Ev C (A.deeper (callEnvC (mkF c290 fd) L 290)) (callEnvC (mkF c290 fd) L 290) ρ σ e2 (.int c0) σ)
      (hst : starEach [e1, e2] (callEnvC (mkF c290 fd) L 290) = (false, eval e1 (callEnvC (mkF c290 fd) L 290)) :: starEach [e2] (callEnvC (mkF c290 fd) L 290)) (hst' : starEach [e2] (callEnvC (mkF c290 fd) L 290) = (false, eval e2 (callEnvC (mkF c290 fd) L 290)) :: starEach [] (callEnvC (mkF c290 fd) L 290)),
      Ev C (A.deeper (callEnvC (mkF c290 fd) L 290)) (callEnvC (mkF c290 fd) L 290) ρ σ (.Subscript (.Name "found" p0) (.Tuple [e1, e2] k p1) p2) (.str (lt (g r0 c0))) σ := fun {ρ e1 e2 r0 c0 k p0 p1 p2} hρ h1 h2 a b hst hst' =>
    Ev.itemD (p := ((r0 : Int), (c0 : Int))) (Ev.loc hρ rfl rfl) (Ev.tup (Args.cons a (Args.cons b Args.nil hst') hst) (by rw [sizeLine_eq]; simp)) hc (by rw [hg]; exact kvs_at P f h1 h2) (rr.in1 (n := 0) (by decide)) (fun _ _ => rfl)
  have hword : ∀ {ρ : Rho} {x y z : Nat} {p0 p1 p2 p3 p4 p5 p6 p7 q0 q1 q2 q3 q4 q5 q6 : Pos} {np np' : Pos} (hw : ρ.lookup ("word" : Str) = some (.str (word x y z))) (hx : x < 3) (hy : y < 3) (hz : z < 3),
      Ev C (A.deeper (callEnvC (mkF c290 fd) L 290)) (callEnvC (mkF c290 fd) L 290) ρ σ (.BinOp (.Call (.Name "int" np) [.Compare (.Name "word" p0) [.In] [.Tuple [.Constant (.str "abc") 0 p1, .Constant (.str "bca") 0 p2, .Constant (.str "cab") 0 p3] 0 p4] p5] [] p6) .Sub
        (.Call (.Name "int" np') [.Compare (.Name "word" q0) [.In] [.Tuple [.Constant (.str "acb") 0 q1, .Constant (.str "cba") 0 q2, .Constant (.str "bac") 0 q3] 0 q4] q5] [] q6) p7) (.int (tri x y z)) σ := fun {ρ x y z p0 p1 p2 p3 p4 p5 p6 p7 q0 q1 q2 q3 q4 q5 q6 np np'} hw hx hy hz =>
    Ev.eq (Ev.bin2 (Ev.callG (g_int B) rfl rfl (Args.cons (Ev.cmp (Ev.loc hw rfl rfl) (Ev.tup (Args.cons Ev.cstr (Args.cons Ev.cstr (Args.cons Ev.cstr Args.nil rfl) rfl) rfl) (by rw [sizeLine_eq]; simp)) (Op2.inTupS (ys := fwd) (rr.in1 (by decide))) rfl) Args.nil rfl) Cl.intB (with_type rfl rfl))
      (Ev.callG (g_int B) rfl rfl (Args.cons (Ev.cmp (Ev.loc hw rfl rfl) (Ev.tup (Args.cons Ev.cstr (Args.cons Ev.cstr (Args.cons Ev.cstr Args.nil rfl) rfl) rfl) (by rw [sizeLine_eq]; simp)) (Op2.inTupS (ys := bwd) (rr.in1 (by decide))) rfl) Args.nil rfl) Cl.intB (with_type rfl rfl)) Op2.sub) (congrArg V.int (tri_word x hx y hy z hz))
  have hadd : ∀ {ρ : Rho} {σ : List CO} {a b e : Expr} {x y z : Nat} {p q : Pos} (h1 : Ev C (A.deeper (callEnvC (mkF c290 fd) L 290)) (callEnvC (mkF c290 fd) L 290) ρ σ a (.str (lt x)) σ) (h2 : Ev C (A.deeper (callEnvC (mkF c290 fd) L 290)) (callEnvC (mkF c290 fd) L 290) ρ σ b (.str (lt y)) σ) (h3 : Ev C (A.deeper (callEnvC (mkF c290 fd) L 290)) (callEnvC (mkF c290 fd) L 290) ρ σ e (.str (lt z)) σ),
      Ev C (A.deeper (callEnvC (mkF c290 fd) L 290)) (callEnvC (mkF c290 fd) L 290) ρ σ (.BinOp (.BinOp a .Add b p) .Add e q) (.str (word x y z)) σ := fun {ρ σ a b e x y z p q} h1 h2 h3 =>
    Ev.bin2 (Ev.bin2 h1 h2 (Op2.adds (by rw [sizeLine_eq]; show 1 + 1 ≤ _; omega))) h3 (Op2.adds (by rw [sizeLine_eq, word_len]; show 2 + 1 ≤ _; omega))
  refine Ex.asg Ev.cint rfl (Sn.loc rfl) ?_
  refine Ex.for_ (fun k ρ σ' => σ' = σ ∧ Sub ([("many", .int (turnsT g k)), ("found", .mu c), ("size", .int n)] : Rho) ρ) (EvI.rng hh (Ev.callG (g_range B) rfl rfl (Args.cons (Ev.loc rfl rfl rfl) Args.nil rfl) Cl.range1 (with_type rfl rfl)) nameT (by decide) (by decide) (by omega) (by omega)) ⟨rfl, Sub.cons rfl (Sub.cons rfl (Sub.cons rfl Sub.nil))⟩ ?_ ?_ (fun _ => rfl)
  · rintro k v ρ σ' hv ⟨rfl, hs⟩
    have hk : k < n := by have := (List.getElem?_eq_some_iff.mp hv).1; rw [upto_len] at this; omega
    rw [upto_get (by omega)] at hv
    cases hv
    refine ⟨_, Bn.name (Sn.loc rfl), ?_⟩
    refine Ex.sub (ρ' := [("row", .int k), ("many", .int (turnsT g k)), ("found", .mu c), ("size", .int n)]) ?_ (Sub.cons (by show some (V.int (0 + (k : Int))) = _; rw [Int.zero_add]) (Sub.skip rfl hs))
    refine Ex.for_ (fun j ρ σ'' => σ'' = σ' ∧ Sub ([("many", .int (turnsT g k + rowT g k j)), ("row", .int k), ("found", .mu c), ("size", .int n)] : Rho) ρ) (EvI.rng hh (Ev.callG (g_range B) rfl rfl (Args.cons (Ev.bin2 (Ev.loc rfl rfl rfl) Ev.cint Op2.add) Args.nil rfl) Cl.range1 (with_type rfl rfl)) nameT (by decide) (by decide) (by omega) (by omega)) ⟨rfl, Sub.cons (by show some (V.int (turnsT g k)) = some (V.int (turnsT g k + 0)); rw [Int.add_zero]) (Sub.cons rfl (Sub.cons rfl (Sub.cons rfl Sub.nil)))⟩ ?_ ?_ (fun _ => rfl)
    · rintro j v ρ σ'' hv ⟨rfl, hs⟩
      have hj : j ≤ k := by have := (List.getElem?_eq_some_iff.mp hv).1; rw [upto_len] at this; omega
      rw [upto_get (by omega)] at hv
      cases hv
      refine ⟨_, Bn.name (Sn.loc rfl), ?_⟩
      refine Ex.sub (ρ' := [("column", .int j), ("many", .int (turnsT g k + rowT g k j)), ("row", .int k), ("found", .mu c), ("size", .int n)]) ?_ (Sub.cons (by show some (V.int (0 + (j : Int))) = _; rw [Int.zero_add]) (Sub.skip rfl hs))
      have hrow1 : ∀ {ρ : Rho} {p q p' : Pos} (h : ρ.lookup ("row" : Str) = some (.int k)), Ev C (A.deeper (callEnvC (mkF c290 fd) L 290)) (callEnvC (mkF c290 fd) L 290) ρ σ'' (.BinOp (.Name "row" p) .Add (.Constant (.int 1) 0 q) p') (.int (k + 1 : Nat)) σ'' := fun h => Ev.bin2 (Ev.loc h rfl rfl) Ev.cint Op2.add
      have hcol1 : ∀ {ρ : Rho} {p q p' : Pos} (h : ρ.lookup ("column" : Str) = some (.int j)), Ev C (A.deeper (callEnvC (mkF c290 fd) L 290)) (callEnvC (mkF c290 fd) L 290) ρ σ'' (.BinOp (.Name "column" p) .Add (.Constant (.int 1) 0 q) p') (.int (j + 1 : Nat)) σ'' := fun h => Ev.bin2 (Ev.loc h rfl rfl) Ev.cint Op2.add
      refine Ex.asg (hadd (hitem rfl hj (by omega) (Ev.loc rfl rfl rfl) (Ev.loc rfl rfl rfl) rfl rfl) (hitem rfl (show j ≤ k + 1 by omega) (by omega) (hrow1 rfl) (Ev.loc rfl rfl rfl) rfl rfl) (hitem rfl (show j + 1 ≤ k + 1 by omega) (by omega) (hrow1 rfl) (hcol1 rfl) rfl rfl)) rfl (Sn.loc rfl) ?_
      refine Ex.aug rfl rfl (hword rfl (hgl _ _) (hgl _ _) (hgl _ _)) (Sn.loc rfl) ?_
      refine Ex.join (σ₁ := σ'') (c := decide ((j : Int) < k)) (fun ρ σ => σ = σ'' ∧ Sub ([("many", .int (turnsT g k + rowT g k (j + 1))), ("row", .int k), ("found", .mu c), ("size", .int n)] : Rho) ρ) (Ts.cmp (Ev.loc rfl rfl rfl) (Ev.loc rfl rfl rfl) Op2.lt rfl) (fun hc' => ?_) (fun hc' => ?_) ?_
      · have hjk : j < k := Int.ofNat_lt.mp (of_decide_eq_true hc')
        refine Ex.asg (hadd (hitem rfl hj (by omega) (Ev.loc rfl rfl rfl) (Ev.loc rfl rfl rfl) rfl rfl) (hitem rfl (show j + 1 ≤ k + 1 by omega) (by omega) (hrow1 rfl) (hcol1 rfl) rfl rfl) (hitem rfl (show j + 1 ≤ k by omega) (by omega) (Ev.loc rfl rfl rfl) (hcol1 rfl) rfl rfl)) rfl (Sn.loc rfl) ?_
        refine Ex.aug rfl rfl (hword rfl (hgl _ _) (hgl _ _) (hgl _ _)) (Sn.loc rfl) ?_
        exact Ex.nilS (ρ' := [("many", .int (turnsT g k + rowT g k (j + 1))), ("row", .int k), ("found", .mu c), ("size", .int n)]) (Sub.cons (congrArg (fun x => some (V.int x)) (by rw [rowT, cellT, if_pos hjk]; omega)) (Sub.cons rfl (Sub.cons rfl (Sub.cons rfl Sub.nil)))) ⟨rfl, Sub.refl⟩
      · have hjk : ¬ j < k := fun h => of_decide_eq_false hc' (Int.ofNat_lt.mpr h)
        exact Ex.nilS (ρ' := [("many", .int (turnsT g k + rowT g k (j + 1))), ("row", .int k), ("found", .mu c), ("size", .int n)]) (Sub.cons (congrArg (fun x => some (V.int x)) (by rw [rowT, cellT, if_neg hjk]; omega)) (Sub.cons rfl (Sub.cons rfl (Sub.cons rfl Sub.nil)))) ⟨rfl, Sub.refl⟩
      · rintro ρ σ ⟨rfl, hs⟩
        exact Ex.nilS (ρ' := ρ) Sub.refl ⟨rfl, hs⟩
    · rintro ρ σ'' ⟨rfl, hs⟩
      rw [upto_len] at hs
      have e : ((k : Int) + 1 - 0).toNat = k + 1 := by omega
      rw [e] at hs
      exact Ex.nilS (ρ' := ρ) Sub.refl ⟨rfl, Sub.cons (hs _ _ rfl) (Sub.cons (hs _ _ rfl) (Sub.cons (hs _ _ rfl) Sub.nil))⟩
  · rintro ρ σ' ⟨rfl, hs⟩
    rw [upto_len] at hs
    have e : ((n : Int) - 0).toNat = n := by omega
    rw [e] at hs
    exact Ex.ret (Ev.loc (hs _ _ rfl) rfl rfl) RetOk.same
end
end Mine

namespace Mine
section
variable {K : Frag} {C : Cx} {A : Around} {σ : List CO}

def f0 (b : Nat) (i : Nat) : Nat := b / 3 ^ i % 3
theorem abc_at : ∀ i, i < 3 → ("abc" : Str).cps[i]? = some (97 + i) := by decide
def castP (p : Nat × Nat) : Int × Int := ((p.1 : Int), (p.2 : Int))
theorem castP_inj {p q : Nat × Nat} (h : castP p = castP q) : p = q := by
  unfold castP at h
  have a := Int.ofNat.inj (congrArg Prod.fst h)
  have b := Int.ofNat.inj (congrArg Prod.snd h)
  exact Prod.ext a b
theorem any_castP (l : List (Nat × Nat)) (p : Nat × Nat) : (l.map castP).any (· == castP p) = decide (p ∈ l) := by
  rw [Bool.eq_iff_iff, decide_eq_true_iff, List.any_map, List.any_eq_true]
  constructor
  · rintro ⟨q, hq, e⟩
    have : castP q = castP p := by simpa using e
    exact castP_inj this ▸ hq
  · intro h; exact ⟨p, h, by simp⟩
theorem rim_tup (n : Nat) : (rimP n).map pV = ((rimP n).map castP).map tupV := by rw [List.map_map]; rfl

theorem c_law (B : Base K C) (r : Rm A 8) {nm : Str} {L fa : Addr} {cd : Value} {ns : List Int} (hns : ns.length ≤ 63) :
    Ex C A (envOfC nm c295.2.2.2.2.1 L fa cd) [("script", Li ns)] [] (bodyC c295) fun o => ∃ σ, o = .ret (.bool true) σ := by
  have hh := r.h
  refine Ex.asg (Ev.list (Args.cons Ev.cint (Args.cons Ev.cint (Args.cons Ev.cint Args.nil rfl) rfl) rfl) (by rw [sizeLine_eq]; simp)) rfl (Sn.loc rfl) ?_
  obtain ⟨cs, habc, hc3, hc5⟩ := five 1 612 2 ns
  have hsl : ∀ {ρ : Rho} {p1 p2 p3 p4 : Pos} (hx : ρ.lookup ("script" : Str) = some (Li ns)), Ev C A (envOfC nm c295.2.2.2.2.1 L fa cd) ρ [] (.Subscript (.Name "script" p1) (.Slice none (some (.Constant (.int 5) 0 p2)) none p3) p4) (.list ((ns.map V.int).take 5)) [] := fun hx =>
    Ev.upto (n := 5) (Ev.loc hx rfl rfl) Ev.cint (.list _) (by rw [sizeLine_eq]; simp; omega) (fun _ _ => rfl)
  refine Ex.asg (Ev.eq (Ev.bin2 (Ev.map (ns.take 5) V.int (fun n => V.int (absI n)) (EvI.list hh (Ev.eq (hsl rfl) (by rw [List.map_take])) (.inl nameT)) (by rw [sizeLine_eq]; simp; omega) (fun L' cl i n hn hcl => ⟨_, Bn.name (Sn.loc rfl), Sub.inr rfl, ?_⟩) (by decide) rfl rfl (fun _ => rfl))
    (Ev.from (Ev.loc rfl rfl rfl) (Ev.callG (g_len B) rfl rfl (Args.cons (hsl rfl) Args.nil rfl) (Cl.len (.list _) (by simp; omega)) (with_builtin rfl rfl)) (.list _) (by rw [sizeLine_eq]; simp) (fun _ _ => rfl)) (Op2.cat (.list _) (.list _) (by rw [sizeLine_eq]; simp; omega))) habc) rfl (Sn.cell rfl) ?_
  · exact Ev.callG (g_abs B) rfl rfl (Args.cons (Ev.callG (g_int B) rfl rfl (Args.cons (Ev.loc rfl rfl rfl) Args.nil rfl) Cl.intI (with_type rfl rfl)) Args.nil rfl) Cl.abs (with_builtin rfl rfl)
  obtain ⟨a, ha⟩ : ∃ a, a = cs.getD 0 0 := ⟨_, rfl⟩
  obtain ⟨b, hb⟩ : ∃ b, b = cs.getD 1 0 := ⟨_, rfl⟩
  have ha' : ((toI cs).map V.int)[0]? = some (.int a) := ha ▸ toI_get (by omega)
  have hb' : ((toI cs).map V.int)[1]? = some (.int b) := hb ▸ toI_get (by omega)
  obtain ⟨n, hn, h1, h3⟩ : ∃ n : Nat, n = 1 + a % 3 ∧ 1 ≤ n ∧ n ≤ 3 := ⟨_, rfl, by omega, by omega⟩
  have P : Pf n := ⟨h1, h3⟩
  have h10 := P.ten
  have hp0 := P.pos
  obtain ⟨low, hlow⟩ : ∃ low : Int, low = ((a : Int).fdiv 3).fmod 5 - 2 := ⟨_, rfl⟩
  have hcell : ∀ {A' : Around} {env : Env} {ρ : Rho} {σ : List CO} {i : Int} {n : Nat} {p1 p2 p3 : Pos} (hx : ρ.lookup ("cells" : Str) = some (Ln cs)) (hk : env.kindOf ("cells" : Str) = some .cell) (h0 : 0 ≤ i) (h1 : i < 2 ^ 63) (hv : ((toI cs).map V.int)[i.toNat]? = some (.int n)), Ev C A' env ρ σ (.Subscript (.Name "cells" p1) (.Constant (.int i) 0 p2) p3) (.int n) σ := fun hx hk h0 h1 hv =>
    Ev.item (Ev.cel hx hk rfl) Ev.cint (.list _) h0 h1 hv (fun _ _ => rfl)
  refine Ex.asgT (Ev.tup (Args.cons (Ev.eq (Ev.bin2 Ev.cint (Ev.bin2 (hcell (n := a) rfl rfl (by decide) (by decide) ha') Ev.cint (Op2.fmod (by decide))) Op2.add) (show _ = V.int n by rw [hn, Int.fmod_eq_emod_of_nonneg _ (by decide)]; rfl))
    (Args.cons (Ev.eq (Ev.bin2 (Ev.bin2 (Ev.bin2 (hcell (n := a) rfl rfl (by decide) (by decide) ha') Ev.cint (Op2.fdiv (by decide) (by decide))) Ev.cint (Op2.fmod (by decide))) Ev.cint Op2.sub) (show _ = V.int low by rw [hlow])) Args.nil rfl) rfl) (by rw [sizeLine_eq]; simp)) rfl rfl
    (Bn.tup hh ⟨_, Bn.name (Sn.cell rfl), _, Bn.name (Sn.loc rfl), rfl⟩ rfl rfl) ?_
  have hn1 : ((n : Int) + 1 - 0).toNat = n + 1 := by omega
  have hn0 : ((n : Int) - 0).toNat = n := by omega
  have hplc : (plc n).map pV = (List.range ((n : Int) + 1 - 0).toNat).flatMap fun (r : Nat) => (List.range ((r : Int) + 1 - 0).toNat).map fun c => pV (r, c) := by
    rw [hn1, plc, List.map_flatMap]
    congr 1
    funext r
    have : ((r : Int) + 1 - 0).toNat = r + 1 := by omega
    rw [this, List.map_map]; rfl
  refine Ex.asgMap2 (List.range ((n : Int) + 1 - 0).toNat) (fun (r : Nat) => List.range ((r : Int) + 1 - 0).toNat) (fun i => V.int (0 + i)) (fun _ i => V.int (0 + i)) (fun r c => pV (r, c)) (EvI.rng hh (Ev.callG (g_range B) rfl rfl (Args.cons (Ev.bin2 (Ev.cel rfl rfl rfl) Ev.cint Op2.add) Args.nil rfl) Cl.range1 (with_type rfl rfl)) nameT (by decide) (by decide) (by omega) (by omega)) hplc (by rw [List.length_map, sizeLine_eq]; have : (plc n).length ≤ 10 := h10; omega)
    (fun L' cl i rw_ hi hcl => ⟨_, Bn.name (Sn.loc rfl), Sub.inr rfl, anyM, trivial, EvI.rng hh (Ev.callG (g_range B) rfl rfl (Args.cons (Ev.bin2 (Ev.eq (Ev.loc rfl rfl rfl) (by rw [Int.zero_add])) Ev.cint Op2.add) Args.nil rfl) Cl.range1 (with_type rfl rfl)) nameT (by decide) (by decide) (by omega) ?_,
      fun j col hj => ⟨_, Bn.name (Sn.loc rfl), Sub.skip ?_ Sub.refl, Ev.tup (Args.cons (Ev.eq (Ev.loc rfl rfl rfl) (by rw [Int.zero_add])) (Args.cons (Ev.eq (Ev.loc rfl rfl rfl) (by rw [Int.zero_add])) Args.nil rfl) rfl) (by rw [sizeLine_eq]; simp)⟩⟩) (Sn.loc rfl) rfl (by decide) rfl rfl (fun _ => rfl) (fun _ _ _ => rfl) ?_
  · have := (List.getElem?_eq_some_iff.mp hi)
    obtain ⟨h, e⟩ := this
    simp at h e
    omega
  · rw [lookup_cons', if_neg (by decide)]; exact inner_none rfl
  have hlen : ∀ {A' : Around} {ρ : Rho} {σ : List CO} {np p1 p2 : Pos} {env : Env} (hx : ρ.lookup ("places" : Str) = some (plV n)) (hk : env.kindOf ("places" : Str) = some .local) (kl : env.kindOf ("len" : Str) = some .globalImplicit) (hst : starEach [.Name ("places" : Str) p1] env = (false, eval (.Name ("places" : Str) p1) env) :: starEach [] env),
      Ev C A' env ρ σ (.Call (.Name "len" np) [.Name "places" p1] [] p2) (.int (many n)) σ := fun hx hk kl hst =>
    Ev.eq (Ev.callG (g_len B) kl rfl (Args.cons (Ev.loc hx hk rfl) Args.nil hst) (Cl.len (.list _) (by rw [List.length_map]; have : (plc n).length ≤ 10 := h10; omega)) (with_builtin hst rfl)) (by rw [List.length_map]; rfl)
  have hm0 : ((many n : Int) - 0).toNat = many n := by omega
  have hb3 : Builtin.Int.intBits (3 : Int) ≤ 2 := intBits_le_iff.mpr (by decide)
  have hpw : ∀ k : Nat, k ≤ 100 → ((Builtin.Int.intBits (3 : Int) : Nat) : Int) * (k : Int) ≤ 2 ^ 27 := fun k hk => by
    have : ((Builtin.Int.intBits (3 : Int) : Nat) : Int) * (k : Int) ≤ 2 * 100 := Int.mul_le_mul (by omega) (by omega) (by omega) (by omega)
    omega
  have hpe : ∀ k : Nat, (3 : Int) ^ (k : Int).toNat = ((3 ^ k : Nat) : Int) := fun k => by rw [Int.toNat_natCast]; push_cast; rfl
  have hps : ∀ k : Nat, k ≤ 10 → (((3 ^ k : Nat) : Int)).natAbs < 1073741824 := fun k hk => by rw [Int.natAbs_natCast]; exact Nat.lt_of_le_of_lt (Nat.pow_le_pow_right (by decide) hk) (by decide)
  have hpp : ∀ k : Nat, ((3 ^ k : Nat) : Int) ≠ 0 := fun k => by have := Nat.pow_pos (a := 3) (n := k) (by decide); omega
  have habc' : ∀ {A' : Around} {env : Env} {ρ : Rho} {σ : List CO} {e : Expr} {k : Nat} {p1 p2 : Pos} (hk : k < 3) (he : Ev C A' env ρ σ e (.int k) σ) (hst : ∀ o j, subscripted e false o j = operate [o, j] (getItem o j)), Ev C A' env ρ σ (.Subscript (.Constant (.str "abc") 0 p1) e p2) (.str (lt k)) σ := fun hk he hst =>
    Ev.itemS Ev.cstr he hk (by decide) (abc_at _ hk) hst
  refine Ex.asgMapMu (List.range ((many n : Int) - 0).toNat) (fun i => V.int (0 + i)) (fun i => lt (f0 b i)) (ys := lets n (f0 b)) (by rw [hm0]; rfl) (EvI.rng hh (Ev.callG (g_range B) rfl rfl (Args.cons (hlen rfl rfl rfl rfl) Args.nil rfl) Cl.range1 (with_type rfl rfl)) nameT (by decide) (by decide) (by omega) (by omega)) (by rw [List.length_range, sizeLine_eq]; omega)
    (fun L' cl j i hi hcl => ⟨_, Bn.name (Sn.loc rfl), Sub.inr rfl, ?_⟩) (Sn.loc rfl) rfl (by decide) rfl rfl (fun _ => rfl) ?_
  · have him : i < many n := by obtain ⟨h1, h2⟩ := List.getElem?_eq_some_iff.mp hi; simp at h1 h2; omega
    refine habc' (Nat.mod_lt _ (by decide)) (Ev.eq (Ev.bin2 (Ev.bin2 (hcell (n := b) rfl rfl (by decide) (by decide) hb') (Ev.eq (Ev.bin2 Ev.cint (Ev.eq (Ev.loc rfl rfl rfl) (by rw [Int.zero_add])) (Op2.pow (by omega) (hpw i (by omega)))) (congrArg V.int (hpe i))) (Op2.fdiv (hpp _) (hps _ (by omega)))) Ev.cint (Op2.fmod (by decide))) ?_) (fun _ _ => rfl)
    rw [Int.fdiv_eq_ediv_of_nonneg _ (Int.natCast_nonneg _), Int.fmod_eq_emod_of_nonneg _ (by decide)]; rfl
  have hrl : (rimP n).length ≤ 10 := by unfold rimP; simp; omega
  refine Ex.asg (Ev.bin2 (Ev.map (List.range ((n : Int) - 0).toNat) (fun i => V.int (0 + i)) (fun i => pV (i, 0)) (EvI.rng hh (Ev.callG (g_range B) rfl rfl (Args.cons (Ev.cel rfl rfl rfl) Args.nil rfl) Cl.range1 (with_type rfl rfl)) nameT (by decide) (by decide) (by omega) (by omega)) (by rw [List.length_range, sizeLine_eq]; omega)
      (fun L' cl j i hi hcl => ⟨_, Bn.name (Sn.loc rfl), Sub.inr rfl, Ev.tup (Args.cons (Ev.eq (Ev.loc rfl rfl rfl) (by rw [Int.zero_add])) (Args.cons Ev.cint Args.nil rfl) rfl) (by rw [sizeLine_eq]; simp)⟩) (by decide) rfl rfl (fun _ => rfl))
    (Ev.map (List.range ((n : Int) - 0).toNat) (fun i => V.int (0 + i)) (fun i => pV (n, i)) (EvI.rng hh (Ev.callG (g_range B) rfl rfl (Args.cons (Ev.cel rfl rfl rfl) Args.nil rfl) Cl.range1 (with_type rfl rfl)) nameT (by decide) (by decide) (by omega) (by omega)) (by rw [List.length_range, sizeLine_eq]; omega)
      (fun L' cl j i hi hcl => ⟨_, Bn.name (Sn.loc rfl), Sub.inr rfl, Ev.tup (Args.cons (Ev.cel rfl rfl rfl) (Args.cons (Ev.eq (Ev.loc rfl rfl rfl) (by rw [Int.zero_add])) Args.nil rfl) rfl) (by rw [sizeLine_eq]; simp)⟩) (by decide) rfl rfl (fun _ => rfl)) (Op2.cat (.list _) (.list _) (by rw [sizeLine_eq]; simp; omega))) rfl (Sn.loc rfl) ?_
  refine Ex.asg (v := .list ((rimP n).map pV)) (Ev.eq (Ev.bin2 (Ev.loc rfl rfl rfl) (Ev.map (List.range ((n : Int) + 1 - 0).toNat) (fun i => V.int (0 + i)) (fun i => pV (n - i, n - i)) (EvI.rng hh (Ev.callG (g_range B) rfl rfl (Args.cons (Ev.bin2 (Ev.cel rfl rfl rfl) Ev.cint Op2.add) Args.nil rfl) Cl.range1 (with_type rfl rfl)) nameT (by decide) (by decide) (by omega) (by omega)) (by rw [List.length_range, sizeLine_eq]; omega)
      (fun L' cl j i hi hcl => ⟨_, Bn.name (Sn.loc rfl), Sub.inr rfl, ?_⟩) (by decide) rfl rfl (fun _ => rfl)) (Op2.cat (.list _) (.list _) (by rw [sizeLine_eq]; simp; omega))) ?_) rfl (Sn.loc rfl) ?_
  · have hin : i ≤ n := by obtain ⟨h1, h2⟩ := List.getElem?_eq_some_iff.mp hi; simp at h1 h2; omega
    have e : (n : Int) - (0 + (i : Int)) = ((n - i : Nat) : Int) := by omega
    exact Ev.tup (Args.cons (Ev.eq (Ev.bin2 (Ev.cel rfl rfl rfl) (Ev.loc rfl rfl rfl) Op2.sub) (congrArg V.int e)) (Args.cons (Ev.eq (Ev.bin2 (Ev.cel rfl rfl rfl) (Ev.loc rfl rfl rfl) Op2.sub) (congrArg V.int e)) Args.nil rfl) rfl) (by rw [sizeLine_eq]; simp)
  · rw [hn1, hn0, rimP, List.map_append, List.map_append, List.map_map, List.map_map, List.map_map]; rfl
  refine Ex.asg2 hh (Ev.tup (Args.cons (Ev.callG (g_Array B) rfl rfl (Args.cons Ev.cint (Args.cons Ev.cstr (Args.cons (Ev.list (Args.cons (Ev.tup (Args.cons (Ev.loc rfl rfl rfl) (Args.cons (Ev.bin2 (Ev.loc rfl rfl rfl) (Ev.cel rfl rfl rfl) Op2.add) Args.nil rfl) rfl) (by rw [sizeLine_eq]; simp)) (Args.cons (Ev.tup (Args.cons Ev.cint (Args.cons (Ev.bin2 (Ev.cel rfl rfl rfl) Ev.cint Op2.add) Args.nil rfl) rfl) (by rw [sizeLine_eq]; simp)) Args.nil rfl) rfl) (by rw [sizeLine_eq]; simp))
      (Args.cons Ev.cstr Args.nil rfl) rfl) rfl) rfl) (c_array B (r.less (by decide)) (bs := bdS n low) (sm_two low h3) (by rw [size_two]; omega) (by rw [size_two]; have : (n + 1) * (n + 1) ≤ 4 * 4 := Nat.mul_le_mul (by omega) (by omega); omega)) (with_K B.X (keep208 B) rfl rfl)) (Args.cons Ev.cnone Args.nil rfl) rfl) (by rw [sizeLine_eq]; simp)) rfl rfl (Sn.loc rfl) (Sn.loc rfl) ?_
  refine Ex.castS (σ' := SL n low (f0 b) (List.replicate ((n + 1) * (n + 1)) "") []) ?_ (by rw [size_two, Int.toNat_natCast]; simp [SL])
  have hplen : ((plc n).map pV).length = many n := by rw [List.length_map]; rfl
  have hpl : ∀ {A' : Around} {ρ : Rho} {σ : List CO} {i : Nat} {e : Expr} {p1 p2 : Pos} {env : Env} (hi : i < many n) (hx : ρ.lookup ("places" : Str) = some (plV n)) (hk : env.kindOf ("places" : Str) = some .local) (he : Ev C A' env ρ σ e (.int i) σ) (hst : ∀ o j, subscripted e false o j = operate [o, j] (getItem o j)), Ev C A' env ρ σ (.Subscript (.Name "places" p1) e p2) (pV (pN n i)) σ := fun hi hx hk he hst =>
    Ev.item (Ev.loc hx hk rfl) he (.list _) (by omega) (by omega) (by rw [Int.toNat_natCast, List.getElem?_map, P.at hi]; rfl) hst
  have hlet : ∀ {A' : Around} {ρ : Rho} {f : Nat → Nat} {ts : List Str} {ds : List CO} {i : Nat} {e : Expr} {p1 p2 : Pos} {env : Env} (hi : i < many n) (hx : ρ.lookup ("letters" : Str) = some (.mu 0)) (hk : env.kindOf ("letters" : Str) = some .local) (he : Ev C A' env ρ (SL n low f ts ds) e (.int i) (SL n low f ts ds)) (hst : ∀ o j, subscripted e false o j = operate [o, j] (getItem o j)), Ev C A' env ρ (SL n low f ts ds) (.Subscript (.Name "letters" p1) e p2) (.str (lt (f i))) (SL n low f ts ds) := fun hi hx hk he hst =>
    Ev.item (Ev.loc hx hk rfl) he (.mu rfl) (by omega) (by omega) (by rw [Int.toNat_natCast]; exact lets_get _ hi) hst
  have hD0 : Dk [] := fun d hd => by simp at hd
  refine Ex.for_ (fun i ρ σ => ∃ ts, σ = SL n low (f0 b) ts [] ∧ Full n (f0 b) ts i ∧ Sub ([("ahead", .non), ("cells", Ln cs), ("size", .int n), ("low", .int low), ("places", plV n), ("letters", .mu 0), ("rim", .list ((rimP n).map pV)), ("table", .inst 208 1)] : Rho) ρ)
    (EvI.enum hh (g_enumerate B) rfl rfl (Ev.loc rfl rfl rfl) tupT rfl) ⟨_, rfl, ⟨by simp, fun i hi => absurd hi (Nat.not_lt_zero _)⟩, Sub.cons rfl (Sub.cons rfl (Sub.cons rfl (Sub.cons rfl (Sub.cons rfl (Sub.cons rfl (Sub.cons rfl (Sub.cons rfl Sub.nil)))))))⟩ ?_ ?_ (fun _ => rfl)
  · rintro i v ρ σ hv ⟨ts, rfl, F, hs⟩
    obtain ⟨a', rfl, hx⟩ := enumT_get hv
    have hi : i < many n := by have := (List.getElem?_eq_some_iff.mp hx).1; rwa [hplen] at this
    rw [List.getElem?_map, P.at hi] at hx
    cases hx
    refine ⟨_, Bn.tup hh ⟨_, Bn.name (Sn.loc rfl), _, Bn.name (Sn.loc rfl), rfl⟩ rfl rfl, ?_⟩
    refine Ex.sub (ρ' := ("place", pV (pN n i)) :: ("at", .int i) :: [("ahead", .non), ("cells", Ln cs), ("size", .int n), ("low", .int low), ("places", plV n), ("letters", .mu 0), ("rim", .list ((rimP n).map pV)), ("table", .inst 208 1)]) ?_ (Sub.cons rfl (Sub.cons rfl (Sub.skip rfl (Sub.skip rfl hs))))
    refine Ex.slotSet2 B (r.less (by decide)) P F.1 hi (ev_item2 B (r.less (by decide)) P hD0 hi (Ev.loc rfl rfl rfl) (Ev.bin2 (Ev.loc rfl rfl rfl) (Ev.itemT (Ev.loc rfl rfl rfl) Ev.cint (by decide) (by decide) rfl (fun _ _ => rfl)) Op2.add) (Ev.bin2 Ev.cint (Ev.itemT (Ev.loc rfl rfl rfl) Ev.cint (by decide) (by decide) rfl (fun _ _ => rfl)) Op2.add) rfl rfl rfl rfl) (hlet hi rfl rfl (Ev.loc rfl rfl rfl) (fun _ _ => rfl)) rfl rfl rfl rfl rfl ?_
    exact Ex.nilS (ρ' := [("ahead", .non), ("cells", Ln cs), ("size", .int n), ("low", .int low), ("places", plV n), ("letters", .mu 0), ("rim", .list ((rimP n).map pV)), ("table", .inst 208 1)]) (Sub.skip rfl (Sub.skip rfl Sub.refl)) ⟨_, rfl, F.step P hi, Sub.refl⟩
  rintro ρ σ ⟨ts, rfl, F, hs⟩
  rw [enumT_len, hplen] at F
  refine Ex.sub (ρ' := [("ahead", .non), ("cells", Ln cs), ("size", .int n), ("low", .int low), ("places", plV n), ("letters", .mu 0), ("rim", .list ((rimP n).map pV)), ("table", .inst 208 1)]) ?_ hs
  refine Ex.for_ (fun i ρ σ => ∃ f ts ds, σ = SL n low f ts ds ∧ (∀ i, f i < 3) ∧ Full n f ts (many n) ∧ Dk ds ∧ Sub ([("ahead", if i = 0 then .non else .int (turnsT (gAt f) n)), ("cells", Ln cs), ("size", .int n), ("low", .int low), ("places", plV n), ("letters", .mu 0), ("rim", .list ((rimP n).map pV)), ("table", .inst 208 1)] : Rho) ρ)
    (EvI.list hh (Ev.bin2 (Ev.list (Args.cons Ev.cnone Args.nil rfl) (by rw [sizeLine_eq]; simp)) (Ev.from (n := 2) (Ev.cel rfl rfl rfl) Ev.cint (.list _) (by rw [sizeLine_eq, List.length_map, toI_len]; omega) (fun _ _ => rfl)) (Op2.cat (.list _) (.list _) (by rw [sizeLine_eq, List.length_drop, List.length_map, toI_len]; simp; omega))) (.inl nameT))
    ⟨f0 b, ts, [], rfl, fun i => Nat.mod_lt _ (by decide), F, hD0, Sub.refl⟩ ?_ ?_ (fun _ => rfl)
  · rintro i v ρ σ hv ⟨f, ts, ds, rfl, hf, F, hD, hs⟩
    have hvc : (i = 0 ∧ v = .non) ∨ (0 < i ∧ ∃ t : Nat, v = .int t) := by
      cases i with
      | zero => left; simp at hv; exact ⟨rfl, hv.symm⟩
      | succ j =>
        right
        simp only [List.singleton_append, List.getElem?_cons_succ, List.getElem?_drop] at hv
        have hlt : 2 + j < cs.length := by have := (List.getElem?_eq_some_iff.mp hv).1; simpa [toI_len] using this
        rw [toI_get hlt] at hv
        cases hv
        exact ⟨Nat.succ_pos _, _, rfl⟩
    obtain ⟨va, hva⟩ : ∃ va, va = if i = 0 then V.non else .int (turnsT (gAt f) n) := ⟨_, rfl⟩
    rw [← hva] at hs
    refine ⟨_, Bn.name (Sn.loc rfl), ?_⟩
    refine Ex.sub (ρ' := ("told", v) :: [("ahead", va), ("cells", Ln cs), ("size", .int n), ("low", .int low), ("places", plV n), ("letters", .mu 0), ("rim", .list ((rimP n).map pV)), ("table", .inst 208 1)]) ?_ (Sub.cons rfl (Sub.skip rfl hs))
    refine Ex.asg Ev.cnone rfl (Sn.loc rfl) ?_
    refine Ex.join (σ₁ := SL n low f ts ds) (c := !v.isNon) (fun ρ σ => ∃ f' ts' pv, σ = SL n low f' ts' ds ∧ (∀ i, f' i < 3) ∧ Full n f' ts' (many n) ∧ Sub ([("place", pv), ("ahead", va), ("cells", Ln cs), ("size", .int n), ("low", .int low), ("places", plV n), ("letters", .mu 0), ("rim", .list ((rimP n).map pV)), ("table", .inst 208 1)] : Rho) ρ ∧
      (pv = .non ∨ ∃ k, k < many n ∧ pv = pV (pN n k) ∧ va = .int (turnsT (gAt f) n) ∧ (pN n k ∉ rimP n → turnsT (gAt f') n = turnsT (gAt f) n))) (Ts.cmp (Ev.loc rfl rfl rfl) Ev.cnone Op2.isnN rfl) (fun hc => ?_) (fun hc => ?_) ?_
    · rcases hvc with ⟨_, rfl⟩ | ⟨h0, t, rfl⟩
      · cases hc
      rw [if_neg (by omega)] at hva
      have hk : t % many n < many n := Nat.mod_lt _ hp0
      obtain ⟨k, hke⟩ : ∃ k, k = t % many n := ⟨_, rfl⟩
      rw [← hke] at hk
      obtain ⟨w, hwe, hw3⟩ : ∃ w, w = t / many n % 3 ∧ w < 3 := ⟨_, rfl, Nat.mod_lt _ (by decide)⟩
      refine Ex.asg (v := .int k) (Ev.eq (Ev.bin2 (Ev.loc rfl rfl rfl) (hlen rfl rfl rfl rfl) (Op2.fmod (by omega))) (by rw [hke, Int.fmod_eq_emod_of_nonneg _ (by omega)]; rfl)) rfl (Sn.loc rfl) ?_
      refine Ex.asgNI hh (w := .str (lt w)) (Ev.tup (Args.cons (hpl hk rfl rfl (Ev.loc rfl rfl rfl) (fun _ _ => rfl)) (Args.cons (habc' hw3 (Ev.eq (Ev.bin2 (Ev.bin2 (Ev.loc rfl rfl rfl) (hlen rfl rfl rfl rfl) (Op2.fdiv (by omega) (by omega))) Ev.cint (Op2.fmod (by decide))) ?_) (fun _ _ => rfl)) Args.nil rfl) rfl) (by rw [sizeLine_eq]; simp)) (Sn.loc rfl) (Ev.loc rfl rfl rfl) (Ev.loc rfl rfl rfl) (c := 0) (n := k) (vs := (lets n f).map V.str) rfl (by rw [List.length_map]; unfold lets; rw [List.length_map, List.length_range]; exact hk) (by omega) rfl rfl rfl ?_
      · rw [hwe, Int.fdiv_eq_ediv_of_nonneg _ (Int.natCast_nonneg _), Int.fmod_eq_emod_of_nonneg _ (by decide)]; rfl
      refine Ex.castS (σ' := SL n low (upd f k w) ts ds) ?_ (by unfold SL; rw [← lets_upd f k w hk, List.map_set]; rfl)
      refine Ex.slotSet2 B (r.less (by decide)) P F.1 hk (ev_item2 B (r.less (by decide)) P hD hk (Ev.loc rfl rfl rfl) (Ev.bin2 (Ev.loc rfl rfl rfl) (Ev.itemT (Ev.loc rfl rfl rfl) Ev.cint (by decide) (by decide) rfl (fun _ _ => rfl)) Op2.add) (Ev.bin2 Ev.cint (Ev.itemT (Ev.loc rfl rfl rfl) Ev.cint (by decide) (by decide) rfl (fun _ _ => rfl)) Op2.add) rfl rfl rfl rfl) (hlet hk rfl rfl (Ev.loc rfl rfl rfl) (fun _ _ => rfl)) rfl rfl rfl rfl rfl ?_
      have e : upd f k w k = w := by unfold upd; rw [if_pos rfl]
      rw [e]
      refine Ex.nilS (ρ' := [("place", pV (pN n k)), ("ahead", va), ("cells", Ln cs), ("size", .int n), ("low", .int low), ("places", plV n), ("letters", .mu 0), ("rim", .list ((rimP n).map pV)), ("table", .inst 208 1)]) (Sub.cons rfl (Sub.cons rfl (Sub.cons rfl (Sub.cons rfl (Sub.cons rfl (Sub.cons rfl (Sub.cons rfl (Sub.cons rfl (Sub.cons rfl Sub.nil))))))))) ⟨upd f k w, _, _, rfl, fun i => ?_, F.upd P hk, Sub.refl, .inr ⟨k, hk, rfl, hva, fun hr => ?_⟩⟩
      · unfold upd; split
        · exact hw3
        · exact hf i
      · rw [sperner _ h1 h3, sperner _ h1 h3, rim_same P hk hr]
    · exact Ex.nilS (ρ' := [("place", .non), ("ahead", va), ("cells", Ln cs), ("size", .int n), ("low", .int low), ("places", plV n), ("letters", .mu 0), ("rim", .list ((rimP n).map pV)), ("table", .inst 208 1)]) (Sub.cons rfl (Sub.skip rfl (Sub.skip rfl Sub.refl))) ⟨f, ts, _, rfl, hf, F, Sub.refl, .inl rfl⟩
    rintro ρ σ ⟨f', ts', pv, rfl, hf', F', hs, hpv⟩
    refine Ex.sub (ρ' := [("place", pv), ("ahead", va), ("cells", Ln cs), ("size", .int n), ("low", .int low), ("places", plV n), ("letters", .mu 0), ("rim", .list ((rimP n).map pV)), ("table", .inst 208 1)]) ?_ hs
    refine Ex.asg (Ev.callG (g_law_read B) rfl rfl (Args.cons (Ev.loc rfl rfl rfl) (Args.cons (Ev.loc rfl rfl rfl) (Args.cons (Ev.loc rfl rfl rfl) (Args.cons (Ev.loc rfl rfl rfl) Args.nil rfl) rfl) rfl) rfl) (c_read B (r.less (by decide)) P F' hD) (with_K B.X (keep283 B) rfl rfl)) rfl (Sn.cell rfl) ?_
    refine Ex.ifF (Ts.cmp (Ev.cel rfl rfl rfl) Ev.cnone Op2.isN rfl) (Ex.skip ?_)
    obtain ⟨σf, hσf⟩ : ∃ σf, σf = SL n low f' ts' (ds ++ [.dict (kvs n f' (many n))]) := ⟨_, rfl⟩
    have hcf : σf[ds.length + 3]? = some (.dict (kvs n f' (many n))) := by rw [hσf]; exact SL_last
    rw [← hσf]
    obtain ⟨g, hg⟩ : ∃ g, g = gAt f' := ⟨_, rfl⟩
    obtain ⟨rw_, hrw⟩ : ∃ w, w = rimW g n := ⟨_, rfl⟩
    have hrwl : rw_.length ≤ 10 := by rw [hrw]; unfold rimW; rw [List.length_map]; exact hrl
    refine Ex.asg2 hh (v := .str (txt rw_)) (w := .int (turnsT g n)) (Ev.tup (Args.cons (Ev.eq (Ev.methS (x := "") (σ₁ := σf) Ev.cstr (Args.cons (Ev.eq (v' := .list ((rw_.map lt).map V.str)) (Ev.map (rimP n) pV (fun p => V.str (lt (g p.1 p.2))) (EvI.list hh (Ev.loc rfl rfl rfl) (.inl nameT)) (by rw [sizeLine_eq]; omega)
        (fun L' cl i p hp hcl => ⟨_, Bn.name (Sn.loc rfl), Sub.inr rfl, ?_⟩) (by decide) rfl rfl (fun _ => rfl)) ?_) Args.nil rfl) (Cl.joinS (.list _) ?_) rfl rfl rfl PySem.F.slot_str_join PySem.F.type_str_join (meth_with1 rfl rfl)) (congrArg V.str (join_lt rw_)))
      (Args.cons (Ev.eq (Ev.callG (g_law_turns B) rfl rfl (Args.cons (Ev.cel rfl rfl rfl) (Args.cons (Ev.cel rfl rfl rfl) Args.nil rfl) rfl) (c_turns B (r.less (by decide)) P hcf hf') (with_K B.X (keep290 B) rfl rfl)) (by rw [hg])) Args.nil rfl) rfl) (by rw [sizeLine_eq]; simp)) rfl rfl (Sn.loc rfl) (Sn.loc rfl) ?_
    · obtain ⟨q1, q2⟩ := P.rim (List.mem_of_getElem? hp)
      exact Ev.itemD (p := ((p.1 : Int), (p.2 : Int))) (Ev.cel rfl rfl rfl) (Ev.loc rfl rfl rfl) hcf (by rw [hg]; exact kvs_at P f' q1 q2) (r.in1 (n := 0) (by decide)) (fun _ _ => rfl)
    · rw [hrw, rimW, List.map_map, List.map_map]; rfl
    · have e : ((rw_.map lt).map (·.length)).sum = rw_.length := by
        clear hrw hrwl
        induction rw_ with
        | nil => rfl
        | cons a l ih => rw [List.map_cons, List.map_cons, List.sum_cons, ih, List.length_cons]; show 1 + l.length = _; omega
      rw [e]; show rw_.length + (rw_.map lt).length * 0 ≤ _; omega
    have hcount : ∀ {ρ : Rho} {p q : Nat} {s : Str} {p1 p2 p3 p4 : Pos} (hs : s = txt [p, q]) (hpq : p ≠ q) (hx : ρ.lookup ("row" : Str) = some (.str (txt rw_))) (e1 : (p2.endLine == p4.line) = true), Ev C A (envOfC nm c295.2.2.2.2.1 L fa cd) ρ σf (.Call (.Attribute (.Name "row" p1) "count" p2) [.Constant (.str s) 0 p3] [] p4) (.int (pairs p q rw_)) σf := fun {ρ p q s p1 p2 p3 p4} hs hpq hx e1 =>
      Ev.eq (Ev.methS (x := txt rw_) (σ₁ := σf) (Ev.loc hx rfl rfl) (Args.cons Ev.cstr Args.nil rfl) Cl.countS rfl rfl e1 PySem.F.slot_str_count PySem.F.type_str_count (meth_with1 rfl rfl)) (by rw [hs, count_txt hpq])
    have hsp : turnsT g n = (pairs 0 1 rw_ : Int) - (pairs 1 0 rw_ : Int) := by rw [sperner g h1 h3, e2s_pairs, hrw]
    have hand : ∀ {ρ : Rho} {p0 p1 p2 p3 p4 p5 p6 p7 p8 p9 : Pos} (k1 : ρ.lookup ("place" : Str) = some pv) (k2 : ρ.lookup ("rim" : Str) = some (.list ((rimP n).map pV))) (k3 : ρ.lookup ("many" : Str) = some (.int (turnsT g n))) (k4 : ρ.lookup ("ahead" : Str) = some va),
        Ts C A (envOfC nm c295.2.2.2.2.1 L fa cd) ρ σf (.BoolOp .And [.Compare (.Name "place" p0) [.IsNot] [.Constant .none 0 p1] p2, .Compare (.Name "place" p3) [.NotIn] [.Name "rim" p4] p5, .Compare (.Name "many" p6) [.NotEq] [.Name "ahead" p7] p8] p9) false σf := fun {ρ p0 p1 p2 p3 p4 p5 p6 p7 p8 p9} k1 k2 k3 k4 => by
      rcases hpv with rfl | ⟨k, hk, rfl, rfl, hsame⟩
      · exact Ts.bop (AllT.and_stop (Ts.cmp (Ev.loc k1 rfl rfl) Ev.cnone Op2.isnN rfl))
      · by_cases hr : pN n k ∈ rimP n
        · exact Ts.bop (AllT.and_on (Ts.cmp (Ev.loc k1 rfl rfl) Ev.cnone Op2.isnN rfl) (AllT.and_stop (Ts.eq (Ts.cmp (Ev.loc k1 rfl rfl) (Ev.eq (Ev.loc k2 rfl rfl) (congrArg V.list (rim_tup n))) (Op2.notInL (p := castP (pN n k)) (.list _) (r.in1 (n := 1) (by decide))) rfl) (by rw [any_castP, decide_eq_true hr]; rfl))))
        · exact Ts.bop (AllT.and_on (Ts.cmp (Ev.loc k1 rfl rfl) Ev.cnone Op2.isnN rfl) (AllT.and_on (Ts.eq (Ts.cmp (Ev.loc k1 rfl rfl) (Ev.eq (Ev.loc k2 rfl rfl) (congrArg V.list (rim_tup n))) (Op2.notInL (p := castP (pN n k)) (.list _) (r.in1 (n := 1) (by decide))) rfl) (by rw [any_castP, decide_eq_false hr]; rfl))
            (AllT.and_stop (Ts.eq (Ts.cmp (Ev.loc k3 rfl rfl) (Ev.loc k4 rfl rfl) Op2.ne rfl) (by rw [hg, hsame hr]; simp)))))
    refine Ex.ifF (Ts.bop (AllT.or_on (Ts.eq (Ts.cmp (Ev.loc rfl rfl rfl) (Ev.bin2 (hcount (p := 0) (q := 1) rfl (by decide) rfl rfl) (hcount (p := 1) (q := 0) rfl (by decide) rfl rfl) Op2.sub) Op2.ne rfl) (by rw [hsp]; simp)) (AllT.or_on (hand rfl rfl rfl rfl) AllT.or_nil))) (Ex.skip ?_)
    refine Ex.asg (Ev.loc rfl rfl rfl) rfl (Sn.loc rfl) ?_
    exact Ex.nilS (ρ' := [("ahead", .int (turnsT g n)), ("cells", Ln cs), ("size", .int n), ("low", .int low), ("places", plV n), ("letters", .mu 0), ("rim", .list ((rimP n).map pV)), ("table", .inst 208 1)]) (Sub.cons rfl (Sub.cons rfl (Sub.cons rfl (Sub.cons rfl (Sub.cons rfl (Sub.cons rfl (Sub.cons rfl (Sub.cons rfl Sub.nil)))))))) ⟨f', ts', _, hσf, hf', F', hD.snoc _, by rw [if_neg (Nat.succ_ne_zero i), ← hg]; exact Sub.refl⟩
  · rintro ρ σ ⟨f, ts, ds, rfl, _⟩
    exact Ex.ret Ev.cbool ⟨_, rfl⟩
end
end Mine

namespace Mine
noncomputable section
abbrev PW : Program := PySem.Challenge.pw_xm0945_04
abbrev kh := PyData.keyHash
def fnb (i j : Nat) : Arguments × FuncBody × Scope := match (match j with
  | 0 => coreT PW i
  | k + 1 => coreM PW i k) with
  | some c => (c.2.2.1, c.2.2.2.1, c.2.2.2.2.1)
  | none => default
def ob0 (P : Params) : Obj := (Obj.mk (.type "tuple") none (.seq (List.toArray []) 0) (List.toArray []))
def ob1 (P : Params) : Obj := (Obj.mk .none none (.fields (List.toArray [])) (List.toArray []))
def ob2 (P : Params) : Obj := (Obj.mk (.type "code") none (.fields (List.toArray [(.str "<module>" 182), (.str "<module>" 183), (.str "/claim/cut.py" 184), (.int 1 0), (.int 0 0), (.int 0 0), (.int 0 0), (.int 0 0), (.ref 11), (.bool Bool.false), (.int 181 0), (.ref 12), .none, .none, .none, .none, (.int 185 0), (.int 1 0), (.str "/claim/cut.py" 186)])) (List.toArray []))
def ob3 (P : Params) : Obj := (Obj.mk (.type "frame") none .plain (List.toArray [(some (.ref 13)), (some (.ref 3)), (some (.ref 3)), none, (some (.str "__main__" 164)), none, (some (.ref 0))]))
def hpA (P : Params) : Heap := ⟨⟨[boot_o_0 P, boot_o_1 P, boot_o_2 P, boot_o_3 P, boot_o_4 P, boot_o_5 P, boot_o_6 P, boot_o_7 P, boot_o_8 P, boot_o_9 P, boot_o_10 P, ob0 P, ob1 P, ob2 P, ob3 P]⟩, (Life.mk [] [] [] 0 [] [] Bool.false (List.toArray []) [] 0 Bool.false Bool.false Bool.false 0 [2000, 10, 10] Bool.false 0 Bool.true [] [] 0 Bool.false)⟩
def stA (w : World) (os : OsState) : Shared := ⟨hpA w.params, #[], (Drawn.mk 0 0 0 0), 187, os⟩
def envP : Env := { scope := PW.main.scope, locals := mainNs, globals := mainNs, cells := [], code := (.ref 13), frame := some 14 }
def bodyP : List Stmt := behindTheImports PW
def cdP : Code := .body bodyP envP
abbrev annP : Option Value := (some (.ref 6))
abbrev fr0 : List Frame := [topFrame (Pos.mk 0 0 0 0)]
theorem twGo {p : Program} {w : World} {m : Nat} {ann : Option Value} {n : Nat} {s s' : Shared} {t : Thread} {c : Code} {q : Pos} {B : List Frame} (h : PySem.W.Fast.tw15667345088766844465 PySem.W.Fast.tw14364793385576792824 p w m ann n s t = some (s', ⟨PySem.W.Fast.tw11892475500146522536 PySem.W.Fast.tw14364793385576792824 c, c, q, B⟩)) : topGo treeTable p w m ann n s t = some (s', ⟨denote treeTable c, c, q, B⟩) := by rw [PySem.W.Fast.te15667345088766844465, PySem.W.Fast.te14364793385576792824, PySem.W.Fast.te11892475500146522536]; exact h
theorem twSeg {p : Program} {w : World} {m : Nat} {ann : Option Value} {b n : Nat} {s : Shared} {t : Thread} {r : Option (Flow × Shared × Code × Pos)} (h : PySem.W.Fast.tw14374325043358763698 PySem.W.Fast.tw14364793385576792824 p w m ann b n s t = r) : segRun treeTable p w m ann b n s t = r := by rw [PySem.W.Fast.te14374325043358763698, PySem.W.Fast.te14364793385576792824]; exact h
theorem twSegT {p : Program} {w : World} {m : Nat} {ann : Option Value} {b n : Nat} {s s' : SharedT} {t : Thread} {f : Flow} {c : Code} {q : Pos} (h : PySem.W.Fast.tw10110043849684766642 PySem.W.Fast.tw14364793385576792824 p w m ann b n s t = some (f, s', c, q)) : segRun treeTable p w m ann b n s.abs t = some (f, s'.abs, c, q) := segRun_of (by rw [PySem.W.Fast.te10110043849684766642, PySem.W.Fast.te14364793385576792824]; exact h)
theorem twTop {p : Program} {w : World} {m : Nat} {ann : Option Value} {n : Nat} {s : Shared} {t : Thread} {r : Option Shared} (h : PySem.W.Fast.tw14082659384304107361 PySem.W.Fast.tw14364793385576792824 p w m ann n s t = r) : topRun treeTable p w m ann n s t = r := by rw [PySem.W.Fast.te14082659384304107361, PySem.W.Fast.te14364793385576792824]; exact h
theorem twSeen {q : Program} {loose mods : List Str} {Xt : Shared → Bool} {g : Bool} {s : Shared} (h : PySem.W.Fast.tw4187177175401517315 q loose mods Xt g s = openGood q loose) : openSeen q loose mods Xt g s = openGood q loose := by rw [PySem.W.Fast.te4187177175401517315]; exact h
theorem piece_at {tb : String → Option Builtin} {p : Program} {w : World} {m0 : Nat} {ann : Option Value} {env : Env} {q : Pos} (i k j : Nat) (e : i + k = j) {n N : Nat} {s s' r : Shared} {l : List Stmt} {c : Code} {pos p' : Pos} (h : segRun tb p w m0 ann 1 n s (piecesOf ((l.drop i).take k) env c pos [topFrame q]) = some (.next, s', c, p'))
    (x : topRun tb p w m0 ann N s' (restOf (l.drop j) env c p' [topFrame q]) = some r) : topRun tb p w m0 ann (n + N) s (restOf (l.drop i) env c pos [topFrame q]) = some r := by
  have := piece_app (rest := (l.drop i).drop k) h (by rw [show (l.drop i).drop k = l.drop j from by rw [List.drop_drop, e]]; exact x)
  rwa [List.take_append_drop] at this
theorem block0 {tb : String → Option Builtin} {p : Program} {w : World} {m0 : Nat} {ann : Option Value} {env : Env} {q : Pos} {n N : Nat} {s s' r : Shared} {b : List Stmt} {c : Code} {pos p' : Pos} (h : segRun tb p w m0 ann 1 n s (blockOf b env c pos [topFrame q]) = some (.next, s', c, p'))
    (k : topRun tb p w m0 ann N s' (restOf (b.drop 0) env c p' [topFrame q]) = some r) : topRun tb p w m0 ann (n + N) s ⟨denote tb (.body b env), c, pos, [topFrame q]⟩ = some r := piece_block h k
theorem end0 {tb : String → Option Builtin} {p : Program} {w : World} {m0 : Nat} {ann : Option Value} {env : Env} {q : Pos} {N : Nat} {s r : Shared} {l : List Stmt} {c : Code} {pos : Pos} (e : l = []) (k : topRun tb p w m0 ann N s ⟨doneF .next, c, pos, [topFrame q]⟩ = some r) : topRun tb p w m0 ann N s (restOf l env c pos [topFrame q]) = some r := by subst e; exact piece_nil k
theorem pcA (w : World) (os : OsState) : topGo treeTable PW w 11 annP 12 ⟨boot_heap w.params, #[], boot_drawn, boot_toks, os⟩ (topStub PW) = some (stA w os, ⟨denote treeTable cdP, cdP, (Pos.mk 0 0 0 0), fr0⟩) := twGo (by kernel_rfl)
def trB0 (P : Params) : BT := (.node (boot_o_0 P) (.node (boot_o_1 P) (.node (boot_o_3 P) (.node (boot_o_7 P) .nil .nil) (.node (ob0 P) .nil .nil)) (.node (boot_o_5 P) (.node (boot_o_9 P) .nil .nil) (.node (ob2 P) .nil .nil))) (.node (boot_o_2 P) (.node (boot_o_4 P) (.node (boot_o_8 P) .nil .nil) (.node (ob1 P) .nil .nil)) (.node (boot_o_6 P) (.node (boot_o_10 P) .nil .nil) (.node (ob3 P) .nil .nil))))
def stB0 (w : World) (os : OsState) : SharedT := ⟨trB0 w.params, 15, (Life.mk [] [] [] 0 [] [] Bool.false (List.toArray []) [] 0 Bool.false Bool.false Bool.false 0 [2000, 10, 10] Bool.false 0 Bool.true [] [] 0 Bool.false), #[], (Drawn.mk 0 0 0 0), 187, os⟩
theorem pcB (w : World) (os : OsState) : segRun treeTable PW w 11 annP 1 1 (stA w os) (blockOf bodyP envP cdP (Pos.mk 0 0 0 0) fr0) = some (.next, (stB0 w os).abs, cdP, (Pos.mk 0 0 0 0)) := twSeg (by kernel_rfl)
def ob4 (P : Params) : Obj := (Obj.mk .none none (.dict (List.toArray [(DictEntry.mk (PyData.keyHash P "type.__subclasses__.Exception.0") (.str "type.__subclasses__.Exception.0" 219) (.int 34 0)), (DictEntry.mk (PyData.keyHash P "type.__subclasses__.Exception.n") (.str "type.__subclasses__.Exception.n" 220) (.int 1 0))]) 2) (List.toArray []))
def ob5 (P : Params) : Obj := (Obj.mk (.type "dict") none (.dict (List.toArray [(DictEntry.mk (PyData.keyHash P "__name__") (.str "__name__" 165) (.str "snobol.values" 187)), (DictEntry.mk (PyData.keyHash P "__doc__") (.str "__doc__" 166) .none), (DictEntry.mk (PyData.keyHash P "__package__") (.str "__package__" 167) .none), (DictEntry.mk (PyData.keyHash P "__loader__") (.str "__loader__" 168) (.builtin "__main__.__loader__#opaque")), (DictEntry.mk (PyData.keyHash P "__spec__") (.str "__spec__" 169) .none), (DictEntry.mk (PyData.keyHash P "__annotations__") (.str "__annotations__" 170) (.ref 6)), (DictEntry.mk (PyData.keyHash P "__builtins__") (.str "__builtins__" 171) (.ref 4)), (DictEntry.mk (PyData.keyHash P "__file__") (.str "__file__" 173) (.str "/claim/cut.py" 172)), (DictEntry.mk (PyData.keyHash P "__cached__") (.str "__cached__" 174) .none), (DictEntry.mk (PyData.keyHash P "SnobolError") (.str "SnobolError" 222) (.ref 34))]) 10) (List.toArray []))
def ob6 (P : Params) : Obj := (Obj.mk .none none (.fields (List.toArray [(.int 2 0), (.int 0 0), (.ref 21)])) (List.toArray []))
def ob7 (P : Params) : Obj := (Obj.mk (.type "tuple") none (.seq (List.toArray [(.type "Exception")]) 0) (List.toArray []))
def ob8 (P : Params) : Obj := (Obj.mk (.type "builtin_function_or_method") none (.fields (List.toArray [(.builtin "type.__prepare__"), (.type "type")])) (List.toArray []))
def ob9 (P : Params) : Obj := (Obj.mk (.type "dict") none (.dict (List.toArray [(DictEntry.mk (PyData.keyHash P "__module__") (.str "__module__" 196) (.str "snobol.values" 187)), (DictEntry.mk (PyData.keyHash P "__qualname__") (.str "__qualname__" 198) (.str "SnobolError" 197)), (DictEntry.mk (PyData.keyHash P "__firstlineno__") (.str "__firstlineno__" 200) (.int 2 199)), (DictEntry.mk (PyData.keyHash P "__init__") (.str "__init__" 211) (.ref 31)), (DictEntry.mk (PyData.keyHash P "__static_attributes__") (.str "__static_attributes__" 214) (.ref 32)), (DictEntry.mk (PyData.keyHash P "__classcell__") (.str "__classcell__" 215) (.ref 18))]) 6) (List.toArray []))
def ob10 (P : Params) : Obj := (Obj.mk (.type "cell") none (.cell (some (.ref 34))) (List.toArray []))
def ob11 (P : Params) : Obj := (Obj.mk (.type "tuple") none (.seq (List.toArray []) 0) (List.toArray []))
def ob12 (P : Params) : Obj := (Obj.mk .none none (.fields (List.toArray [(.int 4 0), (.int 4 0), (.ref 30)])) (List.toArray []))
def ob13 (P : Params) : Obj := (Obj.mk (.type "code") none (.fields (List.toArray [(.str "SnobolError" 191), (.str "SnobolError" 192), (.str "/claim/cut.py" 193), (.int 2 0), (.int 0 0), (.int 0 0), (.int 0 0), (.int 0 0), (.ref 19), (.bool Bool.false), (.int 181 0), (.ref 20), .none, .none, .none, .none, (.int 194 0), (.int 2 0), (.str "/claim/cut.py" 195)])) (List.toArray []))
def ob14 (P : Params) : Obj := (Obj.mk (.type "frame") none .plain (List.toArray [(some (.ref 21)), (some (.ref 3)), (some (.ref 17)), none, (some (.str "snobol.values" 187)), none, (some (.ref 0))]))
def ob15 (P : Params) : Obj := (Obj.mk (.type "tuple") none (.seq (List.toArray [(.str "" 201)]) 0) (List.toArray []))
def ob16 (P : Params) : Obj := (Obj.mk (.type "tuple") none (.seq (List.toArray [(.ref 18)]) 0) (List.toArray []))
def ob17 (P : Params) : Obj := (Obj.mk (.type "tuple") none (.seq (List.toArray [(.str "__class__" 205)]) 0) (List.toArray []))
def ob18 (P : Params) : Obj := (Obj.mk .none none (.fields (List.toArray [])) (List.toArray []))
def ob19 (P : Params) : Obj := (Obj.mk (.type "tuple") none (.seq (List.toArray [(.str "self" 206), (.str "number" 207), (.str "told" 208)]) 0) (List.toArray []))
def ob20 (P : Params) : Obj := (Obj.mk (.type "tuple") none (.seq (List.toArray []) 0) (List.toArray []))
def ob21 (P : Params) : Obj := (Obj.mk .none none (.func (FuncData.mk "__init__" "SnobolError.__init__" (fnb 1 1).1 (fnb 1 1).2.1 (fnb 1 1).2.2 0 [] .none .none .none .none none .none .none 0)) (List.toArray []))
def ob22 (P : Params) : Obj := (Obj.mk (.type "code") none (.fields (List.toArray [(.str "__init__" 202), (.str "SnobolError.__init__" 203), (.str "/claim/cut.py" 204), (.int 4 0), (.int 3 0), (.int 0 0), (.int 0 0), (.int 3 0), (.ref 25), (.bool Bool.true), (.int 181 0), (.ref 26), .none, (.ref 27), (.ref 28), (.ref 29), (.int 209 0), (.int 4 0), (.str "/claim/cut.py" 210)])) (List.toArray []))
def ob23 (P : Params) : Obj := (Obj.mk (.type "function") none (.func (FuncData.mk "__init__" "SnobolError.__init__" (fnb 1 1).1 (fnb 1 1).2.1 (fnb 1 1).2.2 3 [("__class__", 18)] (.ref 23) .none .none (.str "snobol.values" 187) none (.ref 30) (.ref 24) 0)) (List.toArray []))
def ob24 (P : Params) : Obj := (Obj.mk (.type "tuple") none (.seq (List.toArray [(.str "number" 212), (.str "told" 213)]) 0) (List.toArray []))
def ob25 (P : Params) : Obj := (Obj.mk (.type "dict") none (.dict (List.toArray [(DictEntry.mk (PyData.keyHash P "__module__") (.str "__module__" 196) (.str "snobol.values" 187)), (DictEntry.mk (PyData.keyHash P "__firstlineno__") (.str "__firstlineno__" 200) (.int 2 199)), (DictEntry.mk (PyData.keyHash P "__init__") (.str "__init__" 211) (.ref 31)), (DictEntry.mk (PyData.keyHash P "__static_attributes__") (.str "__static_attributes__" 214) (.ref 32)), (DictEntry.mk (PyData.keyHash P "__weakref__") (.str "__weakref__" 217) (.ref 35)), (DictEntry.mk (PyData.keyHash P "__doc__") (.str "__doc__" 218) .none)]) 4) (List.toArray []))
def ob26 (P : Params) : Obj := (Obj.mk (.type "type") none (.cls (ClassData.mk "SnobolError" [(.type "Exception")] [(.ref 34), (.type "Exception"), (.type "BaseException"), (.type "object")] 33 "SnobolError" Bool.true [] [] Bool.false none Bool.false)) (List.toArray [(some (.ref 15)), none, (some (.str "SnobolError" 189)), (some (.str "SnobolError" 197)), (some (.builtin "Exception.__new__")), (some (.bool Bool.true))]))
def ob27 (P : Params) : Obj := (Obj.mk (.type "getset_descriptor") none (.fields (List.toArray [(.str "__weakref__" 216), (.ref 34), (.builtin "ExceptionGroup.__weakref__"), .none])) (List.toArray []))
def ob28 (P : Params) : Obj := (Obj.mk (.type "super") none (.fields (List.toArray [(.ref 34), (.ref 34), (.ref 34)])) (List.toArray []))
def ob29 (P : Params) : Obj := (Obj.mk (.type "builtin_function_or_method") none (.fields (List.toArray [(.builtin "object.__init_subclass__"), (.ref 34)])) (List.toArray []))
def trB1 (P : Params) : BT := (.node (boot_o_0 P) (.node (boot_o_1 P) (.node (ob5 P) (.node (boot_o_7 P) (.node (ob7 P) (.node (ob23 P) .nil .nil) .nil) (.node (ob15 P) .nil .nil)) (.node (ob0 P) (.node (ob11 P) (.node (ob27 P) .nil .nil) .nil) (.node (ob19 P) .nil .nil))) (.node (boot_o_5 P) (.node (boot_o_9 P) (.node (ob9 P) (.node (ob25 P) .nil .nil) .nil) (.node (ob17 P) .nil .nil)) (.node (ob2 P) (.node (ob13 P) (.node (ob29 P) .nil .nil) .nil) (.node (ob21 P) .nil .nil)))) (.node (ob4 P) (.node (boot_o_4 P) (.node (boot_o_8 P) (.node (ob8 P) (.node (ob24 P) .nil .nil) .nil) (.node (ob16 P) .nil .nil)) (.node (ob6 P) (.node (ob12 P) (.node (ob28 P) .nil .nil) .nil) (.node (ob20 P) .nil .nil))) (.node (boot_o_6 P) (.node (boot_o_10 P) (.node (ob10 P) (.node (ob26 P) .nil .nil) .nil) (.node (ob18 P) .nil .nil)) (.node (ob3 P) (.node (ob14 P) .nil .nil) (.node (ob22 P) .nil .nil)))))
def stB1 (w : World) (os : OsState) : SharedT := ⟨trB1 w.params, 38, (Life.mk [] [] [] 0 [] [] Bool.false (List.toArray []) [] 0 Bool.false Bool.false Bool.false 0 [2000, 10, 10] Bool.false 0 Bool.true [] [] 0 Bool.false), #[], (Drawn.mk 0 0 0 0), 223, os⟩
theorem pc0 (w : World) (os : OsState) : segRun treeTable PW w 11 annP 1 258 (stB0 w os).abs (piecesOf ((bodyP.drop 0).take 2) envP cdP (Pos.mk 0 0 0 0) fr0) = some (.next, (stB1 w os).abs, cdP, (Pos.mk 2 0 7 24)) := twSegT (by kernel_rfl)
def ob30 (P : Params) : Obj := (Obj.mk (.type "dict") none (.dict (List.toArray [(DictEntry.mk (PyData.keyHash P "__name__") (.str "__name__" 165) (.str "snobol.values" 187)), (DictEntry.mk (PyData.keyHash P "__doc__") (.str "__doc__" 166) .none), (DictEntry.mk (PyData.keyHash P "__package__") (.str "__package__" 167) .none), (DictEntry.mk (PyData.keyHash P "__loader__") (.str "__loader__" 168) (.builtin "__main__.__loader__#opaque")), (DictEntry.mk (PyData.keyHash P "__spec__") (.str "__spec__" 169) .none), (DictEntry.mk (PyData.keyHash P "__annotations__") (.str "__annotations__" 170) (.ref 6)), (DictEntry.mk (PyData.keyHash P "__builtins__") (.str "__builtins__" 171) (.ref 4)), (DictEntry.mk (PyData.keyHash P "__file__") (.str "__file__" 173) (.str "/claim/cut.py" 172)), (DictEntry.mk (PyData.keyHash P "__cached__") (.str "__cached__" 174) .none), (DictEntry.mk (PyData.keyHash P "SnobolError") (.str "SnobolError" 222) (.ref 34)), (DictEntry.mk (PyData.keyHash P "Pattern") (.str "Pattern" 251) (.ref 54))]) 11) (List.toArray []))
def ob31 (P : Params) : Obj := (Obj.mk .none none (.fields (List.toArray [(.int 2 0), (.int 0 0), (.ref 21), (.int 8 0), (.int 0 0), (.ref 43)])) (List.toArray []))
def ob32 (P : Params) : Obj := (Obj.mk (.type "tuple") none (.seq (List.toArray []) 0) (List.toArray []))
def ob33 (P : Params) : Obj := (Obj.mk (.type "builtin_function_or_method") none (.fields (List.toArray [(.builtin "type.__prepare__"), (.type "type")])) (List.toArray []))
def ob34 (P : Params) : Obj := (Obj.mk (.type "dict") none (.dict (List.toArray [(DictEntry.mk (PyData.keyHash P "__module__") (.str "__module__" 230) (.str "snobol.values" 187)), (DictEntry.mk (PyData.keyHash P "__qualname__") (.str "__qualname__" 232) (.str "Pattern" 231)), (DictEntry.mk (PyData.keyHash P "__firstlineno__") (.str "__firstlineno__" 234) (.int 8 233)), (DictEntry.mk (PyData.keyHash P "__init__") (.str "__init__" 242) (.ref 51)), (DictEntry.mk (PyData.keyHash P "__static_attributes__") (.str "__static_attributes__" 244) (.ref 52))]) 5) (List.toArray []))
def ob35 (P : Params) : Obj := (Obj.mk (.type "tuple") none (.seq (List.toArray []) 0) (List.toArray []))
def ob36 (P : Params) : Obj := (Obj.mk .none none (.fields (List.toArray [(.int 10 0), (.int 4 0), (.ref 50)])) (List.toArray []))
def ob37 (P : Params) : Obj := (Obj.mk (.type "code") none (.fields (List.toArray [(.str "Pattern" 225), (.str "Pattern" 226), (.str "/claim/cut.py" 227), (.int 8 0), (.int 0 0), (.int 0 0), (.int 0 0), (.int 0 0), (.ref 41), (.bool Bool.false), (.int 181 0), (.ref 42), .none, .none, .none, .none, (.int 228 0), (.int 8 0), (.str "/claim/cut.py" 229)])) (List.toArray []))
def ob38 (P : Params) : Obj := (Obj.mk (.type "frame") none .plain (List.toArray [(some (.ref 43)), (some (.ref 3)), (some (.ref 40)), none, (some (.str "snobol.values" 187)), none, (some (.ref 0))]))
def ob39 (P : Params) : Obj := (Obj.mk (.type "tuple") none (.seq (List.toArray []) 0) (List.toArray []))
def ob40 (P : Params) : Obj := (Obj.mk .none none (.fields (List.toArray [])) (List.toArray []))
def ob41 (P : Params) : Obj := (Obj.mk (.type "tuple") none (.seq (List.toArray [(.str "self" 238), (.str "node" 239)]) 0) (List.toArray []))
def ob42 (P : Params) : Obj := (Obj.mk (.type "tuple") none (.seq (List.toArray []) 0) (List.toArray []))
def ob43 (P : Params) : Obj := (Obj.mk .none none (.func (FuncData.mk "__init__" "Pattern.__init__" (fnb 2 1).1 (fnb 2 1).2.1 (fnb 2 1).2.2 0 [] .none .none .none .none none .none .none 0)) (List.toArray []))
def ob44 (P : Params) : Obj := (Obj.mk (.type "code") none (.fields (List.toArray [(.str "__init__" 235), (.str "Pattern.__init__" 236), (.str "/claim/cut.py" 237), (.int 10 0), (.int 2 0), (.int 0 0), (.int 0 0), (.int 3 0), (.ref 45), (.bool Bool.true), (.int 181 0), (.ref 46), .none, (.ref 47), (.ref 48), (.ref 49), (.int 240 0), (.int 10 0), (.str "/claim/cut.py" 241)])) (List.toArray []))
def ob45 (P : Params) : Obj := (Obj.mk (.type "function") none (.func (FuncData.mk "__init__" "Pattern.__init__" (fnb 2 1).1 (fnb 2 1).2.1 (fnb 2 1).2.2 3 [] .none .none .none (.str "snobol.values" 187) none (.ref 50) .none 0)) (List.toArray []))
def ob46 (P : Params) : Obj := (Obj.mk (.type "tuple") none (.seq (List.toArray [(.str "node" 243)]) 0) (List.toArray []))
def ob47 (P : Params) : Obj := (Obj.mk (.type "dict") none (.dict (List.toArray [(DictEntry.mk (PyData.keyHash P "__module__") (.str "__module__" 230) (.str "snobol.values" 187)), (DictEntry.mk (PyData.keyHash P "__firstlineno__") (.str "__firstlineno__" 234) (.int 8 233)), (DictEntry.mk (PyData.keyHash P "__init__") (.str "__init__" 242) (.ref 51)), (DictEntry.mk (PyData.keyHash P "__static_attributes__") (.str "__static_attributes__" 244) (.ref 52)), (DictEntry.mk (PyData.keyHash P "__dict__") (.str "__dict__" 246) (.ref 55)), (DictEntry.mk (PyData.keyHash P "__weakref__") (.str "__weakref__" 248) (.ref 56)), (DictEntry.mk (PyData.keyHash P "__doc__") (.str "__doc__" 249) .none)]) 4) (List.toArray []))
def ob48 (P : Params) : Obj := (Obj.mk (.type "type") none (.cls (ClassData.mk "Pattern" [(.type "object")] [(.ref 54), (.type "object")] 53 "Pattern" Bool.true [] [] Bool.false none Bool.false)) (List.toArray [none, none, (some (.str "Pattern" 223)), (some (.str "Pattern" 231)), (some (.builtin "object.__new__")), (some (.bool Bool.true))]))
def ob49 (P : Params) : Obj := (Obj.mk (.type "getset_descriptor") none (.fields (List.toArray [(.str "__dict__" 245), (.ref 54), (.builtin "function.__dict__"), (.builtin "function.__dict__#set")])) (List.toArray []))
def ob50 (P : Params) : Obj := (Obj.mk (.type "getset_descriptor") none (.fields (List.toArray [(.str "__weakref__" 247), (.ref 54), (.builtin "ExceptionGroup.__weakref__"), .none])) (List.toArray []))
def ob51 (P : Params) : Obj := (Obj.mk (.type "super") none (.fields (List.toArray [(.ref 54), (.ref 54), (.ref 54)])) (List.toArray []))
def ob52 (P : Params) : Obj := (Obj.mk (.type "builtin_function_or_method") none (.fields (List.toArray [(.builtin "object.__init_subclass__"), (.ref 54)])) (List.toArray []))
def trB2 (P : Params) : BT := (.node (boot_o_0 P) (.node (boot_o_1 P) (.node (ob30 P) (.node (boot_o_7 P) (.node (ob7 P) (.node (ob23 P) .nil .nil) (.node (ob41 P) .nil .nil)) (.node (ob15 P) (.node (ob33 P) .nil .nil) (.node (ob49 P) .nil .nil))) (.node (ob0 P) (.node (ob11 P) (.node (ob27 P) .nil .nil) (.node (ob45 P) .nil .nil)) (.node (ob19 P) (.node (ob37 P) .nil .nil) .nil))) (.node (boot_o_5 P) (.node (boot_o_9 P) (.node (ob9 P) (.node (ob25 P) .nil .nil) (.node (ob43 P) .nil .nil)) (.node (ob17 P) (.node (ob35 P) .nil .nil) (.node (ob51 P) .nil .nil))) (.node (ob2 P) (.node (ob13 P) (.node (ob29 P) .nil .nil) (.node (ob47 P) .nil .nil)) (.node (ob21 P) (.node (ob39 P) .nil .nil) .nil)))) (.node (ob4 P) (.node (boot_o_4 P) (.node (boot_o_8 P) (.node (ob8 P) (.node (ob24 P) .nil .nil) (.node (ob42 P) .nil .nil)) (.node (ob16 P) (.node (ob34 P) .nil .nil) (.node (ob50 P) .nil .nil))) (.node (ob31 P) (.node (ob12 P) (.node (ob28 P) .nil .nil) (.node (ob46 P) .nil .nil)) (.node (ob20 P) (.node (ob38 P) .nil .nil) .nil))) (.node (boot_o_6 P) (.node (boot_o_10 P) (.node (ob10 P) (.node (ob26 P) .nil .nil) (.node (ob44 P) .nil .nil)) (.node (ob18 P) (.node (ob36 P) .nil .nil) (.node (ob52 P) .nil .nil))) (.node (ob3 P) (.node (ob14 P) (.node (ob32 P) .nil .nil) (.node (ob48 P) .nil .nil)) (.node (ob22 P) (.node (ob40 P) .nil .nil) .nil)))))
def stB2 (w : World) (os : OsState) : SharedT := ⟨trB2 w.params, 59, (Life.mk [] [] [] 0 [] [] Bool.false (List.toArray []) [] 0 Bool.false Bool.false Bool.false 0 [2000, 10, 10] Bool.false 0 Bool.true [] [] 0 Bool.false), #[], (Drawn.mk 0 0 0 0), 252, os⟩
theorem pc1 (w : World) (os : OsState) : segRun treeTable PW w 11 annP 1 223 (stB1 w os).abs (piecesOf ((bodyP.drop 2).take 1) envP cdP (Pos.mk 2 0 7 24) fr0) = some (.next, (stB2 w os).abs, cdP, (Pos.mk 8 0 11 24)) := twSegT (by kernel_rfl)
def ob53 (P : Params) : Obj := (Obj.mk (.type "dict") none (.dict (List.toArray [(DictEntry.mk (PyData.keyHash P "__name__") (.str "__name__" 165) (.str "snobol.values" 187)), (DictEntry.mk (PyData.keyHash P "__doc__") (.str "__doc__" 166) .none), (DictEntry.mk (PyData.keyHash P "__package__") (.str "__package__" 167) .none), (DictEntry.mk (PyData.keyHash P "__loader__") (.str "__loader__" 168) (.builtin "__main__.__loader__#opaque")), (DictEntry.mk (PyData.keyHash P "__spec__") (.str "__spec__" 169) .none), (DictEntry.mk (PyData.keyHash P "__annotations__") (.str "__annotations__" 170) (.ref 6)), (DictEntry.mk (PyData.keyHash P "__builtins__") (.str "__builtins__" 171) (.ref 4)), (DictEntry.mk (PyData.keyHash P "__file__") (.str "__file__" 173) (.str "/claim/cut.py" 172)), (DictEntry.mk (PyData.keyHash P "__cached__") (.str "__cached__" 174) .none), (DictEntry.mk (PyData.keyHash P "SnobolError") (.str "SnobolError" 222) (.ref 34)), (DictEntry.mk (PyData.keyHash P "Pattern") (.str "Pattern" 251) (.ref 54)), (DictEntry.mk (PyData.keyHash P "Delayed") (.str "Delayed" 280) (.ref 75))]) 12) (List.toArray []))
def ob54 (P : Params) : Obj := (Obj.mk .none none (.fields (List.toArray [(.int 2 0), (.int 0 0), (.ref 21), (.int 8 0), (.int 0 0), (.ref 43), (.int 12 0), (.int 0 0), (.ref 64)])) (List.toArray []))
def ob55 (P : Params) : Obj := (Obj.mk (.type "tuple") none (.seq (List.toArray []) 0) (List.toArray []))
def ob56 (P : Params) : Obj := (Obj.mk (.type "builtin_function_or_method") none (.fields (List.toArray [(.builtin "type.__prepare__"), (.type "type")])) (List.toArray []))
def ob57 (P : Params) : Obj := (Obj.mk (.type "dict") none (.dict (List.toArray [(DictEntry.mk (PyData.keyHash P "__module__") (.str "__module__" 259) (.str "snobol.values" 187)), (DictEntry.mk (PyData.keyHash P "__qualname__") (.str "__qualname__" 261) (.str "Delayed" 260)), (DictEntry.mk (PyData.keyHash P "__firstlineno__") (.str "__firstlineno__" 263) (.int 12 262)), (DictEntry.mk (PyData.keyHash P "__init__") (.str "__init__" 271) (.ref 72)), (DictEntry.mk (PyData.keyHash P "__static_attributes__") (.str "__static_attributes__" 273) (.ref 73))]) 5) (List.toArray []))
def ob58 (P : Params) : Obj := (Obj.mk (.type "tuple") none (.seq (List.toArray []) 0) (List.toArray []))
def ob59 (P : Params) : Obj := (Obj.mk .none none (.fields (List.toArray [(.int 14 0), (.int 4 0), (.ref 71)])) (List.toArray []))
def ob60 (P : Params) : Obj := (Obj.mk (.type "code") none (.fields (List.toArray [(.str "Delayed" 254), (.str "Delayed" 255), (.str "/claim/cut.py" 256), (.int 12 0), (.int 0 0), (.int 0 0), (.int 0 0), (.int 0 0), (.ref 62), (.bool Bool.false), (.int 181 0), (.ref 63), .none, .none, .none, .none, (.int 257 0), (.int 12 0), (.str "/claim/cut.py" 258)])) (List.toArray []))
def ob61 (P : Params) : Obj := (Obj.mk (.type "frame") none .plain (List.toArray [(some (.ref 64)), (some (.ref 3)), (some (.ref 61)), none, (some (.str "snobol.values" 187)), none, (some (.ref 0))]))
def ob62 (P : Params) : Obj := (Obj.mk (.type "tuple") none (.seq (List.toArray []) 0) (List.toArray []))
def ob63 (P : Params) : Obj := (Obj.mk .none none (.fields (List.toArray [])) (List.toArray []))
def ob64 (P : Params) : Obj := (Obj.mk (.type "tuple") none (.seq (List.toArray [(.str "self" 267), (.str "tree" 268)]) 0) (List.toArray []))
def ob65 (P : Params) : Obj := (Obj.mk (.type "tuple") none (.seq (List.toArray []) 0) (List.toArray []))
def ob66 (P : Params) : Obj := (Obj.mk .none none (.func (FuncData.mk "__init__" "Delayed.__init__" (fnb 3 1).1 (fnb 3 1).2.1 (fnb 3 1).2.2 0 [] .none .none .none .none none .none .none 0)) (List.toArray []))
def ob67 (P : Params) : Obj := (Obj.mk (.type "code") none (.fields (List.toArray [(.str "__init__" 264), (.str "Delayed.__init__" 265), (.str "/claim/cut.py" 266), (.int 14 0), (.int 2 0), (.int 0 0), (.int 0 0), (.int 3 0), (.ref 66), (.bool Bool.true), (.int 181 0), (.ref 67), .none, (.ref 68), (.ref 69), (.ref 70), (.int 269 0), (.int 14 0), (.str "/claim/cut.py" 270)])) (List.toArray []))
def ob68 (P : Params) : Obj := (Obj.mk (.type "function") none (.func (FuncData.mk "__init__" "Delayed.__init__" (fnb 3 1).1 (fnb 3 1).2.1 (fnb 3 1).2.2 3 [] .none .none .none (.str "snobol.values" 187) none (.ref 71) .none 0)) (List.toArray []))
def ob69 (P : Params) : Obj := (Obj.mk (.type "tuple") none (.seq (List.toArray [(.str "tree" 272)]) 0) (List.toArray []))
def ob70 (P : Params) : Obj := (Obj.mk (.type "dict") none (.dict (List.toArray [(DictEntry.mk (PyData.keyHash P "__module__") (.str "__module__" 259) (.str "snobol.values" 187)), (DictEntry.mk (PyData.keyHash P "__firstlineno__") (.str "__firstlineno__" 263) (.int 12 262)), (DictEntry.mk (PyData.keyHash P "__init__") (.str "__init__" 271) (.ref 72)), (DictEntry.mk (PyData.keyHash P "__static_attributes__") (.str "__static_attributes__" 273) (.ref 73)), (DictEntry.mk (PyData.keyHash P "__dict__") (.str "__dict__" 275) (.ref 76)), (DictEntry.mk (PyData.keyHash P "__weakref__") (.str "__weakref__" 277) (.ref 77)), (DictEntry.mk (PyData.keyHash P "__doc__") (.str "__doc__" 278) .none)]) 4) (List.toArray []))
def ob71 (P : Params) : Obj := (Obj.mk (.type "type") none (.cls (ClassData.mk "Delayed" [(.type "object")] [(.ref 75), (.type "object")] 74 "Delayed" Bool.true [] [] Bool.false none Bool.false)) (List.toArray [none, none, (some (.str "Delayed" 252)), (some (.str "Delayed" 260)), (some (.builtin "object.__new__")), (some (.bool Bool.true))]))
def ob72 (P : Params) : Obj := (Obj.mk (.type "getset_descriptor") none (.fields (List.toArray [(.str "__dict__" 274), (.ref 75), (.builtin "function.__dict__"), (.builtin "function.__dict__#set")])) (List.toArray []))
def ob73 (P : Params) : Obj := (Obj.mk (.type "getset_descriptor") none (.fields (List.toArray [(.str "__weakref__" 276), (.ref 75), (.builtin "ExceptionGroup.__weakref__"), .none])) (List.toArray []))
def ob74 (P : Params) : Obj := (Obj.mk (.type "super") none (.fields (List.toArray [(.ref 75), (.ref 75), (.ref 75)])) (List.toArray []))
def ob75 (P : Params) : Obj := (Obj.mk (.type "builtin_function_or_method") none (.fields (List.toArray [(.builtin "object.__init_subclass__"), (.ref 75)])) (List.toArray []))
def trB3 (P : Params) : BT := (.node (boot_o_0 P) (.node (boot_o_1 P) (.node (ob53 P) (.node (boot_o_7 P) (.node (ob7 P) (.node (ob23 P) (.node (ob59 P) .nil .nil) .nil) (.node (ob41 P) (.node (ob75 P) .nil .nil) .nil)) (.node (ob15 P) (.node (ob33 P) (.node (ob67 P) .nil .nil) .nil) (.node (ob49 P) .nil .nil))) (.node (ob0 P) (.node (ob11 P) (.node (ob27 P) (.node (ob63 P) .nil .nil) .nil) (.node (ob45 P) .nil .nil)) (.node (ob19 P) (.node (ob37 P) (.node (ob71 P) .nil .nil) .nil) (.node (ob55 P) .nil .nil)))) (.node (boot_o_5 P) (.node (boot_o_9 P) (.node (ob9 P) (.node (ob25 P) (.node (ob61 P) .nil .nil) .nil) (.node (ob43 P) .nil .nil)) (.node (ob17 P) (.node (ob35 P) (.node (ob69 P) .nil .nil) .nil) (.node (ob51 P) .nil .nil))) (.node (ob2 P) (.node (ob13 P) (.node (ob29 P) (.node (ob65 P) .nil .nil) .nil) (.node (ob47 P) .nil .nil)) (.node (ob21 P) (.node (ob39 P) (.node (ob73 P) .nil .nil) .nil) (.node (ob57 P) .nil .nil))))) (.node (ob4 P) (.node (boot_o_4 P) (.node (boot_o_8 P) (.node (ob8 P) (.node (ob24 P) (.node (ob60 P) .nil .nil) .nil) (.node (ob42 P) .nil .nil)) (.node (ob16 P) (.node (ob34 P) (.node (ob68 P) .nil .nil) .nil) (.node (ob50 P) .nil .nil))) (.node (ob54 P) (.node (ob12 P) (.node (ob28 P) (.node (ob64 P) .nil .nil) .nil) (.node (ob46 P) .nil .nil)) (.node (ob20 P) (.node (ob38 P) (.node (ob72 P) .nil .nil) .nil) (.node (ob56 P) .nil .nil)))) (.node (boot_o_6 P) (.node (boot_o_10 P) (.node (ob10 P) (.node (ob26 P) (.node (ob62 P) .nil .nil) .nil) (.node (ob44 P) .nil .nil)) (.node (ob18 P) (.node (ob36 P) (.node (ob70 P) .nil .nil) .nil) (.node (ob52 P) .nil .nil))) (.node (ob3 P) (.node (ob14 P) (.node (ob32 P) (.node (ob66 P) .nil .nil) .nil) (.node (ob48 P) .nil .nil)) (.node (ob22 P) (.node (ob40 P) (.node (ob74 P) .nil .nil) .nil) (.node (ob58 P) .nil .nil))))))
def stB3 (w : World) (os : OsState) : SharedT := ⟨trB3 w.params, 80, (Life.mk [] [] [] 0 [] [] Bool.false (List.toArray []) [] 0 Bool.false Bool.false Bool.false 0 [2000, 10, 10] Bool.false 0 Bool.true [] [] 0 Bool.false), #[], (Drawn.mk 0 0 0 0), 281, os⟩
theorem pc2 (w : World) (os : OsState) : segRun treeTable PW w 11 annP 1 223 (stB2 w os).abs (piecesOf ((bodyP.drop 3).take 1) envP cdP (Pos.mk 8 0 11 24) fr0) = some (.next, (stB3 w os).abs, cdP, (Pos.mk 12 0 15 24)) := twSegT (by kernel_rfl)
def ob76 (P : Params) : Obj := (Obj.mk (.type "dict") none (.dict (List.toArray [(DictEntry.mk (PyData.keyHash P "__name__") (.str "__name__" 165) (.str "snobol.values" 187)), (DictEntry.mk (PyData.keyHash P "__doc__") (.str "__doc__" 166) .none), (DictEntry.mk (PyData.keyHash P "__package__") (.str "__package__" 167) .none), (DictEntry.mk (PyData.keyHash P "__loader__") (.str "__loader__" 168) (.builtin "__main__.__loader__#opaque")), (DictEntry.mk (PyData.keyHash P "__spec__") (.str "__spec__" 169) .none), (DictEntry.mk (PyData.keyHash P "__annotations__") (.str "__annotations__" 170) (.ref 6)), (DictEntry.mk (PyData.keyHash P "__builtins__") (.str "__builtins__" 171) (.ref 4)), (DictEntry.mk (PyData.keyHash P "__file__") (.str "__file__" 173) (.str "/claim/cut.py" 172)), (DictEntry.mk (PyData.keyHash P "__cached__") (.str "__cached__" 174) .none), (DictEntry.mk (PyData.keyHash P "SnobolError") (.str "SnobolError" 222) (.ref 34)), (DictEntry.mk (PyData.keyHash P "Pattern") (.str "Pattern" 251) (.ref 54)), (DictEntry.mk (PyData.keyHash P "Delayed") (.str "Delayed" 280) (.ref 75)), (DictEntry.mk (PyData.keyHash P "Code") (.str "Code" 309) (.ref 96))]) 13) (List.toArray []))
def ob77 (P : Params) : Obj := (Obj.mk .none none (.fields (List.toArray [(.int 2 0), (.int 0 0), (.ref 21), (.int 8 0), (.int 0 0), (.ref 43), (.int 12 0), (.int 0 0), (.ref 64), (.int 16 0), (.int 0 0), (.ref 85)])) (List.toArray []))
def ob78 (P : Params) : Obj := (Obj.mk (.type "tuple") none (.seq (List.toArray []) 0) (List.toArray []))
def ob79 (P : Params) : Obj := (Obj.mk (.type "builtin_function_or_method") none (.fields (List.toArray [(.builtin "type.__prepare__"), (.type "type")])) (List.toArray []))
def ob80 (P : Params) : Obj := (Obj.mk (.type "dict") none (.dict (List.toArray [(DictEntry.mk (PyData.keyHash P "__module__") (.str "__module__" 288) (.str "snobol.values" 187)), (DictEntry.mk (PyData.keyHash P "__qualname__") (.str "__qualname__" 290) (.str "Code" 289)), (DictEntry.mk (PyData.keyHash P "__firstlineno__") (.str "__firstlineno__" 292) (.int 16 291)), (DictEntry.mk (PyData.keyHash P "__init__") (.str "__init__" 300) (.ref 93)), (DictEntry.mk (PyData.keyHash P "__static_attributes__") (.str "__static_attributes__" 302) (.ref 94))]) 5) (List.toArray []))
def ob81 (P : Params) : Obj := (Obj.mk (.type "tuple") none (.seq (List.toArray []) 0) (List.toArray []))
def ob82 (P : Params) : Obj := (Obj.mk .none none (.fields (List.toArray [(.int 18 0), (.int 4 0), (.ref 92)])) (List.toArray []))
def ob83 (P : Params) : Obj := (Obj.mk (.type "code") none (.fields (List.toArray [(.str "Code" 283), (.str "Code" 284), (.str "/claim/cut.py" 285), (.int 16 0), (.int 0 0), (.int 0 0), (.int 0 0), (.int 0 0), (.ref 83), (.bool Bool.false), (.int 181 0), (.ref 84), .none, .none, .none, .none, (.int 286 0), (.int 16 0), (.str "/claim/cut.py" 287)])) (List.toArray []))
def ob84 (P : Params) : Obj := (Obj.mk (.type "frame") none .plain (List.toArray [(some (.ref 85)), (some (.ref 3)), (some (.ref 82)), none, (some (.str "snobol.values" 187)), none, (some (.ref 0))]))
def ob85 (P : Params) : Obj := (Obj.mk (.type "tuple") none (.seq (List.toArray []) 0) (List.toArray []))
def ob86 (P : Params) : Obj := (Obj.mk .none none (.fields (List.toArray [])) (List.toArray []))
def ob87 (P : Params) : Obj := (Obj.mk (.type "tuple") none (.seq (List.toArray [(.str "self" 296), (.str "begin" 297)]) 0) (List.toArray []))
def ob88 (P : Params) : Obj := (Obj.mk (.type "tuple") none (.seq (List.toArray []) 0) (List.toArray []))
def ob89 (P : Params) : Obj := (Obj.mk .none none (.func (FuncData.mk "__init__" "Code.__init__" (fnb 4 1).1 (fnb 4 1).2.1 (fnb 4 1).2.2 0 [] .none .none .none .none none .none .none 0)) (List.toArray []))
def ob90 (P : Params) : Obj := (Obj.mk (.type "code") none (.fields (List.toArray [(.str "__init__" 293), (.str "Code.__init__" 294), (.str "/claim/cut.py" 295), (.int 18 0), (.int 2 0), (.int 0 0), (.int 0 0), (.int 3 0), (.ref 87), (.bool Bool.true), (.int 181 0), (.ref 88), .none, (.ref 89), (.ref 90), (.ref 91), (.int 298 0), (.int 18 0), (.str "/claim/cut.py" 299)])) (List.toArray []))
def ob91 (P : Params) : Obj := (Obj.mk (.type "function") none (.func (FuncData.mk "__init__" "Code.__init__" (fnb 4 1).1 (fnb 4 1).2.1 (fnb 4 1).2.2 3 [] .none .none .none (.str "snobol.values" 187) none (.ref 92) .none 0)) (List.toArray []))
def ob92 (P : Params) : Obj := (Obj.mk (.type "tuple") none (.seq (List.toArray [(.str "begin" 301)]) 0) (List.toArray []))
def ob93 (P : Params) : Obj := (Obj.mk (.type "dict") none (.dict (List.toArray [(DictEntry.mk (PyData.keyHash P "__module__") (.str "__module__" 288) (.str "snobol.values" 187)), (DictEntry.mk (PyData.keyHash P "__firstlineno__") (.str "__firstlineno__" 292) (.int 16 291)), (DictEntry.mk (PyData.keyHash P "__init__") (.str "__init__" 300) (.ref 93)), (DictEntry.mk (PyData.keyHash P "__static_attributes__") (.str "__static_attributes__" 302) (.ref 94)), (DictEntry.mk (PyData.keyHash P "__dict__") (.str "__dict__" 304) (.ref 97)), (DictEntry.mk (PyData.keyHash P "__weakref__") (.str "__weakref__" 306) (.ref 98)), (DictEntry.mk (PyData.keyHash P "__doc__") (.str "__doc__" 307) .none)]) 4) (List.toArray []))
def ob94 (P : Params) : Obj := (Obj.mk (.type "type") none (.cls (ClassData.mk "Code" [(.type "object")] [(.ref 96), (.type "object")] 95 "Code" Bool.true [] [] Bool.false none Bool.false)) (List.toArray [none, none, (some (.str "Code" 281)), (some (.str "Code" 289)), (some (.builtin "object.__new__")), (some (.bool Bool.true))]))
def ob95 (P : Params) : Obj := (Obj.mk (.type "getset_descriptor") none (.fields (List.toArray [(.str "__dict__" 303), (.ref 96), (.builtin "function.__dict__"), (.builtin "function.__dict__#set")])) (List.toArray []))
def ob96 (P : Params) : Obj := (Obj.mk (.type "getset_descriptor") none (.fields (List.toArray [(.str "__weakref__" 305), (.ref 96), (.builtin "ExceptionGroup.__weakref__"), .none])) (List.toArray []))
def ob97 (P : Params) : Obj := (Obj.mk (.type "super") none (.fields (List.toArray [(.ref 96), (.ref 96), (.ref 96)])) (List.toArray []))
def ob98 (P : Params) : Obj := (Obj.mk (.type "builtin_function_or_method") none (.fields (List.toArray [(.builtin "object.__init_subclass__"), (.ref 96)])) (List.toArray []))
def trB4 (P : Params) : BT := (.node (boot_o_0 P) (.node (boot_o_1 P) (.node (ob76 P) (.node (boot_o_7 P) (.node (ob7 P) (.node (ob23 P) (.node (ob59 P) .nil .nil) (.node (ob93 P) .nil .nil)) (.node (ob41 P) (.node (ob75 P) .nil .nil) .nil)) (.node (ob15 P) (.node (ob33 P) (.node (ob67 P) .nil .nil) .nil) (.node (ob49 P) (.node (ob85 P) .nil .nil) .nil))) (.node (ob0 P) (.node (ob11 P) (.node (ob27 P) (.node (ob63 P) .nil .nil) (.node (ob97 P) .nil .nil)) (.node (ob45 P) (.node (ob81 P) .nil .nil) .nil)) (.node (ob19 P) (.node (ob37 P) (.node (ob71 P) .nil .nil) .nil) (.node (ob55 P) (.node (ob89 P) .nil .nil) .nil)))) (.node (boot_o_5 P) (.node (boot_o_9 P) (.node (ob9 P) (.node (ob25 P) (.node (ob61 P) .nil .nil) (.node (ob95 P) .nil .nil)) (.node (ob43 P) (.node (ob79 P) .nil .nil) .nil)) (.node (ob17 P) (.node (ob35 P) (.node (ob69 P) .nil .nil) .nil) (.node (ob51 P) (.node (ob87 P) .nil .nil) .nil))) (.node (ob2 P) (.node (ob13 P) (.node (ob29 P) (.node (ob65 P) .nil .nil) .nil) (.node (ob47 P) (.node (ob83 P) .nil .nil) .nil)) (.node (ob21 P) (.node (ob39 P) (.node (ob73 P) .nil .nil) .nil) (.node (ob57 P) (.node (ob91 P) .nil .nil) .nil))))) (.node (ob4 P) (.node (boot_o_4 P) (.node (boot_o_8 P) (.node (ob8 P) (.node (ob24 P) (.node (ob60 P) .nil .nil) (.node (ob94 P) .nil .nil)) (.node (ob42 P) (.node (ob78 P) .nil .nil) .nil)) (.node (ob16 P) (.node (ob34 P) (.node (ob68 P) .nil .nil) .nil) (.node (ob50 P) (.node (ob86 P) .nil .nil) .nil))) (.node (ob77 P) (.node (ob12 P) (.node (ob28 P) (.node (ob64 P) .nil .nil) (.node (ob98 P) .nil .nil)) (.node (ob46 P) (.node (ob82 P) .nil .nil) .nil)) (.node (ob20 P) (.node (ob38 P) (.node (ob72 P) .nil .nil) .nil) (.node (ob56 P) (.node (ob90 P) .nil .nil) .nil)))) (.node (boot_o_6 P) (.node (boot_o_10 P) (.node (ob10 P) (.node (ob26 P) (.node (ob62 P) .nil .nil) (.node (ob96 P) .nil .nil)) (.node (ob44 P) (.node (ob80 P) .nil .nil) .nil)) (.node (ob18 P) (.node (ob36 P) (.node (ob70 P) .nil .nil) .nil) (.node (ob52 P) (.node (ob88 P) .nil .nil) .nil))) (.node (ob3 P) (.node (ob14 P) (.node (ob32 P) (.node (ob66 P) .nil .nil) .nil) (.node (ob48 P) (.node (ob84 P) .nil .nil) .nil)) (.node (ob22 P) (.node (ob40 P) (.node (ob74 P) .nil .nil) .nil) (.node (ob58 P) (.node (ob92 P) .nil .nil) .nil))))))
def stB4 (w : World) (os : OsState) : SharedT := ⟨trB4 w.params, 101, (Life.mk [] [] [] 0 [] [] Bool.false (List.toArray []) [] 0 Bool.false Bool.false Bool.false 0 [2000, 10, 10] Bool.false 0 Bool.true [] [] 0 Bool.false), #[], (Drawn.mk 0 0 0 0), 310, os⟩
theorem pc3 (w : World) (os : OsState) : segRun treeTable PW w 11 annP 1 223 (stB3 w os).abs (piecesOf ((bodyP.drop 4).take 1) envP cdP (Pos.mk 12 0 15 24) fr0) = some (.next, (stB4 w os).abs, cdP, (Pos.mk 16 0 19 26)) := twSegT (by kernel_rfl)
def ob99 (P : Params) : Obj := (Obj.mk (.type "dict") none (.dict (List.toArray [(DictEntry.mk (PyData.keyHash P "__name__") (.str "__name__" 165) (.str "snobol.values" 187)), (DictEntry.mk (PyData.keyHash P "__doc__") (.str "__doc__" 166) .none), (DictEntry.mk (PyData.keyHash P "__package__") (.str "__package__" 167) .none), (DictEntry.mk (PyData.keyHash P "__loader__") (.str "__loader__" 168) (.builtin "__main__.__loader__#opaque")), (DictEntry.mk (PyData.keyHash P "__spec__") (.str "__spec__" 169) .none), (DictEntry.mk (PyData.keyHash P "__annotations__") (.str "__annotations__" 170) (.ref 6)), (DictEntry.mk (PyData.keyHash P "__builtins__") (.str "__builtins__" 171) (.ref 4)), (DictEntry.mk (PyData.keyHash P "__file__") (.str "__file__" 173) (.str "/claim/cut.py" 172)), (DictEntry.mk (PyData.keyHash P "__cached__") (.str "__cached__" 174) .none), (DictEntry.mk (PyData.keyHash P "SnobolError") (.str "SnobolError" 222) (.ref 34)), (DictEntry.mk (PyData.keyHash P "Pattern") (.str "Pattern" 251) (.ref 54)), (DictEntry.mk (PyData.keyHash P "Delayed") (.str "Delayed" 280) (.ref 75)), (DictEntry.mk (PyData.keyHash P "Code") (.str "Code" 309) (.ref 96)), (DictEntry.mk (PyData.keyHash P "NameRef") (.str "NameRef" 342) (.ref 117))]) 14) (List.toArray []))
def ob100 (P : Params) : Obj := (Obj.mk .none none (.fields (List.toArray [(.int 2 0), (.int 0 0), (.ref 21), (.int 8 0), (.int 0 0), (.ref 43), (.int 12 0), (.int 0 0), (.ref 64), (.int 16 0), (.int 0 0), (.ref 85), (.int 20 0), (.int 0 0), (.ref 106)])) (List.toArray []))
def ob101 (P : Params) : Obj := (Obj.mk (.type "tuple") none (.seq (List.toArray []) 0) (List.toArray []))
def ob102 (P : Params) : Obj := (Obj.mk (.type "builtin_function_or_method") none (.fields (List.toArray [(.builtin "type.__prepare__"), (.type "type")])) (List.toArray []))
def ob103 (P : Params) : Obj := (Obj.mk (.type "dict") none (.dict (List.toArray [(DictEntry.mk (PyData.keyHash P "__module__") (.str "__module__" 317) (.str "snobol.values" 187)), (DictEntry.mk (PyData.keyHash P "__qualname__") (.str "__qualname__" 319) (.str "NameRef" 318)), (DictEntry.mk (PyData.keyHash P "__firstlineno__") (.str "__firstlineno__" 321) (.int 20 320)), (DictEntry.mk (PyData.keyHash P "__init__") (.str "__init__" 331) (.ref 114)), (DictEntry.mk (PyData.keyHash P "__static_attributes__") (.str "__static_attributes__" 335) (.ref 115))]) 5) (List.toArray []))
def ob104 (P : Params) : Obj := (Obj.mk (.type "tuple") none (.seq (List.toArray []) 0) (List.toArray []))
def ob105 (P : Params) : Obj := (Obj.mk .none none (.fields (List.toArray [(.int 22 0), (.int 4 0), (.ref 113)])) (List.toArray []))
def ob106 (P : Params) : Obj := (Obj.mk (.type "code") none (.fields (List.toArray [(.str "NameRef" 312), (.str "NameRef" 313), (.str "/claim/cut.py" 314), (.int 20 0), (.int 0 0), (.int 0 0), (.int 0 0), (.int 0 0), (.ref 104), (.bool Bool.false), (.int 181 0), (.ref 105), .none, .none, .none, .none, (.int 315 0), (.int 20 0), (.str "/claim/cut.py" 316)])) (List.toArray []))
def ob107 (P : Params) : Obj := (Obj.mk (.type "frame") none .plain (List.toArray [(some (.ref 106)), (some (.ref 3)), (some (.ref 103)), none, (some (.str "snobol.values" 187)), none, (some (.ref 0))]))
def ob108 (P : Params) : Obj := (Obj.mk (.type "tuple") none (.seq (List.toArray []) 0) (List.toArray []))
def ob109 (P : Params) : Obj := (Obj.mk .none none (.fields (List.toArray [])) (List.toArray []))
def ob110 (P : Params) : Obj := (Obj.mk (.type "tuple") none (.seq (List.toArray [(.str "self" 325), (.str "kind" 326), (.str "owner" 327), (.str "key" 328)]) 0) (List.toArray []))
def ob111 (P : Params) : Obj := (Obj.mk (.type "tuple") none (.seq (List.toArray []) 0) (List.toArray []))
def ob112 (P : Params) : Obj := (Obj.mk .none none (.func (FuncData.mk "__init__" "NameRef.__init__" (fnb 5 1).1 (fnb 5 1).2.1 (fnb 5 1).2.2 0 [] .none .none .none .none none .none .none 0)) (List.toArray []))
def ob113 (P : Params) : Obj := (Obj.mk (.type "code") none (.fields (List.toArray [(.str "__init__" 322), (.str "NameRef.__init__" 323), (.str "/claim/cut.py" 324), (.int 22 0), (.int 4 0), (.int 0 0), (.int 0 0), (.int 3 0), (.ref 108), (.bool Bool.true), (.int 181 0), (.ref 109), .none, (.ref 110), (.ref 111), (.ref 112), (.int 329 0), (.int 22 0), (.str "/claim/cut.py" 330)])) (List.toArray []))
def ob114 (P : Params) : Obj := (Obj.mk (.type "function") none (.func (FuncData.mk "__init__" "NameRef.__init__" (fnb 5 1).1 (fnb 5 1).2.1 (fnb 5 1).2.2 3 [] .none .none .none (.str "snobol.values" 187) none (.ref 113) .none 0)) (List.toArray []))
def ob115 (P : Params) : Obj := (Obj.mk (.type "tuple") none (.seq (List.toArray [(.str "key" 332), (.str "kind" 333), (.str "owner" 334)]) 0) (List.toArray []))
def ob116 (P : Params) : Obj := (Obj.mk (.type "dict") none (.dict (List.toArray [(DictEntry.mk (PyData.keyHash P "__module__") (.str "__module__" 317) (.str "snobol.values" 187)), (DictEntry.mk (PyData.keyHash P "__firstlineno__") (.str "__firstlineno__" 321) (.int 20 320)), (DictEntry.mk (PyData.keyHash P "__init__") (.str "__init__" 331) (.ref 114)), (DictEntry.mk (PyData.keyHash P "__static_attributes__") (.str "__static_attributes__" 335) (.ref 115)), (DictEntry.mk (PyData.keyHash P "__dict__") (.str "__dict__" 337) (.ref 118)), (DictEntry.mk (PyData.keyHash P "__weakref__") (.str "__weakref__" 339) (.ref 119)), (DictEntry.mk (PyData.keyHash P "__doc__") (.str "__doc__" 340) .none)]) 4) (List.toArray []))
def ob117 (P : Params) : Obj := (Obj.mk (.type "type") none (.cls (ClassData.mk "NameRef" [(.type "object")] [(.ref 117), (.type "object")] 116 "NameRef" Bool.true [] [] Bool.false none Bool.false)) (List.toArray [none, none, (some (.str "NameRef" 310)), (some (.str "NameRef" 318)), (some (.builtin "object.__new__")), (some (.bool Bool.true))]))
def ob118 (P : Params) : Obj := (Obj.mk (.type "getset_descriptor") none (.fields (List.toArray [(.str "__dict__" 336), (.ref 117), (.builtin "function.__dict__"), (.builtin "function.__dict__#set")])) (List.toArray []))
def ob119 (P : Params) : Obj := (Obj.mk (.type "getset_descriptor") none (.fields (List.toArray [(.str "__weakref__" 338), (.ref 117), (.builtin "ExceptionGroup.__weakref__"), .none])) (List.toArray []))
def ob120 (P : Params) : Obj := (Obj.mk (.type "super") none (.fields (List.toArray [(.ref 117), (.ref 117), (.ref 117)])) (List.toArray []))
def ob121 (P : Params) : Obj := (Obj.mk (.type "builtin_function_or_method") none (.fields (List.toArray [(.builtin "object.__init_subclass__"), (.ref 117)])) (List.toArray []))
def trB5 (P : Params) : BT := (.node (boot_o_0 P) (.node (boot_o_1 P) (.node (ob99 P) (.node (boot_o_7 P) (.node (ob7 P) (.node (ob23 P) (.node (ob59 P) .nil .nil) (.node (ob93 P) .nil .nil)) (.node (ob41 P) (.node (ob75 P) .nil .nil) (.node (ob111 P) .nil .nil))) (.node (ob15 P) (.node (ob33 P) (.node (ob67 P) .nil .nil) (.node (ob103 P) .nil .nil)) (.node (ob49 P) (.node (ob85 P) .nil .nil) (.node (ob119 P) .nil .nil)))) (.node (ob0 P) (.node (ob11 P) (.node (ob27 P) (.node (ob63 P) .nil .nil) (.node (ob97 P) .nil .nil)) (.node (ob45 P) (.node (ob81 P) .nil .nil) (.node (ob115 P) .nil .nil))) (.node (ob19 P) (.node (ob37 P) (.node (ob71 P) .nil .nil) (.node (ob107 P) .nil .nil)) (.node (ob55 P) (.node (ob89 P) .nil .nil) .nil)))) (.node (boot_o_5 P) (.node (boot_o_9 P) (.node (ob9 P) (.node (ob25 P) (.node (ob61 P) .nil .nil) (.node (ob95 P) .nil .nil)) (.node (ob43 P) (.node (ob79 P) .nil .nil) (.node (ob113 P) .nil .nil))) (.node (ob17 P) (.node (ob35 P) (.node (ob69 P) .nil .nil) (.node (ob105 P) .nil .nil)) (.node (ob51 P) (.node (ob87 P) .nil .nil) (.node (ob121 P) .nil .nil)))) (.node (ob2 P) (.node (ob13 P) (.node (ob29 P) (.node (ob65 P) .nil .nil) (.node (ob101 P) .nil .nil)) (.node (ob47 P) (.node (ob83 P) .nil .nil) (.node (ob117 P) .nil .nil))) (.node (ob21 P) (.node (ob39 P) (.node (ob73 P) .nil .nil) (.node (ob109 P) .nil .nil)) (.node (ob57 P) (.node (ob91 P) .nil .nil) .nil))))) (.node (ob4 P) (.node (boot_o_4 P) (.node (boot_o_8 P) (.node (ob8 P) (.node (ob24 P) (.node (ob60 P) .nil .nil) (.node (ob94 P) .nil .nil)) (.node (ob42 P) (.node (ob78 P) .nil .nil) (.node (ob112 P) .nil .nil))) (.node (ob16 P) (.node (ob34 P) (.node (ob68 P) .nil .nil) (.node (ob104 P) .nil .nil)) (.node (ob50 P) (.node (ob86 P) .nil .nil) (.node (ob120 P) .nil .nil)))) (.node (ob100 P) (.node (ob12 P) (.node (ob28 P) (.node (ob64 P) .nil .nil) (.node (ob98 P) .nil .nil)) (.node (ob46 P) (.node (ob82 P) .nil .nil) (.node (ob116 P) .nil .nil))) (.node (ob20 P) (.node (ob38 P) (.node (ob72 P) .nil .nil) (.node (ob108 P) .nil .nil)) (.node (ob56 P) (.node (ob90 P) .nil .nil) .nil)))) (.node (boot_o_6 P) (.node (boot_o_10 P) (.node (ob10 P) (.node (ob26 P) (.node (ob62 P) .nil .nil) (.node (ob96 P) .nil .nil)) (.node (ob44 P) (.node (ob80 P) .nil .nil) (.node (ob114 P) .nil .nil))) (.node (ob18 P) (.node (ob36 P) (.node (ob70 P) .nil .nil) (.node (ob106 P) .nil .nil)) (.node (ob52 P) (.node (ob88 P) .nil .nil) .nil))) (.node (ob3 P) (.node (ob14 P) (.node (ob32 P) (.node (ob66 P) .nil .nil) (.node (ob102 P) .nil .nil)) (.node (ob48 P) (.node (ob84 P) .nil .nil) (.node (ob118 P) .nil .nil))) (.node (ob22 P) (.node (ob40 P) (.node (ob74 P) .nil .nil) (.node (ob110 P) .nil .nil)) (.node (ob58 P) (.node (ob92 P) .nil .nil) .nil))))))
def stB5 (w : World) (os : OsState) : SharedT := ⟨trB5 w.params, 122, (Life.mk [] [] [] 0 [] [] Bool.false (List.toArray []) [] 0 Bool.false Bool.false Bool.false 0 [2000, 10, 10] Bool.false 0 Bool.true [] [] 0 Bool.false), #[], (Drawn.mk 0 0 0 0), 343, os⟩
theorem pc4 (w : World) (os : OsState) : segRun treeTable PW w 11 annP 1 227 (stB4 w os).abs (piecesOf ((bodyP.drop 5).take 1) envP cdP (Pos.mk 16 0 19 26) fr0) = some (.next, (stB5 w os).abs, cdP, (Pos.mk 20 0 25 22)) := twSegT (by kernel_rfl)
def ob122 (P : Params) : Obj := (Obj.mk (.type "dict") none (.dict (List.toArray [(DictEntry.mk (PyData.keyHash P "__name__") (.str "__name__" 165) (.str "snobol.values" 187)), (DictEntry.mk (PyData.keyHash P "__doc__") (.str "__doc__" 166) .none), (DictEntry.mk (PyData.keyHash P "__package__") (.str "__package__" 167) .none), (DictEntry.mk (PyData.keyHash P "__loader__") (.str "__loader__" 168) (.builtin "__main__.__loader__#opaque")), (DictEntry.mk (PyData.keyHash P "__spec__") (.str "__spec__" 169) .none), (DictEntry.mk (PyData.keyHash P "__annotations__") (.str "__annotations__" 170) (.ref 6)), (DictEntry.mk (PyData.keyHash P "__builtins__") (.str "__builtins__" 171) (.ref 4)), (DictEntry.mk (PyData.keyHash P "__file__") (.str "__file__" 173) (.str "/claim/cut.py" 172)), (DictEntry.mk (PyData.keyHash P "__cached__") (.str "__cached__" 174) .none), (DictEntry.mk (PyData.keyHash P "SnobolError") (.str "SnobolError" 222) (.ref 34)), (DictEntry.mk (PyData.keyHash P "Pattern") (.str "Pattern" 251) (.ref 54)), (DictEntry.mk (PyData.keyHash P "Delayed") (.str "Delayed" 280) (.ref 75)), (DictEntry.mk (PyData.keyHash P "Code") (.str "Code" 309) (.ref 96)), (DictEntry.mk (PyData.keyHash P "NameRef") (.str "NameRef" 342) (.ref 117)), (DictEntry.mk (PyData.keyHash P "Holder") (.str "Holder" 374) (.ref 138)), (DictEntry.mk (PyData.keyHash P "kind_of") (.str "kind_of" 381) (.ref 149)), (DictEntry.mk (PyData.keyHash P "is_plain") (.str "is_plain" 388) (.ref 156)), (DictEntry.mk (PyData.keyHash P "fits") (.str "fits" 396) (.ref 163)), (DictEntry.mk (PyData.keyHash P "whole_of_text") (.str "whole_of_text" 407) (.ref 170)), (DictEntry.mk (PyData.keyHash P "to_whole") (.str "to_whole" 415) (.ref 177))]) 20) (List.toArray []))
def ob123 (P : Params) : Obj := (Obj.mk .none none (.fields (List.toArray [(.int 2 0), (.int 0 0), (.ref 21), (.int 8 0), (.int 0 0), (.ref 43), (.int 12 0), (.int 0 0), (.ref 64), (.int 16 0), (.int 0 0), (.ref 85), (.int 20 0), (.int 0 0), (.ref 106), (.int 26 0), (.int 0 0), (.ref 127), (.int 32 0), (.int 0 0), (.ref 148), (.int 46 0), (.int 0 0), (.ref 155), (.int 48 0), (.int 0 0), (.ref 162), (.int 50 0), (.int 0 0), (.ref 169), (.int 63 0), (.int 0 0), (.ref 176)])) (List.toArray []))
def ob124 (P : Params) : Obj := (Obj.mk (.type "tuple") none (.seq (List.toArray []) 0) (List.toArray []))
def ob125 (P : Params) : Obj := (Obj.mk (.type "builtin_function_or_method") none (.fields (List.toArray [(.builtin "type.__prepare__"), (.type "type")])) (List.toArray []))
def ob126 (P : Params) : Obj := (Obj.mk (.type "dict") none (.dict (List.toArray [(DictEntry.mk (PyData.keyHash P "__module__") (.str "__module__" 350) (.str "snobol.values" 187)), (DictEntry.mk (PyData.keyHash P "__qualname__") (.str "__qualname__" 352) (.str "Holder" 351)), (DictEntry.mk (PyData.keyHash P "__firstlineno__") (.str "__firstlineno__" 354) (.int 26 353)), (DictEntry.mk (PyData.keyHash P "__init__") (.str "__init__" 363) (.ref 135)), (DictEntry.mk (PyData.keyHash P "__static_attributes__") (.str "__static_attributes__" 367) (.ref 136))]) 5) (List.toArray []))
def ob127 (P : Params) : Obj := (Obj.mk (.type "tuple") none (.seq (List.toArray []) 0) (List.toArray []))
def ob128 (P : Params) : Obj := (Obj.mk .none none (.fields (List.toArray [(.int 28 0), (.int 4 0), (.ref 134)])) (List.toArray []))
def ob129 (P : Params) : Obj := (Obj.mk (.type "code") none (.fields (List.toArray [(.str "Holder" 345), (.str "Holder" 346), (.str "/claim/cut.py" 347), (.int 26 0), (.int 0 0), (.int 0 0), (.int 0 0), (.int 0 0), (.ref 125), (.bool Bool.false), (.int 181 0), (.ref 126), .none, .none, .none, .none, (.int 348 0), (.int 26 0), (.str "/claim/cut.py" 349)])) (List.toArray []))
def ob130 (P : Params) : Obj := (Obj.mk (.type "frame") none .plain (List.toArray [(some (.ref 127)), (some (.ref 3)), (some (.ref 124)), none, (some (.str "snobol.values" 187)), none, (some (.ref 0))]))
def ob131 (P : Params) : Obj := (Obj.mk (.type "tuple") none (.seq (List.toArray []) 0) (List.toArray []))
def ob132 (P : Params) : Obj := (Obj.mk .none none (.fields (List.toArray [])) (List.toArray []))
def ob133 (P : Params) : Obj := (Obj.mk (.type "tuple") none (.seq (List.toArray [(.str "self" 358), (.str "word" 359), (.str "number" 360)]) 0) (List.toArray []))
def ob134 (P : Params) : Obj := (Obj.mk (.type "tuple") none (.seq (List.toArray []) 0) (List.toArray []))
def ob135 (P : Params) : Obj := (Obj.mk .none none (.func (FuncData.mk "__init__" "Holder.__init__" (fnb 6 1).1 (fnb 6 1).2.1 (fnb 6 1).2.2 0 [] .none .none .none .none none .none .none 0)) (List.toArray []))
def ob136 (P : Params) : Obj := (Obj.mk (.type "code") none (.fields (List.toArray [(.str "__init__" 355), (.str "Holder.__init__" 356), (.str "/claim/cut.py" 357), (.int 28 0), (.int 3 0), (.int 0 0), (.int 0 0), (.int 3 0), (.ref 129), (.bool Bool.true), (.int 181 0), (.ref 130), .none, (.ref 131), (.ref 132), (.ref 133), (.int 361 0), (.int 28 0), (.str "/claim/cut.py" 362)])) (List.toArray []))
def ob137 (P : Params) : Obj := (Obj.mk (.type "function") none (.func (FuncData.mk "__init__" "Holder.__init__" (fnb 6 1).1 (fnb 6 1).2.1 (fnb 6 1).2.2 3 [] .none .none .none (.str "snobol.values" 187) none (.ref 134) .none 0)) (List.toArray []))
def ob138 (P : Params) : Obj := (Obj.mk (.type "tuple") none (.seq (List.toArray [(.str "mark" 364), (.str "number" 365), (.str "word" 366)]) 0) (List.toArray []))
def ob139 (P : Params) : Obj := (Obj.mk (.type "dict") none (.dict (List.toArray [(DictEntry.mk (PyData.keyHash P "__module__") (.str "__module__" 350) (.str "snobol.values" 187)), (DictEntry.mk (PyData.keyHash P "__firstlineno__") (.str "__firstlineno__" 354) (.int 26 353)), (DictEntry.mk (PyData.keyHash P "__init__") (.str "__init__" 363) (.ref 135)), (DictEntry.mk (PyData.keyHash P "__static_attributes__") (.str "__static_attributes__" 367) (.ref 136)), (DictEntry.mk (PyData.keyHash P "__dict__") (.str "__dict__" 369) (.ref 139)), (DictEntry.mk (PyData.keyHash P "__weakref__") (.str "__weakref__" 371) (.ref 140)), (DictEntry.mk (PyData.keyHash P "__doc__") (.str "__doc__" 372) .none)]) 4) (List.toArray []))
def ob140 (P : Params) : Obj := (Obj.mk (.type "type") none (.cls (ClassData.mk "Holder" [(.type "object")] [(.ref 138), (.type "object")] 137 "Holder" Bool.true [] [] Bool.false none Bool.false)) (List.toArray [none, none, (some (.str "Holder" 343)), (some (.str "Holder" 351)), (some (.builtin "object.__new__")), (some (.bool Bool.true))]))
def ob141 (P : Params) : Obj := (Obj.mk (.type "getset_descriptor") none (.fields (List.toArray [(.str "__dict__" 368), (.ref 138), (.builtin "function.__dict__"), (.builtin "function.__dict__#set")])) (List.toArray []))
def ob142 (P : Params) : Obj := (Obj.mk (.type "getset_descriptor") none (.fields (List.toArray [(.str "__weakref__" 370), (.ref 138), (.builtin "ExceptionGroup.__weakref__"), .none])) (List.toArray []))
def ob143 (P : Params) : Obj := (Obj.mk (.type "super") none (.fields (List.toArray [(.ref 138), (.ref 138), (.ref 138)])) (List.toArray []))
def ob144 (P : Params) : Obj := (Obj.mk (.type "builtin_function_or_method") none (.fields (List.toArray [(.builtin "object.__init_subclass__"), (.ref 138)])) (List.toArray []))
def ob145 (P : Params) : Obj := (Obj.mk (.type "tuple") none (.seq (List.toArray []) 0) (List.toArray []))
def ob146 (P : Params) : Obj := (Obj.mk .none none (.fields (List.toArray [])) (List.toArray []))
def ob147 (P : Params) : Obj := (Obj.mk (.type "tuple") none (.seq (List.toArray [(.str "value" 378)]) 0) (List.toArray []))
def ob148 (P : Params) : Obj := (Obj.mk (.type "tuple") none (.seq (List.toArray []) 0) (List.toArray []))
def ob149 (P : Params) : Obj := (Obj.mk .none none (.func (FuncData.mk "kind_of" "kind_of" (fnb 7 0).1 (fnb 7 0).2.1 (fnb 7 0).2.2 0 [] .none .none .none .none none .none .none 0)) (List.toArray []))
def ob150 (P : Params) : Obj := (Obj.mk (.type "code") none (.fields (List.toArray [(.str "kind_of" 375), (.str "kind_of" 376), (.str "/claim/cut.py" 377), (.int 32 0), (.int 1 0), (.int 0 0), (.int 0 0), (.int 3 0), (.ref 143), (.bool Bool.true), (.int 181 0), (.ref 144), .none, (.ref 145), (.ref 146), (.ref 147), (.int 379 0), (.int 32 0), (.str "/claim/cut.py" 380)])) (List.toArray []))
def ob151 (P : Params) : Obj := (Obj.mk (.type "function") none (.func (FuncData.mk "kind_of" "kind_of" (fnb 7 0).1 (fnb 7 0).2.1 (fnb 7 0).2.2 3 [] .none .none .none (.str "snobol.values" 187) none (.ref 148) .none 0)) (List.toArray []))
def ob152 (P : Params) : Obj := (Obj.mk (.type "tuple") none (.seq (List.toArray []) 0) (List.toArray []))
def ob153 (P : Params) : Obj := (Obj.mk .none none (.fields (List.toArray [])) (List.toArray []))
def ob154 (P : Params) : Obj := (Obj.mk (.type "tuple") none (.seq (List.toArray [(.str "value" 385)]) 0) (List.toArray []))
def ob155 (P : Params) : Obj := (Obj.mk (.type "tuple") none (.seq (List.toArray []) 0) (List.toArray []))
def ob156 (P : Params) : Obj := (Obj.mk .none none (.func (FuncData.mk "is_plain" "is_plain" (fnb 8 0).1 (fnb 8 0).2.1 (fnb 8 0).2.2 0 [] .none .none .none .none none .none .none 0)) (List.toArray []))
def ob157 (P : Params) : Obj := (Obj.mk (.type "code") none (.fields (List.toArray [(.str "is_plain" 382), (.str "is_plain" 383), (.str "/claim/cut.py" 384), (.int 46 0), (.int 1 0), (.int 0 0), (.int 0 0), (.int 3 0), (.ref 150), (.bool Bool.true), (.int 181 0), (.ref 151), .none, (.ref 152), (.ref 153), (.ref 154), (.int 386 0), (.int 46 0), (.str "/claim/cut.py" 387)])) (List.toArray []))
def ob158 (P : Params) : Obj := (Obj.mk (.type "function") none (.func (FuncData.mk "is_plain" "is_plain" (fnb 8 0).1 (fnb 8 0).2.1 (fnb 8 0).2.2 3 [] .none .none .none (.str "snobol.values" 187) none (.ref 155) .none 0)) (List.toArray []))
def ob159 (P : Params) : Obj := (Obj.mk (.type "tuple") none (.seq (List.toArray []) 0) (List.toArray []))
def ob160 (P : Params) : Obj := (Obj.mk .none none (.fields (List.toArray [])) (List.toArray []))
def ob161 (P : Params) : Obj := (Obj.mk (.type "tuple") none (.seq (List.toArray [(.str "number" 392), (.str "width" 393)]) 0) (List.toArray []))
def ob162 (P : Params) : Obj := (Obj.mk (.type "tuple") none (.seq (List.toArray []) 0) (List.toArray []))
def ob163 (P : Params) : Obj := (Obj.mk .none none (.func (FuncData.mk "fits" "fits" (fnb 9 0).1 (fnb 9 0).2.1 (fnb 9 0).2.2 0 [] .none .none .none .none none .none .none 0)) (List.toArray []))
def ob164 (P : Params) : Obj := (Obj.mk (.type "code") none (.fields (List.toArray [(.str "fits" 389), (.str "fits" 390), (.str "/claim/cut.py" 391), (.int 48 0), (.int 2 0), (.int 0 0), (.int 0 0), (.int 3 0), (.ref 157), (.bool Bool.true), (.int 181 0), (.ref 158), .none, (.ref 159), (.ref 160), (.ref 161), (.int 394 0), (.int 48 0), (.str "/claim/cut.py" 395)])) (List.toArray []))
def ob165 (P : Params) : Obj := (Obj.mk (.type "function") none (.func (FuncData.mk "fits" "fits" (fnb 9 0).1 (fnb 9 0).2.1 (fnb 9 0).2.2 3 [] .none .none .none (.str "snobol.values" 187) none (.ref 162) .none 0)) (List.toArray []))
def ob166 (P : Params) : Obj := (Obj.mk (.type "tuple") none (.seq (List.toArray []) 0) (List.toArray []))
def ob167 (P : Params) : Obj := (Obj.mk .none none (.fields (List.toArray [])) (List.toArray []))
def ob168 (P : Params) : Obj := (Obj.mk (.type "tuple") none (.seq (List.toArray [(.str "text" 400), (.str "width" 401), (.str "digits" 402), (.str "number" 403), (.str "sign" 404)]) 0) (List.toArray []))
def ob169 (P : Params) : Obj := (Obj.mk (.type "tuple") none (.seq (List.toArray []) 0) (List.toArray []))
def ob170 (P : Params) : Obj := (Obj.mk .none none (.func (FuncData.mk "whole_of_text" "whole_of_text" (fnb 10 0).1 (fnb 10 0).2.1 (fnb 10 0).2.2 0 [] .none .none .none .none none .none .none 0)) (List.toArray []))
def ob171 (P : Params) : Obj := (Obj.mk (.type "code") none (.fields (List.toArray [(.str "whole_of_text" 397), (.str "whole_of_text" 398), (.str "/claim/cut.py" 399), (.int 50 0), (.int 2 0), (.int 0 0), (.int 0 0), (.int 3 0), (.ref 164), (.bool Bool.true), (.int 181 0), (.ref 165), .none, (.ref 166), (.ref 167), (.ref 168), (.int 405 0), (.int 50 0), (.str "/claim/cut.py" 406)])) (List.toArray []))
def ob172 (P : Params) : Obj := (Obj.mk (.type "function") none (.func (FuncData.mk "whole_of_text" "whole_of_text" (fnb 10 0).1 (fnb 10 0).2.1 (fnb 10 0).2.2 3 [] .none .none .none (.str "snobol.values" 187) none (.ref 169) .none 0)) (List.toArray []))
def ob173 (P : Params) : Obj := (Obj.mk (.type "tuple") none (.seq (List.toArray []) 0) (List.toArray []))
def ob174 (P : Params) : Obj := (Obj.mk .none none (.fields (List.toArray [])) (List.toArray []))
def ob175 (P : Params) : Obj := (Obj.mk (.type "tuple") none (.seq (List.toArray [(.str "value" 411), (.str "width" 412)]) 0) (List.toArray []))
def ob176 (P : Params) : Obj := (Obj.mk (.type "tuple") none (.seq (List.toArray []) 0) (List.toArray []))
def ob177 (P : Params) : Obj := (Obj.mk .none none (.func (FuncData.mk "to_whole" "to_whole" (fnb 11 0).1 (fnb 11 0).2.1 (fnb 11 0).2.2 0 [] .none .none .none .none none .none .none 0)) (List.toArray []))
def ob178 (P : Params) : Obj := (Obj.mk (.type "code") none (.fields (List.toArray [(.str "to_whole" 408), (.str "to_whole" 409), (.str "/claim/cut.py" 410), (.int 63 0), (.int 2 0), (.int 0 0), (.int 0 0), (.int 3 0), (.ref 171), (.bool Bool.true), (.int 181 0), (.ref 172), .none, (.ref 173), (.ref 174), (.ref 175), (.int 413 0), (.int 63 0), (.str "/claim/cut.py" 414)])) (List.toArray []))
def ob179 (P : Params) : Obj := (Obj.mk (.type "function") none (.func (FuncData.mk "to_whole" "to_whole" (fnb 11 0).1 (fnb 11 0).2.1 (fnb 11 0).2.2 3 [] .none .none .none (.str "snobol.values" 187) none (.ref 176) .none 0)) (List.toArray []))
def trB6 (P : Params) : BT := (.node (boot_o_0 P) (.node (boot_o_1 P) (.node (ob122 P) (.node (boot_o_7 P) (.node (ob7 P) (.node (ob23 P) (.node (ob59 P) (.node (ob129 P) .nil .nil) .nil) (.node (ob93 P) (.node (ob161 P) .nil .nil) .nil)) (.node (ob41 P) (.node (ob75 P) (.node (ob145 P) .nil .nil) .nil) (.node (ob111 P) (.node (ob177 P) .nil .nil) .nil))) (.node (ob15 P) (.node (ob33 P) (.node (ob67 P) (.node (ob137 P) .nil .nil) .nil) (.node (ob103 P) (.node (ob169 P) .nil .nil) .nil)) (.node (ob49 P) (.node (ob85 P) (.node (ob153 P) .nil .nil) .nil) (.node (ob119 P) .nil .nil)))) (.node (ob0 P) (.node (ob11 P) (.node (ob27 P) (.node (ob63 P) (.node (ob133 P) .nil .nil) .nil) (.node (ob97 P) (.node (ob165 P) .nil .nil) .nil)) (.node (ob45 P) (.node (ob81 P) (.node (ob149 P) .nil .nil) .nil) (.node (ob115 P) .nil .nil))) (.node (ob19 P) (.node (ob37 P) (.node (ob71 P) (.node (ob141 P) .nil .nil) .nil) (.node (ob107 P) (.node (ob173 P) .nil .nil) .nil)) (.node (ob55 P) (.node (ob89 P) (.node (ob157 P) .nil .nil) .nil) (.node (ob125 P) .nil .nil))))) (.node (boot_o_5 P) (.node (boot_o_9 P) (.node (ob9 P) (.node (ob25 P) (.node (ob61 P) (.node (ob131 P) .nil .nil) .nil) (.node (ob95 P) (.node (ob163 P) .nil .nil) .nil)) (.node (ob43 P) (.node (ob79 P) (.node (ob147 P) .nil .nil) .nil) (.node (ob113 P) (.node (ob179 P) .nil .nil) .nil))) (.node (ob17 P) (.node (ob35 P) (.node (ob69 P) (.node (ob139 P) .nil .nil) .nil) (.node (ob105 P) (.node (ob171 P) .nil .nil) .nil)) (.node (ob51 P) (.node (ob87 P) (.node (ob155 P) .nil .nil) .nil) (.node (ob121 P) .nil .nil)))) (.node (ob2 P) (.node (ob13 P) (.node (ob29 P) (.node (ob65 P) (.node (ob135 P) .nil .nil) .nil) (.node (ob101 P) (.node (ob167 P) .nil .nil) .nil)) (.node (ob47 P) (.node (ob83 P) (.node (ob151 P) .nil .nil) .nil) (.node (ob117 P) .nil .nil))) (.node (ob21 P) (.node (ob39 P) (.node (ob73 P) (.node (ob143 P) .nil .nil) .nil) (.node (ob109 P) (.node (ob175 P) .nil .nil) .nil)) (.node (ob57 P) (.node (ob91 P) (.node (ob159 P) .nil .nil) .nil) (.node (ob127 P) .nil .nil)))))) (.node (ob4 P) (.node (boot_o_4 P) (.node (boot_o_8 P) (.node (ob8 P) (.node (ob24 P) (.node (ob60 P) (.node (ob130 P) .nil .nil) .nil) (.node (ob94 P) (.node (ob162 P) .nil .nil) .nil)) (.node (ob42 P) (.node (ob78 P) (.node (ob146 P) .nil .nil) .nil) (.node (ob112 P) (.node (ob178 P) .nil .nil) .nil))) (.node (ob16 P) (.node (ob34 P) (.node (ob68 P) (.node (ob138 P) .nil .nil) .nil) (.node (ob104 P) (.node (ob170 P) .nil .nil) .nil)) (.node (ob50 P) (.node (ob86 P) (.node (ob154 P) .nil .nil) .nil) (.node (ob120 P) .nil .nil)))) (.node (ob123 P) (.node (ob12 P) (.node (ob28 P) (.node (ob64 P) (.node (ob134 P) .nil .nil) .nil) (.node (ob98 P) (.node (ob166 P) .nil .nil) .nil)) (.node (ob46 P) (.node (ob82 P) (.node (ob150 P) .nil .nil) .nil) (.node (ob116 P) .nil .nil))) (.node (ob20 P) (.node (ob38 P) (.node (ob72 P) (.node (ob142 P) .nil .nil) .nil) (.node (ob108 P) (.node (ob174 P) .nil .nil) .nil)) (.node (ob56 P) (.node (ob90 P) (.node (ob158 P) .nil .nil) .nil) (.node (ob126 P) .nil .nil))))) (.node (boot_o_6 P) (.node (boot_o_10 P) (.node (ob10 P) (.node (ob26 P) (.node (ob62 P) (.node (ob132 P) .nil .nil) .nil) (.node (ob96 P) (.node (ob164 P) .nil .nil) .nil)) (.node (ob44 P) (.node (ob80 P) (.node (ob148 P) .nil .nil) .nil) (.node (ob114 P) .nil .nil))) (.node (ob18 P) (.node (ob36 P) (.node (ob70 P) (.node (ob140 P) .nil .nil) .nil) (.node (ob106 P) (.node (ob172 P) .nil .nil) .nil)) (.node (ob52 P) (.node (ob88 P) (.node (ob156 P) .nil .nil) .nil) (.node (ob124 P) .nil .nil)))) (.node (ob3 P) (.node (ob14 P) (.node (ob32 P) (.node (ob66 P) (.node (ob136 P) .nil .nil) .nil) (.node (ob102 P) (.node (ob168 P) .nil .nil) .nil)) (.node (ob48 P) (.node (ob84 P) (.node (ob152 P) .nil .nil) .nil) (.node (ob118 P) .nil .nil))) (.node (ob22 P) (.node (ob40 P) (.node (ob74 P) (.node (ob144 P) .nil .nil) .nil) (.node (ob110 P) (.node (ob176 P) .nil .nil) .nil)) (.node (ob58 P) (.node (ob92 P) (.node (ob160 P) .nil .nil) .nil) (.node (ob128 P) .nil .nil)))))))
def stB6 (w : World) (os : OsState) : SharedT := ⟨trB6 w.params, 178, (Life.mk [] [] [] 0 [] [] Bool.false (List.toArray []) [] 0 Bool.false Bool.false Bool.false 0 [2000, 10, 10] Bool.false 0 Bool.true [] [] 0 Bool.false), #[], (Drawn.mk 0 0 0 0), 416, os⟩
theorem pc5 (w : World) (os : OsState) : segRun treeTable PW w 11 annP 1 377 (stB5 w os).abs (piecesOf ((bodyP.drop 6).take 6) envP cdP (Pos.mk 20 0 25 22) fr0) = some (.next, (stB6 w os).abs, cdP, (Pos.mk 63 0 66 74)) := twSegT (by kernel_rfl)
def ob180 (P : Params) : Obj := (Obj.mk (.type "dict") none (.dict (List.toArray [(DictEntry.mk (PyData.keyHash P "__name__") (.str "__name__" 165) (.str "snobol.aggregates" 433)), (DictEntry.mk (PyData.keyHash P "__doc__") (.str "__doc__" 166) .none), (DictEntry.mk (PyData.keyHash P "__package__") (.str "__package__" 167) .none), (DictEntry.mk (PyData.keyHash P "__loader__") (.str "__loader__" 168) (.builtin "__main__.__loader__#opaque")), (DictEntry.mk (PyData.keyHash P "__spec__") (.str "__spec__" 169) .none), (DictEntry.mk (PyData.keyHash P "__annotations__") (.str "__annotations__" 170) (.ref 6)), (DictEntry.mk (PyData.keyHash P "__builtins__") (.str "__builtins__" 171) (.ref 4)), (DictEntry.mk (PyData.keyHash P "__file__") (.str "__file__" 173) (.str "/claim/cut.py" 172)), (DictEntry.mk (PyData.keyHash P "__cached__") (.str "__cached__" 174) .none), (DictEntry.mk (PyData.keyHash P "SnobolError") (.str "SnobolError" 222) (.ref 34)), (DictEntry.mk (PyData.keyHash P "Pattern") (.str "Pattern" 251) (.ref 54)), (DictEntry.mk (PyData.keyHash P "Delayed") (.str "Delayed" 280) (.ref 75)), (DictEntry.mk (PyData.keyHash P "Code") (.str "Code" 309) (.ref 96)), (DictEntry.mk (PyData.keyHash P "NameRef") (.str "NameRef" 342) (.ref 117)), (DictEntry.mk (PyData.keyHash P "Holder") (.str "Holder" 374) (.ref 138)), (DictEntry.mk (PyData.keyHash P "kind_of") (.str "kind_of" 381) (.ref 149)), (DictEntry.mk (PyData.keyHash P "is_plain") (.str "is_plain" 388) (.ref 156)), (DictEntry.mk (PyData.keyHash P "fits") (.str "fits" 396) (.ref 163)), (DictEntry.mk (PyData.keyHash P "whole_of_text") (.str "whole_of_text" 407) (.ref 170)), (DictEntry.mk (PyData.keyHash P "to_whole") (.str "to_whole" 415) (.ref 177)), (DictEntry.mk (PyData.keyHash P "need_whole") (.str "need_whole" 424) (.ref 184)), (DictEntry.mk (PyData.keyHash P "table_key") (.str "table_key" 432) (.ref 191)), (DictEntry.mk (PyData.keyHash P "Array") (.str "Array" 464) (.ref 208))]) 23) (List.toArray []))
def ob181 (P : Params) : Obj := (Obj.mk .none none (.fields (List.toArray [(.int 2 0), (.int 0 0), (.ref 21), (.int 8 0), (.int 0 0), (.ref 43), (.int 12 0), (.int 0 0), (.ref 64), (.int 16 0), (.int 0 0), (.ref 85), (.int 20 0), (.int 0 0), (.ref 106), (.int 26 0), (.int 0 0), (.ref 127), (.int 32 0), (.int 0 0), (.ref 148), (.int 46 0), (.int 0 0), (.ref 155), (.int 48 0), (.int 0 0), (.ref 162), (.int 50 0), (.int 0 0), (.ref 169), (.int 63 0), (.int 0 0), (.ref 176), (.int 67 0), (.int 0 0), (.ref 183), (.int 72 0), (.int 0 0), (.ref 190), (.int 82 0), (.int 0 0), (.ref 197)])) (List.toArray []))
def ob182 (P : Params) : Obj := (Obj.mk (.type "type") none (.cls (ClassData.mk "Holder" [(.type "object")] [(.ref 138), (.type "object")] 137 "Holder" Bool.true [] [(.ref 208)] Bool.false none Bool.false)) (List.toArray [none, none, (some (.str "Holder" 343)), (some (.str "Holder" 351)), (some (.builtin "object.__new__")), (some (.bool Bool.true))]))
def ob183 (P : Params) : Obj := (Obj.mk (.type "tuple") none (.seq (List.toArray []) 0) (List.toArray []))
def ob184 (P : Params) : Obj := (Obj.mk .none none (.fields (List.toArray [])) (List.toArray []))
def ob185 (P : Params) : Obj := (Obj.mk (.type "tuple") none (.seq (List.toArray [(.str "value" 419), (.str "width" 420), (.str "number" 421)]) 0) (List.toArray []))
def ob186 (P : Params) : Obj := (Obj.mk (.type "tuple") none (.seq (List.toArray []) 0) (List.toArray []))
def ob187 (P : Params) : Obj := (Obj.mk .none none (.func (FuncData.mk "need_whole" "need_whole" (fnb 12 0).1 (fnb 12 0).2.1 (fnb 12 0).2.2 0 [] .none .none .none .none none .none .none 0)) (List.toArray []))
def ob188 (P : Params) : Obj := (Obj.mk (.type "code") none (.fields (List.toArray [(.str "need_whole" 416), (.str "need_whole" 417), (.str "/claim/cut.py" 418), (.int 67 0), (.int 2 0), (.int 0 0), (.int 0 0), (.int 3 0), (.ref 178), (.bool Bool.true), (.int 181 0), (.ref 179), .none, (.ref 180), (.ref 181), (.ref 182), (.int 422 0), (.int 67 0), (.str "/claim/cut.py" 423)])) (List.toArray []))
def ob189 (P : Params) : Obj := (Obj.mk (.type "function") none (.func (FuncData.mk "need_whole" "need_whole" (fnb 12 0).1 (fnb 12 0).2.1 (fnb 12 0).2.2 3 [] .none .none .none (.str "snobol.values" 187) none (.ref 183) .none 0)) (List.toArray []))
def ob190 (P : Params) : Obj := (Obj.mk (.type "tuple") none (.seq (List.toArray []) 0) (List.toArray []))
def ob191 (P : Params) : Obj := (Obj.mk .none none (.fields (List.toArray [])) (List.toArray []))
def ob192 (P : Params) : Obj := (Obj.mk (.type "tuple") none (.seq (List.toArray [(.str "value" 428), (.str "kind" 429)]) 0) (List.toArray []))
def ob193 (P : Params) : Obj := (Obj.mk (.type "tuple") none (.seq (List.toArray []) 0) (List.toArray []))
def ob194 (P : Params) : Obj := (Obj.mk .none none (.func (FuncData.mk "table_key" "table_key" (fnb 13 0).1 (fnb 13 0).2.1 (fnb 13 0).2.2 0 [] .none .none .none .none none .none .none 0)) (List.toArray []))
def ob195 (P : Params) : Obj := (Obj.mk (.type "code") none (.fields (List.toArray [(.str "table_key" 425), (.str "table_key" 426), (.str "/claim/cut.py" 427), (.int 72 0), (.int 1 0), (.int 0 0), (.int 0 0), (.int 3 0), (.ref 185), (.bool Bool.true), (.int 181 0), (.ref 186), .none, (.ref 187), (.ref 188), (.ref 189), (.int 430 0), (.int 72 0), (.str "/claim/cut.py" 431)])) (List.toArray []))
def ob196 (P : Params) : Obj := (Obj.mk (.type "function") none (.func (FuncData.mk "table_key" "table_key" (fnb 13 0).1 (fnb 13 0).2.1 (fnb 13 0).2.2 3 [] .none .none .none (.str "snobol.values" 187) none (.ref 190) .none 0)) (List.toArray []))
def ob197 (P : Params) : Obj := (Obj.mk (.type "tuple") none (.seq (List.toArray [(.ref 138)]) 0) (List.toArray []))
def ob198 (P : Params) : Obj := (Obj.mk (.type "builtin_function_or_method") none (.fields (List.toArray [(.builtin "type.__prepare__"), (.type "type")])) (List.toArray []))
def ob199 (P : Params) : Obj := (Obj.mk (.type "dict") none (.dict (List.toArray [(DictEntry.mk (PyData.keyHash P "__module__") (.str "__module__" 442) (.str "snobol.aggregates" 433)), (DictEntry.mk (PyData.keyHash P "__qualname__") (.str "__qualname__" 444) (.str "Array" 443)), (DictEntry.mk (PyData.keyHash P "__firstlineno__") (.str "__firstlineno__" 446) (.int 82 445)), (DictEntry.mk (PyData.keyHash P "__init__") (.str "__init__" 457) (.ref 205)), (DictEntry.mk (PyData.keyHash P "__static_attributes__") (.str "__static_attributes__" 461) (.ref 206))]) 5) (List.toArray []))
def ob200 (P : Params) : Obj := (Obj.mk (.type "tuple") none (.seq (List.toArray []) 0) (List.toArray []))
def ob201 (P : Params) : Obj := (Obj.mk .none none (.fields (List.toArray [(.int 84 0), (.int 4 0), (.ref 204)])) (List.toArray []))
def ob202 (P : Params) : Obj := (Obj.mk (.type "code") none (.fields (List.toArray [(.str "Array" 437), (.str "Array" 438), (.str "/claim/cut.py" 439), (.int 82 0), (.int 0 0), (.int 0 0), (.int 0 0), (.int 0 0), (.ref 195), (.bool Bool.false), (.int 181 0), (.ref 196), .none, .none, .none, .none, (.int 440 0), (.int 82 0), (.str "/claim/cut.py" 441)])) (List.toArray []))
def ob203 (P : Params) : Obj := (Obj.mk (.type "frame") none .plain (List.toArray [(some (.ref 197)), (some (.ref 3)), (some (.ref 194)), none, (some (.str "snobol.aggregates" 433)), none, (some (.ref 0))]))
def ob204 (P : Params) : Obj := (Obj.mk (.type "tuple") none (.seq (List.toArray []) 0) (List.toArray []))
def ob205 (P : Params) : Obj := (Obj.mk .none none (.fields (List.toArray [])) (List.toArray []))
def ob206 (P : Params) : Obj := (Obj.mk (.type "tuple") none (.seq (List.toArray [(.str "self" 450), (.str "number" 451), (.str "told" 452), (.str "bounds" 453), (.str "value" 454)]) 0) (List.toArray []))
def ob207 (P : Params) : Obj := (Obj.mk (.type "tuple") none (.seq (List.toArray []) 0) (List.toArray []))
def ob208 (P : Params) : Obj := (Obj.mk .none none (.func (FuncData.mk "__init__" "Array.__init__" (fnb 15 1).1 (fnb 15 1).2.1 (fnb 15 1).2.2 0 [] .none .none .none .none none .none .none 0)) (List.toArray []))
def ob209 (P : Params) : Obj := (Obj.mk (.type "code") none (.fields (List.toArray [(.str "__init__" 447), (.str "Array.__init__" 448), (.str "/claim/cut.py" 449), (.int 84 0), (.int 5 0), (.int 0 0), (.int 0 0), (.int 3 0), (.ref 199), (.bool Bool.true), (.int 181 0), (.ref 200), .none, (.ref 201), (.ref 202), (.ref 203), (.int 455 0), (.int 84 0), (.str "/claim/cut.py" 456)])) (List.toArray []))
def ob210 (P : Params) : Obj := (Obj.mk (.type "function") none (.func (FuncData.mk "__init__" "Array.__init__" (fnb 15 1).1 (fnb 15 1).2.1 (fnb 15 1).2.2 3 [] .none .none .none (.str "snobol.aggregates" 433) none (.ref 204) .none 0)) (List.toArray []))
def ob211 (P : Params) : Obj := (Obj.mk (.type "tuple") none (.seq (List.toArray [(.str "bounds" 458), (.str "items" 459), (.str "told" 460)]) 0) (List.toArray []))
def ob212 (P : Params) : Obj := (Obj.mk (.type "dict") none (.dict (List.toArray [(DictEntry.mk (PyData.keyHash P "__module__") (.str "__module__" 442) (.str "snobol.aggregates" 433)), (DictEntry.mk (PyData.keyHash P "__firstlineno__") (.str "__firstlineno__" 446) (.int 82 445)), (DictEntry.mk (PyData.keyHash P "__init__") (.str "__init__" 457) (.ref 205)), (DictEntry.mk (PyData.keyHash P "__static_attributes__") (.str "__static_attributes__" 461) (.ref 206)), (DictEntry.mk (PyData.keyHash P "__doc__") (.str "__doc__" 462) .none)]) 2) (List.toArray []))
def ob213 (P : Params) : Obj := (Obj.mk (.type "type") none (.cls (ClassData.mk "Array" [(.ref 138)] [(.ref 208), (.ref 138), (.type "object")] 207 "Array" Bool.true [] [] Bool.false none Bool.false)) (List.toArray [(some (.ref 192)), none, (some (.str "Array" 435)), (some (.str "Array" 443)), (some (.builtin "object.__new__")), (some (.bool Bool.true))]))
def ob214 (P : Params) : Obj := (Obj.mk (.type "super") none (.fields (List.toArray [(.ref 208), (.ref 208), (.ref 208)])) (List.toArray []))
def ob215 (P : Params) : Obj := (Obj.mk (.type "builtin_function_or_method") none (.fields (List.toArray [(.builtin "object.__init_subclass__"), (.ref 208)])) (List.toArray []))
def trB7 (P : Params) : BT := (.node (boot_o_0 P) (.node (boot_o_1 P) (.node (ob180 P) (.node (boot_o_7 P) (.node (ob7 P) (.node (ob23 P) (.node (ob59 P) (.node (ob129 P) .nil .nil) (.node (ob196 P) .nil .nil)) (.node (ob93 P) (.node (ob161 P) .nil .nil) .nil)) (.node (ob41 P) (.node (ob75 P) (.node (ob145 P) .nil .nil) (.node (ob212 P) .nil .nil)) (.node (ob111 P) (.node (ob177 P) .nil .nil) .nil))) (.node (ob15 P) (.node (ob33 P) (.node (ob67 P) (.node (ob137 P) .nil .nil) (.node (ob204 P) .nil .nil)) (.node (ob103 P) (.node (ob169 P) .nil .nil) .nil)) (.node (ob49 P) (.node (ob85 P) (.node (ob153 P) .nil .nil) .nil) (.node (ob119 P) (.node (ob188 P) .nil .nil) .nil)))) (.node (ob0 P) (.node (ob11 P) (.node (ob27 P) (.node (ob63 P) (.node (ob133 P) .nil .nil) (.node (ob200 P) .nil .nil)) (.node (ob97 P) (.node (ob165 P) .nil .nil) .nil)) (.node (ob45 P) (.node (ob81 P) (.node (ob149 P) .nil .nil) .nil) (.node (ob115 P) (.node (ob184 P) .nil .nil) .nil))) (.node (ob19 P) (.node (ob37 P) (.node (ob71 P) (.node (ob141 P) .nil .nil) (.node (ob208 P) .nil .nil)) (.node (ob107 P) (.node (ob173 P) .nil .nil) .nil)) (.node (ob55 P) (.node (ob89 P) (.node (ob157 P) .nil .nil) .nil) (.node (ob125 P) (.node (ob192 P) .nil .nil) .nil))))) (.node (boot_o_5 P) (.node (boot_o_9 P) (.node (ob9 P) (.node (ob25 P) (.node (ob61 P) (.node (ob131 P) .nil .nil) (.node (ob198 P) .nil .nil)) (.node (ob95 P) (.node (ob163 P) .nil .nil) .nil)) (.node (ob43 P) (.node (ob79 P) (.node (ob147 P) .nil .nil) (.node (ob214 P) .nil .nil)) (.node (ob113 P) (.node (ob179 P) .nil .nil) .nil))) (.node (ob17 P) (.node (ob35 P) (.node (ob69 P) (.node (ob139 P) .nil .nil) (.node (ob206 P) .nil .nil)) (.node (ob105 P) (.node (ob171 P) .nil .nil) .nil)) (.node (ob51 P) (.node (ob87 P) (.node (ob155 P) .nil .nil) .nil) (.node (ob121 P) (.node (ob190 P) .nil .nil) .nil)))) (.node (ob2 P) (.node (ob13 P) (.node (ob29 P) (.node (ob65 P) (.node (ob135 P) .nil .nil) (.node (ob202 P) .nil .nil)) (.node (ob101 P) (.node (ob167 P) .nil .nil) .nil)) (.node (ob47 P) (.node (ob83 P) (.node (ob151 P) .nil .nil) .nil) (.node (ob117 P) (.node (ob186 P) .nil .nil) .nil))) (.node (ob21 P) (.node (ob39 P) (.node (ob73 P) (.node (ob143 P) .nil .nil) (.node (ob210 P) .nil .nil)) (.node (ob109 P) (.node (ob175 P) .nil .nil) .nil)) (.node (ob57 P) (.node (ob91 P) (.node (ob159 P) .nil .nil) .nil) (.node (ob127 P) (.node (ob194 P) .nil .nil) .nil)))))) (.node (ob4 P) (.node (boot_o_4 P) (.node (boot_o_8 P) (.node (ob8 P) (.node (ob24 P) (.node (ob60 P) (.node (ob130 P) .nil .nil) (.node (ob197 P) .nil .nil)) (.node (ob94 P) (.node (ob162 P) .nil .nil) .nil)) (.node (ob42 P) (.node (ob78 P) (.node (ob146 P) .nil .nil) (.node (ob213 P) .nil .nil)) (.node (ob112 P) (.node (ob178 P) .nil .nil) .nil))) (.node (ob16 P) (.node (ob34 P) (.node (ob68 P) (.node (ob138 P) .nil .nil) (.node (ob205 P) .nil .nil)) (.node (ob104 P) (.node (ob170 P) .nil .nil) .nil)) (.node (ob50 P) (.node (ob86 P) (.node (ob154 P) .nil .nil) .nil) (.node (ob120 P) (.node (ob189 P) .nil .nil) .nil)))) (.node (ob181 P) (.node (ob12 P) (.node (ob28 P) (.node (ob64 P) (.node (ob134 P) .nil .nil) (.node (ob201 P) .nil .nil)) (.node (ob98 P) (.node (ob166 P) .nil .nil) .nil)) (.node (ob46 P) (.node (ob82 P) (.node (ob150 P) .nil .nil) .nil) (.node (ob116 P) (.node (ob185 P) .nil .nil) .nil))) (.node (ob20 P) (.node (ob38 P) (.node (ob72 P) (.node (ob142 P) .nil .nil) (.node (ob209 P) .nil .nil)) (.node (ob108 P) (.node (ob174 P) .nil .nil) .nil)) (.node (ob56 P) (.node (ob90 P) (.node (ob158 P) .nil .nil) .nil) (.node (ob126 P) (.node (ob193 P) .nil .nil) .nil))))) (.node (boot_o_6 P) (.node (boot_o_10 P) (.node (ob10 P) (.node (ob26 P) (.node (ob62 P) (.node (ob132 P) .nil .nil) (.node (ob199 P) .nil .nil)) (.node (ob96 P) (.node (ob164 P) .nil .nil) .nil)) (.node (ob44 P) (.node (ob80 P) (.node (ob148 P) .nil .nil) (.node (ob215 P) .nil .nil)) (.node (ob114 P) (.node (ob183 P) .nil .nil) .nil))) (.node (ob18 P) (.node (ob36 P) (.node (ob70 P) (.node (ob182 P) .nil .nil) (.node (ob207 P) .nil .nil)) (.node (ob106 P) (.node (ob172 P) .nil .nil) .nil)) (.node (ob52 P) (.node (ob88 P) (.node (ob156 P) .nil .nil) .nil) (.node (ob124 P) (.node (ob191 P) .nil .nil) .nil)))) (.node (ob3 P) (.node (ob14 P) (.node (ob32 P) (.node (ob66 P) (.node (ob136 P) .nil .nil) (.node (ob203 P) .nil .nil)) (.node (ob102 P) (.node (ob168 P) .nil .nil) .nil)) (.node (ob48 P) (.node (ob84 P) (.node (ob152 P) .nil .nil) .nil) (.node (ob118 P) (.node (ob187 P) .nil .nil) .nil))) (.node (ob22 P) (.node (ob40 P) (.node (ob74 P) (.node (ob144 P) .nil .nil) (.node (ob211 P) .nil .nil)) (.node (ob110 P) (.node (ob176 P) .nil .nil) .nil)) (.node (ob58 P) (.node (ob92 P) (.node (ob160 P) .nil .nil) .nil) (.node (ob128 P) (.node (ob195 P) .nil .nil) .nil)))))))
def stB7 (w : World) (os : OsState) : SharedT := ⟨trB7 w.params, 211, (Life.mk [] [] [] 0 [] [] Bool.false (List.toArray []) [] 0 Bool.false Bool.false Bool.false 0 [2000, 10, 10] Bool.false 0 Bool.true [] [] 0 Bool.false), #[], (Drawn.mk 0 0 0 0), 465, os⟩
theorem pc6 (w : World) (os : OsState) : segRun treeTable PW w 11 annP 1 321 (stB6 w os).abs (piecesOf ((bodyP.drop 12).take 4) envP cdP (Pos.mk 63 0 66 74) fr0) = some (.next, (stB7 w os).abs, cdP, (Pos.mk 82 0 88 53)) := twSegT (by kernel_rfl)
def ob216 (P : Params) : Obj := (Obj.mk (.type "dict") none (.dict (List.toArray [(DictEntry.mk (PyData.keyHash P "__name__") (.str "__name__" 165) (.str "snobol.aggregates" 433)), (DictEntry.mk (PyData.keyHash P "__doc__") (.str "__doc__" 166) .none), (DictEntry.mk (PyData.keyHash P "__package__") (.str "__package__" 167) .none), (DictEntry.mk (PyData.keyHash P "__loader__") (.str "__loader__" 168) (.builtin "__main__.__loader__#opaque")), (DictEntry.mk (PyData.keyHash P "__spec__") (.str "__spec__" 169) .none), (DictEntry.mk (PyData.keyHash P "__annotations__") (.str "__annotations__" 170) (.ref 6)), (DictEntry.mk (PyData.keyHash P "__builtins__") (.str "__builtins__" 171) (.ref 4)), (DictEntry.mk (PyData.keyHash P "__file__") (.str "__file__" 173) (.str "/claim/cut.py" 172)), (DictEntry.mk (PyData.keyHash P "__cached__") (.str "__cached__" 174) .none), (DictEntry.mk (PyData.keyHash P "SnobolError") (.str "SnobolError" 222) (.ref 34)), (DictEntry.mk (PyData.keyHash P "Pattern") (.str "Pattern" 251) (.ref 54)), (DictEntry.mk (PyData.keyHash P "Delayed") (.str "Delayed" 280) (.ref 75)), (DictEntry.mk (PyData.keyHash P "Code") (.str "Code" 309) (.ref 96)), (DictEntry.mk (PyData.keyHash P "NameRef") (.str "NameRef" 342) (.ref 117)), (DictEntry.mk (PyData.keyHash P "Holder") (.str "Holder" 374) (.ref 138)), (DictEntry.mk (PyData.keyHash P "kind_of") (.str "kind_of" 381) (.ref 149)), (DictEntry.mk (PyData.keyHash P "is_plain") (.str "is_plain" 388) (.ref 156)), (DictEntry.mk (PyData.keyHash P "fits") (.str "fits" 396) (.ref 163)), (DictEntry.mk (PyData.keyHash P "whole_of_text") (.str "whole_of_text" 407) (.ref 170)), (DictEntry.mk (PyData.keyHash P "to_whole") (.str "to_whole" 415) (.ref 177)), (DictEntry.mk (PyData.keyHash P "need_whole") (.str "need_whole" 424) (.ref 184)), (DictEntry.mk (PyData.keyHash P "table_key") (.str "table_key" 432) (.ref 191)), (DictEntry.mk (PyData.keyHash P "Array") (.str "Array" 464) (.ref 208)), (DictEntry.mk (PyData.keyHash P "Table") (.str "Table" 491) (.ref 227)), (DictEntry.mk (PyData.keyHash P "size_of_bounds") (.str "size_of_bounds" 501) (.ref 236)), (DictEntry.mk (PyData.keyHash P "array_place") (.str "array_place" 513) (.ref 243)), (DictEntry.mk (PyData.keyHash P "table_entry") (.str "table_entry" 522) (.ref 250)), (DictEntry.mk (PyData.keyHash P "put_entry") (.str "put_entry" 531) (.ref 257))]) 28) (List.toArray []))
def ob217 (P : Params) : Obj := (Obj.mk .none none (.fields (List.toArray [(.int 2 0), (.int 0 0), (.ref 21), (.int 8 0), (.int 0 0), (.ref 43), (.int 12 0), (.int 0 0), (.ref 64), (.int 16 0), (.int 0 0), (.ref 85), (.int 20 0), (.int 0 0), (.ref 106), (.int 26 0), (.int 0 0), (.ref 127), (.int 32 0), (.int 0 0), (.ref 148), (.int 46 0), (.int 0 0), (.ref 155), (.int 48 0), (.int 0 0), (.ref 162), (.int 50 0), (.int 0 0), (.ref 169), (.int 63 0), (.int 0 0), (.ref 176), (.int 67 0), (.int 0 0), (.ref 183), (.int 72 0), (.int 0 0), (.ref 190), (.int 82 0), (.int 0 0), (.ref 197), (.int 89 0), (.int 0 0), (.ref 216), (.int 96 0), (.int 0 0), (.ref 235), (.int 101 0), (.int 0 0), (.ref 242), (.int 110 0), (.int 0 0), (.ref 249), (.int 115 0), (.int 0 0), (.ref 256)])) (List.toArray []))
def ob218 (P : Params) : Obj := (Obj.mk (.type "type") none (.cls (ClassData.mk "Holder" [(.type "object")] [(.ref 138), (.type "object")] 137 "Holder" Bool.true [] [(.ref 208), (.ref 227)] Bool.false none Bool.false)) (List.toArray [none, none, (some (.str "Holder" 343)), (some (.str "Holder" 351)), (some (.builtin "object.__new__")), (some (.bool Bool.true))]))
def ob219 (P : Params) : Obj := (Obj.mk (.type "tuple") none (.seq (List.toArray [(.ref 138)]) 0) (List.toArray []))
def ob220 (P : Params) : Obj := (Obj.mk (.type "builtin_function_or_method") none (.fields (List.toArray [(.builtin "type.__prepare__"), (.type "type")])) (List.toArray []))
def ob221 (P : Params) : Obj := (Obj.mk (.type "dict") none (.dict (List.toArray [(DictEntry.mk (PyData.keyHash P "__module__") (.str "__module__" 472) (.str "snobol.aggregates" 433)), (DictEntry.mk (PyData.keyHash P "__qualname__") (.str "__qualname__" 474) (.str "Table" 473)), (DictEntry.mk (PyData.keyHash P "__firstlineno__") (.str "__firstlineno__" 476) (.int 89 475)), (DictEntry.mk (PyData.keyHash P "__init__") (.str "__init__" 484) (.ref 224)), (DictEntry.mk (PyData.keyHash P "__static_attributes__") (.str "__static_attributes__" 488) (.ref 225))]) 5) (List.toArray []))
def ob222 (P : Params) : Obj := (Obj.mk (.type "tuple") none (.seq (List.toArray []) 0) (List.toArray []))
def ob223 (P : Params) : Obj := (Obj.mk .none none (.fields (List.toArray [(.int 91 0), (.int 4 0), (.ref 223)])) (List.toArray []))
def ob224 (P : Params) : Obj := (Obj.mk (.type "code") none (.fields (List.toArray [(.str "Table" 467), (.str "Table" 468), (.str "/claim/cut.py" 469), (.int 89 0), (.int 0 0), (.int 0 0), (.int 0 0), (.int 0 0), (.ref 214), (.bool Bool.false), (.int 181 0), (.ref 215), .none, .none, .none, .none, (.int 470 0), (.int 89 0), (.str "/claim/cut.py" 471)])) (List.toArray []))
def ob225 (P : Params) : Obj := (Obj.mk (.type "frame") none .plain (List.toArray [(some (.ref 216)), (some (.ref 3)), (some (.ref 213)), none, (some (.str "snobol.aggregates" 433)), none, (some (.ref 0))]))
def ob226 (P : Params) : Obj := (Obj.mk (.type "tuple") none (.seq (List.toArray []) 0) (List.toArray []))
def ob227 (P : Params) : Obj := (Obj.mk .none none (.fields (List.toArray [])) (List.toArray []))
def ob228 (P : Params) : Obj := (Obj.mk (.type "tuple") none (.seq (List.toArray [(.str "self" 480), (.str "number" 481)]) 0) (List.toArray []))
def ob229 (P : Params) : Obj := (Obj.mk (.type "tuple") none (.seq (List.toArray []) 0) (List.toArray []))
def ob230 (P : Params) : Obj := (Obj.mk .none none (.func (FuncData.mk "__init__" "Table.__init__" (fnb 16 1).1 (fnb 16 1).2.1 (fnb 16 1).2.2 0 [] .none .none .none .none none .none .none 0)) (List.toArray []))
def ob231 (P : Params) : Obj := (Obj.mk (.type "code") none (.fields (List.toArray [(.str "__init__" 477), (.str "Table.__init__" 478), (.str "/claim/cut.py" 479), (.int 91 0), (.int 2 0), (.int 0 0), (.int 0 0), (.int 3 0), (.ref 218), (.bool Bool.true), (.int 181 0), (.ref 219), .none, (.ref 220), (.ref 221), (.ref 222), (.int 482 0), (.int 91 0), (.str "/claim/cut.py" 483)])) (List.toArray []))
def ob232 (P : Params) : Obj := (Obj.mk (.type "function") none (.func (FuncData.mk "__init__" "Table.__init__" (fnb 16 1).1 (fnb 16 1).2.1 (fnb 16 1).2.2 3 [] .none .none .none (.str "snobol.aggregates" 433) none (.ref 223) .none 0)) (List.toArray []))
def ob233 (P : Params) : Obj := (Obj.mk (.type "tuple") none (.seq (List.toArray [(.str "entries" 485), (.str "places" 486), (.str "rows" 487)]) 0) (List.toArray []))
def ob234 (P : Params) : Obj := (Obj.mk (.type "dict") none (.dict (List.toArray [(DictEntry.mk (PyData.keyHash P "__module__") (.str "__module__" 472) (.str "snobol.aggregates" 433)), (DictEntry.mk (PyData.keyHash P "__firstlineno__") (.str "__firstlineno__" 476) (.int 89 475)), (DictEntry.mk (PyData.keyHash P "__init__") (.str "__init__" 484) (.ref 224)), (DictEntry.mk (PyData.keyHash P "__static_attributes__") (.str "__static_attributes__" 488) (.ref 225)), (DictEntry.mk (PyData.keyHash P "__doc__") (.str "__doc__" 489) .none)]) 2) (List.toArray []))
def ob235 (P : Params) : Obj := (Obj.mk (.type "type") none (.cls (ClassData.mk "Table" [(.ref 138)] [(.ref 227), (.ref 138), (.type "object")] 226 "Table" Bool.true [] [] Bool.false none Bool.false)) (List.toArray [(some (.ref 211)), none, (some (.str "Table" 465)), (some (.str "Table" 473)), (some (.builtin "object.__new__")), (some (.bool Bool.true))]))
def ob236 (P : Params) : Obj := (Obj.mk (.type "super") none (.fields (List.toArray [(.ref 227), (.ref 227), (.ref 227)])) (List.toArray []))
def ob237 (P : Params) : Obj := (Obj.mk (.type "builtin_function_or_method") none (.fields (List.toArray [(.builtin "object.__init_subclass__"), (.ref 227)])) (List.toArray []))
def ob238 (P : Params) : Obj := (Obj.mk (.type "tuple") none (.seq (List.toArray []) 0) (List.toArray []))
def ob239 (P : Params) : Obj := (Obj.mk .none none (.fields (List.toArray [])) (List.toArray []))
def ob240 (P : Params) : Obj := (Obj.mk (.type "tuple") none (.seq (List.toArray [(.str "bounds" 495), (.str "found" 496), (.str "low" 497), (.str "high" 498)]) 0) (List.toArray []))
def ob241 (P : Params) : Obj := (Obj.mk (.type "tuple") none (.seq (List.toArray []) 0) (List.toArray []))
def ob242 (P : Params) : Obj := (Obj.mk .none none (.func (FuncData.mk "size_of_bounds" "size_of_bounds" (fnb 17 0).1 (fnb 17 0).2.1 (fnb 17 0).2.2 0 [] .none .none .none .none none .none .none 0)) (List.toArray []))
def ob243 (P : Params) : Obj := (Obj.mk (.type "code") none (.fields (List.toArray [(.str "size_of_bounds" 492), (.str "size_of_bounds" 493), (.str "/claim/cut.py" 494), (.int 96 0), (.int 1 0), (.int 0 0), (.int 0 0), (.int 3 0), (.ref 230), (.bool Bool.true), (.int 181 0), (.ref 231), .none, (.ref 232), (.ref 233), (.ref 234), (.int 499 0), (.int 96 0), (.str "/claim/cut.py" 500)])) (List.toArray []))
def ob244 (P : Params) : Obj := (Obj.mk (.type "function") none (.func (FuncData.mk "size_of_bounds" "size_of_bounds" (fnb 17 0).1 (fnb 17 0).2.1 (fnb 17 0).2.2 3 [] .none .none .none (.str "snobol.aggregates" 433) none (.ref 235) .none 0)) (List.toArray []))
def ob245 (P : Params) : Obj := (Obj.mk (.type "tuple") none (.seq (List.toArray []) 0) (List.toArray []))
def ob246 (P : Params) : Obj := (Obj.mk .none none (.fields (List.toArray [])) (List.toArray []))
def ob247 (P : Params) : Obj := (Obj.mk (.type "tuple") none (.seq (List.toArray [(.str "array" 505), (.str "places" 506), (.str "found" 507), (.str "low" 508), (.str "high" 509), (.str "place" 510)]) 0) (List.toArray []))
def ob248 (P : Params) : Obj := (Obj.mk (.type "tuple") none (.seq (List.toArray []) 0) (List.toArray []))
def ob249 (P : Params) : Obj := (Obj.mk .none none (.func (FuncData.mk "array_place" "array_place" (fnb 18 0).1 (fnb 18 0).2.1 (fnb 18 0).2.2 0 [] .none .none .none .none none .none .none 0)) (List.toArray []))
def ob250 (P : Params) : Obj := (Obj.mk (.type "code") none (.fields (List.toArray [(.str "array_place" 502), (.str "array_place" 503), (.str "/claim/cut.py" 504), (.int 101 0), (.int 2 0), (.int 0 0), (.int 0 0), (.int 3 0), (.ref 237), (.bool Bool.true), (.int 181 0), (.ref 238), .none, (.ref 239), (.ref 240), (.ref 241), (.int 511 0), (.int 101 0), (.str "/claim/cut.py" 512)])) (List.toArray []))
def ob251 (P : Params) : Obj := (Obj.mk (.type "function") none (.func (FuncData.mk "array_place" "array_place" (fnb 18 0).1 (fnb 18 0).2.1 (fnb 18 0).2.2 3 [] .none .none .none (.str "snobol.aggregates" 433) none (.ref 242) .none 0)) (List.toArray []))
def ob252 (P : Params) : Obj := (Obj.mk (.type "tuple") none (.seq (List.toArray []) 0) (List.toArray []))
def ob253 (P : Params) : Obj := (Obj.mk .none none (.fields (List.toArray [])) (List.toArray []))
def ob254 (P : Params) : Obj := (Obj.mk (.type "tuple") none (.seq (List.toArray [(.str "table" 517), (.str "key" 518), (.str "mark" 519)]) 0) (List.toArray []))
def ob255 (P : Params) : Obj := (Obj.mk (.type "tuple") none (.seq (List.toArray []) 0) (List.toArray []))
def ob256 (P : Params) : Obj := (Obj.mk .none none (.func (FuncData.mk "table_entry" "table_entry" (fnb 19 0).1 (fnb 19 0).2.1 (fnb 19 0).2.2 0 [] .none .none .none .none none .none .none 0)) (List.toArray []))
def ob257 (P : Params) : Obj := (Obj.mk (.type "code") none (.fields (List.toArray [(.str "table_entry" 514), (.str "table_entry" 515), (.str "/claim/cut.py" 516), (.int 110 0), (.int 2 0), (.int 0 0), (.int 0 0), (.int 3 0), (.ref 244), (.bool Bool.true), (.int 181 0), (.ref 245), .none, (.ref 246), (.ref 247), (.ref 248), (.int 520 0), (.int 110 0), (.str "/claim/cut.py" 521)])) (List.toArray []))
def ob258 (P : Params) : Obj := (Obj.mk (.type "function") none (.func (FuncData.mk "table_entry" "table_entry" (fnb 19 0).1 (fnb 19 0).2.1 (fnb 19 0).2.2 3 [] .none .none .none (.str "snobol.aggregates" 433) none (.ref 249) .none 0)) (List.toArray []))
def ob259 (P : Params) : Obj := (Obj.mk (.type "tuple") none (.seq (List.toArray []) 0) (List.toArray []))
def ob260 (P : Params) : Obj := (Obj.mk .none none (.fields (List.toArray [])) (List.toArray []))
def ob261 (P : Params) : Obj := (Obj.mk (.type "tuple") none (.seq (List.toArray [(.str "table" 526), (.str "mark" 527), (.str "pair" 528)]) 0) (List.toArray []))
def ob262 (P : Params) : Obj := (Obj.mk (.type "tuple") none (.seq (List.toArray []) 0) (List.toArray []))
def ob263 (P : Params) : Obj := (Obj.mk .none none (.func (FuncData.mk "put_entry" "put_entry" (fnb 20 0).1 (fnb 20 0).2.1 (fnb 20 0).2.2 0 [] .none .none .none .none none .none .none 0)) (List.toArray []))
def ob264 (P : Params) : Obj := (Obj.mk (.type "code") none (.fields (List.toArray [(.str "put_entry" 523), (.str "put_entry" 524), (.str "/claim/cut.py" 525), (.int 115 0), (.int 3 0), (.int 0 0), (.int 0 0), (.int 3 0), (.ref 251), (.bool Bool.true), (.int 181 0), (.ref 252), .none, (.ref 253), (.ref 254), (.ref 255), (.int 529 0), (.int 115 0), (.str "/claim/cut.py" 530)])) (List.toArray []))
def ob265 (P : Params) : Obj := (Obj.mk (.type "function") none (.func (FuncData.mk "put_entry" "put_entry" (fnb 20 0).1 (fnb 20 0).2.1 (fnb 20 0).2.2 3 [] .none .none .none (.str "snobol.aggregates" 433) none (.ref 256) .none 0)) (List.toArray []))
def trB8 (P : Params) : BT := (.node (boot_o_0 P) (.node (boot_o_1 P) (.node (ob216 P) (.node (boot_o_7 P) (.node (ob7 P) (.node (ob23 P) (.node (ob59 P) (.node (ob129 P) (.node (ob263 P) .nil .nil) .nil) (.node (ob196 P) .nil .nil)) (.node (ob93 P) (.node (ob161 P) .nil .nil) (.node (ob231 P) .nil .nil))) (.node (ob41 P) (.node (ob75 P) (.node (ob145 P) .nil .nil) (.node (ob212 P) .nil .nil)) (.node (ob111 P) (.node (ob177 P) .nil .nil) (.node (ob247 P) .nil .nil)))) (.node (ob15 P) (.node (ob33 P) (.node (ob67 P) (.node (ob137 P) .nil .nil) (.node (ob204 P) .nil .nil)) (.node (ob103 P) (.node (ob169 P) .nil .nil) (.node (ob239 P) .nil .nil))) (.node (ob49 P) (.node (ob85 P) (.node (ob153 P) .nil .nil) (.node (ob223 P) .nil .nil)) (.node (ob119 P) (.node (ob188 P) .nil .nil) (.node (ob255 P) .nil .nil))))) (.node (ob0 P) (.node (ob11 P) (.node (ob27 P) (.node (ob63 P) (.node (ob133 P) .nil .nil) (.node (ob200 P) .nil .nil)) (.node (ob97 P) (.node (ob165 P) .nil .nil) (.node (ob235 P) .nil .nil))) (.node (ob45 P) (.node (ob81 P) (.node (ob149 P) .nil .nil) (.node (ob219 P) .nil .nil)) (.node (ob115 P) (.node (ob184 P) .nil .nil) (.node (ob251 P) .nil .nil)))) (.node (ob19 P) (.node (ob37 P) (.node (ob71 P) (.node (ob141 P) .nil .nil) (.node (ob208 P) .nil .nil)) (.node (ob107 P) (.node (ob173 P) .nil .nil) (.node (ob243 P) .nil .nil))) (.node (ob55 P) (.node (ob89 P) (.node (ob157 P) .nil .nil) (.node (ob227 P) .nil .nil)) (.node (ob125 P) (.node (ob192 P) .nil .nil) (.node (ob259 P) .nil .nil)))))) (.node (boot_o_5 P) (.node (boot_o_9 P) (.node (ob9 P) (.node (ob25 P) (.node (ob61 P) (.node (ob131 P) (.node (ob265 P) .nil .nil) .nil) (.node (ob198 P) .nil .nil)) (.node (ob95 P) (.node (ob163 P) .nil .nil) (.node (ob233 P) .nil .nil))) (.node (ob43 P) (.node (ob79 P) (.node (ob147 P) .nil .nil) (.node (ob214 P) .nil .nil)) (.node (ob113 P) (.node (ob179 P) .nil .nil) (.node (ob249 P) .nil .nil)))) (.node (ob17 P) (.node (ob35 P) (.node (ob69 P) (.node (ob139 P) .nil .nil) (.node (ob206 P) .nil .nil)) (.node (ob105 P) (.node (ob171 P) .nil .nil) (.node (ob241 P) .nil .nil))) (.node (ob51 P) (.node (ob87 P) (.node (ob155 P) .nil .nil) (.node (ob225 P) .nil .nil)) (.node (ob121 P) (.node (ob190 P) .nil .nil) (.node (ob257 P) .nil .nil))))) (.node (ob2 P) (.node (ob13 P) (.node (ob29 P) (.node (ob65 P) (.node (ob135 P) .nil .nil) (.node (ob202 P) .nil .nil)) (.node (ob101 P) (.node (ob167 P) .nil .nil) (.node (ob237 P) .nil .nil))) (.node (ob47 P) (.node (ob83 P) (.node (ob151 P) .nil .nil) (.node (ob221 P) .nil .nil)) (.node (ob117 P) (.node (ob186 P) .nil .nil) (.node (ob253 P) .nil .nil)))) (.node (ob21 P) (.node (ob39 P) (.node (ob73 P) (.node (ob143 P) .nil .nil) (.node (ob210 P) .nil .nil)) (.node (ob109 P) (.node (ob175 P) .nil .nil) (.node (ob245 P) .nil .nil))) (.node (ob57 P) (.node (ob91 P) (.node (ob159 P) .nil .nil) (.node (ob229 P) .nil .nil)) (.node (ob127 P) (.node (ob194 P) .nil .nil) (.node (ob261 P) .nil .nil))))))) (.node (ob4 P) (.node (boot_o_4 P) (.node (boot_o_8 P) (.node (ob8 P) (.node (ob24 P) (.node (ob60 P) (.node (ob130 P) (.node (ob264 P) .nil .nil) .nil) (.node (ob197 P) .nil .nil)) (.node (ob94 P) (.node (ob162 P) .nil .nil) (.node (ob232 P) .nil .nil))) (.node (ob42 P) (.node (ob78 P) (.node (ob146 P) .nil .nil) (.node (ob213 P) .nil .nil)) (.node (ob112 P) (.node (ob178 P) .nil .nil) (.node (ob248 P) .nil .nil)))) (.node (ob16 P) (.node (ob34 P) (.node (ob68 P) (.node (ob138 P) .nil .nil) (.node (ob205 P) .nil .nil)) (.node (ob104 P) (.node (ob170 P) .nil .nil) (.node (ob240 P) .nil .nil))) (.node (ob50 P) (.node (ob86 P) (.node (ob154 P) .nil .nil) (.node (ob224 P) .nil .nil)) (.node (ob120 P) (.node (ob189 P) .nil .nil) (.node (ob256 P) .nil .nil))))) (.node (ob217 P) (.node (ob12 P) (.node (ob28 P) (.node (ob64 P) (.node (ob134 P) .nil .nil) (.node (ob201 P) .nil .nil)) (.node (ob98 P) (.node (ob166 P) .nil .nil) (.node (ob236 P) .nil .nil))) (.node (ob46 P) (.node (ob82 P) (.node (ob150 P) .nil .nil) (.node (ob220 P) .nil .nil)) (.node (ob116 P) (.node (ob185 P) .nil .nil) (.node (ob252 P) .nil .nil)))) (.node (ob20 P) (.node (ob38 P) (.node (ob72 P) (.node (ob142 P) .nil .nil) (.node (ob209 P) .nil .nil)) (.node (ob108 P) (.node (ob174 P) .nil .nil) (.node (ob244 P) .nil .nil))) (.node (ob56 P) (.node (ob90 P) (.node (ob158 P) .nil .nil) (.node (ob228 P) .nil .nil)) (.node (ob126 P) (.node (ob193 P) .nil .nil) (.node (ob260 P) .nil .nil)))))) (.node (boot_o_6 P) (.node (boot_o_10 P) (.node (ob10 P) (.node (ob26 P) (.node (ob62 P) (.node (ob132 P) .nil .nil) (.node (ob199 P) .nil .nil)) (.node (ob96 P) (.node (ob164 P) .nil .nil) (.node (ob234 P) .nil .nil))) (.node (ob44 P) (.node (ob80 P) (.node (ob148 P) .nil .nil) (.node (ob215 P) .nil .nil)) (.node (ob114 P) (.node (ob183 P) .nil .nil) (.node (ob250 P) .nil .nil)))) (.node (ob18 P) (.node (ob36 P) (.node (ob70 P) (.node (ob218 P) .nil .nil) (.node (ob207 P) .nil .nil)) (.node (ob106 P) (.node (ob172 P) .nil .nil) (.node (ob242 P) .nil .nil))) (.node (ob52 P) (.node (ob88 P) (.node (ob156 P) .nil .nil) (.node (ob226 P) .nil .nil)) (.node (ob124 P) (.node (ob191 P) .nil .nil) (.node (ob258 P) .nil .nil))))) (.node (ob3 P) (.node (ob14 P) (.node (ob32 P) (.node (ob66 P) (.node (ob136 P) .nil .nil) (.node (ob203 P) .nil .nil)) (.node (ob102 P) (.node (ob168 P) .nil .nil) (.node (ob238 P) .nil .nil))) (.node (ob48 P) (.node (ob84 P) (.node (ob152 P) .nil .nil) (.node (ob222 P) .nil .nil)) (.node (ob118 P) (.node (ob187 P) .nil .nil) (.node (ob254 P) .nil .nil)))) (.node (ob22 P) (.node (ob40 P) (.node (ob74 P) (.node (ob144 P) .nil .nil) (.node (ob211 P) .nil .nil)) (.node (ob110 P) (.node (ob176 P) .nil .nil) (.node (ob246 P) .nil .nil))) (.node (ob58 P) (.node (ob92 P) (.node (ob160 P) .nil .nil) (.node (ob230 P) .nil .nil)) (.node (ob128 P) (.node (ob195 P) .nil .nil) (.node (ob262 P) .nil .nil))))))))
def stB8 (w : World) (os : OsState) : SharedT := ⟨trB8 w.params, 258, (Life.mk [] [] [] 0 [] [] Bool.false (List.toArray []) [] 0 Bool.false Bool.false Bool.false 0 [2000, 10, 10] Bool.false 0 Bool.true [] [] 0 Bool.false), #[], (Drawn.mk 0 0 0 0), 532, os⟩
theorem pc7 (w : World) (os : OsState) : segRun treeTable PW w 11 annP 1 376 (stB7 w os).abs (piecesOf ((bodyP.drop 16).take 5) envP cdP (Pos.mk 82 0 88 53) fr0) = some (.next, (stB8 w os).abs, cdP, (Pos.mk 115 0 118 27)) := twSegT (by kernel_rfl)
def ob266 (P : Params) : Obj := (Obj.mk (.type "dict") none (.dict (List.toArray [(DictEntry.mk (PyData.keyHash P "__name__") (.str "__name__" 165) (.str "law_xm0945_04" 553)), (DictEntry.mk (PyData.keyHash P "__doc__") (.str "__doc__" 166) .none), (DictEntry.mk (PyData.keyHash P "__package__") (.str "__package__" 167) .none), (DictEntry.mk (PyData.keyHash P "__loader__") (.str "__loader__" 168) (.builtin "__main__.__loader__#opaque")), (DictEntry.mk (PyData.keyHash P "__spec__") (.str "__spec__" 169) .none), (DictEntry.mk (PyData.keyHash P "__annotations__") (.str "__annotations__" 170) (.ref 6)), (DictEntry.mk (PyData.keyHash P "__builtins__") (.str "__builtins__" 171) (.ref 4)), (DictEntry.mk (PyData.keyHash P "__file__") (.str "__file__" 173) (.str "/claim/cut.py" 172)), (DictEntry.mk (PyData.keyHash P "__cached__") (.str "__cached__" 174) .none), (DictEntry.mk (PyData.keyHash P "SnobolError") (.str "SnobolError" 222) (.ref 34)), (DictEntry.mk (PyData.keyHash P "Pattern") (.str "Pattern" 251) (.ref 54)), (DictEntry.mk (PyData.keyHash P "Delayed") (.str "Delayed" 280) (.ref 75)), (DictEntry.mk (PyData.keyHash P "Code") (.str "Code" 309) (.ref 96)), (DictEntry.mk (PyData.keyHash P "NameRef") (.str "NameRef" 342) (.ref 117)), (DictEntry.mk (PyData.keyHash P "Holder") (.str "Holder" 374) (.ref 138)), (DictEntry.mk (PyData.keyHash P "kind_of") (.str "kind_of" 381) (.ref 149)), (DictEntry.mk (PyData.keyHash P "is_plain") (.str "is_plain" 388) (.ref 156)), (DictEntry.mk (PyData.keyHash P "fits") (.str "fits" 396) (.ref 163)), (DictEntry.mk (PyData.keyHash P "whole_of_text") (.str "whole_of_text" 407) (.ref 170)), (DictEntry.mk (PyData.keyHash P "to_whole") (.str "to_whole" 415) (.ref 177)), (DictEntry.mk (PyData.keyHash P "need_whole") (.str "need_whole" 424) (.ref 184)), (DictEntry.mk (PyData.keyHash P "table_key") (.str "table_key" 432) (.ref 191)), (DictEntry.mk (PyData.keyHash P "Array") (.str "Array" 464) (.ref 208)), (DictEntry.mk (PyData.keyHash P "Table") (.str "Table" 491) (.ref 227)), (DictEntry.mk (PyData.keyHash P "size_of_bounds") (.str "size_of_bounds" 501) (.ref 236)), (DictEntry.mk (PyData.keyHash P "array_place") (.str "array_place" 513) (.ref 243)), (DictEntry.mk (PyData.keyHash P "table_entry") (.str "table_entry" 522) (.ref 250)), (DictEntry.mk (PyData.keyHash P "put_entry") (.str "put_entry" 531) (.ref 257)), (DictEntry.mk (PyData.keyHash P "item_ref") (.str "item_ref" 537) (.ref 262)), (DictEntry.mk (PyData.keyHash P "slot_get") (.str "slot_get" 544) (.ref 269)), (DictEntry.mk (PyData.keyHash P "slot_set") (.str "slot_set" 552) (.ref 276)), (DictEntry.mk (PyData.keyHash P "_law_read") (.str "_law_read" 568) (.ref 283)), (DictEntry.mk (PyData.keyHash P "_law_turns") (.str "_law_turns" 580) (.ref 290)), (DictEntry.mk (PyData.keyHash P "law") (.str "law" 586) (.ref 295))]) 34) (List.toArray []))
def ob267 (P : Params) : Obj := (Obj.mk .none none (.fields (List.toArray [(.int 2 0), (.int 0 0), (.ref 21), (.int 8 0), (.int 0 0), (.ref 43), (.int 12 0), (.int 0 0), (.ref 64), (.int 16 0), (.int 0 0), (.ref 85), (.int 20 0), (.int 0 0), (.ref 106), (.int 26 0), (.int 0 0), (.ref 127), (.int 32 0), (.int 0 0), (.ref 148), (.int 46 0), (.int 0 0), (.ref 155), (.int 48 0), (.int 0 0), (.ref 162), (.int 50 0), (.int 0 0), (.ref 169), (.int 63 0), (.int 0 0), (.ref 176), (.int 67 0), (.int 0 0), (.ref 183), (.int 72 0), (.int 0 0), (.ref 190), (.int 82 0), (.int 0 0), (.ref 197), (.int 89 0), (.int 0 0), (.ref 216), (.int 96 0), (.int 0 0), (.ref 235), (.int 101 0), (.int 0 0), (.ref 242), (.int 110 0), (.int 0 0), (.ref 249), (.int 115 0), (.int 0 0), (.ref 256), (.int 119 0), (.int 0 0), (.ref 261), (.int 127 0), (.int 0 0), (.ref 268), (.int 133 0), (.int 0 0), (.ref 275), (.int 141 0), (.int 0 0), (.ref 282), (.int 149 0), (.int 0 0), (.ref 289), (.int 159 0), (.int 0 0), (.ref 294)])) (List.toArray []))
def ob268 (P : Params) : Obj := (Obj.mk (.type "tuple") none (.seq (List.toArray []) 0) (List.toArray []))
def ob269 (P : Params) : Obj := (Obj.mk .none none (.fields (List.toArray [])) (List.toArray []))
def ob270 (P : Params) : Obj := (Obj.mk .none none (.func (FuncData.mk "item_ref" "item_ref" (fnb 21 0).1 (fnb 21 0).2.1 (fnb 21 0).2.2 0 [] .none .none .none .none none .none .none 0)) (List.toArray []))
def ob271 (P : Params) : Obj := (Obj.mk (.type "code") none (.fields (List.toArray [(.str "item_ref" 532), (.str "item_ref" 533), (.str "/claim/cut.py" 534), (.int 119 0), (.int 3 0), (.int 0 0), (.int 0 0), (.int 3 0), (.ref 258), (.bool Bool.true), (.int 181 0), (.ref 259), .none, .none, .none, (.ref 260), (.int 535 0), (.int 119 0), (.str "/claim/cut.py" 536)])) (List.toArray []))
def ob272 (P : Params) : Obj := (Obj.mk (.type "function") none (.func (FuncData.mk "item_ref" "item_ref" (fnb 21 0).1 (fnb 21 0).2.1 (fnb 21 0).2.2 3 [] .none .none .none (.str "snobol.aggregates" 433) none (.ref 261) .none 0)) (List.toArray []))
def ob273 (P : Params) : Obj := (Obj.mk (.type "tuple") none (.seq (List.toArray []) 0) (List.toArray []))
def ob274 (P : Params) : Obj := (Obj.mk .none none (.fields (List.toArray [])) (List.toArray []))
def ob275 (P : Params) : Obj := (Obj.mk (.type "tuple") none (.seq (List.toArray [(.str "ref" 541)]) 0) (List.toArray []))
def ob276 (P : Params) : Obj := (Obj.mk (.type "tuple") none (.seq (List.toArray []) 0) (List.toArray []))
def ob277 (P : Params) : Obj := (Obj.mk .none none (.func (FuncData.mk "slot_get" "slot_get" (fnb 22 0).1 (fnb 22 0).2.1 (fnb 22 0).2.2 0 [] .none .none .none .none none .none .none 0)) (List.toArray []))
def ob278 (P : Params) : Obj := (Obj.mk (.type "code") none (.fields (List.toArray [(.str "slot_get" 538), (.str "slot_get" 539), (.str "/claim/cut.py" 540), (.int 127 0), (.int 1 0), (.int 0 0), (.int 0 0), (.int 3 0), (.ref 263), (.bool Bool.true), (.int 181 0), (.ref 264), .none, (.ref 265), (.ref 266), (.ref 267), (.int 542 0), (.int 127 0), (.str "/claim/cut.py" 543)])) (List.toArray []))
def ob279 (P : Params) : Obj := (Obj.mk (.type "function") none (.func (FuncData.mk "slot_get" "slot_get" (fnb 22 0).1 (fnb 22 0).2.1 (fnb 22 0).2.2 3 [] .none .none .none (.str "snobol.aggregates" 433) none (.ref 268) .none 0)) (List.toArray []))
def ob280 (P : Params) : Obj := (Obj.mk (.type "tuple") none (.seq (List.toArray []) 0) (List.toArray []))
def ob281 (P : Params) : Obj := (Obj.mk .none none (.fields (List.toArray [])) (List.toArray []))
def ob282 (P : Params) : Obj := (Obj.mk (.type "tuple") none (.seq (List.toArray [(.str "ref" 548), (.str "value" 549)]) 0) (List.toArray []))
def ob283 (P : Params) : Obj := (Obj.mk (.type "tuple") none (.seq (List.toArray []) 0) (List.toArray []))
def ob284 (P : Params) : Obj := (Obj.mk .none none (.func (FuncData.mk "slot_set" "slot_set" (fnb 23 0).1 (fnb 23 0).2.1 (fnb 23 0).2.2 0 [] .none .none .none .none none .none .none 0)) (List.toArray []))
def ob285 (P : Params) : Obj := (Obj.mk (.type "code") none (.fields (List.toArray [(.str "slot_set" 545), (.str "slot_set" 546), (.str "/claim/cut.py" 547), (.int 133 0), (.int 2 0), (.int 0 0), (.int 0 0), (.int 3 0), (.ref 270), (.bool Bool.true), (.int 181 0), (.ref 271), .none, (.ref 272), (.ref 273), (.ref 274), (.int 550 0), (.int 133 0), (.str "/claim/cut.py" 551)])) (List.toArray []))
def ob286 (P : Params) : Obj := (Obj.mk (.type "function") none (.func (FuncData.mk "slot_set" "slot_set" (fnb 23 0).1 (fnb 23 0).2.1 (fnb 23 0).2.2 3 [] .none .none .none (.str "snobol.aggregates" 433) none (.ref 275) .none 0)) (List.toArray []))
def ob287 (P : Params) : Obj := (Obj.mk (.type "tuple") none (.seq (List.toArray []) 0) (List.toArray []))
def ob288 (P : Params) : Obj := (Obj.mk .none none (.fields (List.toArray [])) (List.toArray []))
def ob289 (P : Params) : Obj := (Obj.mk (.type "tuple") none (.seq (List.toArray [(.str "table" 558), (.str "places" 559), (.str "low" 560), (.str "letters" 561), (.str "found" 562), (.str "at" 563), (.str "place" 564), (.str "ref" 565)]) 0) (List.toArray []))
def ob290 (P : Params) : Obj := (Obj.mk (.type "tuple") none (.seq (List.toArray []) 0) (List.toArray []))
def ob291 (P : Params) : Obj := (Obj.mk .none none (.func (FuncData.mk "_law_read" "_law_read" (fnb 25 0).1 (fnb 25 0).2.1 (fnb 25 0).2.2 0 [] .none .none .none .none none .none .none 0)) (List.toArray []))
def ob292 (P : Params) : Obj := (Obj.mk (.type "code") none (.fields (List.toArray [(.str "_law_read" 555), (.str "_law_read" 556), (.str "/claim/cut.py" 557), (.int 141 0), (.int 4 0), (.int 0 0), (.int 0 0), (.int 3 0), (.ref 277), (.bool Bool.true), (.int 181 0), (.ref 278), .none, (.ref 279), (.ref 280), (.ref 281), (.int 566 0), (.int 141 0), (.str "/claim/cut.py" 567)])) (List.toArray []))
def ob293 (P : Params) : Obj := (Obj.mk (.type "function") none (.func (FuncData.mk "_law_read" "_law_read" (fnb 25 0).1 (fnb 25 0).2.1 (fnb 25 0).2.2 3 [] .none .none .none (.str "law_xm0945_04" 553) none (.ref 282) .none 0)) (List.toArray []))
def ob294 (P : Params) : Obj := (Obj.mk (.type "tuple") none (.seq (List.toArray []) 0) (List.toArray []))
def ob295 (P : Params) : Obj := (Obj.mk .none none (.fields (List.toArray [])) (List.toArray []))
def ob296 (P : Params) : Obj := (Obj.mk (.type "tuple") none (.seq (List.toArray [(.str "found" 572), (.str "size" 573), (.str "many" 574), (.str "row" 575), (.str "column" 576), (.str "word" 577)]) 0) (List.toArray []))
def ob297 (P : Params) : Obj := (Obj.mk (.type "tuple") none (.seq (List.toArray []) 0) (List.toArray []))
def ob298 (P : Params) : Obj := (Obj.mk .none none (.func (FuncData.mk "_law_turns" "_law_turns" (fnb 26 0).1 (fnb 26 0).2.1 (fnb 26 0).2.2 0 [] .none .none .none .none none .none .none 0)) (List.toArray []))
def ob299 (P : Params) : Obj := (Obj.mk (.type "code") none (.fields (List.toArray [(.str "_law_turns" 569), (.str "_law_turns" 570), (.str "/claim/cut.py" 571), (.int 149 0), (.int 2 0), (.int 0 0), (.int 0 0), (.int 3 0), (.ref 284), (.bool Bool.true), (.int 181 0), (.ref 285), .none, (.ref 286), (.ref 287), (.ref 288), (.int 578 0), (.int 149 0), (.str "/claim/cut.py" 579)])) (List.toArray []))
def ob300 (P : Params) : Obj := (Obj.mk (.type "function") none (.func (FuncData.mk "_law_turns" "_law_turns" (fnb 26 0).1 (fnb 26 0).2.1 (fnb 26 0).2.2 3 [] .none .none .none (.str "law_xm0945_04" 553) none (.ref 289) .none 0)) (List.toArray []))
def ob301 (P : Params) : Obj := (Obj.mk (.type "tuple") none (.seq (List.toArray []) 0) (List.toArray []))
def ob302 (P : Params) : Obj := (Obj.mk .none none (.fields (List.toArray [])) (List.toArray []))
def ob303 (P : Params) : Obj := (Obj.mk .none none (.func (FuncData.mk "law" "law" (fnb 27 0).1 (fnb 27 0).2.1 (fnb 27 0).2.2 0 [] .none .none .none .none none .none .none 0)) (List.toArray []))
def ob304 (P : Params) : Obj := (Obj.mk (.type "code") none (.fields (List.toArray [(.str "law" 581), (.str "law" 582), (.str "/claim/cut.py" 583), (.int 159 0), (.int 1 0), (.int 0 0), (.int 0 0), (.int 3 0), (.ref 291), (.bool Bool.true), (.int 181 0), (.ref 292), .none, .none, .none, (.ref 293), (.int 584 0), (.int 159 0), (.str "/claim/cut.py" 585)])) (List.toArray []))
def ob305 (P : Params) : Obj := (Obj.mk (.type "function") none (.func (FuncData.mk "law" "law" (fnb 27 0).1 (fnb 27 0).2.1 (fnb 27 0).2.2 3 [] .none .none .none (.str "law_xm0945_04" 553) none (.ref 294) .none 0)) (List.toArray []))
def trB9 (P : Params) : BT := (.node (boot_o_0 P) (.node (boot_o_1 P) (.node (ob266 P) (.node (boot_o_7 P) (.node (ob7 P) (.node (ob23 P) (.node (ob59 P) (.node (ob129 P) (.node (ob263 P) .nil .nil) .nil) (.node (ob196 P) .nil .nil)) (.node (ob93 P) (.node (ob161 P) (.node (ob297 P) .nil .nil) .nil) (.node (ob231 P) .nil .nil))) (.node (ob41 P) (.node (ob75 P) (.node (ob145 P) (.node (ob281 P) .nil .nil) .nil) (.node (ob212 P) .nil .nil)) (.node (ob111 P) (.node (ob177 P) .nil .nil) (.node (ob247 P) .nil .nil)))) (.node (ob15 P) (.node (ob33 P) (.node (ob67 P) (.node (ob137 P) (.node (ob273 P) .nil .nil) .nil) (.node (ob204 P) .nil .nil)) (.node (ob103 P) (.node (ob169 P) (.node (ob305 P) .nil .nil) .nil) (.node (ob239 P) .nil .nil))) (.node (ob49 P) (.node (ob85 P) (.node (ob153 P) (.node (ob289 P) .nil .nil) .nil) (.node (ob223 P) .nil .nil)) (.node (ob119 P) (.node (ob188 P) .nil .nil) (.node (ob255 P) .nil .nil))))) (.node (ob0 P) (.node (ob11 P) (.node (ob27 P) (.node (ob63 P) (.node (ob133 P) (.node (ob269 P) .nil .nil) .nil) (.node (ob200 P) .nil .nil)) (.node (ob97 P) (.node (ob165 P) (.node (ob301 P) .nil .nil) .nil) (.node (ob235 P) .nil .nil))) (.node (ob45 P) (.node (ob81 P) (.node (ob149 P) (.node (ob285 P) .nil .nil) .nil) (.node (ob219 P) .nil .nil)) (.node (ob115 P) (.node (ob184 P) .nil .nil) (.node (ob251 P) .nil .nil)))) (.node (ob19 P) (.node (ob37 P) (.node (ob71 P) (.node (ob141 P) (.node (ob277 P) .nil .nil) .nil) (.node (ob208 P) .nil .nil)) (.node (ob107 P) (.node (ob173 P) .nil .nil) (.node (ob243 P) .nil .nil))) (.node (ob55 P) (.node (ob89 P) (.node (ob157 P) (.node (ob293 P) .nil .nil) .nil) (.node (ob227 P) .nil .nil)) (.node (ob125 P) (.node (ob192 P) .nil .nil) (.node (ob259 P) .nil .nil)))))) (.node (boot_o_5 P) (.node (boot_o_9 P) (.node (ob9 P) (.node (ob25 P) (.node (ob61 P) (.node (ob131 P) (.node (ob265 P) .nil .nil) .nil) (.node (ob198 P) .nil .nil)) (.node (ob95 P) (.node (ob163 P) (.node (ob299 P) .nil .nil) .nil) (.node (ob233 P) .nil .nil))) (.node (ob43 P) (.node (ob79 P) (.node (ob147 P) (.node (ob283 P) .nil .nil) .nil) (.node (ob214 P) .nil .nil)) (.node (ob113 P) (.node (ob179 P) .nil .nil) (.node (ob249 P) .nil .nil)))) (.node (ob17 P) (.node (ob35 P) (.node (ob69 P) (.node (ob139 P) (.node (ob275 P) .nil .nil) .nil) (.node (ob206 P) .nil .nil)) (.node (ob105 P) (.node (ob171 P) .nil .nil) (.node (ob241 P) .nil .nil))) (.node (ob51 P) (.node (ob87 P) (.node (ob155 P) (.node (ob291 P) .nil .nil) .nil) (.node (ob225 P) .nil .nil)) (.node (ob121 P) (.node (ob190 P) .nil .nil) (.node (ob257 P) .nil .nil))))) (.node (ob2 P) (.node (ob13 P) (.node (ob29 P) (.node (ob65 P) (.node (ob135 P) (.node (ob271 P) .nil .nil) .nil) (.node (ob202 P) .nil .nil)) (.node (ob101 P) (.node (ob167 P) (.node (ob303 P) .nil .nil) .nil) (.node (ob237 P) .nil .nil))) (.node (ob47 P) (.node (ob83 P) (.node (ob151 P) (.node (ob287 P) .nil .nil) .nil) (.node (ob221 P) .nil .nil)) (.node (ob117 P) (.node (ob186 P) .nil .nil) (.node (ob253 P) .nil .nil)))) (.node (ob21 P) (.node (ob39 P) (.node (ob73 P) (.node (ob143 P) (.node (ob279 P) .nil .nil) .nil) (.node (ob210 P) .nil .nil)) (.node (ob109 P) (.node (ob175 P) .nil .nil) (.node (ob245 P) .nil .nil))) (.node (ob57 P) (.node (ob91 P) (.node (ob159 P) (.node (ob295 P) .nil .nil) .nil) (.node (ob229 P) .nil .nil)) (.node (ob127 P) (.node (ob194 P) .nil .nil) (.node (ob261 P) .nil .nil))))))) (.node (ob4 P) (.node (boot_o_4 P) (.node (boot_o_8 P) (.node (ob8 P) (.node (ob24 P) (.node (ob60 P) (.node (ob130 P) (.node (ob264 P) .nil .nil) .nil) (.node (ob197 P) .nil .nil)) (.node (ob94 P) (.node (ob162 P) (.node (ob298 P) .nil .nil) .nil) (.node (ob232 P) .nil .nil))) (.node (ob42 P) (.node (ob78 P) (.node (ob146 P) (.node (ob282 P) .nil .nil) .nil) (.node (ob213 P) .nil .nil)) (.node (ob112 P) (.node (ob178 P) .nil .nil) (.node (ob248 P) .nil .nil)))) (.node (ob16 P) (.node (ob34 P) (.node (ob68 P) (.node (ob138 P) (.node (ob274 P) .nil .nil) .nil) (.node (ob205 P) .nil .nil)) (.node (ob104 P) (.node (ob170 P) .nil .nil) (.node (ob240 P) .nil .nil))) (.node (ob50 P) (.node (ob86 P) (.node (ob154 P) (.node (ob290 P) .nil .nil) .nil) (.node (ob224 P) .nil .nil)) (.node (ob120 P) (.node (ob189 P) .nil .nil) (.node (ob256 P) .nil .nil))))) (.node (ob267 P) (.node (ob12 P) (.node (ob28 P) (.node (ob64 P) (.node (ob134 P) (.node (ob270 P) .nil .nil) .nil) (.node (ob201 P) .nil .nil)) (.node (ob98 P) (.node (ob166 P) (.node (ob302 P) .nil .nil) .nil) (.node (ob236 P) .nil .nil))) (.node (ob46 P) (.node (ob82 P) (.node (ob150 P) (.node (ob286 P) .nil .nil) .nil) (.node (ob220 P) .nil .nil)) (.node (ob116 P) (.node (ob185 P) .nil .nil) (.node (ob252 P) .nil .nil)))) (.node (ob20 P) (.node (ob38 P) (.node (ob72 P) (.node (ob142 P) (.node (ob278 P) .nil .nil) .nil) (.node (ob209 P) .nil .nil)) (.node (ob108 P) (.node (ob174 P) .nil .nil) (.node (ob244 P) .nil .nil))) (.node (ob56 P) (.node (ob90 P) (.node (ob158 P) (.node (ob294 P) .nil .nil) .nil) (.node (ob228 P) .nil .nil)) (.node (ob126 P) (.node (ob193 P) .nil .nil) (.node (ob260 P) .nil .nil)))))) (.node (boot_o_6 P) (.node (boot_o_10 P) (.node (ob10 P) (.node (ob26 P) (.node (ob62 P) (.node (ob132 P) (.node (ob268 P) .nil .nil) .nil) (.node (ob199 P) .nil .nil)) (.node (ob96 P) (.node (ob164 P) (.node (ob300 P) .nil .nil) .nil) (.node (ob234 P) .nil .nil))) (.node (ob44 P) (.node (ob80 P) (.node (ob148 P) (.node (ob284 P) .nil .nil) .nil) (.node (ob215 P) .nil .nil)) (.node (ob114 P) (.node (ob183 P) .nil .nil) (.node (ob250 P) .nil .nil)))) (.node (ob18 P) (.node (ob36 P) (.node (ob70 P) (.node (ob218 P) (.node (ob276 P) .nil .nil) .nil) (.node (ob207 P) .nil .nil)) (.node (ob106 P) (.node (ob172 P) .nil .nil) (.node (ob242 P) .nil .nil))) (.node (ob52 P) (.node (ob88 P) (.node (ob156 P) (.node (ob292 P) .nil .nil) .nil) (.node (ob226 P) .nil .nil)) (.node (ob124 P) (.node (ob191 P) .nil .nil) (.node (ob258 P) .nil .nil))))) (.node (ob3 P) (.node (ob14 P) (.node (ob32 P) (.node (ob66 P) (.node (ob136 P) (.node (ob272 P) .nil .nil) .nil) (.node (ob203 P) .nil .nil)) (.node (ob102 P) (.node (ob168 P) (.node (ob304 P) .nil .nil) .nil) (.node (ob238 P) .nil .nil))) (.node (ob48 P) (.node (ob84 P) (.node (ob152 P) (.node (ob288 P) .nil .nil) .nil) (.node (ob222 P) .nil .nil)) (.node (ob118 P) (.node (ob187 P) .nil .nil) (.node (ob254 P) .nil .nil)))) (.node (ob22 P) (.node (ob40 P) (.node (ob74 P) (.node (ob144 P) (.node (ob280 P) .nil .nil) .nil) (.node (ob211 P) .nil .nil)) (.node (ob110 P) (.node (ob176 P) .nil .nil) (.node (ob246 P) .nil .nil))) (.node (ob58 P) (.node (ob92 P) (.node (ob160 P) (.node (ob296 P) .nil .nil) .nil) (.node (ob230 P) .nil .nil)) (.node (ob128 P) (.node (ob195 P) .nil .nil) (.node (ob262 P) .nil .nil))))))))
def stB9 (w : World) (os : OsState) : SharedT := ⟨trB9 w.params, 296, (Life.mk [] [] [] 0 [] [] Bool.false (List.toArray []) [] 0 Bool.false Bool.false Bool.false 0 [2000, 10, 10] Bool.false 0 Bool.true [] [] 0 Bool.false), #[], (Drawn.mk 0 0 0 0), 587, os⟩
theorem pc8 (w : World) (os : OsState) : segRun treeTable PW w 11 annP 1 191 (stB8 w os).abs (piecesOf ((bodyP.drop 21).take 7) envP cdP (Pos.mk 115 0 118 27) fr0) = some (.next, (stB9 w os).abs, cdP, (Pos.mk 159 0 183 15)) := twSegT (by kernel_rfl)
def hpZ (P : Params) : Heap := ⟨⟨[boot_o_0 P, boot_o_1 P, ob4 P, ob266 P, boot_o_4 P, boot_o_5 P, boot_o_6 P, boot_o_7 P, boot_o_8 P, boot_o_9 P, boot_o_10 P, ob0 P, ob267 P, ob2 P, ob3 P, ob7 P, ob8 P, ob9 P, ob10 P, ob11 P, ob12 P, ob13 P, ob14 P, ob15 P, ob16 P, ob17 P, ob18 P, ob19 P, ob20 P, ob21 P, ob22 P, ob23 P, ob24 P, ob25 P, ob26 P, ob27 P, ob28 P, ob29 P, ob32 P, ob33 P, ob34 P, ob35 P, ob36 P, ob37 P, ob38 P, ob39 P, ob40 P, ob41 P, ob42 P, ob43 P, ob44 P, ob45 P, ob46 P, ob47 P, ob48 P, ob49 P, ob50 P, ob51 P, ob52 P, ob55 P, ob56 P, ob57 P, ob58 P, ob59 P, ob60 P, ob61 P, ob62 P, ob63 P, ob64 P, ob65 P, ob66 P, ob67 P, ob68 P, ob69 P, ob70 P, ob71 P, ob72 P, ob73 P, ob74 P, ob75 P, ob78 P, ob79 P, ob80 P, ob81 P, ob82 P, ob83 P, ob84 P, ob85 P, ob86 P, ob87 P, ob88 P, ob89 P, ob90 P, ob91 P, ob92 P, ob93 P, ob94 P, ob95 P, ob96 P, ob97 P, ob98 P, ob101 P, ob102 P, ob103 P, ob104 P, ob105 P, ob106 P, ob107 P, ob108 P, ob109 P, ob110 P, ob111 P, ob112 P, ob113 P, ob114 P, ob115 P, ob116 P, ob117 P, ob118 P, ob119 P, ob120 P, ob121 P, ob124 P, ob125 P, ob126 P, ob127 P, ob128 P, ob129 P, ob130 P, ob131 P, ob132 P, ob133 P, ob134 P, ob135 P, ob136 P, ob137 P, ob138 P, ob139 P, ob218 P, ob141 P, ob142 P, ob143 P, ob144 P, ob145 P, ob146 P, ob147 P, ob148 P, ob149 P, ob150 P, ob151 P, ob152 P, ob153 P, ob154 P, ob155 P, ob156 P, ob157 P, ob158 P, ob159 P, ob160 P, ob161 P, ob162 P, ob163 P, ob164 P, ob165 P, ob166 P, ob167 P, ob168 P, ob169 P, ob170 P, ob171 P, ob172 P, ob173 P, ob174 P, ob175 P, ob176 P, ob177 P, ob178 P, ob179 P, ob183 P, ob184 P, ob185 P, ob186 P, ob187 P, ob188 P, ob189 P, ob190 P, ob191 P, ob192 P, ob193 P, ob194 P, ob195 P, ob196 P, ob197 P, ob198 P, ob199 P, ob200 P, ob201 P, ob202 P, ob203 P, ob204 P, ob205 P, ob206 P, ob207 P, ob208 P, ob209 P, ob210 P, ob211 P, ob212 P, ob213 P, ob214 P, ob215 P, ob219 P, ob220 P, ob221 P, ob222 P, ob223 P, ob224 P, ob225 P, ob226 P, ob227 P, ob228 P, ob229 P, ob230 P, ob231 P, ob232 P, ob233 P, ob234 P, ob235 P, ob236 P, ob237 P, ob238 P, ob239 P, ob240 P, ob241 P, ob242 P, ob243 P, ob244 P, ob245 P, ob246 P, ob247 P, ob248 P, ob249 P, ob250 P, ob251 P, ob252 P, ob253 P, ob254 P, ob255 P, ob256 P, ob257 P, ob258 P, ob259 P, ob260 P, ob261 P, ob262 P, ob263 P, ob264 P, ob265 P, ob268 P, ob269 P, ob270 P, ob271 P, ob272 P, ob273 P, ob274 P, ob275 P, ob276 P, ob277 P, ob278 P, ob279 P, ob280 P, ob281 P, ob282 P, ob283 P, ob284 P, ob285 P, ob286 P, ob287 P, ob288 P, ob289 P, ob290 P, ob291 P, ob292 P, ob293 P, ob294 P, ob295 P, ob296 P, ob297 P, ob298 P, ob299 P, ob300 P, ob301 P, ob302 P, ob303 P, ob304 P, ob305 P]⟩, (Life.mk [] [] [] 0 [] [] Bool.false (List.toArray []) [] 0 Bool.false Bool.false Bool.false 0 [2000, 10, 10] Bool.false 0 Bool.true [] [] 0 Bool.false)⟩
def stZ (w : World) (os : OsState) : Shared := ⟨hpZ w.params, #[], (Drawn.mk 0 0 0 0), 587, os⟩
theorem pcZ (w : World) (os : OsState) : topRun treeTable PW w 11 annP 2 (stB9 w os).abs ⟨doneF .next, cdP, (Pos.mk 159 0 183 15), fr0⟩ = some (stZ w os) := twTop (by kernel_rfl)
theorem runZ (w : World) (os : OsState) : topRun treeTable PW w 11 annP (12 + (1 + (258 + (223 + (223 + (223 + (227 + (377 + (321 + (376 + (191 + 2))))))))))) ⟨boot_heap w.params, #[], boot_drawn, boot_toks, os⟩ (topStub PW) = some (stZ w os) := go_top (pcA w os) (block0 (b := bodyP) (env := envP) (pcB w os) (piece_at 0 2 2 rfl (pc0 w os) (piece_at 2 1 3 rfl (pc1 w os) (piece_at 3 1 4 rfl (pc2 w os) (piece_at 4 1 5 rfl (pc3 w os) (piece_at 5 1 6 rfl (pc4 w os) (piece_at 6 6 12 rfl (pc5 w os) (piece_at 12 4 16 rfl (pc6 w os) (piece_at 16 5 21 rfl (pc7 w os) (piece_at 21 7 28 rfl (pc8 w os) (end0 (by kernel_rfl) (pcZ w os))))))))))))
theorem openZ : ∀ w : World, (fencedOpening treeTable PW w 4946).map (fun s => (s.heap, s.gens, s.drawn, s.toks)) = some (boot_heap w.params, #[], boot_drawn, boot_toks) := boot_open (by kernel_rfl) rfl (fun s => by kernel_rfl)
theorem sizeZ (w : World) : ((boot_heap w.params).isNs mainGlobals && (#[] : Array GenState).size == 0, (boot_heap w.params).objs.size, (boot_heap w.params).nsMap mainGlobals "__annotations__") = (true, 11, annP) := by kernel_rfl
def viewZ : Program := { PW with main := { PW.main with body := PW.main.body.drop 27 } }
def looseZ : List Str := ["SnobolError", "Pattern", "Delayed", "Code", "NameRef", "Holder", "kind_of", "is_plain", "fits", "whole_of_text", "to_whole", "need_whole", "table_key", "Array", "Table", "size_of_bounds", "array_place", "table_entry", "put_entry", "item_ref", "slot_get", "slot_set", "_law_read", "_law_turns"]
def XtZ (s : Shared) : Bool := xlAt viewZ [] s && recOk [] s
theorem look1 (w : World) (os : OsState) : (staticsOk (importedModules PW.main.body) (boot_heap w.params) (hpZ w.params) && namesBound PW (hpZ w.params) && gensDone (stZ w os) && laidKept (boot_heap w.params) (hpZ w.params)) = true := by kernel_rfl
theorem look2 (w : World) (os : OsState) : openSeen viewZ looseZ (importedModules PW.main.body) XtZ true (stZ w os) = openGood viewZ looseZ := twSeen (by kernel_rfl)
theorem look3 (w : World) (os : OsState) : hookB.obs (stZ w os) = hookB.val w := by kernel_rfl
theorem leftZ : LeftO PW viewZ looseZ XtZ hookB.obs hookB.val 4946 :=
  LeftO.of_pieces (H₀ := boot_heap) (H₁ := hpZ) (gs₀ := #[]) (d₀ := boot_drawn) (k₀ := boot_toks) (m₀ := 11) (ann := annP) (M := (12 + (1 + (258 + (223 + (223 + (223 + (227 + (377 + (321 + (376 + (191 + 2)))))))))))) openZ sizeZ runZ (by decide) fun w => funext fun os => congr (congrArg Prod.mk (look1 w os)) (congr (congrArg Prod.mk (look2 w os)) (look3 w os))
end
end Mine

namespace Mine
theorem fin_law {prog : Program} {w : World} {s₁ : Shared} {h₁ : Heap} {tk : Nat} {nm : Str} {fa a : Addr} {cd : Value} {ns : List Int} {us : List Value} {m cm mg mb : Str → Option Value} {news : List (Addr × Obj)} {p : Program} {loose : List Str} {mean : ExcName → Option Value} {Q : Flow → Shared → Prop} {E : Value → Shared → Prop}
    (Y : ∃ K, Says K s₁.heap) (T : Top p loose mean mg mb s₁.heap) (hc : ¬ (63 : Int) < (ns.length : Nat)) (w1 : Well w.params s₁.heap (.ref a) (ofPy (.list (ns.map .int)))) (hL : s₁.heap.IsList a us.toArray) (hI : IntsAre us ns)
    (F : Fr s₁.heap s₁.heap.objs.size h₁ m) (N : News s₁.heap s₁.heap.objs.size h₁ news) (X0 : CellsAre cm (cellsFrom (s₁.heap.objs.size + 1) c295.2.2.2.2.1.names []) news) (hm : m "script" = some (.ref a))
    (hQ : ∀ h' tk', (∀ b o, s₁.heap.get? b = some o → h'.get? b = some o) → Q (.ret (.bool true)) { heap := h', gens := s₁.gens, drawn := s₁.drawn, toks := tk', os := s₁.os }) :
    wpAny (model prog w) (callerA.deeper (envOfC nm c295.2.2.2.2.1 s₁.heap.objs.size fa cd)) (execs (bodyC c295) (envOfC nm c295.2.2.2.2.1 s₁.heap.objs.size fa cd)) Q E { heap := h₁, gens := s₁.gens, drawn := s₁.drawn, toks := tk, os := s₁.os } := by
  obtain ⟨K, Y⟩ := Y
  obtain ⟨xs, W⟩ := law_top (prog := prog) (w := w) (nm := nm) (fa := fa) (cd := cd) (sc := c295.2.2.2.2.1) rfl F N X0 w1 hL hI hm rfl
  have B : Base K ⟨prog, w, s₁.heap⟩ := ⟨Y, T.nolimit, mg, mb, T.g, T.b, T.builtins⟩
  exact law_fin (s := { heap := h₁, gens := s₁.gens, drawn := s₁.drawn, toks := tk, os := s₁.os }) W (c_law B ⟨rfl, by show callerA.depth + 1 + 8 ≤ 1000; decide, by show callerA.units + 3 + 8 * 8 < 9900; decide⟩ (by omega)) hQ
end Mine
theorem PySem.Challenge.cw_xm0945_04_holds : PySem.Challenge.rw_xm0945_04.Holds :=
  by
  w_on; o_law
  refine holds_open (q := Mine.viewZ) (loose := Mine.looseZ) (Xt := Mine.XtZ) (XP := XL Mine.viewZ []) (Yf := Hook.obs Mine.hookB) (Ya := Hook.val Mine.hookB) (YP := Hook.says Mine.hookB) (N := 4946) Mine.leftZ (Hook.of Mine.hookB) (Hook.keeps Mine.hookB) (fun s e => xl_of s (Bool.and_eq_true_iff.mp e).1) XL.keeps (by rfl) (by rfl) (by rfl) (fun s e => recFacts_of (Bool.and_eq_true_iff.mp e).2) (by rfl) (by first | assumption | decide +kernel) (by decide +kernel) ⟨rfl, rfl, rfl, rfl, rfl, by decide +kernel⟩ ?hw ?hc
  (case hw => w_witness2)
  w_strict (
    intro w s₀ s₁ mg mb G Y fa o pm cd doc dV kV ho hd hcd hD hmg hg args vals as hpre hlay hrd hwl hlo
    k_behind G ho hd hcd hD hmg hpre hlay hrd hwl hlo cd
    refine Mine.fin_law Y (by assumption) (by assumption) (by assumption) (by assumption) (by assumption) (by assumption) (by assumption) (by assumption) (by rfl) fun h' tk' hk => ?_
    exact ⟨.inl ⟨.bool true, .bool true, [], rfl, fun _ => rfl, .bool true, by kernel_rfl, fun _ => ⟨List.nodup_nil, fun _ h => by simp at h⟩⟩, hk, rfl, by assumption⟩)
