import PyProof.Rows.All
import Wide.All
import OpenK.AllK
import Wide.FinOn
import KE.KStateDown
import Lean
import HandS.ForMost
import HandS.Walk
import HandS.Wide
import HandS.Zip
import HandS.TupAny
import HandS.TupMul
import HandS.TupLe
import HandS.TupSets
import HandS.SetKeys
import HandS.DictTup
import HandS.ListItems
import HandS.Defaults
import HandS.Style
import HandS.Flow
import HandS.Exc
import HandS.Head0
import HandS.Head1
import HandS.Head2
import HandS.HeadEnd
import HandS.HeadHook1
import HandS.HeadHook2
import KE.KDictDisplayH
import KE.KDictCopyH
import KE.KDictSum
import KE.KDictItemsList
import KE.KDictWalk
import KE.KDictPairs
import KE.KTupSum
import KE.DatumOrd
import PyProof.DictMoreH
import KE.GoesEnum
import KE.GoesMore
import KE.GoesZip
import HandS.Strs
import HandS.SortKw
import HandS.Ends
import HandS.More
import PySem.Challenge.RW_lowwater_k76_whole_straight_sums_in_boxe
set_option Elab.async false
set_option linter.all false
set_option maxRecDepth 100000
set_option maxHeartbeats 4000000
set_option exponentiation.threshold 10000
/-! Data that a heap holds (D), what is known of slots (G) and of things that change (Mo), evaluations by data. -/
namespace Lw
open PySem PySem.Spec PyProof.Rows L2

/-! ### data -/
inductive D where
  | non | bl (b : Bool) | int (i : Int) | str (x : Str)
  | tup (ds : List D) | lst (ds : List D)
  | ptup (ds : List D) | dic (ks : List (List Int)) (ds : List D)
/-- a tuple of ints -/
abbrev D.key (ks : List Int) : D := .ptup (ks.map .int)

/-- the hash of a tuple of ints -/
def hK (ks : List Int) : Int := reduceHash (Builtin.Tuple.tupleHashOf (ks.map hashInt))
def enK (y : List Int × Addr × Value) : DictEntry := ⟨hK y.1, .ref y.2.1, y.2.2⟩
/-- entries of a dict with keys that are tuples of ints: the key, its object, the value -/
abbrev Ent : Type := List Int × Addr × V
structure DictObj (o : Obj) (xs : List Ent) : Prop where
  ex : o.ExactDict
  len : xs.length ≤ sizeLine
  nd : (xs.map (·.1)).Nodup
  ent : ∃ (es : Array DictEntry) (ep : Nat) (ys : List (List Int × Addr × Value)), o.data = .dict es ep ∧ es.toList = ys.map enK ∧ Paired (fun (x : Ent) (y : List Int × Addr × Value) => x.1 = y.1 ∧ x.2.1 = y.2.1 ∧ RelV x.2.2 y.2.2) xs ys
/-- a dict with such keys, tracked -/
def DX (d : Addr) (xs : List Ent) : HO := .ext fun h => (d == sysModules) = false ∧ ∃ o, h.get? d = some o ∧ DictObj o xs
/-- a tuple of ints, known for good, without a dict of its own -/
def KeyAt (H : Hp) (b : Addr) (ks : List Int) : Prop := ∃ o, H b = some (.frz o (.tup (ks.map V.int))) ∧ o.dict = none

section
variable (K : PySem.W.Frag) (H : Hp)
mutual
def Rep : D → V → Prop
  | .non, v => v = .non
  | .bl b, v => v = .bl b
  | .int i, v => v = .int i
  | .str x, v => v = .str x
  | .tup ds, v => ∃ a vs, v = .ref a ∧ SqT K H a vs ∧ RepL ds vs
  | .lst ds, v => ∃ a vs o, v = .ref a ∧ H a = some (.frz o (.lst vs)) ∧ RepL ds vs
  | .ptup ds, v => ∃ a vs o, v = .ref a ∧ H a = some (.frz o (.tup vs)) ∧ o.dict = none ∧ RepL ds vs
  | .dic ks ds, v => ∃ (a : Addr) (xs : List Ent) (o : Obj), v = .ref a ∧ H a = some (.frz o (DX a xs)) ∧ xs.map (·.1) = ks ∧ (∀ x ∈ xs, KeyAt H x.2.1 x.1) ∧ RepL ds (xs.map (·.2.2))
def RepL : List D → List V → Prop
  | [], vs => vs = []
  | d :: ds, vs => ∃ v r, vs = v :: r ∧ Rep d v ∧ RepL ds r
end
end

/-- what never changes stays -/
structure Imm (H H' : Hp) : Prop where
  t : ∀ a xs, H a = some (.tup xs) → H' a = some (.tup xs)
  f : ∀ a o u, H a = some (.frz o u) → H' a = some (.frz o u)
theorem Imm.refl (H : Hp) : Imm H H := ⟨fun _ _ h => h, fun _ _ _ h => h⟩
theorem Imm.trans {H H1 H2 : Hp} (a : Imm H H1) (b : Imm H1 H2) : Imm H H2 := ⟨fun x y h => b.t x y (a.t x y h), fun x y z h => b.f x y z (a.f x y z h)⟩
theorem imm_same {H H' : Hp} (e : Same H H') : Imm H H' := ⟨fun a xs h => e a _ h, fun a o u h => e a _ h⟩
theorem imm_upd {H : Hp} {a : Addr} {o : HO} (h : Mut (H a) ∨ H a = none) : Imm H (upd H a o) := by
  refine ⟨fun b xs e => ?_, fun b o u e => ?_⟩
  · rw [upd_ne (fun q => by subst q; rcases h with h | h <;> rw [e] at h <;> cases h)]; exact e
  · rw [upd_ne (fun q => by subst q; rcases h with h | h <;> rw [e] at h <;> cases h)]; exact e
theorem same_new {H : Hp} {p : Addr} {o : HO} (h : H p = none) : Same H (upd H p o) := fun a u e => by
  rw [upd_ne (ne_of_none e h)]; exact e
theorem same_mut {H H' : Hp} {p : Addr} {o : HO} (e : Same H H') (h : H p = none) : Same H (upd H' p o) := fun a u ha => by
  rw [upd_ne (ne_of_none ha h)]; exact e a u ha

section
variable {K : PySem.W.Frag} {H H' H0 : Hp}
theorem Imm.sqt (e : Imm H H') {a : Addr} {xs : List V} (h : SqT K H a xs) : SqT K H' a xs := by
  rcases h with (h | ⟨o, h⟩) | h
  · exact .inl (.inl (e.t _ _ h))
  · exact .inl (.inr ⟨o, e.f _ _ _ h⟩)
  · exact .inr h
theorem Imm.key (e : Imm H H') {a : Addr} {ks : List Int} (h : KeyAt H a ks) : KeyAt H' a ks := let ⟨o, h1, h2⟩ := h; ⟨o, e.f _ _ _ h1, h2⟩
mutual
theorem Rep.mono (e : Imm H H') : ∀ (d : D) {v : V}, Rep K H d v → Rep K H' d v
  | .non, _, h => by simp only [Rep] at h ⊢; exact h
  | .bl b, _, h => by simp only [Rep] at h ⊢; exact h
  | .int i, _, h => by simp only [Rep] at h ⊢; exact h
  | .str x, _, h => by simp only [Rep] at h ⊢; exact h
  | .tup ds, _, h => by
    simp only [Rep] at h ⊢
    obtain ⟨a, vs, h1, h2, h3⟩ := h
    exact ⟨a, vs, h1, e.sqt h2, RepL.mono e ds h3⟩
  | .lst ds, _, h => by
    simp only [Rep] at h ⊢
    obtain ⟨a, vs, o, h1, h2, h3⟩ := h
    exact ⟨a, vs, o, h1, e.f _ _ _ h2, RepL.mono e ds h3⟩
  | .ptup ds, _, h => by
    simp only [Rep] at h ⊢
    obtain ⟨a, vs, o, h1, h2, h3, h4⟩ := h
    exact ⟨a, vs, o, h1, e.f _ _ _ h2, h3, RepL.mono e ds h4⟩
  | .dic ks ds, _, h => by
    simp only [Rep] at h ⊢
    obtain ⟨a, xs, o, h1, h2, h3, h4, h5⟩ := h
    exact ⟨a, xs, o, h1, e.f _ _ _ h2, h3, fun x hx => e.key (h4 x hx), RepL.mono e ds h5⟩
theorem RepL.mono (e : Imm H H') : ∀ (ds : List D) {vs : List V}, RepL K H ds vs → RepL K H' ds vs
  | [], _, h => by simp only [RepL] at h ⊢; exact h
  | d :: ds, _, h => by
    simp only [RepL] at h ⊢
    obtain ⟨v, r, h1, h2, h3⟩ := h
    exact ⟨v, r, h1, Rep.mono e d h2, RepL.mono e ds h3⟩
end
theorem rep_non {v : V} : Rep K H .non v ↔ v = .non := by simp only [Rep]
theorem rep_bl {v : V} {b : Bool} : Rep K H (.bl b) v ↔ v = .bl b := by simp only [Rep]
theorem rep_int {v : V} {i : Int} : Rep K H (.int i) v ↔ v = .int i := by simp only [Rep]
theorem rep_str {v : V} {x : Str} : Rep K H (.str x) v ↔ v = .str x := by simp only [Rep]
theorem rep_tup {v : V} {ds : List D} : Rep K H (.tup ds) v ↔ ∃ a vs, v = .ref a ∧ SqT K H a vs ∧ RepL K H ds vs := by simp only [Rep]
theorem rep_lst {v : V} {ds : List D} : Rep K H (.lst ds) v ↔ ∃ a vs o, v = .ref a ∧ H a = some (.frz o (.lst vs)) ∧ RepL K H ds vs := by simp only [Rep]
theorem rep_ptup {v : V} {ds : List D} : Rep K H (.ptup ds) v ↔ ∃ a vs o, v = .ref a ∧ H a = some (.frz o (.tup vs)) ∧ o.dict = none ∧ RepL K H ds vs := by simp only [Rep]
theorem rep_dic {v : V} {ks : List (List Int)} {ds : List D} : Rep K H (.dic ks ds) v ↔ ∃ (a : Addr) (xs : List Ent) (o : Obj), v = .ref a ∧ H a = some (.frz o (DX a xs)) ∧ xs.map (·.1) = ks ∧ (∀ x ∈ xs, KeyAt H x.2.1 x.1) ∧ RepL K H ds (xs.map (·.2.2)) := by simp only [Rep]
theorem repL_nil {vs : List V} : RepL K H [] vs ↔ vs = [] := by simp only [RepL]
theorem repL_cons {d : D} {ds : List D} {vs : List V} : RepL K H (d :: ds) vs ↔ ∃ v r, vs = v :: r ∧ Rep K H d v ∧ RepL K H ds r := by simp only [RepL]
theorem repL_len : ∀ {ds : List D} {vs : List V}, RepL K H ds vs → ds.length = vs.length
  | [], _, h => by rw [repL_nil.mp h]; rfl
  | d :: ds, _, h => by
    obtain ⟨v, r, rfl, _, h3⟩ := repL_cons.mp h
    rw [List.length_cons, List.length_cons, repL_len h3]
theorem repL_get : ∀ {ds : List D} {vs : List V} {i : Nat} {d : D}, RepL K H ds vs → ds[i]? = some d → ∃ v, vs[i]? = some v ∧ Rep K H d v
  | [], _, _, _, _, e => by simp at e
  | d :: ds, _, 0, _, h, e => by
    obtain ⟨v, r, rfl, h2, h3⟩ := repL_cons.mp h
    simp at e; subst e
    exact ⟨v, rfl, h2⟩
  | d :: ds, _, i + 1, _, h, e => by
    obtain ⟨v, r, rfl, h2, h3⟩ := repL_cons.mp h
    obtain ⟨u, e1, e2⟩ := repL_get (i := i) h3 (by simpa using e)
    exact ⟨u, by simpa using e1, e2⟩
theorem repL_at {ds : List D} {vs : List V} (h : RepL K H ds vs) {i : Nat} {v : V} (e : vs[i]? = some v) : ∃ d, ds[i]? = some d ∧ Rep K H d v := by
  have hl := repL_len h
  have hi := (List.getElem?_eq_some_iff.mp e).1
  have hi' : i < ds.length := by omega
  obtain ⟨u, e1, e2⟩ := repL_get h (List.getElem?_eq_getElem hi')
  rw [e] at e1; cases e1
  exact ⟨_, List.getElem?_eq_getElem hi', e2⟩
theorem repL_app : ∀ {ds es : List D} {vs us : List V}, RepL K H ds vs → RepL K H es us → RepL K H (ds ++ es) (vs ++ us)
  | [], _, _, _, h, k => by rw [repL_nil.mp h]; exact k
  | d :: ds, es, _, us, h, k => by
    obtain ⟨v, r, rfl, h2, h3⟩ := repL_cons.mp h
    exact repL_cons.mpr ⟨v, r ++ us, rfl, h2, repL_app h3 k⟩
theorem repL_one {d : D} {v : V} (h : Rep K H d v) : RepL K H [d] [v] := repL_cons.mpr ⟨v, [], rfl, h, repL_nil.mpr rfl⟩
theorem repL_set : ∀ {ds : List D} {vs : List V} {d : D} {v : V} (i : Nat), RepL K H ds vs → Rep K H d v → RepL K H (ds.set i d) (vs.set i v)
  | [], _, _, _, _, h, _ => by rw [repL_nil.mp h]; exact repL_nil.mpr rfl
  | d :: ds, _, _, _, 0, h, k => by
    obtain ⟨v, r, rfl, h2, h3⟩ := repL_cons.mp h
    exact repL_cons.mpr ⟨_, r, rfl, k, h3⟩
  | d :: ds, _, _, _, i + 1, h, k => by
    obtain ⟨v, r, rfl, h2, h3⟩ := repL_cons.mp h
    exact repL_cons.mpr ⟨v, _, rfl, h2, repL_set i h3 k⟩
theorem repL_take : ∀ {ds : List D} {vs : List V} (n : Nat), RepL K H ds vs → RepL K H (ds.take n) (vs.take n)
  | _, _, 0, _ => repL_nil.mpr rfl
  | [], _, n + 1, h => by rw [repL_nil.mp h]; exact repL_nil.mpr rfl
  | d :: ds, _, n + 1, h => by
    obtain ⟨v, r, rfl, h2, h3⟩ := repL_cons.mp h
    exact repL_cons.mpr ⟨v, r.take n, rfl, h2, repL_take n h3⟩
theorem repL_drop : ∀ {ds : List D} {vs : List V} (n : Nat), RepL K H ds vs → RepL K H (ds.drop n) (vs.drop n)
  | _, _, 0, h => h
  | [], _, n + 1, h => by rw [repL_nil.mp h]; exact repL_nil.mpr rfl
  | d :: ds, _, n + 1, h => by
    obtain ⟨v, r, rfl, h2, h3⟩ := repL_cons.mp h
    exact repL_drop n h3
theorem repL_ints : ∀ (ns : List Int), RepL K H (ns.map D.int) (ns.map V.int)
  | [] => repL_nil.mpr rfl
  | n :: r => repL_cons.mpr ⟨_, _, rfl, rep_int.mpr rfl, repL_ints r⟩
theorem repL_int_eq : ∀ {ns : List Int} {vs : List V}, RepL K H (ns.map D.int) vs → vs = ns.map V.int
  | [], _, h => repL_nil.mp h
  | n :: r, _, h => by
    obtain ⟨v, s, rfl, h2, h3⟩ := repL_cons.mp h
    rw [rep_int.mp h2, repL_int_eq h3]; rfl
theorem repL_bls : ∀ (ns : List Bool), RepL K H (ns.map D.bl) (ns.map V.bl)
  | [] => repL_nil.mpr rfl
  | n :: r => repL_cons.mpr ⟨_, _, rfl, rep_bl.mpr rfl, repL_bls r⟩
theorem rep_key {v : V} {ks : List Int} : Rep K H (.key ks) v ↔ ∃ a, v = .ref a ∧ KeyAt H a ks := by
  rw [rep_ptup]
  constructor
  · rintro ⟨a, vs, o, rfl, h1, h2, h3⟩
    exact ⟨a, rfl, o, by rw [← repL_int_eq h3]; exact h1, h2⟩
  · rintro ⟨a, rfl, o, h1, h2⟩
    exact ⟨a, _, o, rfl, h1, h2, repL_ints ks⟩
/-- such a tuple is a tuple -/
theorem rep_pt {v : V} {ds : List D} (h : Rep K H (.ptup ds) v) : Rep K H (.tup ds) v := by
  obtain ⟨a, vs, o, rfl, h1, _, h3⟩ := rep_ptup.mp h
  exact rep_tup.mpr ⟨a, _, rfl, .inl (.inr ⟨o, h1⟩), h3⟩

/-! ### what a slot holds; a thing that changes -/
end
inductive G where
  | d (x : D) | at (l : Addr) | no
def RepG (K : PySem.W.Frag) (H : Hp) : Option V → G → Prop
  | o, .d x => ∃ v, o = some v ∧ Rep K H x v
  | o, .at l => o = some (.ref l)
  | _, .no => True
abbrev StOk (K : PySem.W.Frag) (H : Hp) : L2.St → List G → Prop := Paired (RepG K H)
inductive Mo where
  | lst (ds : List D) | dX (ks : List (List Int)) (ds : List D) | raw (o : HO)
def MoOk (K : PySem.W.Frag) (H : Hp) (a : Addr) : Mo → Prop
  | .lst ds => ∃ vs, H a = some (.lst vs) ∧ RepL K H ds vs
  | .dX ks ds => ∃ xs : List Ent, H a = some (DX a xs) ∧ xs.map (·.1) = ks ∧ (∀ x ∈ xs, KeyAt H x.2.1 x.1) ∧ RepL K H ds (xs.map (·.2.2))
  | .raw o => H a = some o
section
variable {K : PySem.W.Frag} {H H' H0 Hb H1 H2 : Hp} {σ : L2.St} {Γ : List G} {d e : D} {v : V} {ms : List (Addr × Mo)}
theorem RepG.mono {o : Option V} {g : G} (e : Imm H H') (h : RepG K H o g) : RepG K H' o g := by
  cases g with
  | d x => obtain ⟨v, h1, h2⟩ := h; exact ⟨v, h1, h2.mono e⟩
  | «at» l => exact h
  | no => trivial
theorem StOk.mono (e : Imm H H') (h : StOk K H σ Γ) : StOk K H' σ Γ := Paired.mapP h fun _ _ r => r.mono e
theorem StOk.get : ∀ {σ : L2.St} {Γ : List G} {i : Nat}, StOk K H σ Γ → Γ[i]? = some (.d d) → ∃ v, σ[i]? = some (some v) ∧ Rep K H d v
  | _, _, _, .nil, e => by simp at e
  | _, _, 0, .cons r _, e => by
    simp at e; subst e
    obtain ⟨v, rfl, h⟩ := r
    exact ⟨v, rfl, h⟩
  | _, _, i + 1, .cons _ t, e => by
    obtain ⟨u, h1, h2⟩ := StOk.get (i := i) t (by simpa using e)
    exact ⟨u, by simpa using h1, h2⟩
theorem StOk.ref {l : Addr} : ∀ {σ : L2.St} {Γ : List G} {i : Nat}, StOk K H σ Γ → Γ[i]? = some (.at l) → σ[i]? = some (some (.ref l))
  | _, _, _, .nil, e => by simp at e
  | _, _, 0, .cons r _, e => by
    simp at e; subst e
    exact congrArg some r
  | _, _, i + 1, .cons _ t, e => by
    have h1 := StOk.ref (i := i) t (by simpa using e)
    simpa using h1
theorem StOk.set {x : Option V} {g : G} (r : RepG K H x g) : ∀ {σ : L2.St} {Γ : List G} (i : Nat), StOk K H σ Γ → StOk K H (σ.set i x) (Γ.set i g)
  | _, _, _, .nil => .nil
  | _, _, 0, .cons _ t => .cons r t
  | _, _, i + 1, .cons q t => .cons q (StOk.set r i t)
/-- forgetting -/
inductive Le : List G → List G → Prop
  | nil : Le [] []
  | keep {g : G} {a b : List G} : Le a b → Le (g :: a) (g :: b)
  | drop {g : G} {a b : List G} : Le a b → Le (g :: a) (.no :: b)
theorem Le.refl : ∀ a : List G, Le a a
  | [] => .nil
  | _ :: r => .keep (Le.refl r)
theorem StOk.le {Γ' : List G} (h : StOk K H σ Γ) (l : Le Γ Γ') : StOk K H σ Γ' := by
  induction l generalizing σ with
  | nil => exact h
  | keep _ ih => cases h with | cons r t => exact .cons r (ih t)
  | drop _ ih => cases h with | cons r t => exact .cons trivial (ih t)
theorem StOk.wipe (h : StOk K H σ Γ) : ∀ vs : List Nat, StOk K H (wipe σ vs) (vs.foldr (fun v g => g.set v .no) Γ)
  | [] => h
  | v :: vs => StOk.set (g := .no) trivial v (StOk.wipe h vs)
theorem MoOk.same {a : Addr} {m : Mo} (e : Same H H') (h : MoOk K H a m) : MoOk K H' a m := by
  cases m with
  | lst ds => obtain ⟨vs, h1, h2⟩ := h; exact ⟨vs, e _ _ h1, h2.mono (imm_same e)⟩
  | dX ks ds => obtain ⟨xs, h1, h2, h3, h4⟩ := h; exact ⟨xs, e _ _ h1, h2, fun x hx => (imm_same e).key (h3 x hx), h4.mono (imm_same e)⟩
  | raw o => exact e _ _ h
theorem MoOk.keep {a : Addr} {m : Mo} (i : Imm H H') (k : H' a = H a) (h : MoOk K H a m) : MoOk K H' a m := by
  cases m with
  | lst ds => obtain ⟨vs, h1, h2⟩ := h; exact ⟨vs, k.trans h1, h2.mono i⟩
  | dX ks ds => obtain ⟨xs, h1, h2, h3, h4⟩ := h; exact ⟨xs, k.trans h1, h2, fun x hx => i.key (h3 x hx), h4.mono i⟩
  | raw o => exact k.trans h
theorem MoOk.some {a : Addr} {m : Mo} (h : MoOk K H a m) : ∃ o, H a = some o := by
  cases m with
  | lst ds => obtain ⟨vs, h1, h2⟩ := h; exact ⟨_, h1⟩
  | dX ks ds => obtain ⟨xs, h1, _⟩ := h; exact ⟨_, h1⟩
  | raw o => exact ⟨_, h⟩

/-! ### where a body stands: H0 its entry, Γ the slots, ms what it has made and may change -/
structure Cf (K : PySem.W.Frag) (H0 Hb : Hp) (σ : L2.St) (H : Hp) (Γ : List G) (ms : List (Addr × Mo)) : Prop where
  same : Same H0 H
  imm : Imm Hb H
  st : StOk K H σ Γ
  mu : ∀ p ∈ ms, H0 p.1 = none ∧ MoOk K H p.1 p.2
  nd : (ms.map (·.1)).Nodup
theorem Cf.ext (c : Cf K H0 Hb σ H Γ ms) (e : Same H H') : Cf K H0 Hb σ H' Γ ms :=
  ⟨c.same.trans e, c.imm.trans (imm_same e), c.st.mono (imm_same e), fun p hp => ⟨(c.mu p hp).1, (c.mu p hp).2.same e⟩, c.nd⟩
theorem Cf.le {Γ' : List G} (c : Cf K H0 Hb σ H Γ ms) (l : Le Γ Γ') : Cf K H0 Hb σ H Γ' ms := ⟨c.same, c.imm, c.st.le l, c.mu, c.nd⟩
theorem Cf.setD (c : Cf K H0 Hb σ H Γ ms) (i : Nat) (h : Rep K H d v) : Cf K H0 Hb (σ.set i (some v)) H (Γ.set i (.d d)) ms := ⟨c.same, c.imm, StOk.set (g := .d d) ⟨v, rfl, h⟩ i c.st, c.mu, c.nd⟩
theorem Cf.setAt (c : Cf K H0 Hb σ H Γ ms) (i : Nat) (l : Addr) : Cf K H0 Hb (σ.set i (some (.ref l))) H (Γ.set i (.at l)) ms := ⟨c.same, c.imm, StOk.set (g := .at l) rfl i c.st, c.mu, c.nd⟩
theorem Cf.setNo (c : Cf K H0 Hb σ H Γ ms) (i : Nat) (x : Option V) : Cf K H0 Hb (σ.set i x) H (Γ.set i .no) ms := ⟨c.same, c.imm, StOk.set (g := .no) trivial i c.st, c.mu, c.nd⟩
theorem Cf.base (c : Cf K H0 Hb σ H Γ ms) : Cf K H0 H σ H Γ ms := ⟨c.same, Imm.refl H, c.st, c.mu, c.nd⟩
theorem Cf.back {Hs : Hp} (c : Cf K H0 Hs σ H Γ ms) (i : Imm Hb Hs) : Cf K H0 Hb σ H Γ ms := ⟨c.same, i.trans c.imm, c.st, c.mu, c.nd⟩
/-- a new thing, known at once -/
theorem Cf.more {p : Addr} {m : Mo} (c : Cf K H0 Hb σ H Γ ms) (e : Same H H') (n : H p = none) (h : MoOk K H' p m) : Cf K H0 Hb σ H' Γ ((p, m) :: ms) := by
  have c' := c.ext e
  refine ⟨c'.same, c'.imm, c'.st, fun q hq => ?_, ?_⟩
  · rcases List.mem_cons.mp hq with rfl | hq
    · exact ⟨c.same.free n, h⟩
    · exact c'.mu q hq
  · rw [List.map_cons, List.nodup_cons]
    refine ⟨fun hm => ?_, c.nd⟩
    obtain ⟨q, hq, e1⟩ := List.mem_map.mp hm
    obtain ⟨o, ho⟩ := (c.mu q hq).2.some
    rw [e1, n] at ho; cases ho
theorem Cf.drop (c : Cf K H0 Hb σ H Γ ms) (k : Nat) : Cf K H0 Hb σ H Γ (ms.eraseIdx k) :=
  ⟨c.same, c.imm, c.st, fun p hp => c.mu p (List.mem_of_mem_eraseIdx hp), c.nd.sublist ((List.eraseIdx_sublist ms k).map _)⟩
/-- a thing changed -/
theorem Cf.chg {l : Addr} {m m' : Mo} {o' : HO} (c : Cf K H0 Hb σ H Γ ms) (k : Nat) (hk : ms[k]? = some (l, m)) (mu : Mut (H l)) (h : MoOk K (upd H l o') l m') :
    Cf K H0 Hb σ (upd H l o') Γ (ms.set k (l, m')) := by
  have hm : (l, m) ∈ ms := List.mem_of_getElem? hk
  have i : Imm H (upd H l o') := imm_upd (.inl mu)
  refine ⟨same_mut c.same (c.mu _ hm).1, c.imm.trans i, c.st.mono i, fun p hp => ?_, ?_⟩
  · rcases List.mem_or_eq_of_mem_set hp with hp' | rfl
    · by_cases e : p.1 = l
      · have hk1 : k < (ms.map (·.1)).length := by rw [List.length_map]; exact (List.getElem?_eq_some_iff.mp hk).1
        -- the one at k was put away
        obtain ⟨j, hj, ej⟩ := List.mem_iff_getElem.mp hp
        have hj' : j < ms.length := by simpa using hj
        by_cases ejk : j = k
        · subst ejk
          rw [List.getElem_set_self] at ej
          subst ej
          exact ⟨(c.mu _ hm).1, h⟩
        · rw [List.getElem_set_ne (fun q => ejk q.symm)] at ej
          exfalso
          have a1 : (ms.map (·.1))[j]? = some l := by
            rw [List.getElem?_map, List.getElem?_eq_getElem hj', ej, Option.map_some, e]
          have a2 : (ms.map (·.1))[k]? = some l := by rw [List.getElem?_map, hk]; rfl
          exact ejk (nd_ix c.nd a1 a2)
      · exact ⟨(c.mu p hp').1, (c.mu p hp').2.keep i (upd_ne e)⟩
    · exact ⟨(c.mu _ hm).1, h⟩
  · have e : (ms.set k (l, m')).map (·.1) = ms.map (·.1) := by
      rw [List.map_set]
      apply List.ext_getElem?
      intro j
      by_cases ej : j = k
      · subst ej
        rw [List.getElem?_set_self (by rw [List.length_map]; exact (List.getElem?_eq_some_iff.mp hk).1), List.getElem?_map, hk]
        rfl
      · rw [List.getElem?_set_ne (fun q => ej q.symm)]
    rw [e]; exact c.nd
/-- a thing known for good -/
theorem Cf.frz {l : Addr} {m : Mo} {u : HO} {o : Obj} (c : Cf K H0 Hb σ H Γ ms) (k : Nat) (hk : ms[k]? = some (l, m)) (hu : H l = some u) (mu : Mut (some u)) :
    Cf K H0 Hb σ (upd H l (.frz o u)) Γ (ms.eraseIdx k) := by
  have hm : (l, m) ∈ ms := List.mem_of_getElem? hk
  have i : Imm H (upd H l (.frz o u)) := imm_upd (.inl (by rw [hu]; exact mu))
  refine ⟨same_mut c.same (c.mu _ hm).1, c.imm.trans i, c.st.mono i, fun p hp => ?_, (c.drop k).nd⟩
  have hp' := List.mem_of_mem_eraseIdx hp
  have ne : p.1 ≠ l := by
    intro e
    obtain ⟨j, hj, ej⟩ := List.mem_iff_getElem?.mp hp |>.imp fun j h => (⟨(List.getElem?_eq_some_iff.mp h).1, h⟩ : j < (ms.eraseIdx k).length ∧ (ms.eraseIdx k)[j]? = some p)
    have a2 : (ms.map (·.1))[k]? = some l := by rw [List.getElem?_map, hk]; rfl
    rw [List.getElem?_eraseIdx] at ej
    split at ej
    · have a1 : (ms.map (·.1))[j]? = some l := by rw [List.getElem?_map, ej, Option.map_some, e]
      have := nd_ix c.nd a1 a2
      omega
    · have a1 : (ms.map (·.1))[j + 1]? = some l := by rw [List.getElem?_map, ej, Option.map_some, e]
      have := nd_ix c.nd a1 a2
      omega
  exact ⟨(c.mu p hp').1, (c.mu p hp').2.keep i (upd_ne ne)⟩
end
end Lw
namespace Lw
open PySem PySem.Spec PyProof.Rows L2
/-! ### what a reading gives, as data -/
def EvD (K : PySem.W.Frag) (te : TE) (σ : L2.St) (H : Hp) (d : D) : Prop := ∀ H1, Same H H1 → ∀ Q : VK, (∀ v H2, Same H1 H2 → Rep K H2 d v → Q v H2) → te σ H1 Q
/-- a new thing that may be changed -/
def EvM (K : PySem.W.Frag) (te : TE) (σ : L2.St) (H : Hp) (m : Mo) : Prop := ∀ H1, Same H H1 → ∀ Q : VK, (∀ p H2, Same H1 H2 → H1 p = none → MoOk K H2 p m → Q (.ref p) H2) → te σ H1 Q
def EvT (tt : TT) (σ : L2.St) (H : Hp) (b : Bool) : Prop := ∀ H1, Same H H1 → ∀ Q : Bool → Hp → Prop, (∀ H2, Same H1 H2 → Q b H2) → tt σ H1 Q
def EvA (K : PySem.W.Frag) (ta : TA) (σ : L2.St) (H : Hp) (ds : List D) : Prop := ∀ H1, Same H H1 → ∀ Q : List V → Hp → Prop, (∀ vs H2, Same H1 H2 → RepL K H2 ds vs → Q vs H2) → ta σ H1 Q
def EvO (to : TO) (σ : L2.St) (H : Hp) (o : Option Int) : Prop := ∀ H1, Same H H1 → ∀ Q : Option Int → Hp → Prop, (∀ H2, Same H1 H2 → Q o H2) → to σ H1 Q

/-! ### a thing known for good, as an expression's step -/
def tFz (t : TE) : TE := fun σ H Q => t σ H fun v H1 => ∃ a u, v = .ref a ∧ H1 a = some u ∧ Mut (some u) ∧ ∀ o, Q v (upd H1 a (.frz o u))
theorem pe_fz {X : Cx} {e : Expr} {t : TE} (h : PE X e t) : PE X e (tFz t) := by
  refine ⟨fun pins s σ H Q I hw => thn (h.run pins s σ H _ I hw) fun u s1 ⟨v, H1, I1, r, a, o, e, h1, mu, q⟩ => ?_⟩
  obtain ⟨od, I2⟩ := I1.lock h1 mu
  exact ⟨v, _, I2, r, q od⟩

def D.isN : D → Bool
  | .non => true
  | _ => false
section
variable {K : PySem.W.Frag} {σ : L2.St} {H H' H0 Hb : Hp} {ta tb te : TE} {t u : TT} {d d1 d2 : D} {ds es : List D} {v : V} {Γ : List G} {ms : List (Addr × Mo)} {i j : Int}
theorem rep_isN {d : D} {v : V} (h : Rep K H d v) : decide (v = .non) = d.isN := by
  cases d with
  | non => rw [rep_non.mp h]; rfl
  | bl b => rw [rep_bl.mp h]; rfl
  | int i => rw [rep_int.mp h]; rfl
  | str x => rw [rep_str.mp h]; rfl
  | tup ds => obtain ⟨a, _, rfl, _⟩ := rep_tup.mp h; rfl
  | lst ds => obtain ⟨a, _, _, rfl, _⟩ := rep_lst.mp h; rfl
  | ptup ds => obtain ⟨a, _, _, rfl, _⟩ := rep_ptup.mp h; rfl
  | dic ks ds => obtain ⟨a, _, _, rfl, _⟩ := rep_dic.mp h; rfl
theorem EvD.ext (e : Same H H') (h : EvD K te σ H d) : EvD K te σ H' d := fun H1 a Q q => h H1 (e.trans a) Q q
theorem EvT.ext {b : Bool} (e : Same H H') (h : EvT t σ H b) : EvT t σ H' b := fun H1 a Q q => h H1 (e.trans a) Q q
theorem EvA.ext {ta : TA} (e : Same H H') (h : EvA K ta σ H ds) : EvA K ta σ H' ds := fun H1 a Q q => h H1 (e.trans a) Q q
theorem EvM.ext {m : Mo} (e : Same H H') (h : EvM K te σ H m) : EvM K te σ H' m := fun H1 a Q q => h H1 (e.trans a) Q q
theorem EvD.is (h : EvD K te σ H d1) (e : d1 = d2) : EvD K te σ H d2 := e ▸ h
theorem EvT.is {a b : Bool} (h : EvT t σ H a) (e : a = b) : EvT t σ H b := e ▸ h
/-- a slot -/
theorem ev_var {n : Nat} (c : Cf K H0 Hb σ H Γ ms) (h : Γ[n]? = some (.d d)) : EvD K (tVar n) σ H d := fun H1 e Q q => by
  obtain ⟨v, h1, h2⟩ := c.st.get h
  exact ⟨v, h1, q v H1 (Same.refl H1) (h2.mono (imm_same e))⟩
theorem ev_cst (h : ∀ H, Rep K H d v) : EvD K (tC v) σ H d := fun H1 e Q q => q v H1 (Same.refl H1) (h H1)
theorem ev_int : EvD K (tC (.int i)) σ H (.int i) := ev_cst fun _ => rep_int.mpr rfl
theorem ev_str {x : Str} : EvD K (tC (.str x)) σ H (.str x) := ev_cst fun _ => rep_str.mpr rfl
theorem ev_bl {b : Bool} : EvD K (tC (.bl b)) σ H (.bl b) := ev_cst fun _ => rep_bl.mpr rfl
theorem ev_non : EvD K (tC .non) σ H .non := ev_cst fun _ => rep_non.mpr rfl
theorem ev_opG {r : R2} (ha : EvD K ta σ H d1) (hb : EvD K tb σ H d2)
    (hr : ∀ x y H1, Same H H1 → Rep K H1 d1 x → Rep K H1 d2 y → ∀ Q : VK, (∀ v H2, Same H1 H2 → Rep K H2 d v → Q v H2) → r x y H1 Q) : EvD K (tOp r ta tb) σ H d := fun H1 e Q q =>
  ha H1 e _ fun x H2 e2 r2 => hb H2 (e.trans e2) _ fun y H3 e3 r3 => hr x y H3 ((e.trans e2).trans e3) (r2.mono (imm_same e3)) r3 Q fun v H4 e4 r4 => q v H4 ((e2.trans e3).trans e4) r4
theorem ev_iI {f : Int → Int → Int} (ha : EvD K ta σ H (.int i)) (hb : EvD K tb σ H (.int j)) : EvD K (tOp (rI0 fun i j => .int (f i j)) ta tb) σ H (.int (f i j)) :=
  ev_opG ha hb fun x y H1 _ rx ry Q q => ⟨i, j, rep_int.mp rx, rep_int.mp ry, q _ H1 (Same.refl H1) (rep_int.mpr rfl)⟩
theorem ev_iB {f : Int → Int → Bool} (ha : EvD K ta σ H (.int i)) (hb : EvD K tb σ H (.int j)) : EvD K (tOp (rI0 fun i j => .bl (f i j)) ta tb) σ H (.bl (f i j)) :=
  ev_opG ha hb fun x y H1 _ rx ry Q q => ⟨i, j, rep_int.mp rx, rep_int.mp ry, q _ H1 (Same.refl H1) (rep_bl.mpr rfl)⟩
theorem ev_iC {C : Int → Int → Prop} {f : Int → Int → Int} (ha : EvD K ta σ H (.int i)) (hb : EvD K tb σ H (.int j)) (hc : C i j) : EvD K (tOp (rI C fun i j => .int (f i j)) ta tb) σ H (.int (f i j)) :=
  ev_opG ha hb fun x y H1 _ rx ry Q q => ⟨i, j, rep_int.mp rx, rep_int.mp ry, hc, q _ H1 (Same.refl H1) (rep_int.mpr rfl)⟩
theorem ev_neg (ha : EvD K ta σ H (.int i)) : EvD K (tUn (rU fun i => .int (-i)) ta) σ H (.int (-i)) := fun H1 e Q q =>
  ha H1 e _ fun x H2 e2 r2 => ⟨i, rep_int.mp r2, q _ H2 e2 (rep_int.mpr rfl)⟩
theorem ev_eqI (ha : EvD K ta σ H (.int i)) (hb : EvD K tb σ H (.int j)) : EvD K (tOp rEq ta tb) σ H (.bl (decide (i = j))) :=
  ev_opG ha hb fun x y H1 _ rx ry Q q => by
    rw [rep_int.mp rx, rep_int.mp ry]
    refine ⟨rfl, ?_⟩
    have : decide (V.int i = V.int j) = decide (i = j) := by simp
    rw [this]; exact q _ H1 (Same.refl H1) (rep_bl.mpr rfl)
theorem ev_neI (ha : EvD K ta σ H (.int i)) (hb : EvD K tb σ H (.int j)) : EvD K (tOp rNe ta tb) σ H (.bl (!decide (i = j))) :=
  ev_opG ha hb fun x y H1 _ rx ry Q q => by
    rw [rep_int.mp rx, rep_int.mp ry]
    refine ⟨rfl, ?_⟩
    have : decide (V.int i = V.int j) = decide (i = j) := by simp
    rw [this]; exact q _ H1 (Same.refl H1) (rep_bl.mpr rfl)
theorem ev_eqS {x y : Str} (ha : EvD K ta σ H (.str x)) (hb : EvD K tb σ H (.str y)) : EvD K (tOp rEq ta tb) σ H (.bl (decide (x = y))) :=
  ev_opG ha hb fun x' y' H1 _ rx ry Q q => by
    rw [rep_str.mp rx, rep_str.mp ry]
    refine ⟨rfl, ?_⟩
    have : decide (V.str x = V.str y) = decide (x = y) := by simp
    rw [this]; exact q _ H1 (Same.refl H1) (rep_bl.mpr rfl)
theorem ev_neS {x y : Str} (ha : EvD K ta σ H (.str x)) (hb : EvD K tb σ H (.str y)) : EvD K (tOp rNe ta tb) σ H (.bl (!decide (x = y))) :=
  ev_opG ha hb fun x' y' H1 _ rx ry Q q => by
    rw [rep_str.mp rx, rep_str.mp ry]
    refine ⟨rfl, ?_⟩
    have : decide (V.str x = V.str y) = decide (x = y) := by simp
    rw [this]; exact q _ H1 (Same.refl H1) (rep_bl.mpr rfl)
end
def rIsN : R2 := fun x y H Q => y = .non ∧ Q (.bl (decide (x = .non))) H
theorem op_isN1 {X : Cx} : OpR X (compareOp .Is) rIsN := op_isN
section
variable {K : PySem.W.Frag} {σ : L2.St} {H H' H0 Hb : Hp} {ta tb te : TE} {t u : TT} {d d1 d2 : D} {ds es : List D} {v : V} {Γ : List G} {ms : List (Addr × Mo)} {i j : Int}
theorem ev_isN (ha : EvD K ta σ H d) : EvD K (tOp rIsN ta (tC .non)) σ H (.bl d.isN) := fun H1 e Q q =>
  ha H1 e _ fun x H2 e2 r2 => ⟨rfl, by rw [rep_isN r2]; exact q _ H2 e2 (rep_bl.mpr rfl)⟩
/-! ### items -/
theorem rep_atI {ds : List D} {vs : List V} {i : Int} (h : RepL K H ds vs) (e : atI ds i = some d) : ∃ v, atI vs i = some v ∧ Rep K H d v := by
  unfold atI at e ⊢
  rw [repL_len h] at e
  cases q : ixN vs.length i with
  | none => rw [q] at e; cases e
  | some k =>
    rw [q] at e
    exact repL_get h e
theorem ev_ixT (ha : EvD K ta σ H (.tup ds)) (hb : EvD K tb σ H (.int i)) (hx : atI ds i = some d) : EvD K (tOp (rIxT K) ta tb) σ H d :=
  ev_opG ha hb fun x y H1 _ rx ry Q q => by
    obtain ⟨a, vs, rfl, h2, h3⟩ := rep_tup.mp rx
    obtain ⟨v, e1, e2⟩ := rep_atI h3 hx
    exact ⟨a, vs, i, v, rfl, rep_int.mp ry, h2, e1, q _ H1 (Same.refl H1) e2⟩
theorem ev_ixL (ha : EvD K ta σ H (.lst ds)) (hb : EvD K tb σ H (.int i)) (hx : atI ds i = some d) : EvD K (tOp (rIxL K) ta tb) σ H d :=
  ev_opG ha hb fun x y H1 _ rx ry Q q => by
    obtain ⟨a, vs, o, rfl, h2, h3⟩ := rep_lst.mp rx
    obtain ⟨v, e1, e2⟩ := rep_atI h3 hx
    exact ⟨a, vs, i, v, rfl, rep_int.mp ry, .inl (.inr ⟨o, h2⟩), e1, q _ H1 (Same.refl H1) e2⟩
/-- an item of a list that may change -/
theorem ev_ixM {n k : Nat} {l : Addr} (c : Cf K H0 Hb σ H Γ ms) (hn : Γ[n]? = some (.at l)) (hk : ms[k]? = some (l, .lst ds)) (hb : EvD K tb σ H (.int i)) (hx : atI ds i = some d) : EvD K (tOp (rIxL K) (tVar n) tb) σ H d := fun H1 e Q q => by
  refine ⟨.ref l, c.st.ref hn, hb H1 e _ fun y H2 e2 ry => ?_⟩
  obtain ⟨vs, h1, h3⟩ := ((c.ext (e.trans e2)).mu _ (List.mem_of_getElem? hk)).2
  obtain ⟨v, e1, e3⟩ := rep_atI h3 hx
  exact ⟨l, vs, i, v, rfl, rep_int.mp ry, .of h1, e1, q _ H2 e2 e3⟩
theorem ea_nil : EvA K tNil σ H [] := fun H1 _ Q q => q _ H1 (Same.refl H1) (repL_nil.mpr rfl)
theorem ea_cons {tr : TA} (h : EvD K te σ H d) (hr : EvA K tr σ H ds) : EvA K (tCons te tr) σ H (d :: ds) := fun H1 e Q q =>
  h H1 e _ fun x H2 e2 r2 => hr H2 (e.trans e2) _ fun xs H3 e3 r3 => q _ H3 (e2.trans e3) (repL_cons.mpr ⟨x, xs, rfl, r2.mono (imm_same e3), r3⟩)
theorem sz_of {n : Nat} (h : n ≤ 1000000) : n ≤ sizeLine := Nat.le_trans h (by decide)
theorem sz_lt {n : Nat} (h : n < 1000000) : n < sizeLine := Nat.lt_of_lt_of_le h (by decide)
theorem ev_tup {ta : TA} (h : EvA K ta σ H ds) (hl : ds.length ≤ 1000000 := by exact Nat.le_of_ble_eq_true rfl) : EvD K (tTup ta) σ H (.tup ds) := fun H1 e Q q =>
  h H1 e _ fun vs H2 e2 r2 => ⟨sz_of (by rw [← repL_len r2]; exact hl), fun p hp => q _ _ (e2.trans (same_new hp)) (rep_tup.mpr ⟨p, vs, rfl, .of upd_same, r2.mono (imm_same (same_new hp))⟩)⟩
theorem em_lst {ta : TA} (h : EvA K ta σ H ds) (hl : ds.length ≤ 1000000 := by exact Nat.le_of_ble_eq_true rfl) : EvM K (tLst ta) σ H (.lst ds) := fun H1 e Q q =>
  h H1 e _ fun vs H2 e2 r2 => ⟨sz_of (by rw [← repL_len r2]; exact hl), fun p hp => q p _ (e2.trans (same_new hp)) (e2.free hp) ⟨vs, upd_same, r2.mono (imm_same (same_new hp))⟩⟩
theorem ev_fz (h : EvM K te σ H (.lst ds)) : EvD K (tFz te) σ H (.lst ds) := fun H1 e Q q =>
  h H1 e _ fun p H2 e2 hp hm => by
    obtain ⟨vs, h1, h2⟩ := hm
    refine ⟨p, _, rfl, h1, trivial, fun o => ?_⟩
    exact q _ _ (same_mut e2 hp) (rep_lst.mpr ⟨p, vs, o, rfl, upd_same, h2.mono (imm_upd (.inl (by rw [h1]; trivial)))⟩)
theorem ev_fzX {ks : List (List Int)} (h : EvM K te σ H (.dX ks ds)) : EvD K (tFz te) σ H (.dic ks ds) := fun H1 e Q q =>
  h H1 e _ fun p H2 e2 hp hm => by
    obtain ⟨xs, h1, hl, hk, h2⟩ := hm
    refine ⟨p, _, rfl, h1, trivial, fun o => ?_⟩
    have i : Imm H2 (upd H2 p (.frz o (DX p xs))) := imm_upd (.inl (by rw [h1]; trivial))
    exact q _ _ (same_mut e2 hp) (rep_dic.mpr ⟨p, xs, o, rfl, upd_same, hl, fun x hx => i.key (hk x hx), h2.mono i⟩)
/-- a list, a dict handed over as it stands -/
theorem ev_pt (h : EvD K te σ H (.ptup ds)) : EvD K te σ H (.tup ds) := fun H1 e Q q => h H1 e Q fun v H2 e2 r => q v H2 e2 (rep_pt r)

/-! ### tests -/
theorem et_t {b : Bool} (h : EvD K te σ H (.bl b)) : EvT (tTest te) σ H b := fun H1 e Q q => h H1 e _ fun v H2 e2 r => ⟨b, rep_bl.mp r, q H2 e2⟩
theorem et_B {b : Bool} (h : EvD K te σ H (.bl b)) : EvT (tB te) σ H b := fun H1 e Q q => h H1 e _ fun v H2 e2 r => ⟨b, rep_bl.mp r, q H2 e2⟩
theorem et_yes : EvT tYes σ H true := fun H1 _ _ q => q H1 (Same.refl H1)
theorem et_and {a b : Bool} (h1 : EvT t σ H a) (h2 : a = true → EvT u σ H b) : EvT (tAnd t u) σ H (a && b) := fun H1 e Q q => h1 H1 e _ fun H2 e2 => by
  cases a with
  | true =>
    show u σ H2 Q
    exact h2 rfl H2 (e.trans e2) Q fun H3 e3 => q H3 (e2.trans e3)
  | false =>
    show Q false H2
    exact q H2 e2
theorem et_or {a b : Bool} (h1 : EvT t σ H a) (h2 : a = false → EvT u σ H b) : EvT (tOr t u) σ H (a || b) := fun H1 e Q q => h1 H1 e _ fun H2 e2 => by
  cases a with
  | true =>
    show Q true H2
    exact q H2 e2
  | false =>
    show u σ H2 Q
    exact h2 rfl H2 (e.trans e2) Q fun H3 e3 => q H3 (e2.trans e3)
theorem et_not {a : Bool} (h1 : EvT t σ H a) : EvT (tNot t) σ H (!a) := fun H1 e _ q => h1 H1 e _ fun H2 e2 => q H2 e2
theorem ev_orV {a b : Bool} (h1 : EvD K ta σ H (.bl a)) (h2 : EvD K tb σ H (.bl b)) : EvD K (tOrV ta tb) σ H (.bl (a || b)) := fun H1 e Q q => h1 H1 e _ fun v H2 e2 r => ⟨a, rep_bl.mp r, by
  cases a with
  | true =>
    show Q (.bl true) H2
    exact q _ H2 e2 (rep_bl.mpr rfl)
  | false =>
    show tb σ H2 Q
    exact h2 H2 (e.trans e2) Q fun v H3 e3 => q v H3 (e2.trans e3)⟩
theorem ev_andV {a b : Bool} (h1 : EvD K ta σ H (.bl a)) (h2 : a = true → EvD K tb σ H (.bl b)) : EvD K (tAndV ta tb) σ H (.bl (a && b)) := fun H1 e Q q => h1 H1 e _ fun v H2 e2 r => ⟨a, rep_bl.mp r, by
  cases a with
  | true =>
    show tb σ H2 Q
    exact h2 rfl H2 (e.trans e2) Q fun v H3 e3 => q v H3 (e2.trans e3)
  | false =>
    show Q (.bl false) H2
    exact q _ H2 e2 (rep_bl.mpr rfl)⟩
theorem ev_notV {a : Bool} (h1 : EvD K ta σ H (.bl a)) : EvD K (tNotV ta) σ H (.bl (!a)) := fun H1 e Q q => h1 H1 e _ fun v H2 e2 r => ⟨a, rep_bl.mp r, q _ H2 e2 (rep_bl.mpr rfl)⟩
end

/-! ### promises of defs that change nothing -/
def pSp (K : PySem.W.Frag) {α : Type} (args : α → List D) (pre : α → Prop) (res : α → D) : Sp := fun vs H Q _ => ∃ a, RepL K H (args a) vs ∧ pre a ∧ ∀ v H', Same H H' → Rep K H' (res a) v → Q v H'
theorem pSp_len {K : PySem.W.Frag} {α : Type} {args : α → List D} {pre : α → Prop} {res : α → D} {n : Nat} (hn : ∀ a, (args a).length = n) : ∀ vs H Q E, pSp K args pre res vs H Q E → vs.length = n := fun vs H Q E h => by
  obtain ⟨a, h1, _⟩ := h
  rw [← repL_len h1, hn]
theorem ev_call {K : PySem.W.Frag} {σ : L2.St} {H : Hp} {α : Type} {args : α → List D} {pre : α → Prop} {res : α → D} {ta : TA} {E : XK} (a : α) (h : EvA K ta σ H (args a)) (hp : pre a) : EvD K (tCall (pSp K args pre res) [] E ta) σ H (res a) := fun H1 e Q q =>
  h H1 e _ fun vs H2 e2 r => by
    show pSp K args pre res (vs ++ []) H2 Q E
    rw [List.append_nil]
    exact ⟨a, r, hp, fun v H3 e3 r3 => q v H3 (e2.trans e3) r3⟩
theorem ev_callD {K : PySem.W.Frag} {σ : L2.St} {H : Hp} {α : Type} {args : α → List D} {pre : α → Prop} {res : α → D} {ta : TA} {E : XK} {ds ds' : List D} {dvs : List V} (a : α) (h : EvA K ta σ H ds) (hd : ∀ H, RepL K H ds' dvs) (he : args a = ds ++ ds') (hp : pre a) :
    EvD K (tCall (pSp K args pre res) dvs E ta) σ H (res a) := fun H1 e Q q =>
  h H1 e _ fun vs H2 e2 r => ⟨a, by rw [he]; exact repL_app r (hd H2), hp, fun v H3 e3 r3 => q v H3 (e2.trans e3) r3⟩

/-! ### statements -/
section
variable {K : PySem.W.Frag} {σ : L2.St} {H H' H0 Hb : Hp} {ta tb te : TE} {t : TT} {d d1 d2 : D} {ds es : List D} {v : V} {Γ : List G} {ms : List (Addr × Mo)} {Dn : Ends} {tu tw tz : TS}
theorem q_seq (h : tu { Dn with nx := tz Dn } σ H) : tSeq tu tz Dn σ H := h
theorem r_next (h : Dn.nx σ H) : tNext Dn σ H := h
theorem r_ret (c : Cf K H0 Hb σ H Γ ms) (h : EvD K te σ H d) (k : ∀ v H', Same H0 H' → Rep K H' d v → Dn.rt v H') : tRet te Dn σ H := h H (Same.refl H) _ fun v H2 e r => k v H2 (c.same.trans e) r
/-- return x, x a list that the body made -/
theorem r_retF {n k : Nat} {l : Addr} (c : Cf K H0 Hb σ H Γ ms) (hn : Γ[n]? = some (.at l)) (hk : ms[k]? = some (l, .lst ds)) (q : ∀ v H', Same H0 H' → Rep K H' (.lst ds) v → Dn.rt v H') : tRet (tFz (tVar n)) Dn σ H := by
  obtain ⟨h0, vs, h1, h2⟩ := c.mu _ (List.mem_of_getElem? hk)
  refine ⟨.ref l, c.st.ref hn, l, _, rfl, h1, trivial, fun o => ?_⟩
  exact q _ _ (same_mut c.same h0) (rep_lst.mpr ⟨l, vs, o, rfl, upd_same, h2.mono (imm_upd (.inl (by rw [h1]; trivial)))⟩)
theorem r_retFX {n k : Nat} {l : Addr} {ks : List (List Int)} (c : Cf K H0 Hb σ H Γ ms) (hn : Γ[n]? = some (.at l)) (hk : ms[k]? = some (l, .dX ks ds)) (q : ∀ v H', Same H0 H' → Rep K H' (.dic ks ds) v → Dn.rt v H') : tRet (tFz (tVar n)) Dn σ H := by
  obtain ⟨h0, xs, h1, hl, hx, h2⟩ := c.mu _ (List.mem_of_getElem? hk)
  refine ⟨.ref l, c.st.ref hn, l, _, rfl, h1, trivial, fun o => ?_⟩
  have i : Imm H (upd H l (.frz o (DX l xs))) := imm_upd (.inl (by rw [h1]; trivial))
  exact q _ _ (same_mut c.same h0) (rep_dic.mpr ⟨l, xs, o, rfl, upd_same, hl, fun x z => i.key (hx x z), h2.mono i⟩)
theorem r_set {n : Nat} (c : Cf K H0 Hb σ H Γ ms) (h : EvD K te σ H d) (k : ∀ σ' H', Same H H' → Cf K H0 Hb σ' H' (Γ.set n (.d d)) ms → Dn.nx σ' H') : tAsg te (gName n) Dn σ H :=
  h H (Same.refl H) _ fun v H2 e r => k _ _ e ((c.ext e).setD n r)
theorem r_setM {n : Nat} {m : Mo} (c : Cf K H0 Hb σ H Γ ms) (h : EvM K te σ H m) (k : ∀ p σ' H', Same H H' → Cf K H0 Hb σ' H' (Γ.set n (.at p)) ((p, m) :: ms) → Dn.nx σ' H') : tAsg te (gName n) Dn σ H :=
  h H (Same.refl H) _ fun p H2 e hp hm => k p _ _ e ((c.more e hp hm).setAt n p)
/-- x = y, y a list that the body made, known for good from here on -/
theorem r_setF {n m k : Nat} {l : Addr} (c : Cf K H0 Hb σ H Γ ms) (hm : Γ[m]? = some (.at l)) (hk : ms[k]? = some (l, .lst ds)) (q : ∀ σ' H', Cf K H0 Hb σ' H' (Γ.set n (.d (.lst ds))) (ms.eraseIdx k) → Dn.nx σ' H') : tAsg (tFz (tVar m)) (gName n) Dn σ H := by
  obtain ⟨h0, vs, h1, h2⟩ := c.mu _ (List.mem_of_getElem? hk)
  refine ⟨.ref l, c.st.ref hm, l, _, rfl, h1, trivial, fun o => ?_⟩
  exact q _ _ ((c.frz k hk h1 trivial).setD n (rep_lst.mpr ⟨l, vs, o, rfl, upd_same, h2.mono (imm_upd (.inl (by rw [h1]; trivial)))⟩))
theorem r_if {b : Bool} (c : Cf K H0 Hb σ H Γ ms) (h : EvT t σ H b) (h1 : b = true → ∀ H', Same H H' → Cf K H0 Hb σ H' Γ ms → tu Dn σ H') (h2 : b = false → ∀ H', Same H H' → Cf K H0 Hb σ H' Γ ms → tw Dn σ H') : tIfS t tu tw Dn σ H :=
  h H (Same.refl H) _ fun H2 e => by
    cases b with
    | true => exact h1 rfl H2 e (c.ext e)
    | false => exact h2 rfl H2 e (c.ext e)
/-- x.append(e) -/
theorem r_app {n k : Nat} {l : Addr} (c : Cf K H0 Hb σ H Γ ms) (hn : Γ[n]? = some (.at l)) (hk : ms[k]? = some (l, .lst ds)) (h : EvD K te σ H d) (hz : ds.length < 1000000)
    (q : ∀ H', Cf K H0 Hb σ H' Γ (ms.set k (l, .lst (ds ++ [d]))) → Dn.nx σ H') : tDrop (tBM K "list" rAppend (tVar n) (tCons te tNil)) Dn σ H := by
  obtain ⟨h0, vs, h1, h2⟩ := c.mu _ (List.mem_of_getElem? hk)
  refine ⟨.ref l, c.st.ref hn, .inl ⟨rfl, vs, .of h1⟩, h H (Same.refl H) _ fun v H2 e r => ?_⟩
  have h1' := e _ _ h1
  refine ⟨l, vs, v, rfl, rfl, h1', sz_lt (by rw [← repL_len h2]; exact hz), q _ ?_⟩
  exact (c.ext e).chg k hk (by rw [h1']; trivial) ⟨_, upd_same, (repL_app h2 (repL_nil.mpr rfl) |> fun _ => repL_app (h2.mono ((imm_same e).trans (imm_upd (.inl (by rw [h1']; trivial))))) (repL_one (r.mono (imm_upd (.inl (by rw [h1']; trivial))))))⟩
/-- x[i] = e -/
theorem r_setL {n k j : Nat} {l : Addr} {i : Int} (c : Cf K H0 Hb σ H Γ ms) (hn : Γ[n]? = some (.at l)) (hk : ms[k]? = some (l, .lst ds)) (h : EvD K te σ H d) (hi : EvD K tb σ H (.int i)) (hj : ixN ds.length i = some j)
    (q : ∀ H', Cf K H0 Hb σ H' Γ (ms.set k (l, .lst (ds.set j d))) → Dn.nx σ H') : tAsg te (gSub (tVar n) tb rSetL) Dn σ H := by
  obtain ⟨h0, vs, h1, h2⟩ := c.mu _ (List.mem_of_getElem? hk)
  refine h H (Same.refl H) _ fun v H2 e r => ⟨.ref l, c.st.ref hn, hi H2 e _ fun y H3 e3 ry => ?_⟩
  have e' := e.trans e3
  have h1' := e' _ _ h1
  refine ⟨l, vs, i, j, rfl, rep_int.mp ry, h1', by rw [← repL_len h2]; exact hj, q _ ?_⟩
  have im : Imm H3 (upd H3 l (.lst (vs.set j v))) := imm_upd (.inl (by rw [h1']; trivial))
  exact (c.ext e').chg k hk (by rw [h1']; trivial) ⟨_, upd_same, repL_set j (h2.mono ((imm_same e').trans im)) (r.mono ((imm_same e3).trans im))⟩
end
end Lw
namespace Lw
open PySem PySem.Spec PyProof.Rows L2
/-! ### what is walked, as data -/
structure WalkD (K : PySem.W.Frag) (J : It) (ds : List D) (H : Hp) : Prop where
  ex : ∃ (G : Hp → Prop) (Y : Nat → Hp → V → Hp → Prop), G H ∧ (∀ Ha Hc, Imm Ha Hc → G Ha → G Hc) ∧ Walk J ds.length G Y ∧ ∀ i Ha x Hc, i < ds.length → G Ha → Y i Ha x Hc → Same Ha Hc ∧ ∃ d, ds[i]? = some d ∧ Rep K Hc d x
def EvI (K : PySem.W.Frag) (wi : TI) (σ : L2.St) (H : Hp) (ds : List D) : Prop := ∀ H1, Same H H1 → ∀ R : It → Hp → Prop, (∀ J H2, Same H1 H2 → WalkD K J ds H2 → R J H2) → wi σ H1 R
section
variable {K : PySem.W.Frag} {σ : L2.St} {H H' H0 Hb : Hp} {ta : TA} {tl te : TE} {tt : TT} {d : D} {ds es : List D} {v : V} {Γ : List G} {ms : List (Addr × Mo)} {Dn : Ends} {tb tz : TS} {g : TG}
theorem WalkD.of {J : It} {n : Nat} {G' Gp : Hp → Prop} {Y : Nat → Hp → V → Hp → Prop} (w : Walk J n G' Y) (hn : ds.length = n) (g0 : Gp H) (gm : ∀ Ha Hc, Imm Ha Hc → Gp Ha → Gp Hc) (hG : ∀ H, Gp H → G' H)
    (y : ∀ i Ha x Hc, i < ds.length → Gp Ha → Y i Ha x Hc → Same Ha Hc ∧ ∃ d, ds[i]? = some d ∧ Rep K Hc d x) : WalkD K J ds H :=
  ⟨Gp, Y, g0, gm, by rw [hn]; exact w.mono hG fun _ _ _ _ _ _ y => y, y⟩
theorem ei_list (h : EvD K tl σ H (.lst ds)) : EvI K (iList K tl) σ H ds := fun H1 e R q =>
  h H1 e _ fun x H2 e2 r => by
    obtain ⟨a, vs, o, rfl, h2, h3⟩ := rep_lst.mp r
    refine ⟨a, rfl, ⟨vs, .inl (.inr ⟨o, h2⟩)⟩, q _ H2 e2 ⟨fun H => H a = some (.frz o (.lst vs)) ∧ RepL K H ds vs, YAt vs, ⟨h2, h3⟩, fun _ _ i h => ⟨i.f _ _ _ h.1, h.2.mono i⟩, ?_, ?_⟩⟩
    · rw [repL_len h3]
      exact walk_list.mono (fun _ h => .inl (.inr ⟨o, h.1⟩)) fun _ _ _ _ _ _ y => y
    · rintro i Ha x Hc hi ⟨_, g⟩ ⟨rfl, hx⟩
      exact ⟨Same.refl _, repL_at g hx⟩
theorem ei_tup (h : EvD K tl σ H (.tup ds)) : EvI K (iTup K tl) σ H ds := fun H1 e R q =>
  h H1 e _ fun x H2 e2 r => by
    obtain ⟨a, vs, rfl, h2, h3⟩ := rep_tup.mp r
    refine ⟨a, rfl, ⟨vs, h2⟩, q _ H2 e2 ⟨fun H => SqT K H a vs ∧ RepL K H ds vs, YAt vs, ⟨h2, h3⟩, fun _ _ i h => ⟨i.sqt h.1, h.2.mono i⟩, ?_, ?_⟩⟩
    · rw [repL_len h3]
      exact walk_tup.mono (fun _ h => h.1) fun _ _ _ _ _ _ y => y
    · rintro i Ha x Hc hi ⟨_, g⟩ ⟨rfl, hx⟩
      exact ⟨Same.refl _, repL_at g hx⟩
abbrev rgD (lo : Int) (n : Nat) : List D := (List.range n).map fun i => .int (lo + (i : Nat))
theorem rgD_get {lo : Int} {n i : Nat} (h : i < n) : (rgD lo n)[i]? = some (.int (lo + (i : Nat))) := by
  rw [List.getElem?_map, List.getElem?_range h]; rfl
theorem rgD_len {lo : Int} {n : Nat} : (rgD lo n).length = n := by simp [rgD]
theorem walkD_range {lo : Int} {n : Nat} : WalkD K (Itr lo n) (rgD lo n) H :=
  ⟨fun _ => True, YFn fun i => .int (lo + i), trivial, fun _ _ _ _ => trivial, by rw [rgD_len]; exact walk_range, by
    rintro i Ha x Hc hi _ ⟨rfl, rfl⟩
    rw [rgD_len] at hi
    exact ⟨Same.refl _, _, rgD_get hi, rep_int.mpr rfl⟩⟩
theorem ei_rng1 {n : Int} (h : EvA K ta σ H [.int n]) (h1 : -(2 ^ 62) ≤ n) (h2 : n < 2 ^ 62) : EvI K (iRng1 ta) σ H (rgD 0 n.toNat) := fun H1 e R q =>
  h H1 e _ fun vs H2 e2 r => ⟨n, repL_int_eq (ns := [n]) r, h1, h2, q _ H2 e2 walkD_range⟩
theorem ei_rng2 {m n : Int} (h : EvA K ta σ H [.int m, .int n]) (h1 : -(2 ^ 62) ≤ m ∧ m < 2 ^ 62 ∧ -(2 ^ 62) ≤ n ∧ n < 2 ^ 62) : EvI K (iRng2 ta) σ H (rgD m (n - m).toNat) := fun H1 e R q =>
  h H1 e _ fun vs H2 e2 r => ⟨m, n, repL_int_eq (ns := [m, n]) r, h1, q _ H2 e2 walkD_range⟩
/-- range(m, n, -1) -/
abbrev rdD (m : Int) (n : Nat) : List D := (List.range n).map fun i => .int (m + (i : Nat) * (-1))
theorem rdD_get {lo : Int} {n i : Nat} (h : i < n) : (rdD lo n)[i]? = some (.int (lo + (i : Nat) * (-1))) := by
  rw [List.getElem?_map, List.getElem?_range h]; rfl
theorem rdD_len {lo : Int} {n : Nat} : (rdD lo n).length = n := by simp [rdD]
theorem ei_rng3 {m n : Int} (h : EvA K ta σ H [.int m, .int n, .int (-1)]) (h1 : -(2 ^ 62) ≤ m ∧ m < 2 ^ 62 ∧ -(2 ^ 62) ≤ n ∧ n < 2 ^ 62) : EvI K (iRng3 ta) σ H (rdD m (m - n).toNat) := fun H1 e R q =>
  h H1 e _ fun vs H2 e2 r => ⟨m, n, -1, _, repL_int_eq (ns := [m, n, -1]) r, RgC.neg h1.1 h1.2.1 h1.2.2.1 h1.2.2.2, q _ H2 e2 ⟨fun _ => True, YFn fun i => .int (m + (i : Nat) * (-1)), trivial, fun _ _ _ _ => trivial, by rw [rdD_len]; exact walk_rangeC, by
    rintro i Ha x Hc hi _ ⟨rfl, rfl⟩
    rw [rdD_len] at hi
    exact ⟨Same.refl _, _, rdD_get hi, rep_int.mpr rfl⟩⟩⟩
/-- pairs -/
theorem yPair_ok {fx fy : Nat → Option V} {ds : List D} {dx dy : Nat → D} (hd : ∀ i, i < ds.length → ds[i]? = some (.tup [dx i, dy i]))
    {i : Nat} {Ha Hc : Hp} {x : V} (hi : i < ds.length) (hx : ∀ v, fx i = some v → Rep K Ha (dx i) v) (hy : ∀ v, fy i = some v → Rep K Ha (dy i) v) (y : YPair fx fy i Ha x Hc) :
    Same Ha Hc ∧ ∃ d, ds[i]? = some d ∧ Rep K Hc d x := by
  obtain ⟨T, a, b, rfl, nT, rfl, ea, eb⟩ := y
  have s := same_new (o := .tup [a, b]) nT
  exact ⟨s, _, hd i hi, rep_tup.mpr ⟨T, _, rfl, .of upd_same, repL_cons.mpr ⟨a, _, rfl, (hx a ea).mono (imm_same s), repL_one ((hy b eb).mono (imm_same s))⟩⟩⟩
abbrev enD (ds : List D) : List D := (List.range ds.length).map fun i => .tup [.int (i : Nat), ds.getD i .non]
theorem enD_len {ds : List D} : (enD ds).length = ds.length := by simp [enD]
theorem enD_get {ds : List D} {i : Nat} (h : i < ds.length) : (enD ds)[i]? = some (.tup [.int (i : Nat), ds.getD i .non]) := by
  rw [List.getElem?_map, List.getElem?_range h]; rfl
theorem getD_of {ds : List D} {i : Nat} {d : D} (h : ds[i]? = some d) : ds.getD i .non = d := by simp [List.getD, h]
theorem ei_enum (h : EvD K tl σ H (.lst ds)) : EvI K (iEnum K (tCons tl tNil)) σ H (enD ds) := fun H1 e R q =>
  h H1 e _ fun x H2 e2 r => by
    obtain ⟨a, vs, o, rfl, h2, h3⟩ := rep_lst.mp r
    refine ⟨a, vs, rfl, .inl (.inr ⟨o, h2⟩), q _ H2 e2 (.of (Gp := fun H => H a = some (.frz o (.lst vs)) ∧ RepL K H ds vs) (walk_enum (xs := vs)) (by rw [enD_len, repL_len h3]) ⟨h2, h3⟩ (fun _ _ i h => ⟨i.f _ _ _ h.1, h.2.mono i⟩) (fun _ h => .inl (.inr ⟨o, h.1⟩)) ?_)⟩
    · rintro i Ha x Hc hi ⟨_, g⟩ y
      have hi' : i < ds.length := by rw [enD_len] at hi; exact hi
      refine yPair_ok (ds := enD ds) (dx := fun i => .int (i : Nat)) (dy := fun i => ds.getD i .non) (fun i hi => enD_get (by rw [enD_len] at hi; exact hi)) hi (fun v e => ?_) (fun v e => ?_) y
      · cases e; exact rep_int.mpr rfl
      · obtain ⟨d, e1, e2⟩ := repL_at g e
        rw [getD_of e1]; exact e2
abbrev zipD (ds es : List D) : List D := (List.range (min ds.length es.length)).map fun i => .tup [ds.getD i .non, es.getD i .non]
theorem zipD_len {ds es : List D} : (zipD ds es).length = min ds.length es.length := by simp [zipD]
theorem zipD_get {ds es : List D} {i : Nat} (h : i < min ds.length es.length) : (zipD ds es)[i]? = some (.tup [ds.getD i .non, es.getD i .non]) := by
  rw [List.getElem?_map, List.getElem?_range h]; rfl
theorem ei_zipLL {tr : TE} (h : EvD K tl σ H (.lst ds)) (h' : EvD K tr σ H (.lst es)) : EvI K (RZ.iZipA K (tCons tl (tCons tr tNil))) σ H (zipD ds es) := fun H1 e R q =>
  h H1 e _ fun x H2 e2 r => h' H2 (e.trans e2) _ fun x' H3 e3 r' => by
    obtain ⟨a, vs, o, rfl, h2, h3⟩ := rep_lst.mp (r.mono (imm_same e3))
    obtain ⟨a', vs', o', rfl, h2', h3'⟩ := rep_lst.mp r'
    refine ⟨a, a', vs, vs', rfl, .inl ⟨.inl (.inr ⟨o, h2⟩), .inl (.inr ⟨o', h2'⟩), q _ H3 (e2.trans e3) (.of (Gp := fun H => (H a = some (.frz o (.lst vs)) ∧ RepL K H ds vs) ∧ H a' = some (.frz o' (.lst vs')) ∧ RepL K H es vs') (walk_zip (xs := vs) (ys := vs') rfl) (by rw [zipD_len, repL_len h3, repL_len h3']) ⟨⟨h2, h3⟩, h2', h3'⟩ (fun _ _ i h => ⟨⟨i.f _ _ _ h.1.1, h.1.2.mono i⟩, i.f _ _ _ h.2.1, h.2.2.mono i⟩) (fun _ h => ⟨.inl (.inr ⟨o, h.1.1⟩), .inl (.inr ⟨o', h.2.1⟩)⟩) ?_)⟩⟩
    · rintro i Ha x Hc hi ⟨⟨_, g⟩, _, g'⟩ y
      refine yPair_ok (ds := zipD ds es) (dx := fun i => ds.getD i .non) (dy := fun i => es.getD i .non) (fun i hi => zipD_get (by rw [zipD_len] at hi; exact hi)) hi (fun v e => ?_) (fun v e => ?_) y
      · obtain ⟨d, e1, e2⟩ := repL_at g e
        rw [getD_of e1]; exact e2
      · obtain ⟨d, e1, e2⟩ := repL_at g' e
        rw [getD_of e1]; exact e2
theorem walk_zipT {a b : Addr} {xs ys : List V} {n : Nat} (hn : n = min xs.length ys.length) : Walk (RZ.ItzT K a b) n (fun H => SqT K H a xs ∧ SqT K H b ys) (YPair (fun i => xs[i]?) (fun i => ys[i]?)) := by
  subst hn
  refine ⟨fun i _ hi q => ?_, fun _ q => ⟨xs, ys, q.1, q.2, by omega⟩, fun i H v H' _ q y => ?_⟩
  · have h1 : i < xs.length := by omega
    have h2 : i < ys.length := by omega
    exact ⟨xs, ys, xs[i], ys[i], q.1, q.2, by simp [h1], by simp [h2]⟩
  · obtain ⟨T, x, z, h1, h2, h3, h4, h5⟩ := y
    exact ⟨T, x, z, h1, h2, h3, h4 xs q.1, h5 ys q.2⟩
theorem ei_zipTT {tr : TE} (h : EvD K tl σ H (.tup ds)) (h' : EvD K tr σ H (.tup es)) : EvI K (RZ.iZipA K (tCons tl (tCons tr tNil))) σ H (zipD ds es) := fun H1 e R q =>
  h H1 e _ fun x H2 e2 r => h' H2 (e.trans e2) _ fun x' H3 e3 r' => by
    obtain ⟨a, vs, rfl, h2, h3⟩ := rep_tup.mp (r.mono (imm_same e3))
    obtain ⟨a', vs', rfl, h2', h3'⟩ := rep_tup.mp r'
    refine ⟨a, a', vs, vs', rfl, .inr ⟨h2, h2', q _ H3 (e2.trans e3) (.of (Gp := fun H => (SqT K H a vs ∧ RepL K H ds vs) ∧ SqT K H a' vs' ∧ RepL K H es vs') (walk_zipT (xs := vs) (ys := vs') rfl) (by rw [zipD_len, repL_len h3, repL_len h3']) ⟨⟨h2, h3⟩, h2', h3'⟩ (fun _ _ i h => ⟨⟨i.sqt h.1.1, h.1.2.mono i⟩, i.sqt h.2.1, h.2.2.mono i⟩) (fun _ h => ⟨h.1.1, h.2.1⟩) ?_)⟩⟩
    · rintro i Ha x Hc hi ⟨⟨_, g⟩, _, g'⟩ y
      refine yPair_ok (ds := zipD ds es) (dx := fun i => ds.getD i .non) (dy := fun i => es.getD i .non) (fun i hi => zipD_get (by rw [zipD_len] at hi; exact hi)) hi (fun v e => ?_) (fun v e => ?_) y
      · obtain ⟨d, e1, e2⟩ := repL_at g e
        rw [getD_of e1]; exact e2
      · obtain ⟨d, e1, e2⟩ := repL_at g' e
        rw [getD_of e1]; exact e2
theorem zip_get {α β : Type} : ∀ {l : List α} {m : List β} {i : Nat} {a : α} {b : β}, (l.zip m)[i]? = some (a, b) → l[i]? = some a ∧ m[i]? = some b
  | [], _, _, _, _, h => by simp at h
  | _ :: _, [], _, _, _, h => by simp at h
  | _ :: _, _ :: _, 0, _, _, h => by simp at h; exact ⟨by simp [h.1], by simp [h.2]⟩
  | _ :: l, _ :: m, i + 1, _, _, h => by
    have := zip_get (l := l) (m := m) (i := i) (by simpa using h)
    exact ⟨by simpa using this.1, by simpa using this.2⟩
/-! ### targets -/
/-- g stores a thing of data d: the slots' knowledge becomes u; js: the slots touched -/
def EvG (K : PySem.W.Frag) (g : TG) (d : D) (u : List G → List G) (js : List Nat) : Prop := ∀ (σ : L2.St) (H : Hp) (x : V) (Q : L2.St → Hp → Prop), Rep K H d x →
  (∀ σ', (∀ Γ, StOk K H σ Γ → StOk K H σ' (u Γ)) → (∀ vs, (∀ j ∈ js, j ∈ vs) → wipe σ' vs = wipe σ vs) → Q σ' H) → g x σ H Q
def EvGs (K : PySem.W.Frag) (g : TGs) (ds : List D) (u : List G → List G) (js : List Nat) : Prop := ∀ (σ : L2.St) (H : Hp) (xs : List V) (Q : L2.St → Hp → Prop), RepL K H ds xs →
  (∀ σ', (∀ Γ, StOk K H σ Γ → StOk K H σ' (u Γ)) → (∀ vs, (∀ j ∈ js, j ∈ vs) → wipe σ' vs = wipe σ vs) → Q σ' H) → g xs σ H Q
theorem wipe_set {σ : L2.St} {j : Nat} {x : Option V} : ∀ {vs : List Nat}, j ∈ vs → wipe (σ.set j x) vs = wipe σ vs
  | [], h => by cases h
  | v :: vs, h => by
    unfold wipe
    by_cases e : j = v
    · subst e
      by_cases hv : j ∈ vs
      · rw [wipe_set hv]
      · have : ∀ vs : List Nat, j ∉ vs → wipe (σ.set j x) vs = (wipe σ vs).set j x := by
          intro vs
          induction vs with
          | nil => intro _; rfl
          | cons w r ih =>
            intro hn
            unfold wipe
            rw [ih (fun q => hn (List.mem_cons_of_mem _ q)), List.set_comm _ _ (fun q => hn (by rw [q]; exact List.mem_cons_self))]
        rw [this vs hv, List.set_set]
    · have hv : j ∈ vs := (List.mem_cons.mp h).resolve_left e
      rw [wipe_set hv]
theorem eg_name {n : Nat} : EvG K (gName n) d (fun Γ => Γ.set n (.d d)) [n] := fun σ H x Q r q =>
  q _ (fun Γ h => StOk.set (g := .d d) ⟨x, rfl, r⟩ n h) fun vs h => wipe_set (h n (by simp))
theorem egs_nil : EvGs K gNil [] (fun Γ => Γ) [] := fun σ H xs Q r q => ⟨repL_nil.mp r, q σ (fun _ h => h) fun _ _ => rfl⟩
theorem egs_cons {g : TG} {gs : TGs} {u u' : List G → List G} {js js' : List Nat} (h : EvG K g d u js) (hs : EvGs K gs ds u' js') : EvGs K (gCons g gs) (d :: ds) (fun Γ => u' (u Γ)) (js ++ js') := fun σ H xs Q r q => by
  obtain ⟨v, r', rfl, r1, r2⟩ := repL_cons.mp r
  refine ⟨v, r', rfl, h σ H v _ r1 fun σ' k1 w1 => hs σ' H r' _ r2 fun σ'' k2 w2 => q σ'' (fun Γ s => k2 _ (k1 _ s)) fun vs hv => ?_⟩
  rw [w2 vs fun j hj => hv j (List.mem_append_right _ hj), w1 vs fun j hj => hv j (List.mem_append_left _ hj)]
theorem eg_tup {gs : TGs} {u : List G → List G} {js : List Nat} {n : Nat} (hs : EvGs K gs ds u js) (hn : ds.length = n) : EvG K (gTup K n gs) (.tup ds) u js := fun σ H x Q r q => by
  obtain ⟨a, vs, rfl, h2, h3⟩ := rep_tup.mp r
  exact ⟨a, vs, rfl, h2, by rw [← repL_len h3, hn], hs σ H vs Q h3 q⟩

/-! ### for -/
theorem r_forP {wi : TI} (hi : EvI K wi σ H ds) (P : Nat → L2.St → Hp → Prop) {Hs : Hp} (hs : Imm H Hs → True) (h0 : ∀ H1, Same H H1 → P 0 σ H1) (hP : ∀ H1, Same H H1 → ∀ i σ' H', i ≤ ds.length → P i σ' H' → ∃ H'', Imm H1 H'' ∧ H'' = H') (step : ∀ i d σ' H' x H'', ds[i]? = some d → P i σ' H' → Same H' H'' → Rep K H'' d x →
      g x σ' H'' fun σ2 H2 => tb { Dn with nx := P (i + 1), ct := P (i + 1), bk := Dn.nx } σ2 H2) (done : ∀ σ' H', P ds.length σ' H' → Dn.nx σ' H') : tFor wi g tb Dn σ H :=
  hi H (Same.refl H) _ fun J H1 e w => by
    obtain ⟨Gp, Y, g0, gm, wk, y⟩ := w.ex
    refine for_it wk P (h0 H1 e) (fun i σ' H' hle p => ?_) (fun i x σ' H' H'' hlt p yy => ?_) done
    · obtain ⟨H'', im, rfl⟩ := hP H1 e i σ' H' hle p
      exact gm _ _ im g0
    · obtain ⟨H3, im, rfl⟩ := hP H1 e i σ' H' (Nat.le_of_lt hlt) p
      obtain ⟨s, d, e1, r⟩ := y i _ x H'' hlt (gm _ _ im g0) yy
      exact step i d σ' _ x H'' e1 p s r
end
section
variable {K : PySem.W.Frag} {σ : L2.St} {H H' H0 Hb : Hp} {ta : TA} {tl te : TE} {tt : TT} {d : D} {ds es : List D} {v : V} {Γ : List G} {ms : List (Addr × Mo)} {Dn : Ends} {tb tz : TS} {g : TG}
/-- a loop whose turns are told by the slots' knowledge and by what changes -/
theorem r_for {wi : TI} (c : Cf K H0 Hb σ H Γ ms) (hi : EvI K wi σ H ds) (Γs : Nat → List G) (mss : Nat → List (Addr × Mo)) (hΓ : Le Γ (Γs 0)) (hm : ms = mss 0) (u : Nat → List G → List G) {js : List Nat} (hg : ∀ i d, ds[i]? = some d → EvG K g d (u i) js)
    (step : ∀ Hs i d σ' H', ds[i]? = some d → i < ds.length → Cf K H0 Hs σ' H' (u i (Γs i)) (mss i) → tb { Dn with nx := fun σ H => Cf K H0 Hs σ H (Γs (i + 1)) (mss (i + 1)), ct := fun σ H => Cf K H0 Hs σ H (Γs (i + 1)) (mss (i + 1)), bk := Dn.nx } σ' H')
    (done : ∀ σ' H', Cf K H0 Hb σ' H' (Γs ds.length) (mss ds.length) → Dn.nx σ' H') : tFor wi g tb Dn σ H :=
  hi H (Same.refl H) _ fun J H1 e w => by
    obtain ⟨Gp, Y, g0, gm, wk, y⟩ := w.ex
    have c1 : Cf K H0 H1 σ H1 (Γs 0) (mss 0) := by
      have := ((c.ext e).le hΓ).base
      rw [hm] at this; exact this
    refine for_it wk (fun i σ' H' => Cf K H0 H1 σ' H' (Γs i) (mss i)) c1 (fun i σ' H' hle p => gm _ _ p.imm g0) (fun i x σ' H' H'' hlt p yy => ?_) (fun σ' H' p => done σ' H' (p.back (c.imm.trans (imm_same e))))
    obtain ⟨s, d, e1, r⟩ := y i _ x H'' hlt (gm _ _ p.imm g0) yy
    have p' := p.ext s
    exact hg i d e1 σ' H'' x _ r fun σ'' k _ => step H1 i d σ'' H'' e1 hlt ⟨p'.same, p'.imm, k _ p'.st, p'.mu, p'.nd⟩
/-- [e for x in xs if t] -/
abbrev gvn {α : Type} (xs : List α) (f : α → Bool) (e : α → D) : List D := (xs.filter f).map e
theorem em_lc {wi : TI} {α : Type} {xs : List α} {enc : α → D} {vs : List Nat} (c : Cf K H0 Hb σ H Γ ms) (hi : EvI K wi σ H (xs.map enc)) (f : α → Bool) (e : α → D) (u : α → List G → List G) {js : List Nat} (hjs : ∀ j ∈ js, j ∈ vs) (hg : ∀ a ∈ xs, EvG K g (enc a) (u a) js)
    (ht : ∀ a ∈ xs, ∀ Hs σ' H', Cf K H0 Hs σ' H' (u a (vs.foldr (fun v g => g.set v .no) Γ)) ms → EvT tt σ' H' (f a)) (he : ∀ a ∈ xs, f a = true → ∀ Hs σ' H', Cf K H0 Hs σ' H' (u a (vs.foldr (fun v g => g.set v .no) Γ)) ms → EvD K te σ' H' (e a))
    (hl : xs.length < 1000000) : EvM K (tLc wi g tt te vs) σ H (.lst (gvn xs f e)) := fun Hx ex Q q =>
  hi Hx ex _ fun J H1 e1 w => fun D hD => by
    obtain ⟨Gp, Y, g0, gm, wk, y⟩ := w.ex
    have c1 : Cf K H0 H1 σ H1 Γ ms := (c.ext (ex.trans e1)).base
    refine lc_it wk (fun i H' => Cf K H0 H1 (wipe σ vs) H' (vs.foldr (fun v g => g.set v .no) Γ) ((D, .lst (gvn (xs.take i) f e)) :: ms) ∧ Same H1 H') ?_ (fun i H' hle p => gm _ _ p.1.imm g0) (fun i x H' H'' hlt p yy => ?_) (fun H' p => ?_)
    · have c2 : Cf K H0 H1 (wipe σ vs) H1 (vs.foldr (fun v g => g.set v .no) Γ) ms := ⟨c1.same, c1.imm, c1.st.wipe vs, c1.mu, c1.nd⟩
      exact ⟨c2.more (same_new hD) hD ⟨[], upd_same, repL_nil.mpr rfl⟩, same_new hD⟩
    · obtain ⟨s, d, ed, r⟩ := y i _ x H'' hlt (gm _ _ p.1.imm g0) yy
      have hlt' : i < xs.length := by rw [List.length_map] at hlt; exact hlt
      rw [List.getElem?_map, List.getElem?_eq_getElem hlt'] at ed
      cases ed
      have hmem : xs[i] ∈ xs := List.getElem_mem _
      refine hg _ hmem (wipe σ vs) H'' x _ r fun σ2 k wp => ⟨?_, ?_⟩
      · have ww : ∀ vs' : List Nat, (∀ j ∈ vs', j ∈ vs) → wipe (wipe σ vs) vs' = wipe σ vs := by
          intro vs' hv
          induction vs' with
          | nil => rfl
          | cons v r ih =>
            show (wipe (wipe σ vs) r).set v none = wipe σ vs
            rw [ih fun j hj => hv j (List.mem_cons_of_mem _ hj)]
            have hv' := hv v List.mem_cons_self
            -- a wiped slot is none
            apply List.ext_getElem?
            intro j
            by_cases ej : v = j
            · subst ej
              by_cases hb : v < (wipe σ vs).length
              · rw [List.getElem?_set_self hb]
                cases q : (wipe σ vs)[v]? with
                | none => rw [List.getElem?_eq_none_iff] at q; omega
                | some o =>
                  cases o with
                  | none => rfl
                  | some z => exact absurd hv' (wipe_some q).2
              · rw [List.getElem?_eq_none (by rw [List.length_set]; omega), List.getElem?_eq_none (by omega)]
            · rw [List.getElem?_set_ne ej]
        rw [wp vs hjs, ww vs fun _ h => h]
      · have p1 := p.1.ext s
        have p2 : Cf K H0 H1 σ2 H'' (u xs[i] (vs.foldr (fun v g => g.set v .no) Γ)) ((D, .lst (gvn (xs.take i) f e)) :: ms) := ⟨p1.same, p1.imm, k _ p1.st, p1.mu, p1.nd⟩
        have p3 : Cf K H0 H1 σ2 H'' (u xs[i] (vs.foldr (fun v g => g.set v .no) Γ)) ms := p2.drop 0
        refine ht _ hmem H1 σ2 H'' p3 H'' (Same.refl _) _ fun H3 e3 => ?_
        have tk : xs.take (i + 1) = xs.take i ++ [xs[i]] := by rw [List.take_add_one, List.getElem?_eq_getElem hlt']; rfl
        cases hf : f xs[i] with
        | false =>
          show _ ∧ _
          have : gvn (xs.take (i + 1)) f e = gvn (xs.take i) f e := by rw [gvn, tk, List.filter_append]; simp [hf]
          rw [this]
          exact ⟨p.1.ext (s.trans e3), p.2.trans (s.trans e3)⟩
        | true =>
          show te σ2 H3 _
          refine he _ hmem hf H1 σ2 H3 (p3.ext e3) H3 (Same.refl _) _ fun v H4 e4 r4 => ?_
          have p4 := p.1.ext ((s.trans e3).trans e4)
          obtain ⟨_, acc, ha, hr⟩ := p4.mu _ List.mem_cons_self
          refine ⟨acc, ha, sz_lt ?_, ?_⟩
          · rw [← repL_len hr]
            have : (gvn (xs.take i) f e).length ≤ i := by
              rw [List.length_map]
              exact Nat.le_trans (List.length_filter_le _ _) (by rw [List.length_take]; omega)
            omega
          · have : gvn (xs.take (i + 1)) f e = gvn (xs.take i) f e ++ [e xs[i]] := by rw [gvn, tk, List.filter_append]; simp [hf]
            rw [this]
            have im : Imm H4 (upd H4 D (.lst (acc ++ [v]))) := imm_upd (.inl (by rw [ha]; trivial))
            refine ⟨p4.chg 0 rfl (by rw [ha]; trivial) ⟨_, upd_same, repL_app (hr.mono im) (repL_one (r4.mono im))⟩, same_mut (p.2.trans ((s.trans e3).trans e4)) hD⟩
    · rw [List.length_map, List.take_length] at p
      exact q D H' (e1.trans p.2) (e1.free hD) (p.1.mu _ List.mem_cons_self).2
end
end Lw
/-! Fractions: sizes, and what the program's own operations on tops and bottoms give. No program here. -/
namespace Lw
open Rat
/-- top and bottom below 2 ^ n -/
def Sz (n : Nat) (q : Rat) : Prop := q.num.natAbs < 2 ^ n ∧ q.den < 2 ^ n
theorem pow_mono {n m : Nat} (h : n ≤ m) : (2 : Nat) ^ n ≤ 2 ^ m := Nat.pow_le_pow_right (by decide) h
theorem Sz.mono {n m : Nat} {q : Rat} (h : Sz n q) (hn : n ≤ m) : Sz m q := ⟨Nat.lt_of_lt_of_le h.1 (pow_mono hn), Nat.lt_of_lt_of_le h.2 (pow_mono hn)⟩
theorem Sz.zero : Sz 1 0 := ⟨by decide, by decide⟩
theorem Sz.one : Sz 1 1 := ⟨by decide, by decide⟩
theorem divInt_sz {t b : Int} {n : Nat} (ht : t.natAbs < 2 ^ n) (hb : b.natAbs < 2 ^ n) (hb0 : b ≠ 0) : Sz n (t /. b) := by
  refine ⟨?_, ?_⟩
  · rw [num_divInt]
    have h1 : (b.sign * t).natAbs ≤ t.natAbs := by
      rw [Int.natAbs_mul]
      have : b.sign.natAbs = 1 := by rw [Int.natAbs_sign_of_ne_zero hb0]
      rw [this, Nat.one_mul]; exact Nat.le_refl _
    have h2 : (b.sign * t / ((b.gcd t : Nat) : Int)).natAbs ≤ (b.sign * t).natAbs := Int.natAbs_ediv_le_natAbs _ _
    omega
  · rw [den_divInt, if_neg hb0]
    exact Nat.lt_of_le_of_lt (Nat.div_le_self _ _) hb
theorem mkRat_sz {t : Int} {b : Nat} {n : Nat} (ht : t.natAbs < 2 ^ n) (hb : b < 2 ^ n) (hb0 : b ≠ 0) : Sz n (mkRat t b) := by
  rw [← divInt_ofNat]
  exact divInt_sz ht (by simpa using hb) (by simpa using hb0)
theorem mul_lt2 {a b n m : Nat} (ha : a < 2 ^ n) (hb : b < 2 ^ m) : a * b < 2 ^ (n + m) := by
  rw [Nat.pow_add]; exact Nat.mul_lt_mul'' ha hb
theorem add_lt2 {a b n : Nat} (ha : a < 2 ^ n) (hb : b < 2 ^ n) : a + b < 2 ^ (n + 1) := by
  rw [Nat.pow_succ]; omega
theorem den_ne (a : Rat) : a.den ≠ 0 := a.den_nz
theorem Sz.add {n m : Nat} {a b : Rat} (ha : Sz n a) (hb : Sz m b) : Sz (n + m + 1) (a + b) := by
  rw [add_def']
  refine mkRat_sz ?_ ?_ (Nat.mul_ne_zero a.den_nz b.den_nz)
  · refine Nat.lt_of_le_of_lt (Int.natAbs_add_le _ _) (add_lt2 ?_ ?_)
    · rw [Int.natAbs_mul]; exact mul_lt2 ha.1 (by simpa using hb.2)
    · rw [Int.natAbs_mul, Nat.add_comm]; exact mul_lt2 hb.1 (by simpa using ha.2)
  · exact Nat.lt_of_lt_of_le (mul_lt2 ha.2 hb.2) (pow_mono (by omega))
theorem Sz.neg {n : Nat} {a : Rat} (ha : Sz n a) : Sz n (-a) := ⟨by rw [neg_num, Int.natAbs_neg]; exact ha.1, by rw [neg_den]; exact ha.2⟩
theorem Sz.sub {n m : Nat} {a b : Rat} (ha : Sz n a) (hb : Sz m b) : Sz (n + m + 1) (a - b) := by
  rw [Rat.sub_eq_add_neg]; exact ha.add hb.neg
theorem Sz.mul {n m : Nat} {a b : Rat} (ha : Sz n a) (hb : Sz m b) : Sz (n + m) (a * b) := by
  rw [mul_def']
  refine mkRat_sz ?_ ?_ (Nat.mul_ne_zero a.den_nz b.den_nz)
  · rw [Int.natAbs_mul]; exact mul_lt2 ha.1 hb.1
  · exact mul_lt2 ha.2 hb.2
theorem Sz.div {n m : Nat} {a b : Rat} (ha : Sz n a) (hb : Sz m b) : Sz (n + m) (a / b) := by
  by_cases h : b = 0
  · subst h
    have : a / 0 = 0 := by rw [div_def, Rat.inv_zero, Rat.mul_zero]
    rw [this]
    refine ⟨?_, ?_⟩
    · show 0 < 2 ^ (n + m); exact Nat.pow_pos (by decide)
    · have h1 : a.den < 2 ^ n := ha.2
      have h2 : 1 < 2 ^ m := hb.2
      have h3 : 0 < a.den := a.den_pos
      have h4 : 1 * 1 ≤ a.den * (1 : Nat) := by omega
      show 1 < 2 ^ (n + m)
      exact Nat.lt_of_lt_of_le h2 (pow_mono (by omega))
  · have e : a / b = (a.num * b.den) /. (a.den * b.num) := by
      conv => lhs; rw [← num_divInt_den a, ← num_divInt_den b]
      rw [div_def, inv_divInt, divInt_mul_divInt]
    rw [e]
    refine divInt_sz ?_ ?_ ?_
    · rw [Int.natAbs_mul]; exact mul_lt2 ha.1 (by simpa using hb.2)
    · rw [Int.natAbs_mul]; exact mul_lt2 (by simpa using ha.2) hb.1
    · intro q
      rcases Int.mul_eq_zero.mp q with q | q
      · exact a.den_nz (by exact_mod_cast q)
      · exact h (num_eq_zero.mp q)
theorem Sz.int {n : Nat} {i : Int} (h : i.natAbs < 2 ^ n) (hn : 1 ≤ n := by decide) : Sz n (i : Rat) := ⟨by simpa using h, by
  show 1 < 2 ^ n
  exact Nat.lt_of_lt_of_le (by decide : 1 < 2 ^ 1) (pow_mono hn)⟩
/-- the program's ways to write them -/
theorem add_eq (a b : Rat) : (a.num * b.den + b.num * a.den) /. (a.den * b.den : Int) = a + b := by
  rw [add_def', ← divInt_ofNat]; simp
theorem sub_eq (a b : Rat) : (a.num * b.den - b.num * a.den) /. (a.den * b.den : Int) = a - b := by
  rw [sub_def', ← divInt_ofNat]; simp
theorem mul_eq (a b : Rat) : (a.num * b.num) /. (a.den * b.den : Int) = a * b := by
  rw [mul_def', ← divInt_ofNat]; simp
theorem div_eq (a b : Rat) : (a.num * b.den) /. (a.den * b.num : Int) = a / b := by
  conv => rhs; rw [← num_divInt_den a, ← num_divInt_den b]
  rw [div_def, inv_divInt, divInt_mul_divInt]
theorem gap_pos (a b : Rat) : (0 < a.num * b.den - b.num * a.den) ↔ b < a := by
  rw [Rat.lt_iff]; omega
theorem gap_neg (a b : Rat) : (a.num * b.den - b.num * a.den < 0) ↔ a < b := by
  rw [Rat.lt_iff]; omega
/-- -1, 0 or 1 -/
def sgn (a b : Rat) : Int := (if b < a then 1 else 0) - (if a < b then 1 else 0)
theorem sgn_neg {a b : Rat} : sgn a b < 0 ↔ a < b := by
  unfold sgn
  by_cases h : a < b
  · have h2 : ¬ b < a := fun q => Rat.lt_irrefl (Rat.lt_of_le_of_ne (Rat.le_of_lt (show a < a from by grind)) (by grind))
    simp [h, h2]
  · by_cases h2 : b < a <;> simp [h, h2]
theorem sgn_pos {a b : Rat} : 0 < sgn a b ↔ b < a := by
  unfold sgn
  by_cases h : a < b
  · have h2 : ¬ b < a := by grind
    simp [h, h2]
  · by_cases h2 : b < a <;> simp [h, h2]
theorem sgn_zero {a b : Rat} : sgn a b = 0 ↔ a = b := by
  unfold sgn
  by_cases h : a < b
  · have h2 : ¬ b < a := by grind
    have h3 : a ≠ b := by grind
    simp [h, h2, h3]
  · by_cases h2 : b < a
    · have h3 : a ≠ b := by grind
      simp [h, h2, h3]
    · have h3 : a = b := by grind
      simp [h, h2, h3]
/-- lowest terms, b above 0 -/
theorem low_num {t b : Int} (hb : 0 < b) : (t /. b).num = t / ((t.natAbs.gcd b.natAbs : Nat) : Int) := by
  rw [num_divInt, Int.sign_eq_one_of_pos hb, Int.one_mul, Int.gcd_comm]; rfl
theorem low_den {t b : Int} (hb : 0 < b) : ((t /. b).den : Int) = b / ((t.natAbs.gcd b.natAbs : Nat) : Int) := by
  have h0 : b ≠ 0 := by omega
  rw [den_divInt, if_neg h0, Int.gcd_comm]
  have hn : (b.natAbs : Int) = b := by omega
  rw [Int.natCast_ediv, hn]; rfl
end Lw
namespace Lw
open PySem PySem.Spec PyProof.Rows L2
/-! ### the text, the top's names -/
def top (i : Nat) : Stmt := PySem.Challenge.pw_lowwater_k76_whole_straight_sums_in_boxe.main.body.getD i (.Pass ⟨0, 0, 0, 0⟩)
/-- built-ins that the program doesn't name anew -/
structure Bl (mg : Str → Option Value) : Prop where
  len : mg "len" = none
  abs : mg "abs" = none
  max : mg "max" = none
  min : mg "min" = none
  sum : mg "sum" = none
  int : mg "int" = none
  tuple : mg "tuple" = none
  list : mg "list" = none
  dict : mg "dict" = none
  sorted : mg "sorted" = none
  range : mg "range" = none
  zip : mg "zip" = none
  enumerate : mg "enumerate" = none
/-- a def that stands at a name and keeps a promise -/
structure Fc (P : Program) (w : World) (K : PySem.W.Frag) (mg : Str → Option Value) (base : Heap) (x : Str) (k : Nat) (ps : List Str) (sp : Sp) : Prop where
  ex : ∃ f fd, FnOk P w K mg base CX0 k f fd ps sp ∧ mg x = some (.ref f) ∧ PySem.W.keepIn K (.ref f) = true ∧ Binds K fd ps []
theorem pe_cc {X : Cx} {x : Str} {k k' : Nat} {ps : List Str} {sp : Sp} {p pos : Pos} {e : Expr} {es : List Expr} {t : TA} (C : Fc X.prog X.w X.K X.mg X.base x k ps sp) (hr : Room k' X.A) (hk : k ≤ k') (hg : Gl X x) (ha : PA X (e :: es) t)
    (hdb : (x == ("__debug__" : Str)) = false := by decide) (he : starEach (e :: es) X.env = (false, eval e X.env) :: starEach es X.env := by rfl) (hpl : (backTo pos (starEach es X.env)).any (·.1) = false := by rfl) :
    PE X (.Call (.Name x p) (e :: es) [] pos) (tCall sp [] E0 t) := by
  obtain ⟨f, fd, F, hm, kp, b⟩ := C.ex
  exact pe_call F (hr.mono hk) hg hm kp b .nil pass0 ha hdb he hpl
/-- a def with defaults -/
structure FcD (P : Program) (w : World) (K : PySem.W.Frag) (mg : Str → Option Value) (base : Heap) (x : Str) (k : Nat) (ps : List Str) (dvs : List V) (sp : Sp) : Prop where
  ex : ∃ f fd ds, FnOk P w K mg base CX0 k f fd ps sp ∧ mg x = some (.ref f) ∧ PySem.W.keepIn K (.ref f) = true ∧ Binds K fd ps ds ∧ Vals dvs ds
theorem pe_ccD {X : Cx} {x : Str} {k k' : Nat} {ps : List Str} {dvs : List V} {sp : Sp} {p pos : Pos} {e : Expr} {es : List Expr} {t : TA} (C : FcD X.prog X.w X.K X.mg X.base x k ps dvs sp) (hr : Room k' X.A) (hk : k ≤ k') (hg : Gl X x) (ha : PA X (e :: es) t)
    (hdb : (x == ("__debug__" : Str)) = false := by decide) (he : starEach (e :: es) X.env = (false, eval e X.env) :: starEach es X.env := by rfl) (hpl : (backTo pos (starEach es X.env)).any (·.1) = false := by rfl) :
    PE X (.Call (.Name x p) (e :: es) [] pos) (tCall sp dvs E0 t) := by
  obtain ⟨f, fd, ds, F, hm, kp, b, v⟩ := C.ex
  exact pe_call F (hr.mono hk) hg hm kp b v pass0 ha hdb he hpl
/-- a constant of the top that is a tuple -/
def Kt (K : PySem.W.Frag) (mg : Str → Option Value) (x : Str) (ds : List D) : Prop := ∃ a : Addr, mg x = some (.ref a) ∧ ∀ H : Hp, Rep K H (.tup ds) (.ref a)
/-- a statement, a thing known for good behind it -/
def tGz (i : Nat) (t : TS) : TS := fun D σ H => t { D with nx := fun σ' H' => ∃ a u, σ'[i]? = some (some (.ref a)) ∧ H' a = some u ∧ Mut (some u) ∧ ∀ o, D.nx σ' (upd H' a (.frz o u)) } σ H
theorem ps_gz {X : Cx} {st : Stmt} {t : TS} (i : Nat) (h : PS X st t) : PS X st (tGz i t) := by
  refine ⟨fun pins s σ H D I hw => ?_⟩
  refine thn (h.run pins s σ H _ I hw) fun f s1 q => ?_
  cases f with
  | next =>
    obtain ⟨σ', H', I', a, u, e, h1, mu, q⟩ := q
    obtain ⟨od, I2⟩ := I'.lock h1 mu
    exact ⟨σ', _, I2, q od⟩
  | ret v => exact q
  | brk => exact q
  | cont => exact q
section
variable {K : PySem.W.Frag} {σ : L2.St} {H H' H0 Hb : Hp} {ta : TA} {tb te : TE} {t : TT} {d d1 d2 : D} {ds es : List D} {v : V} {Γ : List G} {ms : List (Addr × Mo)} {Dn : Ends} {tu tw tz : TS}
theorem Cf.start {N : List Str} {vs : List V} (h : RepL K H ds vs) (e : Γ = ds.map .d ++ List.replicate (N.length - ds.length) .no) : Cf K H H (L2.start N vs) H Γ [] := by
  subst e
  refine ⟨Same.refl H, Imm.refl H, ?_, (fun p hp => nomatch hp), List.nodup_nil⟩
  unfold L2.start
  rw [← repL_len h]
  have a : StOk K H (vs.map some) (ds.map .d) := by
    induction ds generalizing vs with
    | nil => rw [repL_nil.mp h]; exact .nil
    | cons d r ih =>
      obtain ⟨v, s, rfl, h2, h3⟩ := repL_cons.mp h
      exact .cons ⟨v, rfl, h2⟩ (ih h3)
  have b : ∀ n : Nat, StOk K H (List.replicate n none) (List.replicate n .no) := by
    intro n
    induction n with
    | zero => exact .nil
    | succ n ih => exact .cons trivial ih
  have app : ∀ {σ σ' : L2.St} {Γ Γ' : List G}, StOk K H σ Γ → StOk K H σ' Γ' → StOk K H (σ ++ σ') (Γ ++ Γ') := by
    intro σ σ' Γ Γ' h k
    induction h with
    | nil => exact k
    | cons r _ ih => exact .cons r ih
  exact app a (b _)
theorem q_split {β : Type} (R : β → L2.St → Hp → Prop) (fin : ∀ b σ' H', R b σ' H' → tz Dn σ' H') (h : (∀ b σ' H', R b σ' H' → tz Dn σ' H') → tu { Dn with nx := tz Dn } σ H) : tSeq tu tz Dn σ H := h fin
/-- a, b = x, y -/
theorem r_par {i j : Nat} {ta tb : TE} (c : Cf K H0 Hb σ H Γ ms) (ha : EvD K ta σ H d1) (hb : EvD K tb σ H d2) (k : ∀ σ' H', Same H H' → Cf K H0 Hb σ' H' ((Γ.set i (.d d1)).set j (.d d2)) ms → Dn.nx σ' H') : tPar i j (tCons ta (tCons tb tNil)) Dn σ H :=
  ha H (Same.refl H) _ fun x H2 e2 r2 => hb H2 e2 _ fun y H3 e3 r3 => ⟨x, y, rfl, k _ _ (e2.trans e3) (((c.ext (e2.trans e3)).setD i (r2.mono (imm_same e3))).setD j r3)⟩
theorem r_while (P : Nat → L2.St → Hp → Prop) (m0 : Nat) (h0 : P m0 σ H)
    (hs : ∀ m σ' H', P m σ' H' → ∃ b, EvT t σ' H' b ∧ (b = true → ∀ H1, Same H' H1 → ∃ N : L2.St → Hp → Prop, (∀ σ2 H2, N σ2 H2 → ∃ m', m' < m ∧ P m' σ2 H2) ∧ tu { Dn with nx := N, ct := N, bk := Dn.nx } σ' H1) ∧ (b = false → ∀ H1, Same H' H1 → Dn.nx σ' H1)) : tWhile t tu Dn σ H :=
  ⟨P, ⟨m0, h0⟩, fun m σ' H' hw => by
    obtain ⟨b, hb, h1, h2⟩ := hs m σ' H' hw
    refine hb H' (Same.refl H') _ fun H1 e => ?_
    cases b with
    | true => exact h1 rfl H1 e
    | false => exact h2 rfl H1 e⟩
/-- behind a statement that set a list or a dict: known for good -/
theorem r_gz {i k : Nat} {l : Addr} (c : Cf K H0 Hb σ H Γ ms) (hi : Γ[i]? = some (.at l)) (hk : ms[k]? = some (l, .lst ds)) (q : ∀ H', Cf K H0 Hb σ H' (Γ.set i (.d (.lst ds))) (ms.eraseIdx k) → Dn.nx σ H') :
    ∃ a u, σ[i]? = some (some (.ref a)) ∧ H a = some u ∧ Mut (some u) ∧ ∀ o, Dn.nx σ (upd H a (.frz o u)) := by
  obtain ⟨h0, vs, h1, h2⟩ := c.mu _ (List.mem_of_getElem? hk)
  have e := c.st.ref hi
  refine ⟨l, _, e, h1, trivial, fun o => q _ ?_⟩
  have c1 := (c.frz (o := o) k hk h1 trivial).setD (d := .lst ds) (v := .ref l) i (rep_lst.mpr ⟨l, vs, o, rfl, upd_same, h2.mono (imm_upd (.inl (by rw [h1]; trivial)))⟩)
  have es : σ.set i (some (.ref l)) = σ := by
    apply List.ext_getElem?
    intro j
    by_cases ej : i = j
    · subst ej
      rw [List.getElem?_set_self (List.getElem?_eq_some_iff.mp e).1, e]
    · rw [List.getElem?_set_ne ej]
  rw [es] at c1; exact c1
theorem ev_int1 {b : Bool} {ta : TE} (h : EvD K ta σ H (.bl b)) : EvD K (tCB (fun xs H Q => (∃ i, xs = [.int i] ∧ Q (.int i) H) ∨ ∃ k, xs = [.bl k] ∧ Q (.int (if k then 1 else 0)) H) (tCons ta tNil)) σ H (.int (if b then 1 else 0)) := fun H1 e Q q =>
  h H1 e _ fun x H2 e2 r => .inr ⟨b, by rw [rep_bl.mp r], q _ H2 e2 (rep_int.mpr rfl)⟩
theorem ev_abs {i : Int} {ta : TE} (h : EvD K ta σ H (.int i)) : EvD K (tCB (fun xs H Q => ∃ i, xs = [.int i] ∧ Q (.int (if i < 0 then -i else i)) H) (tCons ta tNil)) σ H (.int (if i < 0 then -i else i)) := fun H1 e Q q =>
  h H1 e _ fun x H2 e2 r => ⟨i, by rw [rep_int.mp r], q _ H2 e2 (rep_int.mpr rfl)⟩
/-- len of a list or tuple known for good -/
theorem ev_lenL {ta : TE} (h : EvD K ta σ H (.lst ds)) : EvD K (tCB (fun xs H Q => ∃ p ys, xs = [.ref p] ∧ (SqL K H p ys ∨ SqT K H p ys) ∧ Q (.int ys.length) H) (tCons ta tNil)) σ H (.int (ds.length : Int)) := fun H1 e Q q =>
  h H1 e _ fun x H2 e2 r => by
    obtain ⟨a, vs, o, rfl, h2, h3⟩ := rep_lst.mp r
    exact ⟨a, vs, rfl, .inl (.inl (.inr ⟨o, h2⟩)), q _ H2 e2 (rep_int.mpr (by rw [repL_len h3]))⟩
theorem ev_lenT {ta : TE} (h : EvD K ta σ H (.tup ds)) : EvD K (tCB (fun xs H Q => ∃ p ys, xs = [.ref p] ∧ (SqL K H p ys ∨ SqT K H p ys) ∧ Q (.int ys.length) H) (tCons ta tNil)) σ H (.int (ds.length : Int)) := fun H1 e Q q =>
  h H1 e _ fun x H2 e2 r => by
    obtain ⟨a, vs, rfl, h2, h3⟩ := rep_tup.mp r
    exact ⟨a, vs, rfl, .inr h2, q _ H2 e2 (rep_int.mpr (by rw [repL_len h3]))⟩
theorem ev_lenM {n k : Nat} {l : Addr} (c : Cf K H0 Hb σ H Γ ms) (hn : Γ[n]? = some (.at l)) (hk : ms[k]? = some (l, .lst ds)) : EvD K (tCB (fun xs H Q => ∃ p ys, xs = [.ref p] ∧ (SqL K H p ys ∨ SqT K H p ys) ∧ Q (.int ys.length) H) (tCons (tVar n) tNil)) σ H (.int (ds.length : Int)) := fun H1 e Q q => by
  refine ⟨.ref l, c.st.ref hn, ?_⟩
  obtain ⟨vs, h1, h3⟩ := ((c.ext e).mu _ (List.mem_of_getElem? hk)).2
  exact ⟨l, vs, rfl, .inl (.of h1), q _ H1 (Same.refl _) (rep_int.mpr (by rw [repL_len h3]))⟩
/-- tuple(xs) -/
theorem ev_tupleL {ta : TE} (h : EvD K ta σ H (.lst ds)) : EvD K (tCB (fun xs H Q => ∃ p ys, xs = [.ref p] ∧ ((SqL K H p ys ∧ ∀ l, H l = none → Q (.ref l) (upd H l (.tup ys))) ∨ (SqT K H p ys ∧ Q (.ref p) H))) (tCons ta tNil)) σ H (.tup ds) := fun H1 e Q q =>
  h H1 e _ fun x H2 e2 r => by
    obtain ⟨a, vs, o, rfl, h2, h3⟩ := rep_lst.mp r
    exact ⟨a, vs, rfl, .inl ⟨.inl (.inr ⟨o, h2⟩), fun l hl => q _ _ (e2.trans (same_new hl)) (rep_tup.mpr ⟨l, vs, rfl, .of upd_same, h3.mono (imm_same (same_new hl))⟩)⟩⟩
/-- list(xs) -/
theorem em_listL {ta : TE} (h : EvD K ta σ H (.lst ds)) : EvM K (tCB (fun xs H Q => ∃ p ys, xs = [.ref p] ∧ (SqL K H p ys ∨ SqT K H p ys) ∧ ∀ l, H l = none → Q (.ref l) (upd H l (.lst ys))) (tCons ta tNil)) σ H (.lst ds) := fun H1 e Q q =>
  h H1 e _ fun x H2 e2 r => by
    obtain ⟨a, vs, o, rfl, h2, h3⟩ := rep_lst.mp r
    exact ⟨a, vs, rfl, .inl (.inl (.inr ⟨o, h2⟩)), fun l hl => q l _ (e2.trans (same_new hl)) (e2.free hl) ⟨vs, upd_same, h3.mono (imm_same (same_new hl))⟩⟩
theorem em_listT {ta : TE} (h : EvD K ta σ H (.tup ds)) : EvM K (tCB (fun xs H Q => ∃ p ys, xs = [.ref p] ∧ (SqL K H p ys ∨ SqT K H p ys) ∧ ∀ l, H l = none → Q (.ref l) (upd H l (.lst ys))) (tCons ta tNil)) σ H (.lst ds) := fun H1 e Q q =>
  h H1 e _ fun x H2 e2 r => by
    obtain ⟨a, vs, rfl, h2, h3⟩ := rep_tup.mp r
    exact ⟨a, vs, rfl, .inr h2, fun l hl => q l _ (e2.trans (same_new hl)) (e2.free hl) ⟨vs, upd_same, h3.mono (imm_same (same_new hl))⟩⟩
end
end Lw
namespace Lw
open PySem PySem.Spec PyProof.Rows L2
abbrev FnP (K : PySem.W.Frag) (x : Str) (st : Stmt) (f : Addr) (fd : FuncData) : Prop := FunD K x x (defArgs st) (defBody st) (defScope st) [] [] f fd
abbrev dQ (q : Rat) : D := .tup [.int q.num, .int (q.den : Int)]
abbrev st_common_measure : Stmt := top 9
abbrev N_common_measure : List Str := ["one", "other"]
theorem sc_common_measure : FnScope N_common_measure ["one", "other"] (defScope st_common_measure) := ⟨rfl, rfl, rfl, by decide +kernel, rfl, by decide +kernel, by decide +kernel⟩

abbrev st_lowest_terms : Stmt := top 10
abbrev N_lowest_terms : List Str := ["top", "bottom", "measure"]
theorem sc_lowest_terms : FnScope N_lowest_terms ["top", "bottom"] (defScope st_lowest_terms) := ⟨rfl, rfl, rfl, by decide +kernel, rfl, by decide +kernel, by decide +kernel⟩

abbrev st_added : Stmt := top 11
abbrev N_added : List Str := ["one", "other"]
theorem sc_added : FnScope N_added ["one", "other"] (defScope st_added) := ⟨rfl, rfl, rfl, by decide +kernel, rfl, by decide +kernel, by decide +kernel⟩

abbrev st_less : Stmt := top 12
abbrev N_less : List Str := ["one", "other"]
theorem sc_less : FnScope N_less ["one", "other"] (defScope st_less) := ⟨rfl, rfl, rfl, by decide +kernel, rfl, by decide +kernel, by decide +kernel⟩

abbrev st_multiplied : Stmt := top 13
abbrev N_multiplied : List Str := ["one", "other"]
theorem sc_multiplied : FnScope N_multiplied ["one", "other"] (defScope st_multiplied) := ⟨rfl, rfl, rfl, by decide +kernel, rfl, by decide +kernel, by decide +kernel⟩

abbrev st_divided : Stmt := top 14
abbrev N_divided : List Str := ["one", "other"]
theorem sc_divided : FnScope N_divided ["one", "other"] (defScope st_divided) := ⟨rfl, rfl, rfl, by decide +kernel, rfl, by decide +kernel, by decide +kernel⟩

abbrev st_turned : Stmt := top 15
abbrev N_turned : List Str := ["one"]
theorem sc_turned : FnScope N_turned ["one"] (defScope st_turned) := ⟨rfl, rfl, rfl, by decide +kernel, rfl, by decide +kernel, by decide +kernel⟩

abbrev st_beside : Stmt := top 16
abbrev N_beside : List Str := ["one", "other", "gap"]
theorem sc_beside : FnScope N_beside ["one", "other"] (defScope st_beside) := ⟨rfl, rfl, rfl, by decide +kernel, rfl, by decide +kernel, by decide +kernel⟩

/-! ### promises -/
abbrev sp_common_measure (K : PySem.W.Frag) : Sp := pSp K (fun p : Int × Int => [.int p.1, .int p.2]) (fun p => 0 ≤ p.1 ∧ 0 ≤ p.2) fun p => .int ((p.1.natAbs.gcd p.2.natAbs : Nat) : Int)
abbrev sp_lowest_terms (K : PySem.W.Frag) : Sp := pSp K (fun p : Int × Int => [.int p.1, .int p.2]) (fun p => p.2 ≠ 0 ∧ p.2.natAbs < 2 ^ 9000) fun p => dQ (Rat.divInt p.1 p.2)
theorem ev_common_measure {K : PySem.W.Frag} {σ : L2.St} {H : Hp} {ta tb : TE} {x y : Int} (ha : EvD K ta σ H (.int x)) (hb : EvD K tb σ H (.int y)) (hx : 0 ≤ x) (hy : 0 ≤ y) : EvD K (tCall (sp_common_measure K) [] E0 (tCons ta (tCons tb tNil))) σ H (.int ((x.natAbs.gcd y.natAbs : Nat) : Int)) :=
  ev_call (args := fun p : Int × Int => [.int p.1, .int p.2]) (pre := fun p : Int × Int => 0 ≤ p.1 ∧ 0 ≤ p.2) (res := fun p : Int × Int => .int ((p.1.natAbs.gcd p.2.natAbs : Nat) : Int)) (x, y) (ea_cons ha (ea_cons hb ea_nil)) ⟨hx, hy⟩
theorem ev_lowest_terms {K : PySem.W.Frag} {σ : L2.St} {H : Hp} {ta tb : TE} {x y : Int} {q : Rat} (ha : EvD K ta σ H (.int x)) (hb : EvD K tb σ H (.int y)) (hp : y ≠ 0 ∧ y.natAbs < 2 ^ 9000) (e : Rat.divInt x y = q) : EvD K (tCall (sp_lowest_terms K) [] E0 (tCons ta (tCons tb tNil))) σ H (dQ q) :=
  e ▸ ev_call (args := fun p : Int × Int => [.int p.1, .int p.2]) (pre := fun p : Int × Int => p.2 ≠ 0 ∧ p.2.natAbs < 2 ^ 9000) (res := fun p : Int × Int => dQ (Rat.divInt p.1 p.2)) (x, y) (ea_cons ha (ea_cons hb ea_nil)) hp
/-- two fractions in -/
abbrev pQQ (K : PySem.W.Frag) (pre : Rat → Rat → Prop) (res : Rat → Rat → D) : Sp := pSp K (fun p : Rat × Rat => [dQ p.1, dQ p.2]) (fun p => pre p.1 p.2) fun p => res p.1 p.2
abbrev pQ (K : PySem.W.Frag) (pre : Rat → Prop) (res : Rat → D) : Sp := pSp K (fun p : Rat => [dQ p]) pre res
theorem ev_cQQ {K : PySem.W.Frag} {σ : L2.St} {H : Hp} {pre : Rat → Rat → Prop} {res : Rat → Rat → D} {ta tb : TE} {E : XK} {a b : Rat} (ha : EvD K ta σ H (dQ a)) (hb : EvD K tb σ H (dQ b)) (hp : pre a b) :
    EvD K (tCall (pQQ K pre res) [] E (tCons ta (tCons tb tNil))) σ H (res a b) := ev_call (args := fun p : Rat × Rat => [dQ p.1, dQ p.2]) (pre := fun p => pre p.1 p.2) (res := fun p => res p.1 p.2) (a, b) (ea_cons ha (ea_cons hb ea_nil)) hp
theorem ev_cQ {K : PySem.W.Frag} {σ : L2.St} {H : Hp} {pre : Rat → Prop} {res : Rat → D} {ta : TE} {E : XK} {a : Rat} (ha : EvD K ta σ H (dQ a)) (hp : pre a) :
    EvD K (tCall (pQ K pre res) [] E (tCons ta tNil)) σ H (res a) := ev_call (args := fun p : Rat => [dQ p]) a (ea_cons ha ea_nil) hp
abbrev Big (a b : Rat) : Prop := Sz 4000 a ∧ Sz 4000 b
abbrev sp_added (K : PySem.W.Frag) : Sp := pQQ K Big fun a b => dQ (a + b)
abbrev sp_less (K : PySem.W.Frag) : Sp := pQQ K Big fun a b => dQ (a - b)
abbrev sp_multiplied (K : PySem.W.Frag) : Sp := pQQ K Big fun a b => dQ (a * b)
abbrev sp_divided (K : PySem.W.Frag) : Sp := pQQ K (fun a b => Big a b ∧ b ≠ 0) fun a b => dQ (a / b)
abbrev sp_turned (K : PySem.W.Frag) : Sp := pQ K (fun _ => True) fun a => dQ (-a)
abbrev sp_beside (K : PySem.W.Frag) : Sp := pQQ K Big fun a b => .int (sgn a b)
theorem szN {a : Rat} {n : Nat} (h : Sz n a) : a.num.natAbs < 2 ^ n := h.1
theorem szD {a : Rat} {n : Nat} (h : Sz n a) : ((a.den : Int)).natAbs < 2 ^ n := by simpa using h.2
theorem wm {i j : Int} (hi : i.natAbs < 2 ^ 4000) (hj : j.natAbs < 2 ^ 4000) : CMulW i j := wide_mul hi hj (by decide) (by decide) (by decide)
theorem den_mul_lt {a b : Rat} (h : Big a b) : ((a.den : Int) * b.den).natAbs < 2 ^ 9000 := by
  rw [Int.natAbs_mul]
  exact Nat.lt_of_lt_of_le (mul_lt2 (szD h.1) (szD h.2)) (pow_mono (by decide))
theorem den_mul_ne (a b : Rat) : ((a.den : Int) * b.den) ≠ 0 := by
  intro h
  rcases Int.mul_eq_zero.mp h with h | h
  · exact a.den_nz (by exact_mod_cast h)
  · exact b.den_nz (by exact_mod_cast h)
section
variable {P : Program} {w : World} {K : PySem.W.Frag} {mg : Str → Option Value} {base : Heap} {f : Addr} {fd : FuncData}
theorem ok_common_measure (F : FnP K "common_measure" st_common_measure f fd) : FnOk P w K mg base CX0 1 f fd ["one", "other"] (sp_common_measure K) := by
  refine F.ok sc_common_measure (pSp_len fun _ => rfl) (fun cdv A outer s H vs Q E hr h => ?_)
  obtain ⟨⟨x, y⟩, hv, ⟨hx, hy⟩, kq⟩ := h
  have nd := sc_common_measure.nd
  have c : Cf K H H (L2.start N_common_measure vs) H [.d (.int x), .d (.int y)] [] := Cf.start hv rfl
  refine ⟨_, PSs.nox (pss_cons (ps_while PassesOwn.never (pt_cmpR op_ne (pv 1) pe_int (nomark _))
    (pss_one (ps_par (i := 0) (j := 1) (by rfl) nd rfl rfl (by decide) rfl rfl (pa_cons (pv 1) (pa_cons (pe_op op_mod (pv 0) (pv 1)) pa_nil)) (by rfl))))
    (pss_one (ps_ret (pv 0)))), ?_⟩
  refine q_seq (r_while (fun m σ' H' => ∃ a b : Int, Cf K H H σ' H' [.d (.int a), .d (.int b)] [] ∧ 0 ≤ a ∧ 0 ≤ b ∧ a.natAbs.gcd b.natAbs = x.natAbs.gcd y.natAbs ∧ m = b.toNat) y.toNat ⟨x, y, c, hx, hy, rfl, rfl⟩ fun m σ' H' hw => ?_)
  obtain ⟨a, b, c', ha, hb, hg, rfl⟩ := hw
  refine ⟨_, et_t (ev_neI (ev_var c' rfl) ev_int), fun ht H1 e => ?_, fun ht H1 e => ?_⟩
  · have hb0 : b ≠ 0 := by simpa using ht
    refine ⟨fun σ2 H2 => Cf K H H σ2 H2 [.d (.int b), .d (.int (a % b))] [], fun σ2 H2 c2 => ⟨(a % b).toNat, ?_, b, a % b, c2, hb, Int.emod_nonneg _ hb0, ?_, rfl⟩, ?_⟩
    · have := Int.emod_lt_of_pos a (show 0 < b by omega)
      have := Int.emod_nonneg a hb0
      omega
    · rw [← hg]
      have e1 : (a % b).natAbs = a.natAbs % b.natAbs := Int.natAbs_emod_of_nonneg ha b
      rw [e1, Nat.gcd_comm, ← Nat.gcd_rec, Nat.gcd_comm]
    · exact r_par (c'.ext e) (ev_var (c'.ext e) rfl) (ev_iC (ev_var (c'.ext e) rfl) (ev_var (c'.ext e) rfl) (by show 0 < b; omega)) fun σ2 H2 e2 c2 => c2
  · have hb0 : b = 0 := by simpa using ht
    refine r_ret (c'.ext e) (d := .int ((x.natAbs.gcd y.natAbs : Nat) : Int)) ((ev_var (c'.ext e) rfl).is ?_) kq
    rw [← hg, hb0]
    simp; omega
theorem ok_lowest_terms (F : FnP K "lowest_terms" st_lowest_terms f fd) (B : Bl mg) (C_common_measure : Fc P w K mg base "common_measure" 1 ["one", "other"] (sp_common_measure K)) : FnOk P w K mg base CX0 2 f fd ["top", "bottom"] (sp_lowest_terms K) := by
  refine F.ok sc_lowest_terms (pSp_len fun _ => rfl) (fun cdv A outer s H vs Q E hr h => ?_)
  obtain ⟨⟨x, y⟩, hv, ⟨hy0, hy⟩, kq⟩ := h
  have nd := sc_lowest_terms.nd
  have c : Cf K H H (L2.start N_lowest_terms vs) H [.d (.int x), .d (.int y), .no] [] := Cf.start hv rfl
  refine ⟨_, PSs.nox (pss_cons (ps_if (pt_cmpR op_lt (pv 1) pe_int (nomark _))
    (pss_one (ps_par (i := 0) (j := 1) (by rfl) nd rfl rfl (by decide) rfl rfl (pa_cons (pe_op op_sub pe_int (pv 0)) (pa_cons (pe_op op_sub pe_int (pv 1)) pa_nil)) (by rfl)))
    pss_nil)
    (pss_cons (ps_set (i := 2) nd rfl (Or.inl rfl) (pe_cc C_common_measure hr (by decide) (by rfl) (pa_cons (pe_callB call_abs (by rfl) B.abs (by decide +kernel) (pa_cons (pv 0) pa_nil)) (pa_cons (pv 1) pa_nil))))
    (pss_one (ps_ret (pe_tup (pa_cons (pe_op op_fdivW (pv 0) (pv 2)) (pa_cons (pe_op op_fdivW (pv 1) (pv 2)) pa_nil))))))), ?_⟩
  refine q_split (β := Int × Int) (fun p σ H1 => 0 < p.2 ∧ p.2.natAbs < 2 ^ 9000 ∧ Cf K H H σ H1 [.d (.int p.1), .d (.int p.2), .no] [] ∧ Rat.divInt p.1 p.2 = Rat.divInt x y) ?_ fun fin => ?_
  rotate_left
  · refine r_if c (et_t (ev_iB (ev_var c rfl) ev_int)) (fun ht H1 e c1 => ?_) (fun ht H1 e c1 => ?_)
    · refine r_par c1 (ev_iI ev_int (ev_var c1 rfl)) (ev_iI ev_int (ev_var c1 rfl)) fun σ2 H2 e2 c2 => fin (0 - x, 0 - y) σ2 H2 ⟨?_, ?_, c2, ?_⟩
      · have : y < 0 := by simpa using ht
        show 0 < 0 - y
        omega
      · show (0 - y).natAbs < 2 ^ 9000
        rw [Int.zero_sub, Int.natAbs_neg]; exact hy
      · show Rat.divInt (0 - x) (0 - y) = Rat.divInt x y
        rw [Int.zero_sub, Int.zero_sub, Rat.neg_divInt_neg]
    · refine r_next (fin (x, y) _ H1 ⟨?_, hy, c1, rfl⟩)
      have : ¬ y < 0 := by simpa using ht
      have : y ≠ 0 := hy0
      show 0 < y
      omega
  · rintro ⟨x', y'⟩ σ H1 ⟨hy0', hy', c, heq⟩
    have hy0 : 0 < y' := hy0'
    have hy : y'.natAbs < 2 ^ 9000 := hy'
    have c : Cf K H H σ H1 [.d (.int x'), .d (.int y'), .no] [] := c
    have heq' : Rat.divInt x' y' = Rat.divInt x y := heq
    have hm : ((x'.natAbs.gcd y'.natAbs : Nat) : Int) ≠ 0 := by
      have : 0 < x'.natAbs.gcd y'.natAbs := Nat.gcd_pos_of_pos_right _ (by omega)
      omega
    have hml : ((x'.natAbs.gcd y'.natAbs : Nat) : Int).natAbs < 2 ^ 9000 := by
      rw [Int.natAbs_natCast]
      exact Nat.lt_of_le_of_lt (Nat.gcd_le_right _ (by omega)) hy
    refine q_seq (r_set c (ev_common_measure (ev_abs (ev_var c rfl)) (ev_var c rfl) (by split <;> omega) (by omega)) fun σ2 H2 e2 c2 => ?_)
    have ea : ((if x' < 0 then -x' else x').natAbs.gcd y'.natAbs : Nat) = x'.natAbs.gcd y'.natAbs := by
      congr 1; split <;> omega
    have c3 : Cf K H H σ2 H2 [.d (.int x'), .d (.int y'), .d (.int ((x'.natAbs.gcd y'.natAbs : Nat) : Int))] [] := by
      rw [← ea]; exact c2
    have hd : CDivW x' ((x'.natAbs.gcd y'.natAbs : Nat) : Int) := wide_div (by omega) hml (by decide) (Nat.le_refl _)
    have hd' : CDivW y' ((x'.natAbs.gcd y'.natAbs : Nat) : Int) := wide_div (by omega) hml (by decide) (Nat.le_refl _)
    refine r_ret c3 (d := dQ (Rat.divInt x y)) ((ev_tup (ea_cons (ev_iC (ev_var c3 rfl) (ev_var c3 rfl) hd) (ea_cons (ev_iC (ev_var c3 rfl) (ev_var c3 rfl) hd') ea_nil))).is ?_) kq
    rw [← heq']
    show _ = D.tup [.int (Rat.divInt x' y').num, .int ((Rat.divInt x' y').den : Int)]
    rw [low_num hy0, low_den hy0]
theorem ok_added (F : FnP K "added" st_added f fd) (C_lowest_terms : Fc P w K mg base "lowest_terms" 2 ["top", "bottom"] (sp_lowest_terms K)) : FnOk P w K mg base CX0 3 f fd ["one", "other"] (sp_added K) := by
  refine F.ok sc_added (pSp_len fun _ => rfl) (fun cdv A outer s H vs Q E hr h => ?_)
  obtain ⟨⟨a, b⟩, hv, hp, kq⟩ := h
  have nd := sc_added.nd
  have c : Cf K H H (L2.start N_added vs) H [.d (dQ a), .d (dQ b)] [] := Cf.start hv rfl
  refine ⟨_, PSs.nox (pss_one (ps_ret (pe_cc C_lowest_terms hr (by decide) (by rfl) (pa_cons (pe_op op_add (pe_op op_mulW (pe_ix ix_tup (pv 0) pe_int (fun _ _ => rfl)) (pe_ix ix_tup (pv 1) pe_int (fun _ _ => rfl))) (pe_op op_mulW (pe_ix ix_tup (pv 1) pe_int (fun _ _ => rfl)) (pe_ix ix_tup (pv 0) pe_int (fun _ _ => rfl)))) (pa_cons (pe_op op_mulW (pe_ix ix_tup (pv 0) pe_int (fun _ _ => rfl)) (pe_ix ix_tup (pv 1) pe_int (fun _ _ => rfl))) pa_nil))))), ?_⟩
  have e := add_eq a b
  refine r_ret c (d := dQ (a + b)) (ev_lowest_terms (ev_iI (ev_iC (ev_ixT (ev_var c rfl) ev_int rfl) (ev_ixT (ev_var c rfl) ev_int rfl) (wm (szN hp.1) (szD hp.2))) (ev_iC (ev_ixT (ev_var c rfl) ev_int rfl) (ev_ixT (ev_var c rfl) ev_int rfl) (wm (szN hp.2) (szD hp.1))))
      (ev_iC (ev_ixT (ev_var c rfl) ev_int rfl) (ev_ixT (ev_var c rfl) ev_int rfl) (wm (szD hp.1) (szD hp.2))) ⟨den_mul_ne a b, den_mul_lt hp⟩ e) kq
theorem ok_less (F : FnP K "less" st_less f fd) (C_lowest_terms : Fc P w K mg base "lowest_terms" 2 ["top", "bottom"] (sp_lowest_terms K)) : FnOk P w K mg base CX0 3 f fd ["one", "other"] (sp_less K) := by
  refine F.ok sc_less (pSp_len fun _ => rfl) (fun cdv A outer s H vs Q E hr h => ?_)
  obtain ⟨⟨a, b⟩, hv, hp, kq⟩ := h
  have nd := sc_less.nd
  have c : Cf K H H (L2.start N_less vs) H [.d (dQ a), .d (dQ b)] [] := Cf.start hv rfl
  refine ⟨_, PSs.nox (pss_one (ps_ret (pe_cc C_lowest_terms hr (by decide) (by rfl) (pa_cons (pe_op op_sub (pe_op op_mulW (pe_ix ix_tup (pv 0) pe_int (fun _ _ => rfl)) (pe_ix ix_tup (pv 1) pe_int (fun _ _ => rfl))) (pe_op op_mulW (pe_ix ix_tup (pv 1) pe_int (fun _ _ => rfl)) (pe_ix ix_tup (pv 0) pe_int (fun _ _ => rfl)))) (pa_cons (pe_op op_mulW (pe_ix ix_tup (pv 0) pe_int (fun _ _ => rfl)) (pe_ix ix_tup (pv 1) pe_int (fun _ _ => rfl))) pa_nil))))), ?_⟩
  have e := sub_eq a b
  refine r_ret c (d := dQ (a - b)) (ev_lowest_terms (ev_iI (ev_iC (ev_ixT (ev_var c rfl) ev_int rfl) (ev_ixT (ev_var c rfl) ev_int rfl) (wm (szN hp.1) (szD hp.2))) (ev_iC (ev_ixT (ev_var c rfl) ev_int rfl) (ev_ixT (ev_var c rfl) ev_int rfl) (wm (szN hp.2) (szD hp.1))))
      (ev_iC (ev_ixT (ev_var c rfl) ev_int rfl) (ev_ixT (ev_var c rfl) ev_int rfl) (wm (szD hp.1) (szD hp.2))) ⟨den_mul_ne a b, den_mul_lt hp⟩ e) kq
theorem ok_multiplied (F : FnP K "multiplied" st_multiplied f fd) (C_lowest_terms : Fc P w K mg base "lowest_terms" 2 ["top", "bottom"] (sp_lowest_terms K)) : FnOk P w K mg base CX0 3 f fd ["one", "other"] (sp_multiplied K) := by
  refine F.ok sc_multiplied (pSp_len fun _ => rfl) (fun cdv A outer s H vs Q E hr h => ?_)
  obtain ⟨⟨a, b⟩, hv, hp, kq⟩ := h
  have nd := sc_multiplied.nd
  have c : Cf K H H (L2.start N_multiplied vs) H [.d (dQ a), .d (dQ b)] [] := Cf.start hv rfl
  refine ⟨_, PSs.nox (pss_one (ps_ret (pe_cc C_lowest_terms hr (by decide) (by rfl) (pa_cons (pe_op op_mulW (pe_ix ix_tup (pv 0) pe_int (fun _ _ => rfl)) (pe_ix ix_tup (pv 1) pe_int (fun _ _ => rfl))) (pa_cons (pe_op op_mulW (pe_ix ix_tup (pv 0) pe_int (fun _ _ => rfl)) (pe_ix ix_tup (pv 1) pe_int (fun _ _ => rfl))) pa_nil))))), ?_⟩
  have e := mul_eq a b
  refine r_ret c (d := dQ (a * b)) (ev_lowest_terms (ev_iC (ev_ixT (ev_var c rfl) ev_int rfl) (ev_ixT (ev_var c rfl) ev_int rfl) (wm (szN hp.1) (szN hp.2)))
      (ev_iC (ev_ixT (ev_var c rfl) ev_int rfl) (ev_ixT (ev_var c rfl) ev_int rfl) (wm (szD hp.1) (szD hp.2))) ⟨den_mul_ne a b, den_mul_lt hp⟩ e) kq
theorem ok_divided (F : FnP K "divided" st_divided f fd) (C_lowest_terms : Fc P w K mg base "lowest_terms" 2 ["top", "bottom"] (sp_lowest_terms K)) : FnOk P w K mg base CX0 3 f fd ["one", "other"] (sp_divided K) := by
  refine F.ok sc_divided (pSp_len fun _ => rfl) (fun cdv A outer s H vs Q E hr h => ?_)
  obtain ⟨⟨a, b⟩, hv, ⟨hp, hb⟩, kq⟩ := h
  have nd := sc_divided.nd
  have c : Cf K H H (L2.start N_divided vs) H [.d (dQ a), .d (dQ b)] [] := Cf.start hv rfl
  refine ⟨_, PSs.nox (pss_cons (ps_if (pt_cmpR op_eq (pe_ix ix_tup (pv 1) pe_int (fun _ _ => rfl)) pe_int (nomark _))
    (pss_one ps_never)
    pss_nil)
    (pss_one (ps_ret (pe_cc C_lowest_terms hr (by decide) (by rfl) (pa_cons (pe_op op_mulW (pe_ix ix_tup (pv 0) pe_int (fun _ _ => rfl)) (pe_ix ix_tup (pv 1) pe_int (fun _ _ => rfl))) (pa_cons (pe_op op_mulW (pe_ix ix_tup (pv 0) pe_int (fun _ _ => rfl)) (pe_ix ix_tup (pv 1) pe_int (fun _ _ => rfl))) pa_nil)))))), ?_⟩
  have hn : b.num ≠ 0 := fun q => hb (Rat.num_eq_zero.mp q)
  refine q_seq (r_if c (et_t (ev_eqI (ev_ixT (ev_var c rfl) ev_int rfl) ev_int)) (fun ht => absurd (by simpa using ht) hn) fun _ H1 e c => ?_)
  have e := div_eq a b
  have hpre : (a.den : Int) * b.num ≠ 0 ∧ ((a.den : Int) * b.num).natAbs < 2 ^ 9000 := ?_
  refine r_ret c (d := dQ (a / b)) (ev_lowest_terms (ev_iC (ev_ixT (ev_var c rfl) ev_int rfl) (ev_ixT (ev_var c rfl) ev_int rfl) (wm (szN hp.1) (szD hp.2)))
      (ev_iC (ev_ixT (ev_var c rfl) ev_int rfl) (ev_ixT (ev_var c rfl) ev_int rfl) (wm (szD hp.1) (szN hp.2))) hpre e) kq
  refine ⟨?_, ?_⟩
  · intro q
    rcases Int.mul_eq_zero.mp q with q | q
    · exact a.den_nz (by exact_mod_cast q)
    · exact hn q
  · show ((a.den : Int) * b.num).natAbs < 2 ^ 9000
    rw [Int.natAbs_mul]
    exact Nat.lt_of_lt_of_le (mul_lt2 (szD hp.1) (szN hp.2)) (pow_mono (by decide))
theorem ok_turned (F : FnP K "turned" st_turned f fd) : FnOk P w K mg base CX0 1 f fd ["one"] (sp_turned K) := by
  refine F.ok sc_turned (pSp_len fun _ => rfl) (fun cdv A outer s H vs Q E hr h => ?_)
  obtain ⟨a, hv, hp, kq⟩ := h
  have nd := sc_turned.nd
  have c : Cf K H H (L2.start N_turned vs) H [.d (dQ a)] [] := Cf.start hv rfl
  refine ⟨_, PSs.nox (pss_one (ps_ret (pe_tup (pa_cons (pe_op op_sub pe_int (pe_ix ix_tup (pv 0) pe_int (fun _ _ => rfl))) (pa_cons (pe_ix ix_tup (pv 0) pe_int (fun _ _ => rfl)) pa_nil))))), ?_⟩
  refine r_ret c (d := dQ (-a)) ((ev_tup (ea_cons (ev_iI ev_int (ev_ixT (ev_var c rfl) ev_int rfl)) (ea_cons (ev_ixT (ev_var c rfl) ev_int rfl) ea_nil))).is ?_) kq
  rw [Int.zero_sub]; rfl
theorem ok_beside (F : FnP K "beside" st_beside f fd) (B : Bl mg) : FnOk P w K mg base CX0 1 f fd ["one", "other"] (sp_beside K) := by
  refine F.ok sc_beside (pSp_len fun _ => rfl) (fun cdv A outer s H vs Q E hr h => ?_)
  obtain ⟨⟨a, b⟩, hv, hp, kq⟩ := h
  have nd := sc_beside.nd
  have c : Cf K H H (L2.start N_beside vs) H [.d (dQ a), .d (dQ b), .no] [] := Cf.start hv rfl
  refine ⟨_, PSs.nox (pss_cons (ps_set (i := 2) nd rfl (Or.inl rfl) (pe_op op_sub (pe_op op_mulW (pe_ix ix_tup (pv 0) pe_int (fun _ _ => rfl)) (pe_ix ix_tup (pv 1) pe_int (fun _ _ => rfl))) (pe_op op_mulW (pe_ix ix_tup (pv 1) pe_int (fun _ _ => rfl)) (pe_ix ix_tup (pv 0) pe_int (fun _ _ => rfl)))))
    (pss_one (ps_ret (pe_op op_sub (pe_callTy call_int1 (by rfl) B.int (by decide +kernel) (pa_cons (pe_cmpR op_gt (pv 2) pe_int (nomark _)) pa_nil)) (pe_callTy call_int1 (by rfl) B.int (by decide +kernel) (pa_cons (pe_cmpR op_lt (pv 2) pe_int (nomark _)) pa_nil)))))), ?_⟩
  refine q_seq (r_set c (ev_iI (ev_iC (ev_ixT (ev_var c rfl) ev_int rfl) (ev_ixT (ev_var c rfl) ev_int rfl) (wm (szN hp.1) (szD hp.2))) (ev_iC (ev_ixT (ev_var c rfl) ev_int rfl) (ev_ixT (ev_var c rfl) ev_int rfl) (wm (szN hp.2) (szD hp.1)))) fun σ2 H2 e2 c2 => ?_)
  refine r_ret c2 (d := .int (sgn a b)) ((ev_iI (ev_int1 (ev_iB (ev_var c2 rfl) ev_int)) (ev_int1 (ev_iB (ev_var c2 rfl) ev_int))).is ?_) kq
  unfold sgn
  have h1 := gap_pos a b
  have h2 := gap_neg a b
  simp only [decide_eq_true_eq, h1, h2]
end
end Lw
/-! Rules that the layer lacks: tuples known for good, lists known for good, sums and greatest ones. -/
namespace Lw
open PySem PySem.Spec PyProof.Rows L2
section
variable {X : Cx} {pins : List (Addr × Obj)} {σ : L2.St} {H : Hp} {s : Shared} {its : List Value} {ys : List V} {t' : Nat}
/-- a new tuple, its object known -/
def tupO (its : List Value) : Obj := { cls := .type "tuple", data := .seq its.toArray }
theorem laid_pt (I : Inv X pins σ H s) (r : Vals ys its) (hz : ys.length ≤ sizeLine) :
    Inv X pins σ (upd H s.heap.objs.size (.frz (tupO its) (.tup ys))) { s with heap := s.heap.push (tupO its), toks := t' } :=
  I.laid (fun _ _ e => Heap.get?_push_of_some _ e) (Nat.le_refl _) ⟨Heap.get?_push_size _ rfl, hz, its, r, IsTup.new _ _⟩
end
/-- (a, b, ..) -/
def tTupP (t : TA) : TE := fun σ H Q => t σ H fun xs H1 => xs.length ≤ sizeLine ∧ ∀ (p : Addr) (o : Obj), H1 p = none → o.dict = none → Q (.ref p) (upd H1 p (.frz o (.tup xs)))
theorem pe_tupP {X : Cx} {es : List Expr} {t : TA} {x1 : Nat} {pos : Pos} (h : PA X es t) : PE X (.Tuple es x1 pos) (tTupP t) := by
  refine ⟨fun pins s σ H Q I hq => ?_⟩
  refine wpAny_Tuple_spliced (thn (h.run pos pins s σ H _ I hq) fun us s1 ⟨xs, H1, I1, r, z, q⟩ => ⟨by rw [← r.length]; exact z, ?_⟩)
  exact ⟨.ref s1.heap.objs.size, _, laid_pt (t' := s1.toks) I1 r z, rfl, q _ _ (I1.hok.fresh (Nat.le_refl _)) rfl⟩
/-- tuple(xs), xs a list -/
def rTupP (K : PySem.W.Frag) : List V → Hp → VK → Prop := fun xs H Q => ∃ p ys, xs = [.ref p] ∧ SqL K H p ys ∧ ∀ (l : Addr) (o : Obj), H l = none → o.dict = none → Q (.ref l) (upd H l (.frz o (.tup ys)))
theorem call_tupleP {X : Cx} : CallR X (.type "tuple") (rTupP X.K) := by
  intro pins s σ H xs us Q I r h
  obtain ⟨p, ys, rfl, hq, q⟩ := h
  obtain ⟨u, rfl, rx⟩ := vals1 r
  cases rx
  obtain ⟨its, r', pl, hz⟩ := I.list hq
  have hlen := r'.length
  refine call_tuple_list pl.isList (fun h' kp => ?_) (by simp only [List.size_toArray]; omega)
  have I1 : Inv X pins σ H { s with heap := h' } := I.kept (t' := s.toks) kp
  exact ⟨.ref h'.objs.size, _, laid_pt (t' := s.toks) I1 r' hz, rfl, q _ _ (I1.hok.fresh (Nat.le_refl _)) rfl⟩
/-- t + u -/
def rCatP (K : PySem.W.Frag) : R2 := fun x y H Q => ∃ a b xs ys, x = .ref a ∧ y = .ref b ∧ SqT K H a xs ∧ SqT K H b ys ∧ xs.length + ys.length ≤ sizeLine ∧
  (xs = [] → Q (.ref b) H) ∧ (xs ≠ [] → ys = [] → Q (.ref a) H) ∧ (xs ≠ [] → ys ≠ [] → ∀ (p : Addr) (o : Obj), H p = none → o.dict = none → Q (.ref p) (upd H p (.frz o (.tup (xs ++ ys)))))
theorem op_catP {X : Cx} : OpR X (binaryOp .Add) (rCatP X.K) := by
  intro pins s σ H x y v u Q I rx ry h
  obtain ⟨a, b, xs, ys, rfl, rfl, ha, hb, hz, q0, q1, q2⟩ := h
  cases rx
  cases ry
  obtain ⟨l1, r1, p1, _⟩ := I.tuple ha
  obtain ⟨l2, r2, p2, _⟩ := I.tuple hb
  by_cases hx : xs = []
  · subst hx
    cases r1
    exact cat_tup0 p1 p2 ⟨.ref b, H, I, rfl, q0 rfl⟩
  · refine HT.cat_tup p1 p2 (fun z => hx (r1.nil_iff.mp z)) (fun z => ⟨.ref a, H, I, rfl, q1 hx (r2.nil_iff.mp z)⟩) (fun z => ?_) (by rw [← r1.length, ← r2.length]; exact hz)
    exact ⟨.ref s.heap.objs.size, _, laid_pt (t' := s.toks) I (r1.append r2) (by rw [List.length_append]; exact hz), rfl, q2 hx (fun w => z (r2.nil_iff.mpr w)) _ _ I.fresh rfl⟩
/-- t[lo:hi] -/
def rSlP (K : PySem.W.Frag) : V → Option Int → Option Int → Hp → VK → Prop := fun x lo hi H Q => ∃ a xs, x = .ref a ∧ SqT K H a xs ∧
  (HT.sIx xs.length 0 lo = 0 ∧ HT.sIx xs.length xs.length hi = xs.length → Q (.ref a) H) ∧
  (¬ (HT.sIx xs.length 0 lo = 0 ∧ HT.sIx xs.length xs.length hi = xs.length) → ∀ (p : Addr) (o : Obj), H p = none → o.dict = none → Q (.ref p) (upd H p (.frz o (.tup (cutV xs lo hi)))))
theorem sl_tupP {X : Cx} : SlR X (rSlP X.K) := by
  intro pins s σ H x v vl vu lo hi sl Q I rx hs pl pu h
  obtain ⟨a, xs, rfl, hx, q1, q2⟩ := h
  cases rx
  obtain ⟨its, r, ht, hz⟩ := I.tuple hx
  have hlen : its.toArray.size = xs.length := by rw [List.size_toArray]; exact r.length.symm
  refine ⟨"tuple", _, PyProof.Rows.slot_tuple_getitem.lookup, ht.typeIs, ?_⟩
  by_cases hw : HT.sIx xs.length 0 lo = 0 ∧ HT.sIx xs.length xs.length hi = xs.length
  · exact getItem_tuple_whole ht hs pl pu (by rw [hlen]; exact hw) ⟨.ref a, H, I, rfl, q1 hw⟩
  · refine HT.getItem_tuple_cut ht hs pl pu (by rw [hlen]; exact hw) ?_ (by rw [hlen]; exact hz)
    rw [hlen]
    exact ⟨.ref s.heap.objs.size, _, laid_pt (t' := s.toks) (ys := cutV xs lo hi) I ((r.drop _).take _) (Nat.le_trans (cutV_length xs lo hi) hz), rfl, q2 hw _ _ I.fresh rfl⟩
/-- t * 1 is t -/
theorem tuple_mul1 (l : Addr) (items : Array Value) (n : Nat) (dd : Option Addr) (sl : Array (Option Value)) (u : Tok) :
    Meets (Builtin.«tuple.__mul__» ⟨[.ref l, .int 1 u], []⟩) (fun _ R s => s.heap.get? l = some { cls := .type "tuple", dict := dd, data := .seq items n, slots := sl } ∧ R (.ok (.ret (Value.ref l))) s) :=
  .of_wp fun prog w A R s h => by
    obtain ⟨hp, g, d, tk, os⟩ := s
    obtain ⟨hl, h⟩ := h
    have f1 := AutoSeq1.idx_int
    have c0 : (decide ((1 : Int) < -(2 ^ 63)) || decide ((1 : Int) ≥ 2 ^ 63)) = false := by decide
    have c1 : (items.isEmpty || (1 : Int) == 1) = true := by simp
    wp_walk using AutoSeq1.wpAny_loadPart' hl
    repeat (first
      | (refine wpAny_ite_false (decide_eq_false (by rw [c0]; exact Bool.false_ne_true)) ?_; wp_walk using AutoSeq1.wpAny_loadPart' hl)
      | (refine wpAny_ite_true (decide_eq_true c1) ?_; wp_walk using AutoSeq1.wpAny_loadPart' hl))
    all_goals first
      | exact ⟨_, rfl, h⟩
      | skip
end Lw
/-! Dicts whose keys are tuples of ints: tables, rules. -/
namespace Lw
open PySem PySem.Spec PyProof.Rows L2
/-! ### tables -/
def lk {α : Type} (t : List (List Int × α)) (k : List Int) : Option α := (t.find? fun x => decide (x.1 = k)).map (·.2)
def pt {α : Type} (t : List (List Int × α)) (k : List Int) (f : α → α) (a : α) : List (List Int × α) := if (lk t k).isSome then t.map (fun x => if x.1 = k then (x.1, f x.2) else x) else t ++ [(k, a)]
def dl {α : Type} (t : List (List Int × α)) (k : List Int) : List (List Int × α) := t.filter fun x => decide (x.1 ≠ k)
theorem lk_nil {α : Type} {k : List Int} : lk ([] : List (List Int × α)) k = none := rfl
theorem lk_pos {α : Type} {x : List Int × α} {t : List (List Int × α)} {k : List Int} (h : x.1 = k) : lk (x :: t) k = some x.2 := by simp [lk, List.find?_cons, h]
theorem lk_neg {α : Type} {x : List Int × α} {t : List (List Int × α)} {k : List Int} (h : ¬ x.1 = k) : lk (x :: t) k = lk t k := by simp [lk, List.find?_cons, h]
theorem pt_len {α : Type} (t : List (List Int × α)) (k : List Int) (f : α → α) (a : α) : (pt t k f a).length ≤ t.length + 1 := by
  unfold pt; split
  · rw [List.length_map]; omega
  · simp
def PR {α β : Type} (R : List Int → α → β → Prop) : List (List Int × α) → List (List Int × β) → Prop := Paired fun x y => x.1 = y.1 ∧ R x.1 x.2 y.2
section
variable {α β : Type} {R : List Int → α → β → Prop} {xs : List (List Int × α)} {ys : List (List Int × β)} {k : List Int}
theorem pr_lk (h : PR R xs ys) (k : List Int) : (lk xs k = none ∧ lk ys k = none) ∨ ∃ a b, lk xs k = some a ∧ lk ys k = some b ∧ R k a b := by
  unfold PR at h
  induction h with
  | nil => exact .inl ⟨rfl, rfl⟩
  | @cons x y xs ys h t ih =>
    by_cases e : x.1 = k
    · refine .inr ⟨x.2, y.2, lk_pos e, lk_pos (h.1.symm.trans e), ?_⟩
      rw [← e]; exact h.2
    · rw [lk_neg e, lk_neg (fun z => e (h.1.trans z))]; exact ih
theorem pr_keys (h : PR R xs ys) : xs.map (·.1) = ys.map (·.1) := by
  unfold PR at h
  induction h with
  | nil => rfl
  | cons h t ih => rw [List.map_cons, List.map_cons, ih, h.1]
theorem pr_len (h : PR R xs ys) : xs.length = ys.length := Paired.length h
theorem pr_map {f : α → α} {g : β → β} (h : PR R xs ys) (k : List Int) (hf : ∀ a b, R k a b → R k (f a) (g b)) : PR R (xs.map fun x => if x.1 = k then (x.1, f x.2) else x) (ys.map fun x => if x.1 = k then (x.1, g x.2) else x) := by
  unfold PR at h ⊢
  induction h with
  | nil => exact .nil
  | @cons x y xs ys h t ih =>
    rw [List.map_cons, List.map_cons]
    refine .cons ?_ ih
    by_cases e : x.1 = k
    · rw [if_pos e, if_pos (h.1.symm.trans e)]
      refine ⟨h.1, ?_⟩
      have := h.2; rw [e] at this
      show R x.1 (f x.2) (g y.2)
      rw [e]; exact hf _ _ this
    · rw [if_neg e, if_neg (fun z => e (h.1.trans z))]; exact h
theorem pr_app {x : List Int × α} {y : List Int × β} (h : PR R xs ys) (e : x.1 = y.1) (r : R x.1 x.2 y.2) : PR R (xs ++ [x]) (ys ++ [y]) := by
  unfold PR at h ⊢
  exact Paired.snoc h ⟨e, r⟩
theorem pr_pt {f : α → α} {g : β → β} {a : α} {b : β} (h : PR R xs ys) (r : R k a b) (hf : ∀ a b, R k a b → R k (f a) (g b)) : PR R (pt xs k f a) (pt ys k g b) := by
  unfold pt
  rcases pr_lk h k with ⟨e1, e2⟩ | ⟨a', b', e1, e2, _⟩
  · rw [e1, e2]; exact pr_app h rfl r
  · rw [e1, e2]; exact pr_map h k hf
theorem pr_dl (h : PR R xs ys) (k : List Int) : PR R (dl xs k) (dl ys k) := by
  unfold PR dl at *
  induction h with
  | nil => exact .nil
  | @cons x y xs ys h t ih =>
    rw [List.filter_cons, List.filter_cons]
    by_cases e : x.1 = k
    · rw [if_neg (by simp [e]), if_neg (by simp [h.1.symm.trans e])]; exact ih
    · rw [if_pos (by simp [e]), if_pos (by have : ¬ y.1 = k := fun z => e (h.1.trans z); simp [this])]; exact .cons h ih
theorem pr_get {i : Nat} {x : List Int × α} (h : PR R xs ys) (e : xs[i]? = some x) : ∃ y, ys[i]? = some y ∧ x.1 = y.1 ∧ R x.1 x.2 y.2 := by
  unfold PR at h
  obtain ⟨b, h1, h2⟩ := L2.paired_get h e
  exact ⟨b, h1, h2⟩
theorem pr_mono {R' : List Int → α → β → Prop} (h : PR R xs ys) (f : ∀ k a b, R k a b → R' k a b) : PR R' xs ys := Paired.mapP h fun _ _ r => ⟨r.1, f _ _ _ r.2⟩
end
def putAll {α : Type} (f : α → α → α) (es : List (List Int × α)) (acc : List (List Int × α)) : List (List Int × α) := es.foldl (fun acc e => pt acc e.1 (fun p => f p e.2) e.2) acc
theorem pr_putAll {α β : Type} {R : List Int → α → β → Prop} {f : α → α → α} {g : β → β → β} (hf : ∀ k a b a' b', R k a b → R k a' b' → R k (f a a') (g b b')) : ∀ {es : List (List Int × α)} {ds : List (List Int × β)} {xs : List (List Int × α)} {ys : List (List Int × β)}, PR R es ds → PR R xs ys → PR R (putAll f es xs) (putAll g ds ys) := by
  intro es ds xs ys h
  unfold PR at h
  induction h generalizing xs ys with
  | nil => intro q; exact q
  | @cons e d es ds h t ih =>
    intro q
    show PR R (putAll f es (pt xs e.1 (fun p => f p e.2) e.2)) (putAll g ds (pt ys d.1 (fun p => g p d.2) d.2))
    refine ih ?_
    rw [← h.1]
    exact pr_pt q h.2 fun a b r => hf _ _ _ _ _ r h.2
theorem lk_none_of {α : Type} : ∀ {t : List (List Int × α)} {k : List Int}, k ∉ t.map (·.1) → lk t k = none
  | [], _, _ => rfl
  | x :: t, k, h => by
    rw [List.map_cons, List.mem_cons, not_or] at h
    rw [lk_neg (fun e => h.1 e.symm)]
    exact lk_none_of h.2
theorem lk_some_mem {α : Type} : ∀ {t : List (List Int × α)} {k : List Int} {a : α}, lk t k = some a → (k, a) ∈ t
  | [], _, _, h => by cases h
  | x :: t, k, a, h => by
    by_cases e : x.1 = k
    · rw [lk_pos e] at h; cases h; rw [← e]; exact List.mem_cons_self
    · rw [lk_neg e] at h; exact List.mem_cons_of_mem _ (lk_some_mem h)
theorem lk_mem {α : Type} : ∀ {t : List (List Int × α)} {k : List Int} {a : α}, (t.map (·.1)).Nodup → (k, a) ∈ t → lk t k = some a
  | [], _, _, _, h => by cases h
  | x :: t, k, a, nd, h => by
    rw [List.map_cons, List.nodup_cons] at nd
    rcases List.mem_cons.mp h with e | h
    · rw [← e]; exact lk_pos rfl
    · rw [lk_neg (fun e => nd.1 (List.mem_map.mpr ⟨_, h, e.symm⟩))]
      exact lk_mem nd.2 h
/-- pairs with keys all different: as they stand -/
theorem putAll_nd {α : Type} (f : α → α → α) : ∀ (es acc : List (List Int × α)), ((acc ++ es).map (·.1)).Nodup → putAll f es acc = acc ++ es
  | [], acc, _ => by simp [putAll]
  | e :: es, acc, h => by
    have hn : e.1 ∉ acc.map (·.1) := by
      rw [List.map_append, List.map_cons, List.nodup_append] at h
      intro q
      exact h.2.2 _ q _ List.mem_cons_self rfl
    have e1 : pt acc e.1 (fun p => f p e.2) e.2 = acc ++ [e] := by
      unfold pt; rw [lk_none_of hn]; rfl
    show putAll f es (pt acc e.1 (fun p => f p e.2) e.2) = _
    rw [e1, putAll_nd f es (acc ++ [e]) (by simpa using h)]
    simp
/-! ### entries: raw, tracked, as data -/
abbrev relE : List Int → Addr × V → Addr × Value → Prop := fun _ p q => p.1 = q.1 ∧ RelV p.2 q.2
abbrev EnR (K : PySem.W.Frag) (H : Hp) : List Ent → List (List Int × D) → Prop := PR fun k p d => KeyAt H p.1 k ∧ Rep K H d p.2
abbrev D.dc (t : List (List Int × D)) : D := .dic (t.map (·.1)) (t.map (·.2))
abbrev Mo.dc (t : List (List Int × D)) : Mo := .dX (t.map (·.1)) (t.map (·.2))
section
variable {K : PySem.W.Frag} {H H' : Hp}
theorem enR_of : ∀ {xs : List Ent} {t : List (List Int × D)}, xs.map (·.1) = t.map (·.1) → (∀ x ∈ xs, KeyAt H x.2.1 x.1) → RepL K H (t.map (·.2)) (xs.map (·.2.2)) → EnR K H xs t
  | [], [], _, _, _ => .nil
  | [], _ :: _, h, _, _ => by simp at h
  | _ :: _, [], h, _, _ => by simp at h
  | x :: xs, y :: t, h, hk, hr => by
    rw [List.map_cons, List.map_cons] at h
    injection h with h1 h2
    obtain ⟨v, r, e, r1, r2⟩ := repL_cons.mp (show RepL K H (y.2 :: t.map (·.2)) (x.2.2 :: xs.map (·.2.2)) from hr)
    injection e with e1 e2
    subst e1 e2
    exact .cons ⟨h1, hk x List.mem_cons_self, r1⟩ (enR_of h2 (fun z hz => hk z (List.mem_cons_of_mem _ hz)) r2)
theorem enR_to {xs : List Ent} {t : List (List Int × D)} (h : EnR K H xs t) : xs.map (·.1) = t.map (·.1) ∧ (∀ x ∈ xs, KeyAt H x.2.1 x.1) ∧ RepL K H (t.map (·.2)) (xs.map (·.2.2)) := by
  refine ⟨pr_keys h, ?_, ?_⟩
  · unfold EnR PR at h
    induction h with
    | nil => intro x hx; cases hx
    | cons r t ih =>
      intro x hx
      rcases List.mem_cons.mp hx with e | hx
      · rw [e]; exact r.2.1
      · exact ih x hx
  · unfold EnR PR at h
    induction h with
    | nil => exact repL_nil.mpr rfl
    | cons r t ih => exact repL_cons.mpr ⟨_, _, rfl, r.2.2, ih⟩
theorem EnR.mono {xs : List Ent} {t : List (List Int × D)} (i : Imm H H') (h : EnR K H xs t) : EnR K H' xs t := pr_mono h fun _ _ _ r => ⟨i.key r.1, r.2.mono i⟩
theorem rep_dc {v : V} {t : List (List Int × D)} : Rep K H (.dc t) v ↔ ∃ (a : Addr) (xs : List Ent) (o : Obj), v = .ref a ∧ H a = some (.frz o (DX a xs)) ∧ EnR K H xs t := by
  rw [rep_dic]
  constructor
  · rintro ⟨a, xs, o, e, h, h1, h2, h3⟩
    exact ⟨a, xs, o, e, h, enR_of h1 h2 h3⟩
  · rintro ⟨a, xs, o, e, h, h1⟩
    obtain ⟨b1, b2, b3⟩ := enR_to h1
    exact ⟨a, xs, o, e, h, b1, b2, b3⟩
theorem mo_dc {a : Addr} {t : List (List Int × D)} : MoOk K H a (.dc t) ↔ ∃ xs : List Ent, H a = some (DX a xs) ∧ EnR K H xs t := by
  show (∃ xs : List Ent, H a = some (DX a xs) ∧ xs.map (·.1) = t.map (·.1) ∧ (∀ x ∈ xs, KeyAt H x.2.1 x.1) ∧ RepL K H (t.map (·.2)) (xs.map (·.2.2))) ↔ _
  constructor
  · rintro ⟨xs, h, h1, h2, h3⟩
    exact ⟨xs, h, enR_of h1 h2 h3⟩
  · rintro ⟨xs, h, h1⟩
    obtain ⟨b1, b2, b3⟩ := enR_to h1
    exact ⟨xs, h, b1, b2, b3⟩
end
/-- a dict, known for good or not -/
def XD (H : Hp) (d : Addr) (xs : List Ent) : Prop := H d = some (DX d xs) ∨ ∃ o, H d = some (.frz o (DX d xs))
def XKy (H : Hp) (d : Addr) (xs : List Ent) : Prop := XD H d xs ∧ ∀ x ∈ xs, KeyAt H x.2.1 x.1
abbrev tk (P : Program) (w : World) := tupleKind (intKind P w)
theorem enK_eq (P : Program) (w : World) (y : List Int × Addr × Value) : enK y = entryOfKey (tk P w) y := rfl
section
variable {X : Cx} {pins : List (Addr × Obj)} {σ : L2.St} {H H' : Hp} {s : Shared} {d b : Addr} {xs : List Ent} {k : List Int} {A : Around} {E : Value → Shared → Prop}
theorem key_at (I : Inv X pins σ H s) (h : KeyAt H b k) : (tk X.prog X.w).is s.heap k b := by
  obtain ⟨o, h1, _⟩ := h
  obtain ⟨_, _, its, r, o', e1, e2, n, e3⟩ := I.hok b _ h1
  exact ⟨o', its.toArray, n, e1, e2, e3, by simpa using L2.items_of_vals r⟩
theorem xd_obj (I : Inv X pins σ H s) (h : XD H d xs) : (d == sysModules) = false ∧ ∃ o, s.heap.get? d = some o ∧ DictObj o xs := by
  rcases h with h | ⟨o, h⟩
  · exact (I.hok d _ h).1
  · exact (I.hok d _ h).2.1
theorem xd_raw (I : Inv X pins σ H s) (h : XKy H d xs) : (d == sysModules) = false ∧ xs.length ≤ sizeLine ∧ ∃ ys, PR relE xs ys ∧ s.heap.DictOfH (tk X.prog X.w) d ys := by
  obtain ⟨hd, o, ho, D0⟩ := xd_obj I h.1
  obtain ⟨es, ep, ys, e1, e2, e3⟩ := D0.ent
  have pr : PR relE xs ys := e3
  refine ⟨hd, D0.len, ys, pr, o, es, ep, ho, D0.ex, e1, ?_, fun y hy => ?_, ?_⟩
  · rw [e2]; rfl
  · obtain ⟨i, hi⟩ := List.mem_iff_getElem?.mp hy
    obtain ⟨x, hx, r⟩ := paired_get' pr hi
    have := h.2 x (List.mem_of_getElem? hx)
    have q := key_at I this
    rw [← r.1, ← r.2.1]; exact q
  · rw [← pr_keys pr]; exact D0.nd
where
  paired_get' {α β : Type} {R : List Int → α → β → Prop} : ∀ {xs : List (List Int × α)} {ys : List (List Int × β)} {i : Nat} {y : List Int × β}, PR R xs ys → ys[i]? = some y → ∃ x, xs[i]? = some x ∧ x.1 = y.1 ∧ R x.1 x.2 y.2
    | _, _, i, y, .nil, e => by simp at e
    | _, _, 0, y, .cons (a := a) r t, e => by
      simp at e; subst e
      exact ⟨a, rfl, r⟩
    | _, _, i + 1, y, .cons r t, e => by
      obtain ⟨x, h1, h2⟩ := paired_get' (i := i) t (by simpa using e)
      exact ⟨x, by simpa using h1, h2⟩
theorem dx_obj {P : Program} {w : World} {h : Heap} {ys : List (List Int × Addr × Value)} (hd : (d == sysModules) = false) (hz : xs.length ≤ sizeLine) (pr : PR relE xs ys) (x : h.DictOfH (tk P w) d ys) : ObjOk P w H h d (DX d xs) := by
  obtain ⟨o, es, ep, ho, hc, hdt, he, hk, hn⟩ := x
  have D0 : DictObj o xs := ⟨hc, hz, by rw [pr_keys pr]; exact hn, es, ep, ys, hdt, he, pr⟩
  refine ⟨⟨hd, o, ho, D0⟩, ⟨o, ho⟩, fun h1 h2 p q => ?_⟩
  obtain ⟨hd', o', ho', D'⟩ := p
  exact ⟨hd', o', q o' ho', D'⟩
theorem xd_type (I : Inv X pins σ H s) (h : XD H d xs) : s.TypeIs (.ref d) "dict" ∧ (∀ b, Value.ref d = .ref b → ∃ ob, s.heap.get? b = some ob ∧ ob.dict = none) := by
  obtain ⟨hd, o, ho, D0⟩ := xd_obj I h
  refine ⟨⟨o, ho, D0.ex.1⟩, fun b q => ?_⟩
  cases q
  exact ⟨o, ho, D0.ex.2.1⟩
theorem x_getItem {p : Addr × V} {Q : Value → Shared → Prop} (hu : A.units + 1 < cLine) (I : Inv X pins σ H s) (h : XKy H d xs) (hb : KeyAt H b k) (hp : lk xs k = some p) (q : ∀ w' s', Inv X pins σ H s' → RelV p.2 w' → Q w' s') :
    wpAny (model X.prog X.w) A (getItem (.ref d) (.ref b)) Q E s := by
  obtain ⟨_, _, ys, pr, dd⟩ := xd_raw I h
  rcases pr_lk pr k with ⟨e1, _⟩ | ⟨p1, p2, e1, e2, r⟩
  · rw [hp] at e1; cases e1
  · rw [hp] at e1; cases e1
    exact wpAny_getItem_heap (tupleKind_room_in1 hu) (key_at I hb) dd e2 (q _ _ (I.tok _) r.2)
theorem x_in {Q : Value → Shared → Prop} (hu : A.units + 1 < cLine) (I : Inv X pins σ H s) (h : XKy H d xs) (hb : KeyAt H b k) (q : ∀ s', Inv X pins σ H s' → Q (.bool (lk xs k).isSome) s') :
    wpAny (model X.prog X.w) A (compareOp .In (.ref b) (.ref d)) Q E s := by
  obtain ⟨hd, _, ys, pr, dd⟩ := xd_raw I h
  refine wpAny_in_heap (tupleKind_room_in1 hu) (key_at I hb) hd dd ?_
  have e : (atKey ys k).isSome = (lk xs k).isSome := by
    show (lk ys k).isSome = _
    rcases pr_lk pr k with ⟨e1, e2⟩ | ⟨p1, p2, e1, e2, r⟩ <;> rw [e1, e2] <;> rfl
  rw [e]
  exact q _ (I.tok _)
theorem x_get2 {y : V} {r : Value} {Q : Value → Shared → Prop} (hu : A.units + 1 < cLine) (I : Inv X pins σ H s) (h : XKy H d xs) (hb : KeyAt H b k) (rd : RelV y r) (q : ∀ w' s', Inv X pins σ H s' → RelV (((lk xs k).map (·.2)).getD y) w' → Q w' s') :
    wpAny (model X.prog X.w) A (call (.builtin "dict.get") [.ref d, .ref b, r]) Q E s := by
  obtain ⟨hd, _, ys, pr, dd⟩ := xd_raw I h
  refine call_meetsIn PySem.F.slot_dict_get dd.typeIs PySem.F.entry_dict_get (PySem.F.args_dict_get_3 _ _ _) (meetsH_dict_get_default (tk X.prog X.w) d b hd r) ⟨tupleKind_room_in1 hu, k, ys, key_at I hb, dd, q _ _ (I.tok _) ?_⟩
  show RelV _ (((lk ys k).map (·.2)).getD r)
  rcases pr_lk pr k with ⟨e1, e2⟩ | ⟨p1, p2, e1, e2, r'⟩
  · rw [e1, e2]; exact rd
  · rw [e1, e2]; exact r'.2
theorem x_setItem {v : V} {r : Value} {Q : Unit → Shared → Prop} (hu : A.units + 1 < cLine) (I : Inv X pins σ H s) (h0 : H d = some (DX d xs)) (h : ∀ x ∈ xs, KeyAt H x.2.1 x.1) (hb : KeyAt H b k) (hz : xs.length < sizeLine) (rv : RelV v r)
    (q : ∀ s', Inv X pins σ (upd H d (DX d (pt xs k (fun p => (p.1, v)) (b, v)))) s' → Q () s') : wpAny (model X.prog X.w) A (setItem (.ref d) (.ref b) r) Q E s := by
  obtain ⟨hd, hl, ys, pr, dd⟩ := xd_raw I ⟨.inl h0, h⟩
  refine wpAny_setItem_heap (hsz := by rw [← pr_len pr]; exact hl) (tupleKind_room_in1 hu) (key_at I hb) dd fun h' dd' hs => q _ ?_
  have he : ∃ o, h'.get? d = some o := let ⟨o, _, _, ho, _⟩ := dd'; ⟨o, ho⟩
  have pr' : PR relE (pt xs k (fun p => (p.1, v)) (b, v)) (storedH ys k b r) := by
    have := pr_pt (k := k) (f := fun p : Addr × V => (p.1, v)) (g := fun p : Addr × Value => (p.1, r)) (a := (b, v)) (b := (b, r)) pr ⟨rfl, rv⟩ (fun a b e => ⟨e.1, rv⟩)
    exact this
  exact d_write I (by rw [h0]; exact True.intro) hs he (dx_obj hd (Nat.le_trans (pt_len _ _ _ _) hz) pr' dd')
theorem x_pop {p : Addr × V} {Q : Value → Shared → Prop} (hu : A.units + 1 < cLine) (I : Inv X pins σ H s) (h0 : H d = some (DX d xs)) (h : ∀ x ∈ xs, KeyAt H x.2.1 x.1) (hb : KeyAt H b k) (hp : lk xs k = some p)
    (q : ∀ w' s', Inv X pins σ (upd H d (DX d (dl xs k))) s' → RelV p.2 w' → Q w' s') : wpAny (model X.prog X.w) A (call (.builtin "dict.pop") [.ref d, .ref b]) Q E s := by
  obtain ⟨hd, hl, ys, pr, dd⟩ := xd_raw I ⟨.inl h0, h⟩
  rcases pr_lk pr k with ⟨e1, _⟩ | ⟨p1, p2, e1, e2, r⟩
  · rw [hp] at e1; cases e1
  · rw [hp] at e1; cases e1
    refine call_pop_heap (more := []) (.inl rfl) (PySem.F.args_dict_pop_2 _ _) (tupleKind_room_in1 hu) (key_at I hb) hd dd e2 (fun h' dd' hs => q _ _ ?_ r.2) (by rw [← pr_len pr]; exact hl)
    have he : ∃ o, h'.get? d = some o := let ⟨o, _, _, ho, _⟩ := dd'; ⟨o, ho⟩
    exact d_write I (by rw [h0]; exact True.intro) hs he (dx_obj hd (Nat.le_trans (List.length_filter_le _ _) hl) (pr_dl pr k) dd')
end
/-! ### rules -/
def tXNew : TE := fun _ H Q => ∀ p, H p = none → Q (.ref p) (upd H p (DX p []))
def tXGet (td ty : TE) : TE := fun σ H Q => td σ H fun x H1 => ty σ H1 fun y H2 => ∃ a xs b k p, x = .ref a ∧ XKy H2 a xs ∧ y = .ref b ∧ KeyAt H2 b k ∧ lk xs k = some p ∧ Q p.2 H2
def tXIn (ty td : TE) : TE := fun σ H Q => ty σ H fun y H1 => td σ H1 fun x H2 => ∃ a xs b k, x = .ref a ∧ XKy H2 a xs ∧ y = .ref b ∧ KeyAt H2 b k ∧ Q (.bl (lk xs k).isSome) H2
def tXGet2 (td ty tx : TE) : TE := fun σ H Q => td σ H fun x H1 => ∃ a, x = .ref a ∧ (∃ xs, XD H1 a xs) ∧ ty σ H1 fun y H2 => tx σ H2 fun z H3 => ∃ xs b k, XKy H3 a xs ∧ y = .ref b ∧ KeyAt H3 b k ∧ Q (((lk xs k).map (·.2)).getD z) H3
def tXPop (td ty : TE) : TE := fun σ H Q => td σ H fun x H1 => ∃ a, x = .ref a ∧ (∃ xs, XD H1 a xs) ∧ ty σ H1 fun y H2 => ∃ xs b k p, H2 a = some (DX a xs) ∧ (∀ x ∈ xs, KeyAt H2 x.2.1 x.1) ∧ y = .ref b ∧ KeyAt H2 b k ∧ lk xs k = some p ∧ Q p.2 (upd H2 a (DX a (dl xs k)))
def sXPut (td ty tv : TE) : TS := fun D σ H => tv σ H fun v H1 => td σ H1 fun x H2 => ty σ H2 fun y H3 => ∃ a xs b k, x = .ref a ∧ H3 a = some (DX a xs) ∧ (∀ x ∈ xs, KeyAt H3 x.2.1 x.1) ∧ y = .ref b ∧ KeyAt H3 b k ∧ xs.length < sizeLine ∧ D.nx σ (upd H3 a (DX a (pt xs k (fun p => (p.1, v)) (b, v))))
def tXDisp (ty tv : TE) : TE := fun σ H Q => ∀ p, H p = none → ty σ (upd H p (DX p [])) fun y H1 => tv σ H1 fun v H2 => H2 p = some (DX p []) ∧ ∃ b k, y = .ref b ∧ KeyAt H2 b k ∧ Q (.ref p) (upd H2 p (DX p [(k, b, v)]))
section
variable {X : Cx} {o i e f value : Expr} {pos pos' tpos apos cpos : Pos} {td ty tv tx : TE}
theorem dx_empty {P : Program} {w : World} {H : Hp} (h : Heap) (hb : sysModules < h.objs.size) : ObjOk P w H (h.push { cls := .type "dict", data := .dict #[] }) h.objs.size (DX h.objs.size []) :=
  dx_obj (beq_eq_false_iff_ne.mpr (Ne.symm (Nat.ne_of_lt hb))) (Nat.zero_le _) (ys := []) .nil (Heap.DictOfH.new h)
theorem pe_xnew : PE X (.Dict [] [] pos) tXNew := ⟨fun pins s σ H Q I h =>
  wpAny_Dict_empty ⟨.ref s.heap.objs.size, _, I.laid (a := s.heap.objs.size) (o := DX s.heap.objs.size []) (t' := s.toks) (fun _ _ q => Heap.get?_push_of_some _ q) (Nat.le_refl _) (dx_empty s.heap I.big), rfl, h _ (I.hok.fresh (Nat.le_refl _))⟩⟩
theorem pe_xget (hu : X.A.units + 1 < cLine) (ho : PE X o td) (hi : PE X i ty) (hs : NoSl i) : PE X (.Subscript o i pos) (tXGet td ty) := by
  refine ⟨fun pins s σ H Q I h => ?_⟩
  refine subD_of PySem.F.slot_dict_getitem.lookup hs (thn (ho.run pins s σ H _ I h) fun u s1 ⟨x, H1, I1, rx, q1⟩ => thn (hi.run pins s1 σ H1 _ I1 q1) fun iv s2 ⟨y, H2, I2, ry, a, xs, b, k, p, ex, g, ey, hb, l, q2⟩ => ?_)
  subst ex ey
  obtain rfl : u = Value.ref a := rx
  obtain rfl : iv = Value.ref b := ry
  exact ⟨(xd_type I2 g.1).1, x_getItem hu I2 g hb l fun w' s3 I3 rw' => ⟨_, H2, I3, rw', q2⟩⟩
theorem pc_xin (hu : X.A.units + 1 < cLine) (hi : PE X i ty) (ho : PE X o td) : PC X .In i o (tXIn ty td) := by
  refine ⟨fun pins s σ H Q I h => ?_⟩
  refine thn (hi.run pins s σ H _ I h) fun iv s1 ⟨y, H1, I1, ry, q1⟩ => thn (ho.run pins s1 σ H1 _ I1 q1) fun u s2 ⟨x, H2, I2, rx, a, xs, b, k, ex, g, ey, hb, q2⟩ => ?_
  subst ex ey
  obtain rfl : u = Value.ref a := rx
  obtain rfl : iv = Value.ref b := ry
  exact x_in hu I2 g hb fun s3 I3 => ⟨.bl (lk xs k).isSome, H2, I3, rfl, q2⟩
theorem pe_xget2 (hu : X.A.units + 1 < cLine) (ho : PE X o td) (he : PE X e ty) (hf : PE X f tx) (m : M2 X o "get" apos e f cpos) : PE X (.Call (.Attribute o "get" apos) [e, f] [] cpos) (tXGet2 td ty tx) := by
  refine ⟨fun pins s σ H Q I h => ?_⟩
  refine wpAny_Call_method m.base m.few m.line PySem.F.plainAttrs_dict PySem.F.slot_dict_get PySem.F.type_dict_get (thn (ho.run pins s σ H _ I h) fun u s1 ⟨x, H1, I1, rx, a, ex, ⟨xs, d⟩, q1⟩ => ?_)
  subst ex
  obtain rfl : u = Value.ref a := rx
  obtain ⟨t1, t2⟩ := xd_type I1 d
  refine ⟨t1, t2, ?_⟩
  rw [m.trees]
  refine Calls.callWith_builtin rfl (Calls.evalArgs_plain (Calls.spliced_cons (thn (he.run pins s1 σ H1 _ I1 q1) fun iv s2 ⟨y, H2, I2, ry, q2⟩ =>
    Calls.spliced_cons (thn (hf.run pins s2 σ H2 _ I2 q2) fun fv s3 ⟨z, H3, I3, rz, xs', b, k, g, ey, hb, q3⟩ => Calls.spliced_nil ?_))))
  subst ey
  obtain rfl : iv = Value.ref b := ry
  exact x_get2 hu I3 g hb rz fun w' s4 I4 rw' => ⟨_, H3, I4, rw', q3⟩
theorem pe_xpop (hu : X.A.units + 1 < cLine) (ho : PE X o td) (he : PE X e ty) (m : M1 X o "pop" apos e cpos) : PE X (.Call (.Attribute o "pop" apos) [e] [] cpos) (tXPop td ty) := by
  refine ⟨fun pins s σ H Q I h => ?_⟩
  refine wpAny_Call_method m.base m.few m.line PySem.F.plainAttrs_dict PySem.F.slot_dict_pop PySem.F.type_dict_pop (thn (ho.run pins s σ H _ I h) fun u s1 ⟨x, H1, I1, rx, a, ex, ⟨xs, d⟩, q1⟩ => ?_)
  subst ex
  obtain rfl : u = Value.ref a := rx
  obtain ⟨t1, t2⟩ := xd_type I1 d
  refine ⟨t1, t2, ?_⟩
  rw [m.trees]
  refine Calls.callWith_builtin rfl (Calls.evalArgs_plain (Calls.spliced_cons (thn (he.run pins s1 σ H1 _ I1 q1) fun iv s2 ⟨y, H2, I2, ry, xs', b, k, p, h0, hk, ey, hb, l, q2⟩ => Calls.spliced_nil ?_)))
  subst ey
  obtain rfl : iv = Value.ref b := ry
  exact x_pop hu I2 h0 hk hb l fun w' s3 I3 rw' => ⟨p.2, _, I3, rw', q2⟩
theorem ps_xput (hu : X.A.units + 1 < cLine) (ho : PE X o td) (hi : PE X i ty) (hv : PE X value tv) (hs : swapsWith value (some (.Subscript o i pos')) pos.line X.env = pure false) :
    PS X (.Assign [.Subscript o i pos'] value pos) (sXPut td ty tv) := by
  refine ⟨fun pins s σ H D I h => ?_⟩
  refine wpAny_Assign_Subscript (thn (hv.run pins s σ H _ I h) fun r s1 ⟨v, H1, I1, rv, q1⟩ => thn (ho.run pins s1 σ H1 _ I1 q1) fun u s2 ⟨x, H2, I2, rx, q2⟩ => thn (hi.run pins s2 σ H2 _ I2 q2) fun iv s3 ⟨y, H3, I3, ry, a, xs, b, k, ex, h0, hk, ey, hb, hz, q3⟩ => ?_) hs
  subst ex ey
  obtain rfl : u = Value.ref a := rx
  obtain rfl : iv = Value.ref b := ry
  exact x_setItem hu I3 h0 hk hb hz rv fun s4 I4 => ⟨σ, _, I4, q3⟩
end
end Lw
/-! Dicts whose keys are tuples of ints: displays, dict(..), walks, items, sorted. -/
namespace Lw
open PySem PySem.Spec PyProof.Rows L2
section
variable {X : Cx} {o i e f value : Expr} {pos pos' tpos apos cpos : Pos} {td ty tv tx : TE}
/-- {k: v} -/
theorem pe_xdisp {k v : Expr} (hu : X.A.units < cLine) (hk : PE X k ty) (hv : PE X v tv) : PE X (.Dict [some k] [v] pos) (tXDisp ty tv) := by
  refine ⟨fun pins s σ H Q I q => ?_⟩
  have hn := I.hok.fresh (Nat.le_refl s.heap.objs.size)
  have I1 := I.laid (a := s.heap.objs.size) (o := DX s.heap.objs.size []) (h' := s.heap.push { cls := .type "dict", data := .dict #[] }) (t' := s.toks) (fun _ _ q => Heap.get?_push_of_some _ q) (Nat.le_refl _) (dx_empty s.heap I.big)
  have hln : (pairTrees [some k] [v] X.env pos).length = 1 := pairTrees_length [some k] [v] X.env pos rfl rfl
  rw [arm_eval_Dict, zip_pairTrees [some k] [v] X.env pos rfl rfl, dictDisplay_pairs (pairTrees [some k] [v] X.env pos) (by intro z; rw [z] at hln; cases hln) (by rw [hln]; decide)]
  refine wpAny_bind (wpAny_standAt (wpAny_bind (wpAny_subDictH (knd := tk X.prog X.w) (Q := fun d s' => wpAny (model X.prog X.w) X.A (pure (Value.ref d)) (EP X pins σ Q) X.xe s') hu (by rw [hln]; decide) ?_)))
  refine pairTrees_cons_walk (thn (hk.run pins _ σ _ _ I1 (q _ hn)) fun kv s2 ⟨y, H1, I2, ry, q1⟩ => thn (hv.run pins s2 σ H1 _ I2 q1) fun vv s3 ⟨z, H2, I3, rz, h0, b, ks, ey, hb, q2⟩ => pairTrees_nil_walk ?_)
  subst ey
  obtain rfl : kv = Value.ref b := ry
  obtain ⟨hd, hl, ys, pr, dd⟩ := xd_raw I3 ⟨.inl h0, fun x hx => nomatch hx⟩
  cases pr
  refine ⟨[(ks, b, vv)], ⟨rfl, rfl, key_at I3 hb, trivial⟩, dd, fun h' tk' dd' hs => wpAny_pure ⟨.ref s.heap.objs.size, _, ?_, rfl, q2⟩⟩
  have he : ∃ o, h'.get? s.heap.objs.size = some o := let ⟨o, _, _, ho, _⟩ := dd'; ⟨o, ho⟩
  have pr' : PR relE [(ks, b, z)] (storedAllH [] [(ks, b, vv)]) := .cons ⟨rfl, rfl, rz⟩ .nil
  exact d_write I3 (by rw [h0]; exact True.intro) hs he (dx_obj hd (by rw [sizeLine_eq]; simp) pr' dd')
end
/-! ### dict(xs), xs a tuple or a list of pairs -/
def PrsOk (K : PySem.W.Frag) (H : Hp) : List V → List Ent → Prop := Paired fun v e => ∃ T, v = .ref T ∧ SqT K H T [.ref e.2.1, e.2.2] ∧ KeyAt H e.2.1 e.1
def putE (es : List Ent) : List Ent := putAll (fun p q => (p.1, q.2)) es []
def rDictX (K : PySem.W.Frag) : List V → Hp → VK → Prop := fun xs H Q => ∃ (a : Addr) (vs : List V) (es : List Ent), xs = [.ref a] ∧ (SqL K H a vs ∨ ∃ o, H a = some (.frz o (.tup vs)) ∧ o.dict = none) ∧ PrsOk K H vs es ∧ ∀ p, H p = none → Q (.ref p) (upd H p (DX p (putE es)))
theorem putE_len (es : List Ent) : (putE es).length ≤ es.length := by
  have : ∀ (es acc : List Ent), (putAll (fun p q => (p.1, q.2)) es acc).length ≤ acc.length + es.length := by
    intro es
    induction es with
    | nil => intro acc; simp [putAll]
    | cons e es ih =>
      intro acc
      have h1 := ih (pt acc e.1 (fun p => (p.1, e.2.2)) e.2)
      have h2 := pt_len acc e.1 (fun p : Addr × V => (p.1, e.2.2)) e.2
      show (putAll (fun p q => (p.1, q.2)) es (pt acc e.1 (fun p => (p.1, e.2.2)) e.2)).length ≤ _
      rw [List.length_cons]; omega
  simpa [putE] using this es []
section
variable {X : Cx}
theorem prs_raw {pins : List (Addr × Obj)} {σ : L2.St} {H : Hp} {s : Shared} (I : Inv X pins σ H s) : ∀ {vs : List V} {es : List Ent} {its : List Value}, PrsOk X.K H vs es → Vals vs its →
    ∃ (ps : List (List Int × Addr × Value)) (Ts : List Addr), PR relE es ps ∧ its = Ts.map Value.ref ∧ ps.length = Ts.length ∧ (∀ x ∈ ps, (tk X.prog X.w).is s.heap x.1 x.2.1) ∧ ∀ (j : Nat) (x : List Int × Addr × Value), ps[j]? = some x → ∃ T, Ts[j]? = some T ∧ IsTup s.heap T #[.ref x.2.1, x.2.2]
  | _, _, _, .nil, .nil => ⟨[], [], .nil, rfl, rfl, (fun x hx => by cases hx), fun j x e => by simp at e⟩
  | _, _, _, .cons (b := e) h t, .cons rv r => by
    obtain ⟨ps, Ts, h1, h2, h3, h4, h5⟩ := prs_raw I t r
    obtain ⟨T, rfl, hT, hk⟩ := h
    cases rv
    obtain ⟨ii, rr, ht, _⟩ := I.tuple hT
    obtain ⟨u, y, ei, ru, ry⟩ := vals2 rr
    subst ei
    cases ru
    refine ⟨(e.1, e.2.1, y) :: ps, T :: Ts, .cons ⟨rfl, rfl, ry⟩ h1, by rw [h2]; rfl, by rw [List.length_cons, List.length_cons, h3], fun x hx => ?_, fun j x ej => ?_⟩
    · rcases List.mem_cons.mp hx with rfl | hx
      · exact key_at I hk
      · exact h4 x hx
    · cases j with
      | zero =>
        simp at ej; subst ej
        exact ⟨T, rfl, ht⟩
      | succ j =>
        obtain ⟨T', q1, q2⟩ := h5 j x (by simpa using ej)
        exact ⟨T', by simpa using q1, q2⟩
theorem stAll_eq (ps : List (List Int × Addr × Value)) : ∀ acc, storedAllH acc ps = putAll (fun (p q : Addr × Value) => (p.1, q.2)) ps acc := by
  induction ps with
  | nil => intro acc; rfl
  | cons p ps ih => intro acc; exact ih _
theorem call_dictX (hc : X.calm = true) (hu : X.A.units + 2 < cLine) : CallR X (.type "dict") (rDictX X.K) := by
  intro pins s σ H xs us Q I r q
  obtain ⟨a, vs, es, ex, hq, hp, q⟩ := q
  subst ex
  obtain ⟨u, eu, rx⟩ := vals1 r
  subst eu
  cases rx
  obtain ⟨its, rv, hz, T0, pl, isT⟩ : ∃ its : List Value, Vals vs its ∧ vs.length ≤ sizeLine ∧ ∃ T : String, PlainSeq T s.heap a its.toArray ∧ (T = "list" ∨ T = "tuple") := by
    rcases hq with hq | ⟨o, hq, hd⟩
    · obtain ⟨its, rv, ⟨o, n, ho, hc, hd, hdat⟩, hz⟩ := I.list hq
      exact ⟨its, rv, hz, "list", ⟨o, n, ho, hc, hd, hdat⟩, .inl rfl⟩
    · obtain ⟨ho, hz, its, rv, o', ho', hc, n, hdat⟩ := I.hok a _ hq
      rw [ho] at ho'; cases ho'
      exact ⟨its, rv, hz, "tuple", ⟨o, n, ho, hc, hd, hdat⟩, .inr rfl⟩
  obtain ⟨ps, Ts, pr, ei, hl, hk, ht⟩ := prs_raw I hp rv
  have hlen : ps.length = vs.length := by
    rw [hl, rv.length, ei, List.length_map]
  have hits : PairItems s.heap its.toArray (fun j => Ts.getD j 0) (ps.map fun x => (Value.ref x.2.1, x.2.2)) := by
    refine ⟨by rw [List.size_toArray, ei, List.length_map, List.length_map, hl], fun j k v e => ?_⟩
    rw [List.getElem?_map] at e
    obtain ⟨x, hx, e⟩ := Option.map_eq_some_iff.mp e
    cases e
    obtain ⟨T, q1, q2⟩ := ht j x hx
    have eT : Ts.getD j 0 = T := by rw [List.getD_eq_getElem?_getD, q1]; rfl
    show its.toArray[j]? = some (Value.ref (Ts.getD j 0)) ∧ PairAt s.heap (Ts.getD j 0) _ _
    rw [eT]
    refine ⟨?_, .inl ?_⟩
    · rw [List.getElem?_toArray, ei, List.getElem?_map, q1]; rfl
    · exact q2
  have hc' : PairsHaveH (tk X.prog X.w) (ps.map fun x => (Value.ref x.2.1, x.2.2)).length (PairRel (ps.map fun x => (Value.ref x.2.1, x.2.2))) ps := by
    refine ⟨(List.length_map _).symm, fun j k v e => ?_⟩
    have e' : (ps.map fun x => (Value.ref x.2.1, x.2.2))[j]? = some (k, v) := e
    rw [List.getElem?_map] at e'
    obtain ⟨⟨x1, x2, x3⟩, hx, e⟩ := Option.map_eq_some_iff.mp e'
    cases e
    exact ⟨_, _, hx, rfl⟩
  have hst : KeysStay (tk X.prog X.w) s.heap s.heap.objs.size [] ps := fun h' hk' x hx => by
    obtain ⟨o, items, n, ho, r⟩ := hk x hx
    exact ⟨o, items, n, hk' _ _ (Nat.ne_of_lt (Heap.lt_size ho)) (by simp) ho, r⟩
  have fin : ∀ h' tk', h'.DictOfH (tk X.prog X.w) s.heap.objs.size (storedAllH [] ps) → (∀ b o, b ∉ ([] : List Addr) → s.heap.get? b = some o → h'.get? b = some o) → EP X pins σ Q (.ref s.heap.objs.size) { s with heap := h', toks := tk' } := fun h' tk' dd' k => by
    have hm : (s.heap.objs.size == sysModules) = false := beq_eq_false_iff_ne.mpr (Nat.ne_of_gt I.big)
    have pr' : PR relE (putE es) (storedAllH [] ps) := by
      rw [stAll_eq]
      exact pr_putAll (fun k a b a' b' r r' => ⟨r.1, r'.2⟩) pr .nil
    have hz' : (putE es).length ≤ sizeLine := Nat.le_trans (putE_len es) (by rw [pr_len pr, hlen]; exact hz)
    exact ⟨.ref s.heap.objs.size, _, I.laid (t' := tk') (fun b o e => k b o (by simp) e) (Nat.le_refl _) (dx_obj hm hz' pr' dd'), rfl, q _ (I.hok.fresh (Nat.le_refl _))⟩
  rcases isT with rfl | rfl
  · exact call_dict_pairsH (PairArg.list a its.toArray (fun j => Ts.getD j 0) (ps.map fun x => (Value.ref x.2.1, x.2.2))) (I.ok.hd hc) hu ⟨pl, hits⟩ hc' hst (by rw [List.length_map, hlen]; exact hz) fin
  · exact call_dict_pairsH (PairArg.tuple a its.toArray (fun j => Ts.getD j 0) (ps.map fun x => (Value.ref x.2.1, x.2.2))) (I.ok.hd hc) hu ⟨pl, hits⟩ hc' hst (by rw [List.length_map, hlen]; exact hz) fin
end
/-! ### walks -/
def ItkX (d : Addr) (o : Obj) (xs : List Ent) : It :=
  ⟨fun i H => H d = some (.frz o (DX d xs)) ∧ i < xs.length, fun i H x H' => H' = H ∧ ∃ e : Ent, xs[i]? = some e ∧ x = .ref e.2.1, fun i H => H d = some (.frz o (DX d xs)) ∧ xs.length ≤ i⟩
def ItiX (d : Addr) (o : Obj) (xs : List Ent) : It :=
  ⟨fun i H => H d = some (.frz o (DX d xs)) ∧ i < xs.length, fun i H x H' => ∃ T, ∃ e : Ent, xs[i]? = some e ∧ x = .ref T ∧ H T = none ∧ H' = upd H T (.tup [.ref e.2.1, e.2.2]), fun i H => H d = some (.frz o (DX d xs)) ∧ xs.length ≤ i⟩
section
variable {X : Cx} {pins : List (Addr × Obj)} {σ : L2.St} {H : Hp} {s : Shared} {d : Addr} {o : Obj} {xs : List Ent}
theorem x_ent (D0 : DictObj o xs) {es : Array DictEntry} {ep : Nat} (hdt : o.data = .dict es ep) : es.size = xs.length ∧ ∀ (i : Nat) (e : Ent), xs[i]? = some e → ∃ en : DictEntry, es[i]? = some en ∧ en.key = .ref e.2.1 ∧ RelV e.2.2 en.val := by
  obtain ⟨es', ep', ys, e1, e2, e3⟩ := D0.ent
  obtain ⟨rfl, rfl⟩ := L2.dict_ep e1 hdt
  have pr : PR relE xs ys := e3
  refine ⟨?_, fun i e he => ?_⟩
  · rw [← Array.length_toList, e2, List.length_map, pr_len pr]
  · obtain ⟨y, hy, q1, q2, q3⟩ := pr_get pr he
    refine ⟨enK y, ?_, ?_, q3⟩
    · rw [← Array.getElem?_toList, e2, List.getElem?_map, hy]; rfl
    · show Value.ref y.2.1 = _
      rw [q2]
theorem x_frz (I : Inv X pins σ H s) (h : H d = some (.frz o (DX d xs))) : (d == sysModules) = false ∧ s.heap.get? d = some o ∧ DictObj o xs := by
  obtain ⟨hd, ⟨hs, o', ho, D0⟩, _⟩ := I.hok d _ h
  rw [hd] at ho; cases ho
  exact ⟨hs, hd, D0⟩
end
section
variable {P : Program} {w : World} {K : PySem.W.Frag} {tg : Expr} {d : Addr} {o : Obj} {es : Array DictEntry} {ep : Nat} {xs : List Ent}
theorem turn_keysX (it : Addr) (hod : o.data = .dict es ep) (hsz : es.size = xs.length) : Turn P w K tg (ItkX d o xs) [it] it (fun i h => h.IsKeyIter it d i es.size ep) where
  mem := by simp
  obj := fun i h st b hb => by
    have e : b = it := by simpa using hb
    subst e
    obtain ⟨oi, e, c, dd⟩ := st
    exact ⟨oi, e, fun v z => by rw [dd] at z; cases z⟩
  keep := fun i h h' st k => st.at fun oi e => k it (by simp) oi e
  item := by
    intro X hP hw hK hc i pins s σ H E I hf st hg
    subst hP hw hK
    obtain ⟨hd, hi⟩ := hg
    obtain ⟨f0, f1, f2, f3, f4, f5⟩ := hf it (by simp)
    obtain ⟨hs, hgd, D0⟩ := x_frz I hd
    obtain ⟨_, ent⟩ := x_ent D0 hod
    have hi' : i < es.size := by omega
    obtain ⟨en, hen, hk, hv⟩ := ent i _ (List.getElem?_eq_getElem hi)
    have een : es[i] = en := by rw [Array.getElem?_eq_getElem hi'] at hen; exact Option.some.inj hen
    refine wpAny_pyNext_keys_item_raw st ⟨o, hgd, D0.ex, hod⟩ hi' fun h' st' sb => ?_
    have I1 : Inv X pins σ H { s with heap := h' } := I.turned (t' := s.toks) (fun b ob hb e => (sb.2 b hb).trans e) f0 f1 f3 f4 f5
    obtain ⟨oi, e, c, dd⟩ := id st'
    rw [een, hk]
    exact ⟨_, rfl, go_of (s := { s with heap := h' }) e c dd (by decide) ⟨.ref xs[i].2.1, H, I1, rfl, ⟨rfl, xs[i], List.getElem?_eq_getElem hi, rfl⟩, st', fun b hb => (hf b hb).1⟩⟩
  done := by
    intro X hP hw hK hc i pins s σ H E I hf st hg
    subst hP hw hK
    obtain ⟨hd, hi⟩ := hg
    obtain ⟨f0, f1, f2, f3, f4, f5⟩ := hf it (by simp)
    obtain ⟨hs, hgd, D0⟩ := x_frz I hd
    exact wpAny_pyNext_keys_end_raw (I.ok.hd hc) st ⟨o, hgd, D0.ex, hod⟩ (by omega) fun h' eb => ⟨rfl, I.turned (t' := s.toks) (fun b ob hb e => eb b ob hb e) f0 f1 f3 f4 f5⟩
  self := fun A i s Q E st h => wpAny_pyIter_keyiter st h
theorem turn_itemsX {elts : List Expr} {kk : Nat} {tpos : Pos} (it : Addr) (hod : o.data = .dict es ep) (hsz : es.size = xs.length) :
    Turn P w K (.Tuple elts kk tpos) (ItiX d o xs) [it] it (fun i h => ∃ ok ov, IsItemIter h it d i es.size ep ok ov) where
  mem := by simp
  obj := fun i h st b hb => by
    have e : b = it := by simpa using hb
    subst e
    obtain ⟨ok, ov, e⟩ := st
    exact ⟨_, e, fun v z => nomatch z⟩
  keep := fun i h h' st k => let ⟨ok, ov, e⟩ := st; ⟨ok, ov, k it (by simp) _ e⟩
  item := by
    intro X hP hw hK hc i pins s σ H E I hf st hg
    subst hP hw hK
    obtain ⟨hd, hi⟩ := hg
    obtain ⟨hs, hgd, D0⟩ := x_frz I hd
    obtain ⟨_, ent⟩ := x_ent D0 hod
    have hi' : i < es.size := by omega
    obtain ⟨en, hen, hk, hv⟩ := ent i _ (List.getElem?_eq_getElem hi)
    have een : es[i] = en := by rw [Array.getElem?_eq_getElem hi'] at hen; exact Option.some.inj hen
    obtain ⟨ok, ov, he⟩ := st
    have hlt : it < s.heap.objs.size := Heap.lt_size he
    refine wpAny_pyNext_items_item_raw he ⟨o, hgd, D0.ex, hod⟩ hi' fun h' ho hT hz hk' => ?_
    rw [een, hk] at hT
    rw [een, hk] at ho
    refine ⟨_, rfl, wpAny_letOwnedTupleGo_items (s := { s with heap := h' }) ho fun h'' he' sb => ?_⟩
    have hT2 : h''.get? s.heap.objs.size = some { cls := .type "tuple", data := .seq #[.ref xs[i].2.1, en.val] } := (sb.2 _ (Nat.ne_of_gt hlt)).trans hT
    have new : ObjOk X.prog X.w (upd H s.heap.objs.size (.tup [.ref xs[i].2.1, xs[i].2.2])) h'' s.heap.objs.size (.tup [.ref xs[i].2.1, xs[i].2.2]) :=
      ⟨by show 2 ≤ sizeLine; decide, [.ref xs[i].2.1, en.val], .cons (show RelV (.ref xs[i].2.1) (.ref xs[i].2.1) from rfl) (.cons hv .nil), ⟨_, hT2, rfl, _, rfl⟩⟩
    have I1 : Inv X pins σ (upd H s.heap.objs.size (.tup [.ref xs[i].2.1, xs[i].2.2])) { s with heap := h'' } :=
      I.turnedNew (t' := s.toks) (ch := [it]) (fun b ob hb e => (sb.2 b (by simpa using hb)).trans (hk' b ob (by simpa using hb) e)) hf (Nat.le_refl _) new
    refine ⟨.ref s.heap.objs.size, _, I1, rfl, ⟨_, xs[i], List.getElem?_eq_getElem hi, rfl, I.hok.fresh (Nat.le_refl _), rfl⟩, ⟨_, _, he'⟩, fun b hb => ?_⟩
    have e : b = it := by simpa using hb
    rw [e, upd_ne (Nat.ne_of_lt hlt)]
    exact (hf it (by simp)).1
  done := by
    intro X hP hw hK hc i pins s σ H E I hf st hg
    subst hP hw hK
    obtain ⟨hd, hi⟩ := hg
    obtain ⟨f0, f1, f2, f3, f4, f5⟩ := hf it (by simp)
    obtain ⟨hs, hgd, D0⟩ := x_frz I hd
    obtain ⟨ok, ov, he⟩ := st
    exact wpAny_pyNext_items_end_raw (I.ok.hd hc) he ⟨o, hgd, D0.ex, hod⟩ (by omega) fun h' eb => ⟨rfl, I.turned (t' := s.toks) (fun b ob hb e => eb b ob hb e) f0 f1 f3 f4 f5⟩
  self := fun A i s Q E st h => let ⟨_, _, e⟩ := st; wpAny_pyIter_itemiter e h
end
def iKeysX (td : TE) : TI := fun σ H R => td σ H fun x H1 => ∃ d o xs, x = .ref d ∧ H1 d = some (.frz o (DX d xs)) ∧ R (ItkX d o xs) H1
def iItemsX (td : TE) : TI := fun σ H R => td σ H fun x H1 => ∃ d o xs, x = .ref d ∧ H1 d = some (.frz o (DX d xs)) ∧ R (ItiX d o xs) H1
section
variable {X : Cx} {tg e : Expr} {td : TE} {apos cpos : Pos}
theorem pi_keysX (he : PE X e td) : PI X tg e (iKeysX td) := by
  refine ⟨fun pins s σ H R I h => ?_⟩
  refine thn (he.run pins s σ H _ I h) fun u s1 ⟨x, H1, I1, rx, d, o, xs, ex, hd, q⟩ => ?_
  subst ex
  obtain rfl : u = Value.ref d := rx
  obtain ⟨hs, hgd, D0⟩ := x_frz I1 hd
  obtain ⟨es, ep, ys, hdt, _⟩ := D0.ent
  exact wpAny_pyIter_dict_raw hs ⟨o, hgd, D0.ex, hdt⟩ (pi_one (tk := s1.toks) I1 _ (turn_keysX _ hdt (x_ent D0 hdt).1) ⟨_, Heap.get?_push_size _ rfl, rfl, rfl⟩ q)
theorem pi_itemsX {elts : List Expr} {kk : Nat} {tpos : Pos} (he : PE X e td) (hbase : attributeBase e "items" X.env (eval e X.env) = eval e X.env := by rfl) (hline : (apos.endLine == cpos.line) = true := by rfl) :
    PI X (.Tuple elts kk tpos) (.Call (.Attribute e "items" apos) [] [] cpos) (iItemsX td) := by
  refine ⟨fun pins s σ H R I h => ?_⟩
  refine wpAny_Call_method (T := "dict") (id := "dict.items") hbase rfl hline F.plainAttrs_dict F.slot_dict_items F.type_dict_items (thn (he.run pins s σ H _ I h) fun u s1 ⟨x, H1, I1, rx, d, o, xs, ex, hd, q⟩ => ?_)
  subst ex
  obtain rfl : u = Value.ref d := rx
  obtain ⟨hs, hgd, D0⟩ := x_frz I1 hd
  obtain ⟨es, ep, ys, hdt, _⟩ := D0.ent
  obtain ⟨t1, t2⟩ := xd_type I1 (.inr ⟨o, hd⟩)
  refine ⟨t1, t2, ?_⟩
  have hraw : s1.heap.DictRaw d es ep := ⟨o, hgd, D0.ex, hdt⟩
  have I2 : Inv X pins σ H1 { s1 with heap := s1.heap.push { cls := .type "dict_items", data := .fields #[.ref d] } } := I1.kept (t' := s1.toks) fun b ob q => Heap.get?_push_of_some _ q
  have fin : wpAny (model X.prog X.w) X.A (pyIter (.ref s1.heap.objs.size)) (PIE X pins σ (.Tuple elts kk tpos) R) X.xe { s1 with heap := s1.heap.push { cls := .type "dict_items", data := .fields #[.ref d] } } := by
    refine wpAny_pyIter_items_raw (d := d) ⟨_, Heap.get?_push_size _ rfl, rfl, rfl⟩ (hraw.push _) (pi_one (tk := s1.toks) I2 _ (turn_itemsX _ hdt (x_ent D0 hdt).1) ⟨.none, .none, ?_⟩ q)
    exact Heap.get?_push_size _ rfl
  show wpAny _ _ (callWith cpos (.builtin "dict.items") [.ref d] [] []) _ X.xe s1
  exact method_meetsIn F.slot_dict_items F.entry_dict_items rfl (PySem.evalArgs_none ⟨rfl, t1, F.args_dict_items_1 _, _, meets_dict_items_raw d hs, ⟨⟨es, ep, hraw⟩, fin⟩⟩)
end
end Lw
/-! Dicts whose keys are tuples of ints: sorted(d), list(d.items()). -/
namespace Lw
open PySem PySem.Spec PyProof.Rows L2
def kle (a b : List Int) : Bool := decide (TS.code 64 a ≤ TS.code 64 b)
/-- keys in order -/
def srtK (ks : List (List Int)) : List (List Int) := ks.mergeSort kle
def KOk (d : Nat) (k : List Int) : Prop := k.length = d ∧ TS.Bd 64 k
theorem code_inj : ∀ {a b : List Int}, a.length = b.length → TS.Bd 64 a → TS.Bd 64 b → TS.code 64 a = TS.code 64 b → a = b
  | [], [], _, _, _, _ => rfl
  | [], _ :: _, h, _, _, _ => by simp at h
  | _ :: _, [], h, _, _, _ => by simp at h
  | x :: a, y :: b, h, ha, hb, e => by
    have hl : a.length = b.length := by simpa using h
    have ha' : TS.Bd 64 a := fun m hm => ha m (List.mem_cons_of_mem _ hm)
    have hb' : TS.Bd 64 b := fun m hm => hb m (List.mem_cons_of_mem _ hm)
    rcases Int.lt_trichotomy x y with c | c | c
    · have := TS.code_lt hl ha' hb' c; omega
    · subst c
      have e' : TS.code 64 a = TS.code 64 b := by
        rcases Int.lt_trichotomy (TS.code 64 a) (TS.code 64 b) with q | q | q
        · have := (TS.code_same (d := x) hl).mpr q; omega
        · exact q
        · have := (TS.code_same (d := x) hl.symm).mpr q; omega
      rw [code_inj hl ha' hb' e']
    · have := TS.code_lt hl.symm hb' ha' c; omega
theorem perm_unique {α : Type} (c : α → Int) : ∀ {l m : List α}, l.Perm m → l.Pairwise (fun a b => c a ≤ c b) → m.Pairwise (fun a b => c a ≤ c b) → (∀ a ∈ l, ∀ b ∈ l, c a = c b → a = b) → l = m
  | [], m, p, _, _, _ => (List.Perm.nil_eq p)
  | a :: l, [], p, _, _, _ => by have := p.length_eq; simp at this
  | a :: l, b :: m, p, h1, h2, inj => by
    rw [List.pairwise_cons] at h1 h2
    have hb : b ∈ a :: l := p.mem_iff.mpr List.mem_cons_self
    have ha : a ∈ b :: m := p.mem_iff.mp List.mem_cons_self
    have e : a = b := by
      refine inj a List.mem_cons_self b hb ?_
      rcases List.mem_cons.mp hb with q | q
      · rw [q]
      · rcases List.mem_cons.mp ha with r | r
        · rw [r]
        · have := h1.1 b q
          have := h2.1 a r
          omega
    subst e
    rw [perm_unique c (List.Perm.cons_inv p) h1.2 h2.2 fun x hx y hy => inj x (List.mem_cons_of_mem _ hx) y (List.mem_cons_of_mem _ hy)]
theorem srtK_perm (ks : List (List Int)) : (srtK ks).Perm ks := List.mergeSort_perm ks kle
theorem srtK_sorted (ks : List (List Int)) : (srtK ks).Pairwise (fun a b => TS.code 64 a ≤ TS.code 64 b) := by
  have h := List.pairwise_mergeSort (le := kle) (fun a b c h1 h2 => by simp only [kle, decide_eq_true_eq] at *; omega) (fun a b => by simp only [kle, Bool.or_eq_true, decide_eq_true_eq]; omega) ks
  exact h.imp fun h => by simpa [kle] using h
theorem srtK_eq {d : Nat} {ks ls : List (List Int)} (p : ls.Perm ks) (hs : ls.Pairwise (fun a b => TS.code 64 a ≤ TS.code 64 b)) (hk : ∀ k ∈ ks, KOk d k) : ls = srtK ks := by
  refine perm_unique (TS.code 64) (p.trans (srtK_perm ks).symm) hs (srtK_sorted ks) fun a ha b hb e => ?_
  have h1 := hk a (p.mem_iff.mp ha)
  have h2 := hk b (p.mem_iff.mp hb)
  exact code_inj (h1.1.trans h2.1.symm) h1.2 h2.2 e
theorem sx_ord (xs : List Ent) : ∀ vs : List Value, (∀ v ∈ vs, ∃ q ∈ xs, v = Value.ref q.2.1) → ∃ L1 : List Ent, vs = L1.map (fun q => Value.ref q.2.1) ∧ ∀ q ∈ L1, q ∈ xs
  | [], _ => ⟨[], rfl, fun q hq => by cases hq⟩
  | v :: vs, hv => by
    obtain ⟨q, hq, e⟩ := hv v List.mem_cons_self
    obtain ⟨L1, e1, hs⟩ := sx_ord xs vs fun u hu => hv u (List.mem_cons_of_mem _ hu)
    refine ⟨q :: L1, by rw [List.map_cons, e, e1], fun r hr => ?_⟩
    rcases List.mem_cons.mp hr with z | z
    · rw [z]; exact hq
    · exact hs r z
def vRef : Value → Addr
  | .ref a => a
  | _ => 0
def sxKey (xs : List Ent) (v : Value) : List Int := ((xs.find? fun e => decide (e.2.1 = vRef v)).map (·.1)).getD []
theorem sxKey_eq {xs : List Ent} (one : ∀ e ∈ xs, ∀ f ∈ xs, e.2.1 = f.2.1 → e.1 = f.1) {e : Ent} (he : e ∈ xs) : sxKey xs (.ref e.2.1) = e.1 := by
  unfold sxKey
  cases q : xs.find? fun f => decide (f.2.1 = vRef (.ref e.2.1)) with
  | none =>
    rw [List.find?_eq_none] at q
    exact absurd (decide_eq_true (show e.2.1 = vRef (.ref e.2.1) from rfl)) (q e he)
  | some f =>
    have h1 := List.find?_some q
    have h2 := List.mem_of_find?_eq_some q
    exact one f h2 e he (of_decide_eq_true h1)
theorem sx_vr : ∀ L : List Ent, Vals (L.map ((fun y : List Int × Addr => V.ref y.2) ∘ fun e : Ent => ((e.1, e.2.1) : List Int × Addr))) (L.map fun e => Value.ref e.2.1)
  | [] => .nil
  | e :: L => .cons (show RelV (.ref e.2.1) (.ref e.2.1) from rfl) (sx_vr L)
def rSortX : List V → Hp → VK → Prop := fun vs H Q => ∃ (a : Addr) (xs : List Ent) (d : Nat), vs = [.ref a] ∧ XKy H a xs ∧ 1 ≤ d ∧ (∀ x ∈ xs, KOk d x.1) ∧ xs.length < 64 ∧
  ∀ (ys : List (List Int × Addr)) (p : Addr), ys.map (·.1) = srtK (xs.map (·.1)) → (∀ y ∈ ys, KeyAt H y.2 y.1) → H p = none → Q (.ref p) (upd H p (.lst (ys.map fun y => .ref y.2)))
section
variable {X : Cx}
theorem cr_sortX (hc : X.calm = true) : CallR X (.builtin "sorted") rSortX := by
  intro pins s σ H vs us Q I r h
  obtain ⟨a, xs, d, rfl, hx, hd1, hK, hfew, q⟩ := h
  rw [Vals.ref1 r]
  obtain ⟨hsys, o, ho, D0⟩ := xd_obj I hx.1
  obtain ⟨es, ep, ys0, hdt, _⟩ := D0.ent
  obtain ⟨hsz, ent⟩ := x_ent D0 hdt
  refine Calls.call_function_entry kind_sorted plain_sorted entry_sorted (args_sorted1 _) ?_
  unfold Builtin.«sorted»
  refine wpAny_bind (m := checkCount "sorted" 1 1 _) (wpAny_pure ?_)
  refine wpAny_bind (PySem.W.kdu_collect (KdlSrc.rawDict (prog := X.prog) (w := X.w) (es := es) (ep := ep) hsys) (A := X.A.in1) (I.ok.hd hc) ⟨o, ho, D0.ex, hdt⟩ (by rw [hsz]; rw [sizeLine_eq]; omega) fun h1 tk1 acc k1 it => ?_)
  have hes : acc.toList = xs.map fun e => Value.ref e.2.1 := by
    apply List.ext_getElem?
    intro i
    rw [List.getElem?_map, Array.getElem?_toList]
    by_cases hi : i < xs.length
    · rw [List.getElem?_eq_getElem hi]
      obtain ⟨en, hen, hk, _⟩ := ent i _ (List.getElem?_eq_getElem hi)
      have hi2 : i < acc.size := by rw [it.1, hsz]; exact hi
      rw [Array.getElem?_eq_getElem hi2]
      obtain ⟨hi3, ev⟩ := it.2 i acc[i] (Array.getElem?_eq_getElem hi2)
      rw [Array.getElem?_eq_getElem hi3] at hen
      rw [ev, Option.some.inj hen, hk]; rfl
    · rw [List.getElem?_eq_none (by omega), Array.getElem?_eq_none (by rw [it.1, hsz]; omega)]; rfl
  have I1 : Inv X pins σ H { s with heap := h1, toks := tk1 } := I.kept k1
  have hlt : ∀ b o, s.heap.get? b = some o → b < h1.objs.size := fun b o e => Heap.lt_size (k1 b o e)
  have hvl : acc.toList.length < 64 := by rw [hes, List.length_map]; exact hfew
  refine wpAny_bind (wpAny_newList ?_ (by rw [sizeLine_eq]; omega))
  have hoL : (h1.push (seqObj "list" acc.toList.toArray 0)).get? h1.objs.size = some (seqObj "list" acc.toList.toArray 0) := Heap.get?_push_size _ rfl
  have tk : ∀ e ∈ xs, TS.TupInts (h1.push (seqObj "list" acc.toList.toArray 0)) (.ref e.2.1) e.1 := fun e he => by
    obtain ⟨o', items, n, e1, e2, e3, e4⟩ := key_at I (hx.2 e he)
    exact ⟨e.2.1, items, rfl, ⟨o', Heap.get?_push_of_some _ (k1 _ _ e1), e2, n, e3⟩, ints_of_items e4⟩
  have okT : TS.TupsOk (h1.push (seqObj "list" acc.toList.toArray 0)) d 64 acc.toList := fun v hv => by
    rw [hes] at hv
    obtain ⟨e, he, rfl⟩ := List.mem_map.mp hv
    exact ⟨e.1, tk e he, (hK e he).1, (hK e he).2⟩
  refine wpAny_bind (wpAny_holding (TS.call_sort_tups (s := { s with heap := h1.push (seqObj "list" acc.toList.toArray 0), toks := tk1 }) hoL hvl hd1 okT fun out a1 a2 => ?_))
  obtain ⟨c, hcc⟩ := sortedHeap_at (vs := acc.toList) (out := out) hoL
  obtain ⟨L, e', hs'⟩ := sx_ord xs out.toList fun v hv => by
    have := a1.mem_iff.mp hv
    rw [hes] at this
    obtain ⟨e, he, rfl⟩ := List.mem_map.mp this
    exact ⟨e, he, rfl⟩
  have one : ∀ e ∈ xs, ∀ f ∈ xs, e.2.1 = f.2.1 → e.1 = f.1 := fun e he f hf z => by
    have a1 := key_at I (hx.2 e he)
    have a2 := key_at I (hx.2 f hf)
    rw [z] at a1
    exact (Lw.tk X.prog X.w).inj a1 a2
  -- keys of L: a permutation of the keys
  have pk : (L.map (·.1)).Perm (xs.map (·.1)) := by
    have p1 : (L.map fun e => Value.ref e.2.1).Perm (xs.map fun e => Value.ref e.2.1) := by rw [← e', ← hes]; exact a1
    have g : ∀ (M : List Ent), (∀ e ∈ M, e ∈ xs) → (M.map (·.1)) = (M.map fun e => Value.ref e.2.1).map (sxKey xs) := fun M hM => by
      rw [List.map_map]
      refine List.map_congr_left fun e he => ?_
      show e.1 = sxKey xs (.ref e.2.1)
      exact (sxKey_eq one (hM e he)).symm
    rw [g L hs', g xs fun e he => he]
    exact p1.map _
  have pw : (L.map (·.1)).Pairwise (fun a b => TS.code 64 a ≤ TS.code 64 b) := by
    rw [e'] at a2
    rw [List.pairwise_map]
    refine List.Pairwise.imp_of_mem (fun {q r} hq hr hle => ?_) (List.pairwise_map.mp a2)
    have f1 : TS.intsOf (h1.push (seqObj "list" acc.toList.toArray 0)) (.ref q.2.1) = q.1 := (tk q (hs' q hq)).ints
    have f2 : TS.intsOf (h1.push (seqObj "list" acc.toList.toArray 0)) (.ref r.2.1) = r.1 := (tk r (hs' r hr)).ints
    rw [← f1, ← f2]
    exact hle
  have eK : L.map (·.1) = srtK (xs.map (·.1)) := srtK_eq (d := d) pk pw fun k hk => by
    obtain ⟨e, he, rfl⟩ := List.mem_map.mp hk
    exact hK e he
  have hn : H h1.objs.size = none := I1.hok.fresh (Nat.le_refl _)
  have hv : Vals ((L.map fun e : Ent => ((e.1, e.2.1) : List Int × Addr)).map fun y => V.ref y.2) out.toList := by
    rw [e', List.map_map]; exact sx_vr L
  have hll : ((L.map fun e : Ent => ((e.1, e.2.1) : List Int × Addr)).map fun y => V.ref y.2).length ≤ sizeLine := by
    rw [hv.length, a1.length_eq, sizeLine_eq]; omega
  refine wpAny_pure ⟨_, rfl, ⟨.ref h1.objs.size, _, I1.laid (t' := tk1) (a := h1.objs.size) (fun b u e => ?_) (Nat.le_refl _) (o := .lst ((L.map fun e : Ent => ((e.1, e.2.1) : List Int × Addr)).map fun y => V.ref y.2)) ⟨hll, out.toList, c, hv, hcc⟩, rfl, q (L.map fun e => (e.1, e.2.1)) _ (by rw [List.map_map]; exact eK) (fun y hy => ?_) hn⟩⟩
  · have hlt := Heap.lt_size e
    show (sortedHeap (h1.push (seqObj "list" acc.toList.toArray 0)) h1.objs.size acc.toList out).get? b = some u
    rw [sortedHeap_old (Nat.ne_of_lt hlt) (by rw [size_push']; exact Nat.lt_succ_of_lt hlt)]
    exact Heap.get?_push_of_some _ e
  · obtain ⟨e, he, rfl⟩ := List.mem_map.mp hy
    exact hx.2 e (hs' e he)
end
end Lw
/-! list(d.items()); dicts as data. -/
namespace Lw
open PySem PySem.Spec PyProof.Rows L2
abbrev prV (e : Ent) : HO := .tup [.ref e.2.1, e.2.2]
def putX : Hp → List Addr → List Ent → Hp
  | H, a :: as, p :: xs => putX (upd H a (prV p)) as xs
  | H, _, _ => H
theorem putX_off {b : Addr} : ∀ (as : List Addr) (xs : List Ent) (H : Hp), b ∉ as → putX H as xs b = H b
  | [], _, _, _ => rfl
  | _ :: _, [], _, _ => rfl
  | a :: as, p :: xs, H, h => by
    show putX (upd H a (prV p)) as xs b = H b
    rw [putX_off as xs _ (fun z => h (List.mem_cons_of_mem _ z)), upd_ne (fun z => h (by rw [z]; exact List.mem_cons_self))]
theorem putX_at : ∀ (as : List Addr) (xs : List Ent) (H : Hp), as.length = xs.length → as.Nodup → Paired (fun (t : Addr) (p : Ent) => putX H as xs t = some (prV p)) as xs
  | [], [], _, _, _ => .nil
  | [], _ :: _, _, h, _ => by cases h
  | _ :: _, [], _, h, _ => by cases h
  | a :: as, p :: xs, H, h, hn => by
    have hn' := List.nodup_cons.mp hn
    have ih := putX_at as xs (upd H a (prV p)) (Nat.succ.inj h) hn'.2
    refine .cons ?_ ih
    show putX (upd H a (prV p)) as xs a = some (prV p)
    rw [putX_off as xs _ hn'.1, upd_same]
def tListItemsX (te : TE) : TE := fun σ H Q => te σ H fun x H1 => ∃ (d : Addr) (xs : List Ent), x = .ref d ∧ XD H1 d xs ∧
  ∀ (H' : Hp) (p : Addr) (ts : List Addr), (∀ b o, H1 b = some o → H' b = some o) → H1 p = none → H' p = some (.lst (ts.map V.ref)) → Paired (fun (t : Addr) (e : Ent) => H' t = some (prV e)) ts xs → Q (.ref p) H'
section
variable {X : Cx} {e : Expr} {te : TE} {p apos cpos pos : Pos}
theorem itemsX_laid {pins : List (Addr × Obj)} {σ : L2.St} {H : Hp} {s : Shared} {h' : Heap} {tk : Nat} {xs : List Ent} {es : Array DictEntry} {acc : Array Value} {c : Nat} {as : List Addr} (I : Inv X pins σ H s) (hz : xs.length ≤ sizeLine)
    (hsz : es.size = xs.length) (ent : ∀ (i : Nat) (e : Ent), xs[i]? = some e → ∃ en : DictEntry, es[i]? = some en ∧ en.key = .ref e.2.1 ∧ RelV e.2.2 en.val)
    (hk : ∀ b o, s.heap.get? b = some o → h'.get? b = some o) (hS : h'.get? s.heap.objs.size = some { cls := .type "list", dict := none, data := .seq acc c, slots := #[] }) (hl : as.length = es.size) (hG : PySem.W.DilG es s.heap.objs.size h' as) (hacc : acc.toList = as.map Value.ref) :
    ∃ H' : Hp, (∀ b o, H b = some o → H' b = some o) ∧ H s.heap.objs.size = none ∧ H' s.heap.objs.size = some (.lst (as.map V.ref)) ∧ Paired (fun (t : Addr) (e : Ent) => H' t = some (prV e)) as xs ∧ Inv X pins σ H' { s with heap := h', toks := tk } := by
  have hSn : s.heap.objs.size ∉ as := fun z => Nat.lt_irrefl _ (hG.above _ z)
  have nd : as.Nodup := List.Pairwise.imp (fun {a b} (h : a < b) => Nat.ne_of_lt h) hG.rise
  have new : ∀ t ∈ as, H t = none := fun t ht => I.hok.fresh (Nat.le_of_lt (hG.above t ht))
  have newS : H s.heap.objs.size = none := I.hok.fresh (Nat.le_refl _)
  have atP := putX_at as xs (upd H s.heap.objs.size (.lst (as.map V.ref))) (by omega) nd
  have off : ∀ b, b ∉ as → b ≠ s.heap.objs.size → putX (upd H s.heap.objs.size (.lst (as.map V.ref))) as xs b = H b := fun b h1 h2 => by rw [putX_off as xs _ h1, upd_ne h2]
  have low : ∀ b o, s.heap.get? b = some o → b ∉ as ∧ b ≠ s.heap.objs.size := fun b o e => ⟨fun z => absurd (Heap.lt_size e) (Nat.not_lt.mpr (Nat.le_of_lt (hG.above b z))), Nat.ne_of_lt (Heap.lt_size e)⟩
  have kp : ∀ b u, H b = some u → (putX (upd H s.heap.objs.size (.lst (as.map V.ref))) as xs) b = some u := fun b u e => by
    rw [off b (fun z => by rw [new b z] at e; cases e) (fun z => by rw [z, newS] at e; cases e)]
    exact e
  have eS : putX (upd H s.heap.objs.size (.lst (as.map V.ref))) as xs s.heap.objs.size = some (.lst (as.map V.ref)) := by rw [putX_off as xs _ hSn, upd_same]
  refine ⟨putX (upd H s.heap.objs.size (.lst (as.map V.ref))) as xs, kp, newS, eS, atP, ?_⟩
  refine I.call' (ch := []) rfl ⟨fun b o q _ _ _ => hk b o q, fun b o q _ _ _ => ⟨o.slots, hk b o q⟩, fun b o q n _ => ?_, fun b o q _ => ⟨o, hk b o q⟩, fun b xs q => kp b _ q, fun b o u q => kp b _ q, fun b ps q => ⟨#[], by rw [kp b _ q]; simp⟩⟩ (fun b u q => ?_) I.bare fun b z => by simp at z
  · obtain ⟨z1, z2⟩ := low b o q
    rw [off b z1 z2]
    exact n
  · by_cases hb : b ∈ as
    · obtain ⟨j, pk, e1, e2, e3⟩ := LiI.paired_ix atP hb
      rw [e3] at q
      cases q
      obtain ⟨hj, f3⟩ := hG.pairs j b e1
      obtain ⟨en, g1, g2, g3⟩ := ent j pk e2
      have een : es[j] = en := by rw [Array.getElem?_eq_getElem hj] at g1; exact Option.some.inj g1
      rw [een, g2] at f3
      exact ⟨by show 2 ≤ sizeLine; decide, [.ref pk.2.1, en.val], .cons (show RelV (.ref pk.2.1) (.ref pk.2.1) from rfl) (.cons g3 .nil), ⟨_, f3, rfl, _, rfl⟩⟩
    · by_cases hb2 : b = s.heap.objs.size
      · rw [hb2] at q ⊢
        rw [eS] at q
        cases q
        refine ⟨by rw [List.length_map]; omega, acc.toList, c, by rw [hacc]; exact LiI.vals_refs as, ?_⟩
        rw [Array.toArray_toList]
        exact hS
      · rw [off b hb hb2] at q
        exact (I.hok b u q).stay (fun d v _ y => hk d v y) (fun d y => kp d _ y) fun d xs y => kp d _ y
/-- list(e.items()) -/
theorem pe_listItemsX (hc : X.calm = true) (he : PE X e te) (hg : Gl X "list") (hm : X.mg "list" = none) (hv : bootBuiltins "list" = some (.type "list")) (hbase : attributeBase e "items" X.env (eval e X.env) = eval e X.env := by rfl) (hline : (apos.endLine == cpos.line) = true := by rfl)
    (hs : starEach [.Call (.Attribute e "items" apos) [] [] cpos] X.env = (false, eval (.Call (.Attribute e "items" apos) [] [] cpos) X.env) :: starEach [] X.env := by rfl) :
    PE X (.Call (.Name "list" p) [.Call (.Attribute e "items" apos) [] [] cpos] [] pos) (tListItemsX te) := by
  refine ⟨fun pins s σ H Q I hq => ?_⟩
  refine wpAny_Call_Name_kw (ld_blt I hg hm hv ?_)
  refine PyProof.Rows.callWith_type1 ?_ hs rfl
  rw [hs]
  show wpAny _ _ (spliced ((false, eval (.Call (.Attribute e "items" apos) [] [] cpos) X.env) :: backTo pos (starEach [] X.env))) _ _ s
  refine Calls.spliced_cons ?_
  refine wpAny_Call_method (T := "dict") (id := "dict.items") hbase rfl hline F.plainAttrs_dict F.slot_dict_items F.type_dict_items (thn (he.run pins s σ H _ I hq) fun u s1 ⟨x, H1, I1, rx, d, xs, ex, hd, q⟩ => ?_)
  subst ex
  obtain rfl : u = Value.ref d := rx
  obtain ⟨hs0, o, ho, D0⟩ := xd_obj I1 hd
  obtain ⟨es, ep, ys0, hdt, _⟩ := D0.ent
  obtain ⟨hsz, ent⟩ := x_ent D0 hdt
  obtain ⟨t1, t2⟩ := xd_type I1 hd
  have hraw : s1.heap.DictRaw d es ep := ⟨o, ho, D0.ex, hdt⟩
  have I2 : Inv X pins σ H1 { s1 with heap := s1.heap.push { cls := .type "dict_items", data := .fields #[.ref d] } } := I1.kept (t' := s1.toks) fun b ob q => Heap.get?_push_of_some _ q
  refine ⟨t1, t2, ?_⟩
  show wpAny _ _ (callWith cpos (.builtin "dict.items") [.ref d] [] []) _ X.xe s1
  refine method_meetsIn F.slot_dict_items F.entry_dict_items rfl (PySem.evalArgs_none ⟨rfl, t1, F.args_dict_items_1 _, _, meets_dict_items_raw d hs0, ⟨⟨es, ep, hraw⟩, ?_⟩⟩)
  refine Calls.spliced_nil ?_
  refine PySem.W.dil_call (es := es) (ep := ep) (I1.ok.hd hc) ⟨_, Heap.get?_push_size _ rfl, rfl, rfl⟩ (hraw.push _) (by rw [hsz]; exact D0.len) fun h' tk acc c as hk hS hl hG hacc => ?_
  obtain ⟨H', k1, k2, k4, k6, J⟩ := itemsX_laid (tk := tk) I2 D0.len hsz ent hk hS hl hG hacc
  exact ⟨.ref _, H', J, rfl, q H' _ as k1 k2 k4 k6⟩
end
/-! ### as data -/
/-- e is a dict with this table, now and as long as nothing writes it -/
def EvX (K : PySem.W.Frag) (te : TE) (σ : L2.St) (H : Hp) (t : List (List Int × D)) : Prop := ∀ H1, Same H H1 → ∀ Q : VK, (∀ a xs H2, Same H1 H2 → XD H2 a xs → EnR K H2 xs t → Q (.ref a) H2) → te σ H1 Q
section
variable {K : PySem.W.Frag} {σ : L2.St} {H H' H0 Hb : Hp} {td ty tv ta tb te : TE} {d : D} {t : List (List Int × D)} {v : V} {Γ : List G} {ms : List (Addr × Mo)} {k : List Int} {Dn : Ends}
theorem XD.same {a : Addr} {xs : List Ent} (h : XD H a xs) (e : Same H H') : XD H' a xs := by
  rcases h with h | ⟨o, h⟩
  · exact .inl (e _ _ h)
  · exact .inr ⟨o, e _ _ h⟩
theorem enR_keys {xs : List Ent} (h : EnR K H xs t) : ∀ x ∈ xs, KeyAt H x.2.1 x.1 := (enR_to h).2.1
theorem evx_D (h : EvD K td σ H (.dc t)) : EvX K td σ H t := fun H1 e Q q => h H1 e _ fun v H2 e2 r => by
  obtain ⟨a, xs, o, rfl, h1, h2⟩ := rep_dc.mp r
  exact q a xs H2 e2 (.inr ⟨o, h1⟩) h2
theorem evx_M {n j : Nat} {l : Addr} (c : Cf K H0 Hb σ H Γ ms) (hn : Γ[n]? = some (.at l)) (hk : ms[j]? = some (l, .dc t)) : EvX K (tVar n) σ H t := fun H1 e Q q => by
  refine ⟨.ref l, c.st.ref hn, ?_⟩
  obtain ⟨xs, h1, h2⟩ := mo_dc.mp ((c.ext e).mu _ (List.mem_of_getElem? hk)).2
  exact q l xs H1 (Same.refl H1) (.inl h1) h2
theorem rep_keyA {v : V} {ks : List Int} (h : Rep K H (.key ks) v) : ∃ a, v = .ref a ∧ KeyAt H a ks := rep_key.mp h
theorem em_xnew : EvM K tXNew σ H (.dc []) := fun H1 e Q q p hp => q p _ (same_new hp) hp (mo_dc.mpr ⟨[], upd_same, .nil⟩)
theorem ev_xget (hd : EvX K td σ H t) (hk : EvD K ty σ H (.key k)) (hl : lk t k = some d) : EvD K (tXGet td ty) σ H d := fun H1 e Q q =>
  hd H1 e _ fun a xs H2 e2 h2 r2 => hk H2 (e.trans e2) _ fun y H3 e3 r3 => by
    obtain ⟨b, rfl, hb⟩ := rep_keyA r3
    have r2' := r2.mono (imm_same e3)
    rcases pr_lk r2' k with ⟨_, e1⟩ | ⟨p1, p2, e1, e1', r⟩
    · rw [hl] at e1; cases e1
    · rw [hl] at e1'; cases e1'
      exact ⟨a, xs, b, k, p1, rfl, ⟨h2.same e3, enR_keys r2'⟩, rfl, hb, e1, q _ H3 (e2.trans e3) r.2⟩
theorem ev_xin (hk : EvD K ty σ H (.key k)) (hd : EvX K td σ H t) : EvD K (tXIn ty td) σ H (.bl (lk t k).isSome) := fun H1 e Q q =>
  hk H1 e _ fun y H2 e2 r2 => hd H2 (e.trans e2) _ fun a xs H3 e3 h3 r3 => by
    obtain ⟨b, rfl, hb⟩ := rep_keyA r2
    refine ⟨a, xs, b, k, rfl, ⟨h3, enR_keys r3⟩, rfl, (imm_same e3).key hb, q _ H3 (e2.trans e3) (rep_bl.mpr ?_)⟩
    rcases pr_lk r3 k with ⟨e1, e2⟩ | ⟨p1, p2, e1, e2, r⟩ <;> rw [e1, e2] <;> rfl
theorem ev_xget2 (hd : EvX K td σ H t) (hk : EvD K ty σ H (.key k)) (hx : EvD K tv σ H d) : EvD K (tXGet2 td ty tv) σ H ((lk t k).getD d) := fun H1 e Q q =>
  hd H1 e _ fun a xs H2 e2 h2 r2 => ⟨a, rfl, ⟨xs, h2⟩, hk H2 (e.trans e2) _ fun y H3 e3 r3 => hx H3 ((e.trans e2).trans e3) _ fun z H4 e4 r4 => by
    obtain ⟨b, rfl, hb⟩ := rep_keyA r3
    have r2' := r2.mono (imm_same (e3.trans e4))
    refine ⟨xs, b, k, ⟨h2.same (e3.trans e4), enR_keys r2'⟩, rfl, (imm_same e4).key hb, q _ H4 ((e2.trans e3).trans e4) ?_⟩
    rcases pr_lk r2' k with ⟨e1, e1'⟩ | ⟨p1, p2, e1, e1', r⟩
    · rw [e1, e1']; exact r4
    · rw [e1, e1']; exact r.2⟩
/-- x[k] = e -/
theorem r_xput {n j : Nat} {l : Addr} (c : Cf K H0 Hb σ H Γ ms) (hn : Γ[n]? = some (.at l)) (hj : ms[j]? = some (l, .dc t)) (hk : EvD K ty σ H (.key k)) (hv : EvD K tv σ H d) (hz : t.length < 1000000)
    (q : ∀ H', Cf K H0 Hb σ H' Γ (ms.set j (l, .dc (pt t k (fun _ => d) d))) → Dn.nx σ H') : sXPut (tVar n) ty tv Dn σ H :=
  hv H (Same.refl H) _ fun v H2 e r => ⟨.ref l, c.st.ref hn, hk H2 e _ fun y H3 e3 r3 => by
    obtain ⟨b, rfl, hb⟩ := rep_keyA r3
    have e' := e.trans e3
    have c3 := c.ext e'
    obtain ⟨xs, h1, h2⟩ := mo_dc.mp (c3.mu _ (List.mem_of_getElem? hj)).2
    have hl : xs.length < sizeLine := sz_lt (by rw [pr_len h2]; exact hz)
    refine ⟨l, xs, b, k, rfl, h1, enR_keys h2, rfl, hb, hl, q _ ?_⟩
    have i : Imm H3 (upd H3 l (DX l (pt xs k (fun p => (p.1, v)) (b, v)))) := imm_upd (.inl (by rw [h1]; trivial))
    refine c3.chg j hj (by rw [h1]; trivial) (mo_dc.mpr ⟨_, upd_same, ?_⟩)
    refine EnR.mono i (pr_pt h2 ⟨hb, r.mono (imm_same e3)⟩ fun a b r' => ⟨r'.1, r.mono (imm_same e3)⟩)⟩
/-- {k: v} -/
theorem em_xdisp (hk : EvD K ty σ H (.key k)) (hv : EvD K tv σ H d) : EvM K (tXDisp ty tv) σ H (.dc [(k, d)]) := fun H1 e Q q p hp =>
  hk _ (e.trans (same_new hp)) _ fun y H2 e2 r2 => hv H2 ((e.trans (same_new hp)).trans e2) _ fun v H3 e3 r3 => by
    obtain ⟨b, rfl, hb⟩ := rep_keyA r2
    have h0 : H3 p = some (DX p []) := e3 _ _ (e2 _ _ upd_same)
    refine ⟨h0, b, k, rfl, (imm_same e3).key hb, ?_⟩
    have i : Imm H3 (upd H3 p (DX p [(k, b, v)])) := imm_upd (.inl (by rw [h0]; trivial))
    have s1 : Same H1 (upd H3 p (DX p [(k, b, v)])) := same_mut (fun a o ha => e3 _ _ (e2 _ _ (same_new hp _ _ ha))) hp
    exact q p _ s1 hp (mo_dc.mpr ⟨_, upd_same, .cons ⟨rfl, i.key ((imm_same e3).key hb), r3.mono i⟩ .nil⟩)
/-- dict(xs) -/
abbrev prD (e : List Int × D) : D := .tup [.key e.1, e.2]
theorem prs_of : ∀ {t : List (List Int × D)} {vs : List V}, RepL K H (t.map prD) vs → ∃ es : List Ent, PrsOk K H vs es ∧ EnR K H es t
  | [], vs, h => by rw [repL_nil.mp h]; exact ⟨[], .nil, .nil⟩
  | e :: t, vs, h => by
    obtain ⟨v, r, rfl, h2, h3⟩ := repL_cons.mp (show RepL K H (prD e :: t.map prD) vs from h)
    obtain ⟨es, p1, p2⟩ := prs_of h3
    obtain ⟨T, ws, rfl, hT, hw⟩ := rep_tup.mp h2
    obtain ⟨x, ws', rfl, r1, hw'⟩ := repL_cons.mp hw
    obtain ⟨y, ws'', rfl, r2, hw''⟩ := repL_cons.mp hw'
    rw [repL_nil.mp hw''] at hT
    obtain ⟨b, rfl, hb⟩ := rep_keyA r1
    exact ⟨(e.1, b, y) :: es, .cons ⟨T, rfl, hT, hb⟩ p1, .cons ⟨rfl, hb, r2⟩ p2⟩
theorem em_dictOf {xs : List V} {p : Addr} {es : List Ent} (hp : H p = none) (r : EnR K H es t) : MoOk K (upd H p (DX p (putE es))) p (.dc (putAll (fun _ d => d) t [])) :=
  mo_dc.mpr ⟨_, upd_same, EnR.mono (imm_same (same_new hp)) (pr_putAll (fun k a b a' b' r r' => ⟨r.1, r'.2⟩) r .nil)⟩
theorem em_dictP (h : EvD K ta σ H (.ptup (t.map prD))) : EvM K (tCB (rDictX K) (tCons ta tNil)) σ H (.dc (putAll (fun _ d => d) t [])) := fun H1 e Q q =>
  h H1 e _ fun v H2 e2 r => by
    obtain ⟨a, vs, o, rfl, h1, h2, h3⟩ := rep_ptup.mp r
    obtain ⟨es, p1, p2⟩ := prs_of h3
    exact ⟨a, vs, es, rfl, .inr ⟨o, h1, h2⟩, p1, fun p hp => q p _ (e2.trans (same_new hp)) (e2.free hp) (em_dictOf (xs := vs) hp p2)⟩
theorem em_dictL (h : EvD K ta σ H (.lst (t.map prD))) : EvM K (tCB (rDictX K) (tCons ta tNil)) σ H (.dc (putAll (fun _ d => d) t [])) := fun H1 e Q q =>
  h H1 e _ fun v H2 e2 r => by
    obtain ⟨a, vs, o, rfl, h1, h3⟩ := rep_lst.mp r
    obtain ⟨es, p1, p2⟩ := prs_of h3
    exact ⟨a, vs, es, rfl, .inl (.inl (.inr ⟨o, h1⟩)), p1, fun p hp => q p _ (e2.trans (same_new hp)) (e2.free hp) (em_dictOf (xs := vs) hp p2)⟩
/-- sorted(d) -/
theorem repL_keys : ∀ {ys : List (List Int × Addr)}, (∀ y ∈ ys, KeyAt H y.2 y.1) → RepL K H ((ys.map (·.1)).map D.key) (ys.map fun y => V.ref y.2)
  | [], _ => repL_nil.mpr rfl
  | y :: ys, h => repL_cons.mpr ⟨_, _, rfl, rep_key.mpr ⟨_, rfl, h y List.mem_cons_self⟩, repL_keys fun z hz => h z (List.mem_cons_of_mem _ hz)⟩
theorem em_sortX {m : Nat} (h : EvX K ta σ H t) (hm : 1 ≤ m) (hk : ∀ e ∈ t, KOk m e.1) (hl : t.length < 64) : EvM K (tCB rSortX (tCons ta tNil)) σ H (.lst ((srtK (t.map (·.1))).map D.key)) := fun H1 e Q q =>
  h H1 e _ fun a xs H2 e2 hx r => by
    refine ⟨a, xs, m, rfl, ⟨hx, enR_keys r⟩, hm, fun x hx => ?_, by rw [pr_len r]; exact hl, fun ys p he hy hp => ?_⟩
    · have : x.1 ∈ t.map (·.1) := by rw [← pr_keys r]; exact List.mem_map.mpr ⟨x, hx, rfl⟩
      obtain ⟨e, he, e1⟩ := List.mem_map.mp this
      rw [← e1]; exact hk e he
    · refine q p _ (e2.trans (same_new hp)) (e2.free hp) ⟨_, upd_same, ?_⟩
      rw [← pr_keys r, ← he]
      exact (repL_keys hy).mono (imm_same (same_new hp))
/-- list(d.items()) -/
theorem repL_prs {H : Hp} : ∀ {ts : List Addr} {xs : List Ent} {t : List (List Int × D)}, Paired (fun (a : Addr) (e : Ent) => H a = some (prV e)) ts xs → EnR K H xs t → RepL K H (t.map prD) (ts.map V.ref)
  | _, _, _, .nil, .nil => repL_nil.mpr rfl
  | _, _, _, .cons (a := a) h q, .cons r s => repL_cons.mpr ⟨.ref a, _, rfl, rep_tup.mpr ⟨a, _, rfl, .of h, repL_cons.mpr ⟨_, _, rfl, by rw [← r.1]; exact rep_key.mpr ⟨_, rfl, r.2.1⟩, repL_one r.2.2⟩⟩, repL_prs q s⟩
theorem em_items (h : EvX K td σ H t) : EvM K (tListItemsX td) σ H (.lst (t.map prD)) := fun H1 e Q q =>
  h H1 e _ fun a xs H2 e2 hx r => ⟨a, xs, rfl, hx, fun H' p ts k hp h1 h2 => q p H' (fun b o hb => k b o (e2 b o hb)) (e2.free hp) ⟨_, h1, repL_prs h2 (EnR.mono (imm_same (show Same H2 H' from k)) r)⟩⟩
/-! ### walks over dicts known for good -/
theorem ei_keysX (h : EvD K td σ H (.dc t)) : EvI K (iKeysX td) σ H (t.map fun e => D.key e.1) := fun H1 e R q =>
  h H1 e _ fun v H2 e2 r => by
    obtain ⟨a, xs, o, rfl, h1, h2⟩ := rep_dc.mp r
    refine ⟨a, o, xs, rfl, h1, q _ H2 e2 ⟨fun H => H a = some (.frz o (DX a xs)) ∧ EnR K H xs t, fun i H x H' => H' = H ∧ ∃ e : Ent, xs[i]? = some e ∧ x = .ref e.2.1, ⟨h1, h2⟩, fun _ _ i h => ⟨i.f _ _ _ h.1, h.2.mono i⟩, ?_, ?_⟩⟩
    · rw [List.length_map, ← pr_len h2]
      exact ⟨fun i H hi g => ⟨g.1, hi⟩, fun H g => ⟨g.1, Nat.le_refl _⟩, fun i H v H' hi g y => y⟩
    · rintro i Ha x Hc hi ⟨_, g⟩ ⟨rfl, en, he, rfl⟩
      obtain ⟨y, hy, e1, hk, _⟩ := pr_get g he
      refine ⟨Same.refl _, D.key y.1, by rw [List.getElem?_map, hy]; rfl, ?_⟩
      rw [← e1]; exact rep_key.mpr ⟨_, rfl, hk⟩
theorem ei_itemsX (h : EvD K td σ H (.dc t)) : EvI K (iItemsX td) σ H (t.map prD) := fun H1 e R q =>
  h H1 e _ fun v H2 e2 r => by
    obtain ⟨a, xs, o, rfl, h1, h2⟩ := rep_dc.mp r
    refine ⟨a, o, xs, rfl, h1, q _ H2 e2 ⟨fun H => H a = some (.frz o (DX a xs)) ∧ EnR K H xs t, fun i H x H' => ∃ T, ∃ e : Ent, xs[i]? = some e ∧ x = .ref T ∧ H T = none ∧ H' = upd H T (.tup [.ref e.2.1, e.2.2]), ⟨h1, h2⟩, fun _ _ i h => ⟨i.f _ _ _ h.1, h.2.mono i⟩, ?_, ?_⟩⟩
    · rw [List.length_map, ← pr_len h2]
      exact ⟨fun i H hi g => ⟨g.1, hi⟩, fun H g => ⟨g.1, Nat.le_refl _⟩, fun i H v H' hi g y => y⟩
    · rintro i Ha x Hc hi ⟨_, g⟩ ⟨T, en, he, rfl, hT, rfl⟩
      obtain ⟨y, hy, e1, hk, hr⟩ := pr_get g he
      have s := same_new (o := .tup [.ref en.2.1, en.2.2]) hT
      refine ⟨s, prD y, by rw [List.getElem?_map, hy]; rfl, ?_⟩
      refine rep_tup.mpr ⟨T, _, rfl, .of upd_same, repL_cons.mpr ⟨_, _, rfl, ?_, repL_one (hr.mono (imm_same s))⟩⟩
      rw [← e1]; exact rep_key.mpr ⟨_, rfl, (imm_same s).key hk⟩
end
end Lw
/-! zip(tuple, list), enumerate(tuple). -/
namespace Lw
open PySem PySem.Spec PyProof.Rows L2
open AutoSeq1 (wpAny_loadPart')
def ItzM (K : PySem.W.Frag) (a b : Addr) : It :=
  ⟨fun i H => ∃ (xs ys : List V) (x y : V), SqT K H a xs ∧ SqL K H b ys ∧ xs[i]? = some x ∧ ys[i]? = some y,
    fun i H v H' => ∃ T x y, v = .ref T ∧ H T = none ∧ H' = upd H T (.tup [x, y]) ∧ (∀ xs, SqT K H a xs → xs[i]? = some x) ∧ ∀ ys, SqL K H b ys → ys[i]? = some y,
    fun i H => ∃ xs ys : List V, SqT K H a xs ∧ SqL K H b ys ∧ i = min xs.length ys.length⟩
theorem turn_zipM {P : Program} {w : World} {K : PySem.W.Frag} {elts : List Expr} {kk : Nat} {tpos : Pos} {a b z TI TO i1 i2 : Addr} (D : ZipSep2 z TI TO i1 i2 [i1, a] [i2, b]) :
    Turn P w K (.Tuple elts kk tpos) (ItzM K a b) [z, TI, TO, i1, i2] z (fun i h => IsZip h z TI TO .none ∧ IsTupOf2 h TI (.ref i1) (.ref i2) ∧ (∃ x y, IsTupOf2 h TO x y) ∧ h.IsTupleIter i1 a i ∧ h.IsListIter i2 b i) where
  mem := by simp
  obj := fun i h st c hc => by
    obtain ⟨hz, hTI, ⟨x, y, hTO⟩, ⟨o1, e1, _, d1⟩, ⟨o2, e2, _, d2⟩⟩ := st
    have e' : c = z ∨ c = TI ∨ c = TO ∨ c = i1 ∨ c = i2 := by simpa using hc
    rcases e' with q | q | q | q | q
    · rw [q]; exact ⟨_, hz, fun v q => nomatch q⟩
    · rw [q]; exact ⟨_, hTI, fun v q => nomatch q⟩
    · rw [q]; exact ⟨_, hTO, fun v q => nomatch q⟩
    · rw [q]; exact ⟨o1, e1, fun v q => by rw [d1] at q; cases q⟩
    · rw [q]; exact ⟨o2, e2, fun v q => by rw [d2] at q; cases q⟩
  keep := fun i h h' st k => by
    obtain ⟨hz, hTI, ⟨x, y, hTO⟩, h1, h2⟩ := st
    exact ⟨k z (by simp) _ hz, k TI (by simp) _ hTI, ⟨x, y, k TO (by simp) _ hTO⟩, h1.at fun o q => k i1 (by simp) o q, h2.at fun o q => k i2 (by simp) o q⟩
  item := by
    intro X hP hw hK hc i pins s σ H E I hf st hg
    subst hP hw hK
    obtain ⟨hz, hTI, ⟨x0, y0, hTO⟩, h1, h2⟩ := st
    obtain ⟨xs, ys, x, y, hqx, hqy, hx, hy⟩ := hg
    obtain ⟨its, rv, p, _⟩ := I.tuple hqx
    obtain ⟨its2, rv2, p2, _⟩ := I.list hqy
    obtain ⟨u, hu, ru⟩ := rv.get hx
    obtain ⟨u2, hu2, ru2⟩ := rv2.get hy
    have hzl : z < s.heap.objs.size := Heap.lt_size hz
    have hi1 : i < its.toArray.size := by simpa using (List.getElem?_eq_some_iff.mp hu).1
    have hi2 : i < its2.toArray.size := by simpa using (List.getElem?_eq_some_iff.mp hu2).1
    have ne1 : a ≠ i1 := fun e => by
      obtain ⟨o, ho, hc1, _⟩ := id h1
      obtain ⟨o', ho', hc', _⟩ := id p
      rw [e, ho] at ho'; cases ho'; rw [hc1] at hc'; exact absurd hc' (by decide)
    have ne2 : b ≠ i2 := fun e => by
      obtain ⟨o, ho, hc1, _⟩ := id h2
      obtain ⟨o', n', ho', hc', _⟩ := id p2
      rw [e, ho] at ho'; cases ho'; rw [hc1] at hc'; exact absurd hc' (by decide)
    have D1 := Draws.tuple (prog := X.prog) (w := X.w) (A := X.A.in1) (I.ok.hd hc) i1 a ne1 its.toArray
    have D2 := Draws.list (prog := X.prog) (w := X.w) (A := X.A.in1) (I.ok.hd hc) i2 b ne2 its2.toArray
    refine wpAny_pyNext_zipD2_item D D1 D2 hz hTI hTO ⟨h1, p⟩ ⟨h2, p2.isList⟩ hi1 hi2 fun x1 x2 h' tk y1 y2 z' TO' st1 st2 hT hsz hk => ?_
    have ex1 : x1 = u := by
      have : its.toArray[i]? = some u := by simpa using hu
      rw [this] at y1; exact (Option.some.inj y1).symm
    have ex2 : x2 = u2 := by
      have : its2.toArray[i]? = some u2 := by simpa using hu2
      rw [this] at y2; exact (Option.some.inj y2).symm
    subst ex1 ex2
    refine ⟨_, rfl, wpAny_letOwnedTupleGo_zip (s := { s with heap := h', toks := tk }) z' fun h'' z'' sb => ?_⟩
    have hT2 : h''.get? s.heap.objs.size = some { cls := .type "tuple", data := .seq #[x1, x2] } := (sb.2 _ (Nat.ne_of_gt hzl)).trans hT
    have new : ObjOk X.prog X.w (upd H s.heap.objs.size (.tup [x, y])) h'' s.heap.objs.size (.tup [x, y]) :=
      ⟨by show 2 ≤ sizeLine; decide, [x1, x2], .cons ru (.cons ru2 .nil), ⟨_, hT2, rfl, _, rfl⟩⟩
    have I1 : Inv X pins σ (upd H s.heap.objs.size (.tup [x, y])) { s with heap := h'', toks := tk } :=
      I.turnedNew (t' := tk) (ch := [z, TI, TO, i1, i2]) (fun c o hb q => (sb.2 c (fun q' => hb (by simp [q']))).trans (hk c o (fun q' => hb (by simp [q'])) (fun q' => hb (by simp [q'])) (fun q' => hb (by simp [q'])) (fun q' => hb (by simp [q'])) q)) hf (Nat.le_refl _) new
    refine ⟨.ref s.heap.objs.size, _, I1, rfl, ⟨_, x, y, rfl, I.hok.fresh (Nat.le_refl _), rfl, fun l hl => by rw [I.tuple_inj hl hqx]; exact hx, fun l hl => by rw [I.list_inj hl hqy]; exact hy⟩, ⟨z'', ?_, ⟨x1, x2, ?_⟩, ?_, ?_⟩, fun c hcm => ?_⟩
    · exact (sb.2 _ D.TIz).trans (hk _ _ D.TIz D.TITO D.TIi1 D.TIi2 hTI)
    · exact (sb.2 _ D.TOz).trans TO'
    · exact st1.1.at fun o q => (sb.2 _ (Ne.symm D.zi1)).trans q
    · exact st2.1.at fun o q => (sb.2 _ (Ne.symm D.zi2)).trans q
    · have hlt : c < s.heap.objs.size := by
        have e' : c = z ∨ c = TI ∨ c = TO ∨ c = i1 ∨ c = i2 := by simpa using hcm
        rcases e' with q | q | q | q | q
        · rw [q]; exact hzl
        · rw [q]; exact Heap.lt_size hTI
        · rw [q]; exact Heap.lt_size hTO
        · rw [q]; obtain ⟨_, e1, _⟩ := h1; exact Heap.lt_size e1
        · rw [q]; obtain ⟨_, e2, _⟩ := h2; exact Heap.lt_size e2
      rw [upd_ne (Nat.ne_of_lt hlt)]
      exact (hf c hcm).1
  done := by
    intro X hP hw hK hc i pins s σ H E I hf st hg
    subst hP hw hK
    obtain ⟨hz, hTI, ⟨x0, y0, hTO⟩, h1, h2⟩ := st
    obtain ⟨xs, ys, hqx, hqy, hend⟩ := hg
    obtain ⟨its, rv, p, _⟩ := I.tuple hqx
    obtain ⟨its2, rv2, p2, _⟩ := I.list hqy
    have l1 := rv.length
    have l2 := rv2.length
    have ne1 : a ≠ i1 := fun e => by
      obtain ⟨o, ho, hc1, _⟩ := id h1
      obtain ⟨o', ho', hc', _⟩ := id p
      rw [e, ho] at ho'; cases ho'; rw [hc1] at hc'; exact absurd hc' (by decide)
    have ne2 : b ≠ i2 := fun e => by
      obtain ⟨o, ho, hc1, _⟩ := id h2
      obtain ⟨o', n', ho', hc', _⟩ := id p2
      rw [e, ho] at ho'; cases ho'; rw [hc1] at hc'; exact absurd hc' (by decide)
    have D1 := Draws.tuple (prog := X.prog) (w := X.w) (A := X.A.in1) (I.ok.hd hc) i1 a ne1 its.toArray
    have D2 := Draws.list (prog := X.prog) (w := X.w) (A := X.A.in1) (I.ok.hd hc) i2 b ne2 its2.toArray
    exact wpAny_pyNext_zipD2_end D D1 D2 hz hTI hTO ⟨h1, p⟩ ⟨h2, p2.isList⟩ (by simp; omega) (by simp; omega) (by simp; omega) fun h' tk hk => ⟨rfl, I.turnedL (t' := tk) (ch := [z, TI, TO, i1, i2]) (fun c o hb q =>
      hk c o (fun q' => hb (by simp [q'])) (fun q' => hb (by simp [q'])) (fun q' => hb (by simp [q'])) (fun q' => hb (by simp [q'])) q) hf⟩
  self := fun A i s Q E st h => wpAny_pyIter_zip st.1 h
def iZipM (K : PySem.W.Frag) (ta : TA) : TI := fun σ H R => ta σ H fun vs H1 => ∃ a b xs ys, vs = [.ref a, .ref b] ∧ SqT K H1 a xs ∧ SqL K H1 b ys ∧ R (ItzM K a b) H1
theorem pi_zipM {X : Cx} {e e2 : Expr} {ta : TA} {p pos tpos : Pos} {elts : List Expr} {kk : Nat} (hg : Gl X "zip") (hm : X.mg "zip" = none) (ha : PA X [e, e2] ta)
    (hs : starEach [e, e2] X.env = (false, eval e X.env) :: starEach [e2] X.env := by rfl) (hpl : (backTo pos (starEach [e2] X.env)).any (·.1) = false := by rfl) :
    PI X (.Tuple elts kk tpos) (.Call (.Name "zip" p) [e, e2] [] pos) (iZipM X.K ta) := by
  refine ⟨fun pins s σ H R I h => ?_⟩
  refine Call_ (ld_blt I hg hm PyProof.Rows.boot_zip (PyProof.Rows.callWith_type1 (thn (ha.run pos pins s σ H _ I h) fun us s1 ⟨vs, H1, I1, r1, q1⟩ => ?_) hs hpl))
  obtain ⟨a, b, xs, ys, ex, hqx, hqy, q⟩ := q1
  subst ex
  cases r1 with
  | cons r rr =>
    cases rr with
    | cons r' rr =>
      cases rr
      cases r
      cases r'
      have fresh5 : ∀ c, c ∈ [s1.heap.objs.size + 4, s1.heap.objs.size + 2, s1.heap.objs.size + 3, s1.heap.objs.size, s1.heap.objs.size + 1] → FpOk X pins H1 c := fun c hcm => by
        have e' : c = s1.heap.objs.size + 4 ∨ c = s1.heap.objs.size + 2 ∨ c = s1.heap.objs.size + 3 ∨ c = s1.heap.objs.size ∨ c = s1.heap.objs.size + 1 := by simpa using hcm
        have hle : s1.heap.objs.size ≤ c := by
          rcases e' with z | z | z | z | z
          · rw [z]; exact Nat.le_add_right _ _
          · rw [z]; exact Nat.le_add_right _ _
          · rw [z]; exact Nat.le_add_right _ _
          · rw [z]; exact Nat.le_refl _
          · rw [z]; exact Nat.le_add_right _ _
        exact I1.fpOk hle (I1.hok.fresh hle)
      obtain ⟨its, rv, p1, _⟩ := I1.tuple hqx
      obtain ⟨its2, rv2, p2, _⟩ := I1.list hqy
      have la : a < s1.heap.objs.size := let ⟨o1, ho1, _⟩ := p1; Heap.lt_size ho1
      have lb : b < s1.heap.objs.size := p2.lt
      refine zip_begins2 (begins_tuple a its.toArray) (begins_list b its2.toArray) p1 p2.isList fun h' hz hTI hTO h1 h2 hsz hk => wpAny_pyIter_zip hz ?_
      have I2 : Inv X pins σ H1 { s1 with heap := h' } := I1.kept (t' := s1.toks) hk
      have D := zip_sep2 (N := s1.heap.objs.size) (fp1 := [a]) (fp2 := [b]) (fun c hc => by rw [List.mem_singleton.mp hc]; exact la) (fun c hc => by rw [List.mem_singleton.mp hc]; exact lb)
      exact ⟨s1.heap.objs.size + 4, [s1.heap.objs.size + 4, s1.heap.objs.size + 2, s1.heap.objs.size + 3, s1.heap.objs.size, s1.heap.objs.size + 1], _, _, H1, rfl, I2, turn_zipM D, ⟨hz, hTI, ⟨_, _, hTO⟩, ⟨_, h1, rfl, rfl⟩, ⟨_, h2, rfl, rfl⟩⟩, fresh5, q⟩
/-! ### enumerate(tuple) -/
def IteT (K : PySem.W.Frag) (a : Addr) : It :=
  ⟨fun i H => ∃ (xs : List V) (x : V), SqT K H a xs ∧ xs[i]? = some x, fun i H v H' => ∃ T x, v = .ref T ∧ H T = none ∧ H' = upd H T (.tup [.int (i : Nat), x]) ∧ ∀ xs, SqT K H a xs → xs[i]? = some x, fun i H => ∃ xs : List V, SqT K H a xs ∧ i = xs.length⟩
set_option maxHeartbeats 1000000 in
theorem meets_enum_newT (l : Addr) (items : Array Value) (n : Nat) (dct : Option Addr) (sl : Array (Option Value)) :
    Meets (Builtin.«enumerate.__new__» ⟨[.type "enumerate", .ref l], []⟩) (fun _ R s => s.heap.get? l = some { cls := .type "tuple", dict := dct, data := .seq items n, slots := sl } ∧
      R (.ok (.ret (.ref (s.heap.push { cls := .type "tuple_iterator", data := .fields #[.ref l, .int 0 0] }).objs.size)))
        { s with heap := (s.heap.push { cls := .type "tuple_iterator", data := .fields #[.ref l, .int 0 0] }).push { cls := .type "enumerate", data := .fields #[.none, .bool false, .ref s.heap.objs.size, rawInt 0, .none, .none] } }) :=
  .of_wp fun prog w A R s h => by
    obtain ⟨hp, g, d, tk, os⟩ := s; obtain ⟨hl, h⟩ := h
    have hsub := sub_enumerate
    have hL : Heap.IsTuple (Shared.heap ⟨hp, g, d, tk, os⟩) l items := ⟨_, hl, rfl, n, rfl⟩
    wp_walk using wpAny_loadPart' hl
    refine wpAny_stack_any fun st => wpAny_pure ?_
    split
    · rename_i c _ _ _ _ _
      cases (c == Value.type "enumerate")
      · wp_walk using wpAny_loadPart' hl, wpAny_pyIter_tuple hL
        exact ⟨_, rfl, h⟩
      · wp_walk using wpAny_loadPart' hl, wpAny_pyIter_tuple hL
        exact ⟨_, rfl, h⟩
    · wp_walk using wpAny_loadPart' hl, wpAny_pyIter_tuple hL
      exact ⟨_, rfl, h⟩
theorem call_enum_tuple {prog : Program} {w : World} {A : Around} {E : Value → Shared → Prop} {s : Shared} {l : Addr} {items : Array Value} {Q : Value → Shared → Prop} (hL : s.heap.IsTuple l items)
    (h : ∀ h', IsEnum h' (s.heap.objs.size + 1) s.heap.objs.size 0 .none → h'.IsTupleIter s.heap.objs.size l 0 → h'.objs.size = s.heap.objs.size + 2 →
      (∀ b o, s.heap.get? b = some o → h'.get? b = some o) → Q (.ref (s.heap.objs.size + 1)) { s with heap := h' }) :
    wpAny (model prog w) A (call (.type "enumerate") [.ref l]) Q E s := by
  obtain ⟨⟨c, dct, dt, sl⟩, hl, hc, n, hd⟩ := hL
  replace hc : c = .type "tuple" := hc
  replace hd : dt = .seq items n := hd
  subst hc hd
  refine callType_new F.called_enumerate (by decide) (F.typeCall_enumerate_1 _) (F.newCall_enumerate_1 _) (fun obj => F.args_object_init_2 obj _) F.entry_enumerate_new
    (meets_enum_newT l items n dct sl) ⟨hl, ?_⟩
  have hz : (s.heap.push { cls := .type "tuple_iterator", data := .fields #[.ref l, .int 0 0] }).objs.size = s.heap.objs.size + 1 := Heap.size_push ..
  show _ ∧ _
  rw [hz]
  have he : IsEnum ((s.heap.push { cls := .type "tuple_iterator", data := .fields #[.ref l, .int 0 0] }).push
      { cls := .type "enumerate", data := .fields #[.none, .bool false, .ref s.heap.objs.size, rawInt 0, .none, .none] }) (s.heap.objs.size + 1) s.heap.objs.size 0 .none := by
    have := Heap.get?_push_size (s.heap.push { cls := .type "tuple_iterator", data := .fields #[.ref l, .int 0 0] })
      (o := { cls := .type "enumerate", data := .fields #[.none, .bool false, .ref s.heap.objs.size, rawInt 0, .none, .none] }) rfl
    rw [hz] at this; exact this
  refine ⟨⟨_, he, rfl⟩, h _ he ⟨_, Heap.get?_push_of_some _ (Heap.get?_push_size _ rfl), rfl, rfl⟩ (by rw [Heap.size_push, hz]) fun b o x => Heap.get?_push_of_some _ (Heap.get?_push_of_some _ x)⟩
theorem turn_enumT {P : Program} {w : World} {K : PySem.W.Frag} {elts : List Expr} {kk : Nat} {tpos : Pos} (a e it : Addr) :
    Turn P w K (.Tuple elts kk tpos) (IteT K a) [e, it] e (fun i h => (∃ old, IsEnum h e it ((i : Nat) : Int) old) ∧ h.IsTupleIter it a i ∧ e ≠ it) where
  mem := by simp
  obj := fun i h st b hb => by
    obtain ⟨⟨old, he⟩, ⟨o, ho, hc, hd⟩, _⟩ := st
    have e' : b = e ∨ b = it := by simpa using hb
    rcases e' with z | z
    · rw [z]; exact ⟨_, he, fun v q => nomatch q⟩
    · rw [z]; exact ⟨o, ho, fun v q => by rw [hd] at q; cases q⟩
  keep := fun i h h' st k => let ⟨⟨old, he⟩, hi, hne⟩ := st; ⟨⟨old, k e (by simp) _ he⟩, hi.at fun o q => k it (by simp) o q, hne⟩
  item := by
    intro X hP hw hK hc i pins s σ H E I hf st hg
    subst hP hw hK
    obtain ⟨⟨old, he⟩, hit, hne⟩ := st
    obtain ⟨xs, x, hq, hx⟩ := hg
    obtain ⟨its, rv, p, hz⟩ := I.tuple hq
    obtain ⟨u, hu, ru⟩ := rv.get hx
    have hel : e < s.heap.objs.size := Heap.lt_size he
    have hil : it < s.heap.objs.size := by obtain ⟨_, q, _⟩ := hit; exact Heap.lt_size q
    have ne1 : a ≠ it := fun z => by
      obtain ⟨o, ho, hc1, _⟩ := id hit
      obtain ⟨o', ho', hc', _⟩ := id p
      rw [z, ho] at ho'; cases ho'; rw [hc1] at hc'; exact absurd hc' (by decide)
    have ne2 : e ≠ a := fun z => by
      obtain ⟨o', ho', hc', _⟩ := id p
      rw [← z] at ho'
      have := he.symm.trans ho'
      cases this
      exact absurd (show Value.type "enumerate" = Value.type "tuple" from hc') (by decide)
    have D1 := Draws.tuple (prog := X.prog) (w := X.w) (A := X.A.in1) (I.ok.hd hc) it a ne1 its.toArray
    have hi1 : i < its.toArray.size := by simpa using (List.getElem?_eq_some_iff.mp hu).1
    refine wpAny_pyNext_enum_itemC D1 he ⟨hit, p⟩ hi1 hne (by simp [hne, ne2]) fun x1 h' tk y1 ho hst' hT hsz hk => ?_
    have ex1 : x1 = u := by
      have : its.toArray[i]? = some u := by simpa using hu
      rw [this] at y1; exact (Option.some.inj y1).symm
    subst ex1
    refine ⟨_, rfl, wpAny_letOwnedTupleGo_enum (s := { s with heap := h', toks := tk + 1 }) ho fun h'' he' sb => ?_⟩
    have hT2 : h''.get? s.heap.objs.size = some { cls := .type "tuple", data := .seq #[.int i tk, x1] } := (sb.2 _ (Nat.ne_of_gt hel)).trans hT
    have new : ObjOk X.prog X.w (upd H s.heap.objs.size (.tup [.int (i : Nat), x])) h'' s.heap.objs.size (.tup [.int (i : Nat), x]) :=
      ⟨by show 2 ≤ sizeLine; decide, [.int i tk, x1], .cons ⟨_, rfl⟩ (.cons ru .nil), ⟨_, hT2, rfl, _, rfl⟩⟩
    have I1 : Inv X pins σ (upd H s.heap.objs.size (.tup [.int (i : Nat), x])) { s with heap := h'', toks := tk + 1 } :=
      I.turnedNew (ch := [e, it]) (fun b ob hb q => (sb.2 b (fun z => hb (by simp [z]))).trans (hk b ob (fun z => hb (by simp [z])) (fun z => hb (by simp [z])) q)) hf (Nat.le_refl _) new
    refine ⟨.ref s.heap.objs.size, _, I1, rfl, ⟨_, x, rfl, I.hok.fresh (Nat.le_refl _), rfl, fun ys hy => by rw [I.tuple_inj hy hq]; exact hx⟩, ⟨⟨x1, ?_⟩, hst'.1.at fun o q => (sb.2 it (Ne.symm hne)).trans q, hne⟩, fun b hb => ?_⟩
    · have e1 : ((i + 1 : Nat) : Int) = (i : Int) + 1 := by omega
      rw [e1]; exact he'
    · have hb' : b < s.heap.objs.size := by
        have e' : b = e ∨ b = it := by simpa using hb
        rcases e' with z | z
        · rw [z]; exact hel
        · rw [z]; exact hil
      rw [upd_ne (Nat.ne_of_lt hb')]
      exact (hf b hb).1
  done := by
    intro X hP hw hK hc i pins s σ H E I hf st hg
    subst hP hw hK
    obtain ⟨⟨old, he⟩, hit, hne⟩ := st
    obtain ⟨xs, hq, hx⟩ := hg
    obtain ⟨its, rv, p, hz⟩ := I.tuple hq
    obtain ⟨f0, f1, f2, f3, f4, f5⟩ := hf it (by simp)
    have hl := rv.length
    have ne1 : a ≠ it := fun z => by
      obtain ⟨o, ho, hc1, _⟩ := id hit
      obtain ⟨o', ho', hc', _⟩ := id p
      rw [z, ho] at ho'; cases ho'; rw [hc1] at hc'; exact absurd hc' (by decide)
    have D1 := Draws.tuple (prog := X.prog) (w := X.w) (A := X.A.in1) (I.ok.hd hc) it a ne1 its.toArray
    have en : i = its.toArray.size := by simp; omega
    exact wpAny_pyNext_enum_endD D1 he (by rw [← en]; exact ⟨hit, p⟩) fun h' eb => ⟨rfl, I.turned (t' := s.toks) (fun b o hb q => eb b o hb q) f0 f1 f3 f4 f5⟩
  self := fun A i s Q E st h => let ⟨⟨_, he⟩, _⟩ := st; wpAny_pyIter_enum he h
def iEnumT (K : PySem.W.Frag) (ta : TA) : TI := fun σ H R => ta σ H fun vs H1 => ∃ a xs, vs = [.ref a] ∧ SqT K H1 a xs ∧ R (IteT K a) H1
theorem pi_enumT {X : Cx} {e : Expr} {ta : TA} {p pos tpos : Pos} {elts : List Expr} {kk : Nat} (hg : Gl X "enumerate") (hm : X.mg "enumerate" = none) (ha : PA X [e] ta) (hs : starEach [e] X.env = [(false, eval e X.env)] := by rfl) :
    PI X (.Tuple elts kk tpos) (.Call (.Name "enumerate" p) [e] [] pos) (iEnumT X.K ta) := by
  refine ⟨fun pins s σ H R I h => ?_⟩
  refine Call_ (ld_blt I hg hm boot_enumerate (PyProof.Rows.callWith_type1 (thn (ha.run pos pins s σ H _ I h) fun us s1 ⟨vs, H1, I1, r1, q1⟩ => ?_) hs rfl))
  obtain ⟨a, xs, ex, hq, q⟩ := q1
  subst ex
  cases r1 with
  | cons r rr =>
    cases rr
    cases r
    obtain ⟨its, rv, p', hz⟩ := I1.tuple hq
    refine call_enum_tuple p' fun h' he hit hsz hk => wpAny_pyIter_enum he ?_
    have I2 : Inv X pins σ H1 { s1 with heap := h' } := I1.kept (t' := s1.toks) hk
    refine ⟨s1.heap.objs.size + 1, [s1.heap.objs.size + 1, s1.heap.objs.size], _, _, H1, rfl, I2, turn_enumT a (s1.heap.objs.size + 1) s1.heap.objs.size, ⟨⟨.none, he⟩, hit, Nat.succ_ne_self _⟩, fun b hb => ?_, q⟩
    have e' : b = s1.heap.objs.size + 1 ∨ b = s1.heap.objs.size := by simpa using hb
    have hle : s1.heap.objs.size ≤ b := by
      rcases e' with z | z
      · rw [z]; exact Nat.le_add_right _ _
      · rw [z]; exact Nat.le_refl _
    exact I1.fpOk hle (I1.hok.fresh hle)
/-! ### as data -/
section
variable {K : PySem.W.Frag} {σ : L2.St} {H : Hp} {tl tr : TE} {ds es : List D}
theorem walk_enumT {a : Addr} {xs : List V} : Walk (IteT K a) xs.length (fun H => SqT K H a xs) (YPair (fun i => some (.int (i : Nat))) (fun i => xs[i]?)) := by
  refine ⟨fun i _ hi q => ⟨xs, xs[i], q, by simp [hi]⟩, fun _ q => ⟨xs, q, rfl⟩, fun i H v H' hi q y => ?_⟩
  obtain ⟨T, x, h1, h2, h3, h4⟩ := y
  exact ⟨T, .int (i : Nat), x, h1, h2, h3, rfl, h4 xs q⟩
theorem ei_enumT (h : EvD K tl σ H (.tup ds)) : EvI K (iEnumT K (tCons tl tNil)) σ H (enD ds) := fun H1 e R q =>
  h H1 e _ fun x H2 e2 r => by
    obtain ⟨a, vs, rfl, h2, h3⟩ := rep_tup.mp r
    refine ⟨a, vs, rfl, h2, q _ H2 e2 (.of (Gp := fun H => SqT K H a vs ∧ RepL K H ds vs) (walk_enumT (xs := vs)) (by rw [enD_len, repL_len h3]) ⟨h2, h3⟩ (fun _ _ i h => ⟨i.sqt h.1, h.2.mono i⟩) (fun _ h => h.1) ?_)⟩
    · rintro i Ha x Hc hi ⟨_, g⟩ y
      refine yPair_ok (ds := enD ds) (dx := fun i => .int (i : Nat)) (dy := fun i => ds.getD i .non) (fun i hi => enD_get (by rw [enD_len] at hi; exact hi)) hi (fun v e => ?_) (fun v e => ?_) y
      · cases e; exact rep_int.mpr rfl
      · obtain ⟨d, e1, e2⟩ := repL_at g e
        rw [getD_of e1]; exact e2
theorem walk_zipM {a b : Addr} {xs ys : List V} {n : Nat} (hn : n = min xs.length ys.length) : Walk (ItzM K a b) n (fun H => SqT K H a xs ∧ SqL K H b ys) (YPair (fun i => xs[i]?) (fun i => ys[i]?)) := by
  subst hn
  refine ⟨fun i _ hi q => ?_, fun _ q => ⟨xs, ys, q.1, q.2, rfl⟩, fun i H v H' _ q y => ?_⟩
  · have h1 : i < xs.length := by omega
    have h2 : i < ys.length := by omega
    exact ⟨xs, ys, xs[i], ys[i], q.1, q.2, by simp [h1], by simp [h2]⟩
  · obtain ⟨T, x, z, h1, h2, h3, h4, h5⟩ := y
    exact ⟨T, x, z, h1, h2, h3, h4 xs q.1, h5 ys q.2⟩
theorem ei_zipTL (h : EvD K tl σ H (.tup ds)) (h' : EvD K tr σ H (.lst es)) : EvI K (iZipM K (tCons tl (tCons tr tNil))) σ H (zipD ds es) := fun H1 e R q =>
  h H1 e _ fun x H2 e2 r => h' H2 (e.trans e2) _ fun x' H3 e3 r' => by
    obtain ⟨a, vs, rfl, h2, h3⟩ := rep_tup.mp (r.mono (imm_same e3))
    obtain ⟨a', vs', o', rfl, h2', h3'⟩ := rep_lst.mp r'
    refine ⟨a, a', vs, vs', rfl, h2, .inl (.inr ⟨o', h2'⟩), q _ H3 (e2.trans e3) (.of (Gp := fun H => (SqT K H a vs ∧ RepL K H ds vs) ∧ H a' = some (.frz o' (.lst vs')) ∧ RepL K H es vs') (walk_zipM (xs := vs) (ys := vs') rfl) (by rw [zipD_len, repL_len h3, repL_len h3']) ⟨⟨h2, h3⟩, h2', h3'⟩ (fun _ _ i h => ⟨⟨i.sqt h.1.1, h.1.2.mono i⟩, i.f _ _ _ h.2.1, h.2.2.mono i⟩) (fun _ h => ⟨h.1.1, .inl (.inr ⟨o', h.2.1⟩)⟩) ?_)⟩
    · rintro i Ha x Hc hi ⟨⟨_, g⟩, _, g'⟩ y
      refine yPair_ok (ds := zipD ds es) (dx := fun i => ds.getD i .non) (dy := fun i => es.getD i .non) (fun i hi => zipD_get (by rw [zipD_len] at hi; exact hi)) hi (fun v e => ?_) (fun v e => ?_) y
      · obtain ⟨d, e1, e2⟩ := repL_at g e
        rw [getD_of e1]; exact e2
      · obtain ⟨d, e1, e2⟩ := repL_at g' e
        rw [getD_of e1]; exact e2
end
end Lw
/-! More rules: tuple * int, list + list, sum, max, t.index, equality, as data. -/
namespace Lw
open PySem PySem.Spec PyProof.Rows L2
section
variable {X : Cx}
/-- t * k -/
def rRepP : R2 := fun x y H Q => ∃ l k xs o, x = .ref l ∧ y = .int k ∧ H l = some (.frz o (.tup xs)) ∧ o.dict = none ∧ xs ≠ [] ∧ 1 ≤ k ∧ k ≤ 1000 ∧ xs.length ≤ 1000 ∧
  (k = 1 → Q (.ref l) H) ∧ (2 ≤ k → ∀ p o, H p = none → o.dict = none → Q (.ref p) (upd H p (.frz o (.tup (List.replicate k.toNat xs).flatten))))
theorem op_repP : OpR X (binaryOp .Mult) rRepP := by
  intro pins s σ H x y v u Q I rx ry h
  obtain ⟨l, k, xs, o0, rfl, rfl, hT, _, hne, h1, h2, hz, q1, q2⟩ := h
  cases rx
  obtain ⟨t, rfl⟩ := ry
  obtain ⟨its, r, ⟨⟨cls, dd, data, sl⟩, ho, hc, n, hd⟩, hs⟩ := I.tuple (.inl (.inr ⟨o0, hT⟩))
  simp only at hc hd
  subst hc hd
  by_cases hk1 : k = 1
  · subst hk1
    exact wpAny_binaryOp_repeat_ref (T := "tuple") (U := "int") (by decide) ⟨_, ho, rfl⟩ (fun s' => typeIs_int s' 1 t) noFill_tuple_mul F.fills_int_mul F.slot_int_rmul repeat_tuple F.slot_int_index.lookup
      (call_meets F.slot_int_rmul (typeIs_int s 1 t) F.entry_int_rmul (F.args_int_rmul_2 _ _) (int_rmul_tuple 1 t l its.toArray n dd sl)
        ⟨ho, rfl, ⟨_, ho, rfl⟩, call_meets F.slot_tuple_mul ⟨_, ho, rfl⟩ F.entry_tuple_mul (F.args_tuple_mul_2 _ _) (tuple_mul1 l its.toArray n dd sl t) ⟨ho, ⟨.ref l, H, I, rfl, q1 rfl⟩⟩⟩)
  have h1' : 2 ≤ k := by omega
  have hle : its.length = xs.length := r.length.symm
  have hn : its ≠ [] := fun e => hne (by
    rw [e] at hle
    exact List.eq_nil_of_length_eq_zero hle.symm)
  have hi : its.toArray.isEmpty = false := by
    cases its with
    | nil => exact absurd rfl hn
    | cons a b => rfl
  have hsz0 : its.toArray.size = xs.length := by rw [List.size_toArray, hle]
  have hm : ((its.toArray.size : Nat) : Int) * k ≤ 1000000 := by
    rw [hsz0]
    have a1 : ((xs.length : Nat) : Int) * k ≤ 1000 * k := Int.mul_le_mul_of_nonneg_right (by omega) (by omega)
    omega
  have flen : (List.replicate k.toNat its).flatten.length ≤ sizeLine := by
    rw [PyProof.Rows.lm_len_rep_flat, hle, sizeLine_eq]
    have a1 : k.toNat * xs.length ≤ 1000 * 1000 := Nat.mul_le_mul (by omega) hz
    omega
  have c0 : (decide (k < -(2 ^ 63)) || decide (k ≥ 2 ^ 63)) = false := by
    rw [decide_eq_false (by omega), decide_eq_false (by omega)] <;> rfl
  have c1 : (its.toArray.isEmpty || k == 1) = false := by
    rw [hi, Bool.false_or]
    exact beq_eq_false_iff_ne.mpr (by omega)
  have c2 : (decide (k ≤ 0) || its.toArray.isEmpty) = false := by
    rw [hi, Bool.or_false]
    exact decide_eq_false (by omega)
  have c4 : Builtin.Tuple.tupleTooMany (((its.toArray.size : Nat) : Int) * k) = false := by
    unfold Builtin.Tuple.tupleTooMany
    rw [sizeLine_eq]
    exact decide_eq_false (by omega)
  refine wpAny_binaryOp_repeat_ref (T := "tuple") (U := "int") (by decide) ⟨_, ho, rfl⟩ (fun s' => typeIs_int s' k t) noFill_tuple_mul F.fills_int_mul F.slot_int_rmul repeat_tuple F.slot_int_index.lookup
    (call_meets F.slot_int_rmul (typeIs_int s k t) F.entry_int_rmul (F.args_int_rmul_2 _ _) (int_rmul_tuple k t l its.toArray n dd sl)
      ⟨ho, rfl, ⟨_, ho, rfl⟩, call_meets F.slot_tuple_mul ⟨_, ho, rfl⟩ F.entry_tuple_mul (F.args_tuple_mul_2 _ _) (tuple_mulW l its.toArray n dd sl k t c0 c1 c2 (by omega) c4 (by rw [size_rep, List.size_toArray]; exact flen)) ⟨ho, ?_⟩⟩)
  rw [size_rep]
  exact ⟨.ref s.heap.objs.size, _, laid_pt (t' := s.toks) (ys := (List.replicate k.toNat xs).flatten) I (r.rep k.toNat) (by rw [PyProof.Rows.lm_len_rep_flat, sizeLine_eq]; have a1 : k.toNat * xs.length ≤ 1000 * 1000 := Nat.mul_le_mul (by omega) hz; omega), rfl, q2 h1' _ _ I.fresh rfl⟩
/-- list + list -/
def rCatL : R2 := fun x y H Q => ∃ l b xs zs, x = .ref l ∧ y = .ref b ∧ Rd H l (.lst xs) ∧ Rd H b (.lst zs) ∧ xs.length + zs.length ≤ sizeLine ∧ ∀ p, H p = none → Q (.ref p) (upd H p (.lst (xs ++ zs)))
theorem op_catL : OpR X (binaryOp .Add) rCatL := by
  intro pins s σ H x y v u Q I rx ry h
  obtain ⟨l, b, xs, zs, rfl, rfl, hH, hB, hz, q⟩ := h
  cases rx
  cases ry
  obtain ⟨_, its, n, r, e⟩ := hH.ok I.hok
  obtain ⟨_, its2, n2, r2, e2⟩ := hB.ok I.hok
  have hl := r.length
  have hl2 := r2.length
  refine PySem.P.add_list e e2 ?_ (by rw [List.size_toArray, List.size_toArray]; omega)
  have ea : its.toArray ++ its2.toArray = (its ++ its2).toArray := by simp
  rw [ea]
  exact ⟨.ref _, _, I.lnew (t' := s.toks) (r.append r2) (by rw [List.length_append]; omega), rfl, q _ I.fresh⟩
/-- sum(t) -/
def rSumT (K : PySem.W.Frag) : List V → Hp → VK → Prop := fun vs H Q => ∃ (a : Addr) (ns : List Int), vs = [V.ref a] ∧ SqT K H a (ns.map V.int) ∧ Q (.int ns.sum) H
theorem cr_sumT (hc : X.calm = true) : CallR X (.builtin "sum") (rSumT X.K) := by
  intro pins s σ H vs us Q I r h
  obtain ⟨a, ns, rfl, hs, q⟩ := h
  obtain ⟨its, rv, hl, _⟩ := I.tuple hs
  rw [Vals.ref1 r]
  obtain ⟨xs, hx⟩ := rv.ints.allInts.items
  have hn : numsOf its.toArray.toList = ns := by rw [show its.toArray.toList = its from rfl, rv.ints.numsOf]
  rw [hx] at hl hn
  rw [nums_intItems] at hn
  refine PySem.W.ktm_sumG (I.ok.hd hc) hl fun h' tk t' hk => ?_
  have e : preSum (numAt xs) xs.size = ns.sum := by rw [preSum_eq, List.take_of_length_le (by simp), hn]
  rw [e]
  exact ⟨.int _, H, I.kept hk, ⟨_, rfl⟩, q⟩
/-- max(xs, default=d) -/
def mxF (d : Int) : List Int → Int
  | [] => d
  | y :: ys => ys.foldl (fun a y => if a < y then y else a) y
def rMaxD (K : PySem.W.Frag) : List V → List V → Hp → VK → Prop := fun vs zs H Q => ∃ (a : Addr) (ns : List Int) (d : Int), vs = [V.ref a] ∧ zs = [.int d] ∧ SqL K H a (ns.map V.int) ∧ Q (.int (mxF d ns)) H
theorem holdAll_ints {h : Heap} : ∀ {ns : List Int} {its : List Value}, Vals (ns.map V.int) its → PySem.W.HoldAll h its ns
  | [], _, .nil => PySem.W.HoldAll.nil
  | n :: ns, _, .cons r t => by
    obtain ⟨tk, rfl⟩ := r
    exact PySem.W.HoldAll.cons ⟨[], Reads.int n tk⟩ (holdAll_ints t)
theorem crk_maxD (hc : X.calm = true) (hu : X.A.units + 64 < cLine) : CallRK X (.builtin "max") [Str.ofString "default"] (rMaxD X.K) := by
  intro pins s σ H vs zs us ws Q I r rz h
  obtain ⟨a, ns, d, rfl, rfl, hs, q⟩ := h
  obtain ⟨its, rv, hl, _⟩ := I.list hs
  rw [Vals.ref1 r]
  obtain ⟨w1, rfl, t, rfl⟩ := vals1 rz
  refine PySem.W.max_list_datum_default (α := Int) (xs := ns) (I.ok.hd hc) hl.isList (by simpa using holdAll_ints rv) (by show X.A.units + 1 + 0 < cLine; omega) (fun e h' tk hk => ?_) fun y ys i v h' tk e hi hv hk => ?_
  · subst e
    exact ⟨.int d, H, I.kept hk, ⟨_, rfl⟩, q⟩
  · subst e
    obtain ⟨as, rd⟩ := hv
    cases rd
    refine ⟨.int _, H, I.kept hk, ⟨_, rfl⟩, ?_⟩
    have : PySem.W.maxOf y ys = mxF d (y :: ys) := by
      show ys.foldl _ y = ys.foldl _ y
      congr 1
      funext a b
      show (if decide (a < b) = true then b else a) = _
      simp
    rw [this]
    exact q
/-- max(d), the keys of d ints -/
def rMaxK : List V → Hp → VK → Prop := fun vs H Q => ∃ (a : Addr) (kvs : List (Key × V)) (is : List Int), vs = [V.ref a] ∧ H a = some (.dK kvs) ∧ kvs.map (·.1) = is.map Sum.inl ∧ is ≠ [] ∧ ∀ m, m ∈ is → (∀ j ∈ is, j ≤ m) → Q (.int m) H
theorem cr_maxK (hc : X.calm = true) : CallR X (.builtin "max") rMaxK := by
  intro pins s σ H vs us Q I r h
  obtain ⟨a, kvs, is, rfl, ha, hv, hne, q⟩ := h
  rw [Vals.ref1 r]
  obtain ⟨_, hsys, vs, rel, dof⟩ := dk_of I.hok ha
  obtain ⟨ep, dat⟩ := dof.dictAt
  obtain ⟨ob, es, ho, hex, hdat, hko, hpr, hnd⟩ := id dat
  have hlt : a < s.heap.objs.size := Heap.lt_size ho
  have hkeys : vs.map (·.1) = is.map Sum.inl := (KV.keys rel).symm.trans hv
  have hlv : vs.length = is.length := by
    have e1 := congrArg List.length hkeys
    rw [List.length_map, List.length_map] at e1
    exact e1
  have hlen : 0 < vs.length := by
    rw [hlv]
    exact List.length_pos_iff.mpr hne
  have hval : ∀ (i : Nat) (v : Value), (∃ k x, vs[i]? = some (k, x) ∧ (mixKind X.prog X.w).is k v = true) → ∃ t, v = Value.int (is.getD i 0) t := fun i v ⟨k, x, hk, hkey⟩ => by
    have e1 : (vs.map (·.1))[i]? = some k := by rw [List.getElem?_map, hk] <;> rfl
    rw [hkeys, List.getElem?_map] at e1
    obtain ⟨j, hj, e2⟩ := Option.map_eq_some_iff.mp e1
    subst e2
    have hi : Value.isInt j v = true := hkey
    obtain ⟨t, e3⟩ := Value.isInt_shape (k := j) (v := v) hi
    refine ⟨t, ?_⟩
    rw [e3, List.getD_eq_getElem?_getD, hj] <;> rfl
  refine call_max_walk (wpAny_pyIter_dict (knd := mixKind X.prog X.w) hsys dat ?_)
  refine ⟨_, _, _, _, _, _, _, rfl, Walks.dictKeys (knd := mixKind X.prog X.w) (A := X.A.in1) (I.ok.hd hc) s.heap.objs.size a (Nat.ne_of_lt hlt) vs ep,
    ⟨⟨_, Heap.get?_push_size _ rfl, rfl, rfl⟩, dat.keep fun b u e => Heap.get?_push_of_some _ e⟩, fun b hb => ?_, hlen, CmpOf.ints_gt (fun i => is.getD i 0) hval, fun v h' tk hP hk => ?_⟩
  · show b < (s.heap.push _).objs.size
    rw [Heap.size_push]
    rcases List.mem_cons.mp hb with e | hb
    · rw [e]
      exact Nat.lt_succ_self _
    · rw [List.mem_singleton.mp hb]
      exact Nat.lt_succ_of_lt hlt
  · obtain ⟨t, rfl⟩ := hval _ v hP
    obtain ⟨b1, b2⟩ := argBest_gt (fun i => is.getD i 0) (vs.length - 1)
    refine ⟨.int _, H, I.kept (t' := tk) fun b u e => hk b u (fun hmem => ?_) (Heap.get?_push_of_some _ e), ⟨t, rfl⟩, q _ ?_ fun j hj => ?_⟩
    · have e1 : b = s.heap.objs.size := List.mem_singleton.mp hmem
      have e2 := Heap.lt_size e
      rw [e1] at e2
      exact absurd e2 (Nat.lt_irrefl _)
    · have hb : argBest (fun i j => decide (is.getD i 0 > is.getD j 0)) (vs.length - 1) < is.length := by omega
      rw [List.getD_eq_getElem?_getD, List.getElem?_eq_getElem hb]
      exact List.getElem_mem hb
    · obtain ⟨i, hi, e⟩ := List.mem_iff_getElem.mp hj
      have e2 : is.getD i 0 = j := by rw [List.getD_eq_getElem?_getD, List.getElem?_eq_getElem hi, ← e] <;> rfl
      rw [← e2]
      exact b2 i (by omega)
/-- t.index(x) of a tuple of ints -/
def tTupIx (to te : TE) : TE := fun σ H Q => to σ H fun x H1 => ∃ b ks, x = .ref b ∧ KeyAt H1 b ks ∧ te σ H1 fun y H2 => KeyAt H2 b ks ∧ ∃ n j, y = .int n ∧ ks[j]? = some n ∧ (∀ m, m < j → ks[m]? ≠ some n) ∧ Q (.int (j : Nat)) H2
theorem int_eqAt {A : Around} {s : Shared} {n : Int} {t : Tok} : ∀ {ks : List Int} {us : List Value}, Vals (ks.map V.int) us → ∀ u ∈ us, SeqAt.EqAt A s u (.int n t) (eqU (.int n) u)
  | [], _, .nil => fun u hu => by cases hu
  | k :: ks, _, .cons r tl => fun u hu => by
    rcases List.mem_cons.mp hu with rfl | hu
    · have f : flatV (V.int k) = true := rfl
      rw [eqU_of r f]; exact eqAt_V r ⟨t, rfl⟩ f rfl
    · exact int_eqAt tl u hu
theorem pe_tupIx {o e : Expr} {apos cpos : Pos} {to te : TE} (ho : PE X o to) (he : PE X e te) (m : M1 X o "index" apos e cpos) : PE X (.Call (.Attribute o "index" apos) [e] [] cpos) (tTupIx to te) := by
  refine ⟨fun pins s σ H Q I h => ?_⟩
  refine wpAny_Call_method m.base m.few m.line PySem.F.plainAttrs_tuple PySem.F.slot_tuple_index PySem.F.type_tuple_index (thn (ho.run pins s σ H _ I h) fun u s1 ⟨x, H1, I1, rx, b, ks, ex, hb, q1⟩ => ?_)
  subst ex
  obtain rfl : u = Value.ref b := rx
  obtain ⟨o1, hk1, hd1⟩ := id hb
  obtain ⟨ho1, _, its1, r1, o1', ho1', hc1, n1, hdt1⟩ := I1.hok b _ hk1
  refine ⟨⟨o1', ho1', hc1⟩, fun b' z => ?_, ?_⟩
  · cases z
    exact ⟨o1, ho1, hd1⟩
  rw [m.trees]
  refine Calls.callWith_builtin rfl (Calls.evalArgs_plain (Calls.spliced_cons (thn (he.run pins s1 σ H1 _ I1 q1) fun iv s2 ⟨y, H2, I2, ry, hb2, n, j, ey, hj, hno, q2⟩ => Calls.spliced_nil ?_)))
  subst ey
  obtain ⟨t, rfl⟩ := ry
  obtain ⟨o2, hk2, hd2⟩ := hb2
  obtain ⟨_, hz, its, r, ⟨⟨cls, dd, dt, sl⟩, hoo, hc, nn, hd⟩⟩ := I2.hok b _ hk2
  simp only at hc hd
  subst hc hd
  have hl : its.toArray.size = ks.length := by rw [List.size_toArray, ← r.length, List.length_map]
  have hj' : j < its.toArray.size := by rw [hl]; exact (List.getElem?_eq_some_iff.mp hj).1
  have at' : ∀ (m : Nat) (hm : m < its.toArray.size), ∃ y t', ks[m]? = some y ∧ its.toArray[m] = Value.int y t' := fun m hm => by
    have hm' : m < ks.length := by rw [← hl]; exact hm
    obtain ⟨w, hw, t', hw'⟩ := r.get (i := m) (x := .int ks[m]) (by simp [hm'])
    refine ⟨ks[m], t', List.getElem?_eq_getElem hm', ?_⟩
    have e := (List.getElem?_eq_some_iff.mp hw).2
    rw [← hw', ← e]
    simp
  refine call_meets PySem.F.slot_tuple_index ⟨_, hoo, rfl⟩ PySem.F.entry_tuple_index (PySem.F.args_tuple_index_2 _ _) (TI.tuple_indexAt b its.toArray nn dd sl (.int n t) (eqU (.int n)) j hj' ?_ ?_)
    ⟨hoo, fun w hw => int_eqAt r w (by simpa using hw), ⟨.int (j : Nat), H2, I2.tok _, ⟨_, rfl⟩, q2⟩⟩
  · obtain ⟨y, t', h1, h2⟩ := at' j hj'
    rw [hj] at h1
    cases h1
    rw [h2]
    show (n == n) = true
    exact beq_self_eq_true n
  · intro m hm hmj
    obtain ⟨y, t', h1, h2⟩ := at' m hm
    rw [h2]
    show (y == n) = false
    refine beq_eq_false_iff_ne.mpr fun e => hno m hmj ?_
    rw [h1, e]
end
end Lw
/-! More readings as data. -/
namespace Lw
open PySem PySem.Spec PyProof.Rows L2
section
variable {K : PySem.W.Frag} {σ : L2.St} {H H' H0 Hb : Hp} {ta tb te td : TE} {d d1 d2 : D} {ds es : List D} {v : V} {Γ : List G} {ms : List (Addr × Mo)} {i j : Int} {Dn : Ends}
theorem same_frz {p : Addr} {o : HO} (h : H p = none) : Same H (upd H p o) := same_new h
theorem rep_ptN {p : Addr} {o : Obj} {vs : List V} (hp : H p = none) (ho : o.dict = none) (r : RepL K H ds vs) : Rep K (upd H p (.frz o (.tup vs))) (.ptup ds) (.ref p) :=
  rep_ptup.mpr ⟨p, vs, o, rfl, upd_same, ho, r.mono (imm_same (same_new hp))⟩
/-- (a, b, ..), known for good -/
theorem ev_tupP {ta : TA} (h : EvA K ta σ H ds) (hl : ds.length ≤ 1000000 := by exact Nat.le_of_ble_eq_true rfl) : EvD K (tTupP ta) σ H (.ptup ds) := fun H1 e Q q =>
  h H1 e _ fun vs H2 e2 r2 => ⟨sz_of (by rw [← repL_len r2]; exact hl), fun p o hp ho => q _ _ (e2.trans (same_new hp)) (rep_ptN hp ho r2)⟩
/-- tuple(xs) -/
theorem ev_tupleP (h : EvD K ta σ H (.lst ds)) : EvD K (tCB (rTupP K) (tCons ta tNil)) σ H (.ptup ds) := fun H1 e Q q =>
  h H1 e _ fun x H2 e2 r => by
    obtain ⟨a, vs, o, rfl, h2, h3⟩ := rep_lst.mp r
    exact ⟨a, vs, rfl, .inl (.inr ⟨o, h2⟩), fun l o' hl ho => q _ _ (e2.trans (same_new hl)) (rep_ptN hl ho h3)⟩
/-- tuple of a list that may change -/
theorem ev_tuplePM (h : EvM K ta σ H (.lst ds)) : EvD K (tCB (rTupP K) (tCons ta tNil)) σ H (.ptup ds) := fun H1 e Q q =>
  h H1 e _ fun p H2 e2 hp hm => by
    obtain ⟨vs, h2, h3⟩ := hm
    exact ⟨p, vs, rfl, .of h2, fun l o' hl ho => q _ _ (e2.trans (same_new hl)) (rep_ptN hl ho h3)⟩
/-- t + u -/
theorem ev_catP (ha : EvD K ta σ H (.ptup ds)) (hb : EvD K tb σ H (.ptup es)) (hl : ds.length + es.length ≤ 1000000) : EvD K (tOp (rCatP K) ta tb) σ H (.ptup (ds ++ es)) := fun H1 e Q q =>
  ha H1 e _ fun x H2 e2 r => hb H2 (e.trans e2) _ fun y H3 e3 r' => by
    have r := r.mono (imm_same e3)
    obtain ⟨a, xs, o, rfl, h1, ho, h2⟩ := rep_ptup.mp r
    obtain ⟨b, ys, o', rfl, h1', ho', h2'⟩ := rep_ptup.mp r'
    refine ⟨a, b, xs, ys, rfl, rfl, .inl (.inr ⟨o, h1⟩), .inl (.inr ⟨o', h1'⟩), sz_of (by rw [← repL_len h2, ← repL_len h2']; exact hl), fun e0 => ?_, fun e0 e1 => ?_, fun e0 e1 p o2 hp ho2 => ?_⟩
    · subst e0
      have : ds = [] := List.eq_nil_of_length_eq_zero (by rw [repL_len h2]; rfl)
      subst this
      exact q _ H3 (e2.trans e3) r'
    · subst e1
      have : es = [] := List.eq_nil_of_length_eq_zero (by rw [repL_len h2']; rfl)
      subst this
      exact q _ H3 (e2.trans e3) (by rw [List.append_nil]; exact r)
    · exact q _ _ ((e2.trans e3).trans (same_new hp)) (rep_ptN hp ho2 (repL_app h2 h2'))
/-- t[lo:hi] -/
abbrev cutD (xs : List D) (lo hi : Option Int) : List D := (xs.drop (HT.sIx xs.length 0 lo)).take (HT.sIx xs.length xs.length hi - HT.sIx xs.length 0 lo)
theorem ev_slP {tl tu : TO} {lo hi : Option Int} (ha : EvD K ta σ H (.ptup ds)) (hl : EvO tl σ H lo) (hu : EvO tu σ H hi) : EvD K (tSl (rSlP K) ta tl tu) σ H (.ptup (cutD ds lo hi)) := fun H1 e Q q =>
  ha H1 e _ fun x H2 e2 r => hl H2 (e.trans e2) _ fun H3 e3 => hu H3 ((e.trans e2).trans e3) _ fun H4 e4 => by
    have r := r.mono (imm_same (e3.trans e4))
    have e5 := (e2.trans e3).trans e4
    obtain ⟨a, xs, o, rfl, h1, ho, h2⟩ := rep_ptup.mp r
    have hn : ds.length = xs.length := repL_len h2
    refine ⟨a, xs, rfl, .inl (.inr ⟨o, h1⟩), fun hw => ?_, fun hw p o2 hp ho2 => ?_⟩
    · have : cutD ds lo hi = ds := by
        unfold cutD
        rw [hn, hw.1, hw.2, List.drop_zero, Nat.sub_zero, ← hn, List.take_length]
      exact q _ H4 e5 (by rw [this]; exact r)
    · refine q _ _ (e5.trans (same_new hp)) (rep_ptN hp ho2 ?_)
      unfold cutD cutV
      rw [hn]
      exact repL_take _ (repL_drop _ h2)
/-- t * k -/
theorem repL_rep {vs : List V} (h : RepL K H ds vs) : ∀ n : Nat, RepL K H (List.replicate n ds).flatten (List.replicate n vs).flatten
  | 0 => repL_nil.mpr rfl
  | n + 1 => by
    rw [List.replicate_succ, List.replicate_succ, List.flatten_cons, List.flatten_cons]
    exact repL_app h (repL_rep h n)
theorem ev_repP (ha : EvD K ta σ H (.ptup ds)) (hb : EvD K tb σ H (.int i)) (h0 : ds ≠ []) (h1 : 1 ≤ i) (h2 : i ≤ 1000) (hz : ds.length ≤ 1000) : EvD K (tOp rRepP ta tb) σ H (.ptup (List.replicate i.toNat ds).flatten) := fun H1 e Q q =>
  ha H1 e _ fun x H2 e2 r => hb H2 (e.trans e2) _ fun y H3 e3 r' => by
    have r := r.mono (imm_same e3)
    obtain ⟨a, xs, o, rfl, h1', ho, h2'⟩ := rep_ptup.mp r
    have hn : xs ≠ [] := fun z => h0 (List.eq_nil_of_length_eq_zero (by rw [repL_len h2', z]; rfl))
    refine ⟨a, i, xs, o, rfl, rep_int.mp r', h1', ho, hn, h1, h2, by rw [← repL_len h2']; exact hz, fun e1 => ?_, fun e1 p o2 hp ho2 => ?_⟩
    · subst e1
      have : (List.replicate (1 : Int).toNat ds).flatten = ds := by simp
      exact q _ H3 (e2.trans e3) (by rw [this]; exact r)
    · exact q _ _ ((e2.trans e3).trans (same_new hp)) (rep_ptN hp ho2 (repL_rep h2' _))
/-- list + list, list * int, list slice: new lists -/
theorem em_catL (ha : EvD K ta σ H (.lst ds)) (hb : EvD K tb σ H (.lst es)) (hl : ds.length + es.length ≤ 1000000) : EvM K (tOp rCatL ta tb) σ H (.lst (ds ++ es)) := fun H1 e Q q =>
  ha H1 e _ fun x H2 e2 r => hb H2 (e.trans e2) _ fun y H3 e3 r' => by
    have r := r.mono (imm_same e3)
    obtain ⟨a, xs, o, rfl, h1, h2⟩ := rep_lst.mp r
    obtain ⟨b, ys, o', rfl, h1', h2'⟩ := rep_lst.mp r'
    exact ⟨a, b, xs, ys, rfl, rfl, .inr ⟨o, h1⟩, .inr ⟨o', h1'⟩, sz_of (by rw [← repL_len h2, ← repL_len h2']; exact hl), fun p hp => q p _ ((e2.trans e3).trans (same_new hp)) ((e2.trans e3).free hp) ⟨_, upd_same, (repL_app h2 h2').mono (imm_same (same_new hp))⟩⟩
theorem em_repL (ha : EvM K ta σ H (.lst ds)) (hb : EvD K tb σ H (.int i)) (h1 : 0 ≤ i) (h2 : ds.length * i.toNat ≤ 1000000) (h3 : i ≤ 1000000) : EvM K (tOp rRep ta tb) σ H (.lst (List.replicate i.toNat ds).flatten) := fun H1 e Q q =>
  ha H1 e _ fun p H2 e2 hp hm => hb H2 (e.trans e2) _ fun y H3 e3 r' => by
    obtain ⟨vs, h4, h5⟩ := hm
    refine ⟨p, i, vs, rfl, rep_int.mp r', e3 _ _ h4, by omega, by omega, sz_of (by rw [← repL_len h5]; exact h2), fun l hl => ?_⟩
    have e5 := e2.trans e3
    exact q l _ (e5.trans (same_new hl)) (e5.free hl) ⟨_, upd_same, (repL_rep h5 _).mono (imm_same (e3.trans (same_new hl)))⟩
theorem em_slL {tl tu : TO} {lo hi : Option Int} (ha : EvD K ta σ H (.lst ds)) (hl : EvO tl σ H lo) (hu : EvO tu σ H hi) : EvM K (tSl (rSlL K) ta tl tu) σ H (.lst (cutD ds lo hi)) := fun H1 e Q q =>
  ha H1 e _ fun x H2 e2 r => hl H2 (e.trans e2) _ fun H3 e3 => hu H3 ((e.trans e2).trans e3) _ fun H4 e4 => by
    have r := r.mono (imm_same (e3.trans e4))
    have e5 := (e2.trans e3).trans e4
    obtain ⟨a, xs, o, rfl, h1, h2⟩ := rep_lst.mp r
    refine ⟨a, xs, rfl, .inl (.inr ⟨o, h1⟩), fun p hp => q p _ (e5.trans (same_new hp)) (e5.free hp) ⟨_, upd_same, ?_⟩⟩
    refine RepL.mono (imm_same (same_new hp)) _ ?_
    unfold cutD cutV
    rw [repL_len h2]
    exact repL_take _ (repL_drop _ h2)
/-- slice of a list that may change -/
theorem em_slM {n k : Nat} {l : Addr} {tl tu : TO} {lo hi : Option Int} (c : Cf K H0 Hb σ H Γ ms) (hn : Γ[n]? = some (.at l)) (hk : ms[k]? = some (l, .lst ds)) (hl : EvO tl σ H lo) (hu : EvO tu σ H hi) : EvM K (tSl (rSlL K) (tVar n) tl tu) σ H (.lst (cutD ds lo hi)) := fun H1 e Q q => by
  refine ⟨.ref l, c.st.ref hn, hl H1 e _ fun H3 e3 => hu H3 (e.trans e3) _ fun H4 e4 => ?_⟩
  have e5 := e3.trans e4
  obtain ⟨xs, h1, h2⟩ := ((c.ext (e.trans e5)).mu _ (List.mem_of_getElem? hk)).2
  refine ⟨l, xs, rfl, .of h1, fun p hp => q p _ (e5.trans (same_new hp)) (e5.free hp) ⟨_, upd_same, ?_⟩⟩
  refine RepL.mono (imm_same (same_new hp)) _ ?_
  unfold cutD cutV
  rw [repL_len h2]
  exact repL_take _ (repL_drop _ h2)
theorem eo_none : EvO tNoPart σ H none := fun H1 _ Q q => q H1 (Same.refl H1)
theorem eo_int (h : EvD K te σ H (.int i)) : EvO (tPart te) σ H (some i) := fun H1 e Q q => h H1 e _ fun v H2 e2 r => ⟨i, rep_int.mp r, q H2 e2⟩
/-- sums, greatest, least -/
theorem repL_intV {ns : List Int} {vs : List V} (h : RepL K H (ns.map D.int) vs) : vs = ns.map V.int := repL_int_eq h
theorem ev_sumT {ns : List Int} (h : EvD K te σ H (.tup (ns.map .int))) : EvD K (tCB (rSumT K) (tCons te tNil)) σ H (.int ns.sum) := fun H1 e Q q =>
  h H1 e _ fun x H2 e2 r => by
    obtain ⟨a, vs, rfl, h2, h3⟩ := rep_tup.mp r
    rw [repL_intV h3] at h2
    exact ⟨a, ns, rfl, h2, q _ H2 e2 (rep_int.mpr rfl)⟩
theorem ev_sumL {ns : List Int} (h : EvD K te σ H (.lst (ns.map .int))) : EvD K (tCB (rSum K) (tCons te tNil)) σ H (.int ns.sum) := fun H1 e Q q =>
  h H1 e _ fun x H2 e2 r => by
    obtain ⟨a, vs, o, rfl, h2, h3⟩ := rep_lst.mp r
    rw [repL_intV h3] at h2
    exact ⟨a, ns, rfl, .inl (.inr ⟨o, h2⟩), q _ H2 e2 (rep_int.mpr rfl)⟩
theorem ev_maxD {ns : List Int} (h : EvD K te σ H (.lst (ns.map .int))) : EvD K (tCKw (rMaxD K) (tCons te tNil) (tCons (tC (.int i)) tNil)) σ H (.int (mxF i ns)) := fun H1 e Q q =>
  h H1 e _ fun x H2 e2 r => by
    obtain ⟨a, vs, o, rfl, h2, h3⟩ := rep_lst.mp r
    rw [repL_intV h3] at h2
    exact ⟨a, ns, i, rfl, rfl, .inl (.inr ⟨o, h2⟩), q _ H2 e2 (rep_int.mpr rfl)⟩
theorem ev_maxL {ns : List Int} {m : Int} (h : EvD K te σ H (.lst (ns.map .int))) (hm : m ∈ ns) (hb : ∀ y ∈ ns, y ≤ m) : EvD K (tCB (rMax K) (tCons te tNil)) σ H (.int m) := fun H1 e Q q =>
  h H1 e _ fun x H2 e2 r => by
    obtain ⟨a, vs, o, rfl, h2, h3⟩ := rep_lst.mp r
    rw [repL_intV h3] at h2
    refine ⟨a, ns, rfl, .inl (.inr ⟨o, h2⟩), List.length_pos_of_mem hm, fun m' h1 h2 => ?_⟩
    have e1 := h2 m hm
    have e2' := hb m' h1
    have : m' = m := by omega
    rw [this]; exact q _ H2 e2 (rep_int.mpr rfl)
theorem ev_minL {ns : List Int} {m : Int} (h : EvD K te σ H (.lst (ns.map .int))) (hm : m ∈ ns) (hb : ∀ y ∈ ns, m ≤ y) : EvD K (tCB (rMin K) (tCons te tNil)) σ H (.int m) := fun H1 e Q q =>
  h H1 e _ fun x H2 e2 r => by
    obtain ⟨a, vs, o, rfl, h2, h3⟩ := rep_lst.mp r
    rw [repL_intV h3] at h2
    refine ⟨a, ns, rfl, .inl (.inr ⟨o, h2⟩), List.length_pos_of_mem hm, fun m' h1 h2 => ?_⟩
    have e1 := h2 m hm
    have e2' := hb m' h1
    have : m' = m := by omega
    rw [this]; exact q _ H2 e2 (rep_int.mpr rfl)
theorem ev_max2 (ha : EvD K ta σ H (.int i)) (hb : EvD K tb σ H (.int j)) : EvD K (tCB (fun xs H Q => ∃ i j, xs = [.int i, .int j] ∧ Q (.int (if j > i then j else i)) H) (tCons ta (tCons tb tNil))) σ H (.int (if j > i then j else i)) := fun H1 e Q q =>
  ha H1 e _ fun x H2 e2 r => hb H2 (e.trans e2) _ fun y H3 e3 r' => ⟨i, j, by rw [rep_int.mp r, rep_int.mp r'], q _ H3 (e2.trans e3) (rep_int.mpr rfl)⟩
/-- x in t, x and t's items ints -/
theorem ev_inI {ns : List Int} (ha : EvD K ta σ H (.int i)) (hb : EvD K tb σ H (.tup (ns.map .int))) : EvD K (tOp (rIn K false) ta tb) σ H (.bl (decide (i ∈ ns))) := fun H1 e Q q =>
  ha H1 e _ fun x H2 e2 r => hb H2 (e.trans e2) _ fun y H3 e3 r' => by
    obtain ⟨a, vs, rfl, h2, h3⟩ := rep_tup.mp r'
    rw [repL_intV h3] at h2
    rw [rep_int.mp r]
    refine ⟨a, ns.map V.int, rfl, .inr h2, rfl, ?_, q _ H3 (e2.trans e3) (rep_bl.mpr ?_)⟩
    · rw [List.all_map]; exact List.all_eq_true.mpr fun _ _ => rfl
    · show V.bl (if false = true then !inV (.int i) (ns.map V.int) else inV (.int i) (ns.map V.int)) = _
      rw [if_neg Bool.false_ne_true]
      congr 1
      unfold inV
      rw [List.any_map, Bool.eq_iff_iff, List.any_eq_true, decide_eq_true_eq]
      constructor
      · rintro ⟨y, hy, e⟩
        have : y = i := by simpa [eqV] using e
        rw [← this]; exact hy
      · intro hm
        exact ⟨i, hm, by simp [eqV]⟩
/-- t.index(x) -/
theorem ev_tupIx {ks : List Int} {n : Nat} (ha : EvD K ta σ H (.key ks)) (hb : EvD K tb σ H (.int i)) (hj : ks[n]? = some i) (hno : ∀ m, m < n → ks[m]? ≠ some i) : EvD K (tTupIx ta tb) σ H (.int (n : Nat)) := fun H1 e Q q =>
  ha H1 e _ fun x H2 e2 r => by
    obtain ⟨b, rfl, hb1⟩ := rep_key.mp r
    refine ⟨b, ks, rfl, hb1, hb H2 (e.trans e2) _ fun y H3 e3 r' => ⟨(imm_same e3).key hb1, i, n, rep_int.mp r', hj, hno, q _ H3 (e2.trans e3) (rep_int.mpr rfl)⟩⟩
/-- an item of a list just made -/
theorem ev_ixFz (ha : EvM K ta σ H (.lst ds)) (hb : EvD K tb σ H (.int i)) (hx : atI ds i = some d) : EvD K (tOp (rIxL K) (tFz ta) tb) σ H d := ev_ixL (ev_fz ha) hb hx
/-! ### equality of ints in tuples and lists -/
mutual
def pyD : D → PyData
  | .non => .none
  | .bl b => .bool b
  | .int i => .int i
  | .str x => .str x
  | .tup ds => .tuple (pyDs ds)
  | .lst ds => .list (pyDs ds)
  | .ptup ds => .tuple (pyDs ds)
  | .dic _ _ => .none
def pyDs : List D → List PyData
  | [] => []
  | d :: ds => pyD d :: pyDs ds
end
mutual
def okD : D → Bool
  | .non => true
  | .bl _ => true
  | .int _ => true
  | .str _ => false
  | .tup ds => okDs ds
  | .lst ds => okDs ds
  | .ptup ds => okDs ds
  | .dic _ _ => false
def okDs : List D → Bool
  | [] => true
  | d :: ds => okD d && okDs ds
end
mutual
theorem dp_of : ∀ (d : D) {v : V}, okD d = true → Rep K H d v → Dp K H v (pyD d)
  | .non, _, _, h => by rw [rep_non.mp h]; simp only [pyD]; exact .non
  | .bl b, _, _, h => by rw [rep_bl.mp h]; simp only [pyD]; exact .bl b
  | .int i, _, _, h => by rw [rep_int.mp h]; simp only [pyD]; exact .int i
  | .str x, _, o, _ => by simp [okD] at o
  | .tup ds, _, o, h => by
    simp only [okD] at o
    obtain ⟨a, vs, rfl, h2, h3⟩ := rep_tup.mp h
    simp only [pyD]
    exact .tup h2 (dps_of ds o h3)
  | .lst ds, _, o, h => by
    simp only [okD] at o
    obtain ⟨a, vs, ob, rfl, h2, h3⟩ := rep_lst.mp h
    simp only [pyD]
    exact .lst (.inl (.inr ⟨ob, h2⟩)) (dps_of ds o h3)
  | .ptup ds, _, o, h => by
    simp only [okD] at o
    obtain ⟨a, vs, ob, rfl, h2, _, h3⟩ := rep_ptup.mp h
    simp only [pyD]
    exact .tup (.inl (.inr ⟨ob, h2⟩)) (dps_of ds o h3)
  | .dic _ _, _, o, _ => by simp [okD] at o
theorem dps_of : ∀ (ds : List D) {vs : List V}, okDs ds = true → RepL K H ds vs → DpAll K H vs (pyDs ds)
  | [], _, _, h => by rw [repL_nil.mp h]; simp only [pyDs]; exact .nil
  | d :: ds, _, o, h => by
    simp only [okDs, Bool.and_eq_true] at o
    obtain ⟨v, r, rfl, h2, h3⟩ := repL_cons.mp h
    simp only [pyDs]
    exact .cons (dp_of d o.1 h2) (dps_of ds o.2 h3)
end
theorem ev_eqP {b : Bool} (ha : EvD K ta σ H d1) (hb : EvD K tb σ H d2) (o1 : okD d1 = true) (o2 : okD d2 = true) (s1 : SeqAt.shaped (pyD d1) = true) (s2 : SeqAt.shaped (pyD d2) = true) (he : PyData.eqv (pyD d1) (pyD d2) = b) : EvD K (tOp (rEqD K) ta tb) σ H (.bl b) := fun H1 e Q q =>
  ha H1 e _ fun x H2 e2 r => hb H2 (e.trans e2) _ fun y H3 e3 r' => ⟨_, _, dp_of d1 o1 (r.mono (imm_same e3)), dp_of d2 o2 r', s1, s2, by rw [he]; exact q _ H3 (e2.trans e3) (rep_bl.mpr rfl)⟩
theorem ev_neP {b : Bool} (ha : EvD K ta σ H d1) (hb : EvD K tb σ H d2) (o1 : okD d1 = true) (o2 : okD d2 = true) (s1 : SeqAt.shaped (pyD d1) = true) (s2 : SeqAt.shaped (pyD d2) = true) (he : PyData.eqv (pyD d1) (pyD d2) = !b) : EvD K (tOp (rNeD K) ta tb) σ H (.bl b) := fun H1 e Q q =>
  ha H1 e _ fun x H2 e2 r => hb H2 (e.trans e2) _ fun y H3 e3 r' => ⟨_, _, dp_of d1 o1 (r.mono (imm_same e3)), dp_of d2 o2 r', s1, s2, by rw [he, Bool.not_not]; exact q _ H3 (e2.trans e3) (rep_bl.mpr rfl)⟩
abbrev pI (a b : Int) : D := .tup [.int a, .int b]
theorem eqv_pI (a b c d : Int) : PyData.eqv (pyD (pI a b)) (pyD (pI c d)) = decide (a = c ∧ b = d) := by
  simp only [pyD, pyDs, PyData.eqv, PyData.eqvAll, Bool.and_true]
  by_cases h1 : a = c <;> by_cases h2 : b = d <;> simp [h1, h2]
theorem shp_pI (a b : Int) : SeqAt.shaped (pyD (pI a b)) = true := by
  simp [pyD, pyDs, SeqAt.shaped, PyData.canLay0, PyData.canLayAll0, PyData.depth, PyData.depthAll]
theorem ev_eqII {a b c d : Int} (ha : EvD K ta σ H (pI a b)) (hb : EvD K tb σ H (pI c d)) : EvD K (tOp (rEqD K) ta tb) σ H (.bl (decide (a = c ∧ b = d))) :=
  ev_eqP ha hb rfl rfl (shp_pI _ _) (shp_pI _ _) (eqv_pI _ _ _ _)
theorem ev_neII {a b c d : Int} (ha : EvD K ta σ H (pI a b)) (hb : EvD K tb σ H (pI c d)) : EvD K (tOp (rNeD K) ta tb) σ H (.bl (!decide (a = c ∧ b = d))) :=
  ev_neP ha hb rfl rfl (shp_pI _ _) (shp_pI _ _) (by rw [eqv_pI, Bool.not_not])
/-! ### statements -/
/-- x.extend(e), e a list just made -/
theorem r_ext {n k : Nat} {l : Addr} (c : Cf K H0 Hb σ H Γ ms) (hn : Γ[n]? = some (.at l)) (hk : ms[k]? = some (l, .lst ds)) (h : EvM K te σ H (.lst es)) (hz : ds.length + es.length ≤ 1000000)
    (q : ∀ H', Cf K H0 Hb σ H' Γ (ms.set k (l, .lst (ds ++ es))) → Dn.nx σ H') : tDrop (tBM K "list" rExtend (tVar n) (tCons te tNil)) Dn σ H := by
  obtain ⟨h0, vs, h1, h2⟩ := c.mu _ (List.mem_of_getElem? hk)
  refine ⟨.ref l, c.st.ref hn, .inl ⟨rfl, vs, .of h1⟩, h H (Same.refl H) _ fun p H2 e hp hm => ?_⟩
  obtain ⟨ws, h3, h4⟩ := hm
  have h1' := e _ _ h1
  refine ⟨l, p, vs, ws, rfl, rfl, h1', h3, sz_of (by rw [← repL_len h2, ← repL_len h4]; exact hz), q _ ?_⟩
  have im : Imm H2 (upd H2 l (.lst (vs ++ ws))) := imm_upd (.inl (by rw [h1']; trivial))
  exact (c.ext e).chg k hk (by rw [h1']; trivial) ⟨_, upd_same, repL_app (h2.mono ((imm_same e).trans im)) (h4.mono im)⟩
/-- x.append(e), e a list just made -/
theorem r_setFz {n : Nat} (c : Cf K H0 Hb σ H Γ ms) (h : EvM K te σ H (.lst ds)) (k : ∀ σ' H', Same H H' → Cf K H0 Hb σ' H' (Γ.set n (.d (.lst ds))) ms → Dn.nx σ' H') : tAsg (tFz te) (gName n) Dn σ H := r_set c (ev_fz h) k
/-- a, b = x.pop() -/
theorem r_pop {n k : Nat} {l : Addr} {g : TG} {u : List G → List G} {js : List Nat} (c : Cf K H0 Hb σ H Γ ms) (hn : Γ[n]? = some (.at l)) (hk : ms[k]? = some (l, .lst (ds ++ [d]))) (hg : EvG K g d u js)
    (q : ∀ σ' H', Cf K H0 Hb σ' H' (u Γ) (ms.set k (l, .lst ds)) → Dn.nx σ' H') : tAsg (tBM0 K "list" rPop (tVar n)) g Dn σ H := by
  obtain ⟨h0, vs, h1, h2⟩ := c.mu _ (List.mem_of_getElem? hk)
  have hl : (ds ++ [d]).length = vs.length := repL_len h2
  have hlast : (ds ++ [d])[vs.length - 1]? = some d := by
    rw [← hl]; simp
  obtain ⟨v, hv, rv⟩ := repL_get h2 hlast
  refine ⟨.ref l, c.st.ref hn, .inl ⟨rfl, vs, .of h1⟩, l, vs, v, rfl, rfl, h1, hv, ?_⟩
  have im : Imm H (upd H l (.lst vs.dropLast)) := imm_upd (.inl (by rw [h1]; trivial))
  have c1 := c.chg k hk (o' := .lst vs.dropLast) (m' := .lst ds) (by rw [h1]; trivial) ⟨_, upd_same, by
    have e1 : vs.dropLast = vs.take (vs.length - 1) := List.dropLast_eq_take
    have e2 : ds = (ds ++ [d]).take (vs.length - 1) := by rw [← hl]; simp
    rw [e1, e2]
    exact RepL.mono (by rw [← e1]; exact im) _ (repL_take _ h2)⟩
  exact hg σ _ v _ (rv.mono im) fun σ' k1 _ => q σ' _ ⟨c1.same, c1.imm, k1 _ c1.st, c1.mu, c1.nd⟩
end
/-! ### promises of defs that give a new thing to be changed -/
def pSm (K : PySem.W.Frag) {α : Type} (args : α → List D) (pre : α → Prop) (res : α → Mo) : Sp := fun vs H Q _ => ∃ a, RepL K H (args a) vs ∧ pre a ∧ ∀ p H', Same H H' → H p = none → MoOk K H' p (res a) → Q (.ref p) H'
theorem pSm_len {K : PySem.W.Frag} {α : Type} {args : α → List D} {pre : α → Prop} {res : α → Mo} {n : Nat} (hn : ∀ a, (args a).length = n) : ∀ vs H Q E, pSm K args pre res vs H Q E → vs.length = n := fun vs H Q E h => by
  obtain ⟨a, h1, _⟩ := h
  rw [← repL_len h1, hn]
theorem em_call {K : PySem.W.Frag} {σ : L2.St} {H : Hp} {α : Type} {args : α → List D} {pre : α → Prop} {res : α → Mo} {ta : TA} {E : XK} (a : α) (h : EvA K ta σ H (args a)) (hp : pre a) : EvM K (tCall (pSm K args pre res) [] E ta) σ H (res a) := fun H1 e Q q =>
  h H1 e _ fun vs H2 e2 r => by
    show pSm K args pre res (vs ++ []) H2 Q E
    rw [List.append_nil]
    exact ⟨a, r, hp, fun p H3 e3 hn hm => q p H3 (e2.trans e3) (e2.free hn) hm⟩
section
variable {K : PySem.W.Frag} {σ : L2.St} {H H' H0 Hb : Hp} {Γ : List G} {ms : List (Addr × Mo)} {Dn : Ends}
/-- return x, x made by the body -/
theorem r_retM {n k : Nat} {l : Addr} {m : Mo} (c : Cf K H0 Hb σ H Γ ms) (hn : Γ[n]? = some (.at l)) (hk : ms[k]? = some (l, m)) (q : ∀ p H', Same H0 H' → H0 p = none → MoOk K H' p m → Dn.rt (.ref p) H') : tRet (tVar n) Dn σ H := by
  obtain ⟨h0, h1⟩ := c.mu _ (List.mem_of_getElem? hk)
  exact ⟨.ref l, c.st.ref hn, q l H c.same h0 h1⟩
theorem r_retE {te : TE} {m : Mo} (c : Cf K H0 Hb σ H Γ ms) (h : EvM K te σ H m) (q : ∀ p H', Same H0 H' → H0 p = none → MoOk K H' p m → Dn.rt (.ref p) H') : tRet te Dn σ H :=
  h H (Same.refl H) _ fun p H2 e hp hm => q p H2 (c.same.trans e) (c.same.free hp) hm
/-- a dict known for good behind a statement -/
theorem r_gzX {i k : Nat} {l : Addr} {t : List (List Int × D)} (c : Cf K H0 Hb σ H Γ ms) (hi : Γ[i]? = some (.at l)) (hk : ms[k]? = some (l, .dc t)) (q : ∀ H', Cf K H0 Hb σ H' (Γ.set i (.d (.dc t))) (ms.eraseIdx k) → Dn.nx σ H') :
    ∃ a u, σ[i]? = some (some (.ref a)) ∧ H a = some u ∧ Mut (some u) ∧ ∀ o, Dn.nx σ (upd H a (.frz o u)) := by
  obtain ⟨xs, h1, h2⟩ := mo_dc.mp (c.mu _ (List.mem_of_getElem? hk)).2
  have e := c.st.ref hi
  refine ⟨l, _, e, h1, trivial, fun o => q _ ?_⟩
  have c1 := (c.frz (o := o) k hk h1 trivial).setD (d := .dc t) (v := .ref l) i (rep_dc.mpr ⟨l, xs, o, rfl, upd_same, EnR.mono (imm_upd (.inl (by rw [h1]; trivial))) h2⟩)
  have es : σ.set i (some (.ref l)) = σ := by
    apply List.ext_getElem?
    intro j
    by_cases ej : i = j
    · subst ej
      rw [List.getElem?_set_self (List.getElem?_eq_some_iff.mp e).1, e]
    · rw [List.getElem?_set_ne ej]
  rw [es] at c1; exact c1
end
end Lw
/-! What the program computes, in plain Lean: sums, rows. -/
namespace Lw
open PySem PySem.Spec PyProof.Rows L2
theorem hu_of {k : Nat} {A : Around} (r : Room k A) : A.units + 1 < cLine := by have := r.un; omega
theorem hu0_of {k : Nat} {A : Around} (r : Room k A) : A.units < cLine := by have := r.un; omega
theorem hu2_of {k : Nat} {A : Around} (r : Room k A) : A.units + 2 < cLine := by have := r.un; omega
theorem hu64_of {k : Nat} {A : Around} (r : Room k A) : A.units + 64 < cLine := by have := r.un; omega
theorem EvM.is {K : PySem.W.Frag} {te : TE} {σ : L2.St} {H : Hp} {m m' : Mo} (h : EvM K te σ H m) (e : m = m') : EvM K te σ H m' := e ▸ h
theorem EvI.is {K : PySem.W.Frag} {wi : TI} {σ : L2.St} {H : Hp} {ds es : List D} (h : EvI K wi σ H ds) (e : ds = es) : EvI K wi σ H es := e ▸ h
section
variable {K : PySem.W.Frag} {σ : L2.St} {H H0 Hb : Hp} {te : TE} {Γ : List G} {ms : List (Addr × Mo)} {g : TG}
abbrev dQs (qs : List Rat) : List D := qs.map dQ
/-- [e for x in xs] -/
theorem em_map {wi : TI} {α : Type} {xs : List α} {enc : α → D} {vs : List Nat} (c : Cf K H0 Hb σ H Γ ms) (hi : EvI K wi σ H (xs.map enc)) (e : α → D) (u : α → List G → List G) {js : List Nat} (hjs : ∀ j ∈ js, j ∈ vs) (hg : ∀ a ∈ xs, EvG K g (enc a) (u a) js)
    (he : ∀ a ∈ xs, ∀ Hs σ' H', Cf K H0 Hs σ' H' (u a (vs.foldr (fun v g => g.set v .no) Γ)) ms → EvD K te σ' H' (e a)) (hl : xs.length < 1000000) : EvM K (tLc wi g tYes te vs) σ H (.lst (xs.map e)) :=
  (em_lc c hi (fun _ => true) e u hjs hg (fun _ _ _ _ _ _ => et_yes) (fun a ha _ Hs σ' H' c => he a ha Hs σ' H' c) hl).is (by
    have : gvn xs (fun _ => true) e = xs.map e := by unfold gvn; rw [List.filter_eq_self.mpr (fun _ _ => rfl)]
    rw [this])
/-- a, b = e -/
theorem r_asg {d : D} {Dn : Ends} {u : List G → List G} {js : List Nat} (c : Cf K H0 Hb σ H Γ ms) (h : EvD K te σ H d) (hg : EvG K g d u js) (k : ∀ σ' H', Same H H' → Cf K H0 Hb σ' H' (u Γ) ms → Dn.nx σ' H') : tAsg te g Dn σ H :=
  h H (Same.refl H) _ fun v H2 e r => hg σ H2 v _ r fun σ' k1 _ => k σ' H2 e (let c2 := c.ext e; ⟨c2.same, c2.imm, k1 _ c2.st, c2.mu, c2.nd⟩)
/-- a loop over xs as data -/
theorem r_forM {wi : TI} {α : Type} {xs : List α} {enc : α → D} {tb : TS} {Dn : Ends} (c : Cf K H0 Hb σ H Γ ms) (hi : EvI K wi σ H (xs.map enc)) (Γs : Nat → List G) (mss : Nat → List (Addr × Mo)) (hΓ : Le Γ (Γs 0)) (hm : ms = mss 0) (u : α → List G → List G) {js : List Nat}
    (hg : ∀ a ∈ xs, EvG K g (enc a) (u a) js)
    (step : ∀ Hs i (h : i < xs.length) σ' H', Cf K H0 Hs σ' H' (u xs[i] (Γs i)) (mss i) → tb { Dn with nx := fun σ H => Cf K H0 Hs σ H (Γs (i + 1)) (mss (i + 1)), ct := fun σ H => Cf K H0 Hs σ H (Γs (i + 1)) (mss (i + 1)), bk := Dn.nx } σ' H')
    (done : ∀ σ' H', Cf K H0 Hb σ' H' (Γs xs.length) (mss xs.length) → Dn.nx σ' H') : tFor wi g tb Dn σ H := by
  refine r_for c hi Γs mss hΓ hm (fun i Γ => if h : i < xs.length then u xs[i] Γ else Γ) (js := js) (fun i d e => ?_) (fun Hs i d σ' H' e h c' => ?_) (fun σ' H' c' => done σ' H' (by rw [List.length_map] at c'; exact c'))
  · rw [List.getElem?_map] at e
    obtain ⟨a, ha, rfl⟩ := Option.map_eq_some_iff.mp e
    obtain ⟨hi, rfl⟩ := List.getElem?_eq_some_iff.mp ha
    simp only [hi, dite_true]
    exact hg _ (List.getElem_mem hi)
  · have h' : i < xs.length := by rw [List.length_map] at h; exact h
    simp only [h', dite_true] at c'
    exact step Hs i h' σ' H' c'
/-- a loop with a ghost state -/
theorem r_forS {wi : TI} {α S : Type} {xs : List α} {enc : α → D} {tb : TS} {Dn : Ends} (c : Cf K H0 Hb σ H Γ ms) (hi : EvI K wi σ H (xs.map enc)) (s0 : S) (pr : Nat → S → Prop) (Γs : Nat → S → List G) (mss : Nat → S → List (Addr × Mo)) (p0 : pr 0 s0) (hΓ : Le Γ (Γs 0 s0)) (hm : ms = mss 0 s0) (u : α → List G → List G) {js : List Nat}
    (hg : ∀ a ∈ xs, EvG K g (enc a) (u a) js)
    (step : ∀ Hs i (h : i < xs.length) s σ' H', pr i s → Cf K H0 Hs σ' H' (u xs[i] (Γs i s)) (mss i s) → tb { Dn with nx := fun σ H => ∃ s, pr (i + 1) s ∧ Cf K H0 Hs σ H (Γs (i + 1) s) (mss (i + 1) s), ct := fun σ H => ∃ s, pr (i + 1) s ∧ Cf K H0 Hs σ H (Γs (i + 1) s) (mss (i + 1) s), bk := Dn.nx } σ' H')
    (done : ∀ s σ' H', pr xs.length s → Cf K H0 Hb σ' H' (Γs xs.length s) (mss xs.length s) → Dn.nx σ' H') : tFor wi g tb Dn σ H :=
  hi H (Same.refl H) _ fun J H1 e w => by
    obtain ⟨Gp, Y, g0, gm, wk, y⟩ := w.ex
    rw [List.length_map] at wk
    have c1 : Cf K H0 H1 σ H1 (Γs 0 s0) (mss 0 s0) := by
      have := ((c.ext e).le hΓ).base
      rw [hm] at this; exact this
    refine for_it wk (fun i σ' H' => ∃ s, pr i s ∧ Cf K H0 H1 σ' H' (Γs i s) (mss i s)) ⟨s0, p0, c1⟩ (fun i σ' H' hle p => ?_) (fun i x σ' H' H'' hlt p yy => ?_) (fun σ' H' p => ?_)
    · obtain ⟨s, _, p⟩ := p
      exact gm _ _ p.imm g0
    · obtain ⟨s, ps, p⟩ := p
      obtain ⟨sm, d, e1, r⟩ := y i _ x H'' (by rw [List.length_map]; exact hlt) (gm _ _ p.imm g0) yy
      rw [List.getElem?_map, List.getElem?_eq_getElem hlt] at e1
      cases e1
      have p' := p.ext sm
      exact hg _ (List.getElem_mem hlt) σ' H'' x _ r fun σ'' k _ => step H1 i hlt s σ'' H'' ps ⟨p'.same, p'.imm, k _ p'.st, p'.mu, p'.nd⟩
    · obtain ⟨s, ps, p⟩ := p
      exact done s σ' H' ps (p.back (c.imm.trans (imm_same e)))
theorem ei_rng {ta : TA} {n : Nat} (h : EvA K ta σ H [.int n]) (hn : n < 100000000) : EvI K (iRng1 ta) σ H ((List.range n).map fun i => .int (i : Nat)) :=
  (ei_rng1 h (by omega) (by omega)).is (by
    show (List.range (n : Int).toNat).map _ = _
    rw [Int.toNat_natCast]
    exact List.map_congr_left fun i _ => by rw [Int.zero_add])
theorem atI_dQs {qs : List Rat} {k : Nat} (h : k < qs.length) : atI (dQs qs) (k : Nat) = some (dQ (qs.getD k 0)) :=
  atI_nat (by rw [List.getElem?_map, List.getElem?_eq_getElem h]; simp [List.getD, h])
theorem rep1_flat {α : Type} (n : Nat) (x : α) : (List.replicate n [x]).flatten = List.replicate n x := by
  induction n with
  | zero => rfl
  | succ n ih => rw [List.replicate_succ, List.flatten_cons, ih]; rfl
theorem Cf.msE {ms' : List (Addr × Mo)} (c : Cf K H0 Hb σ H Γ ms) (e : ms = ms') : Cf K H0 Hb σ H Γ ms' := e ▸ c
theorem Cf.gE {Γ' : List G} (c : Cf K H0 Hb σ H Γ ms) (e : Γ = Γ') : Cf K H0 Hb σ H Γ' ms := e ▸ c
theorem ixN_nat {n j : Nat} (h : j < n) : ixN n (j : Int) = some j := by
  unfold ixN
  rw [if_pos (by omega), if_pos (by omega)]
  simp
theorem ixN_neg {n j : Nat} (h0 : 1 ≤ j) (h : j ≤ n) : ixN n (-(j : Int)) = some (n - j) := by
  unfold ixN
  rw [if_neg (by omega), if_pos (by omega)]
  congr 1; omega
theorem atI_nat {α : Type} {xs : List α} {j : Nat} {d : α} (h : xs[j]? = some d) : atI xs (j : Int) = some d := by
  unfold atI
  rw [ixN_nat (List.getElem?_eq_some_iff.mp h).1]; exact h
theorem atI_neg {α : Type} {xs : List α} {j : Nat} {d : α} (h0 : 1 ≤ j) (hj : j ≤ xs.length) (h : xs[xs.length - j]? = some d) : atI xs (-(j : Int)) = some d := by
  unfold atI
  rw [ixN_neg h0 hj]; exact h
theorem idx_spec : ∀ {k : List Int}, (1 : Int) ∈ k → k[k.idxOf 1]? = some 1 ∧ ∀ m, m < k.idxOf 1 → k[m]? ≠ some 1
  | [], h => by cases h
  | x :: k, h => by
    by_cases e : x = 1
    · subst e
      rw [List.idxOf_cons_self]
      exact ⟨rfl, fun m hm => absurd hm (Nat.not_lt_zero _)⟩
    · have hk : (1 : Int) ∈ k := (List.mem_cons.mp h).resolve_left (fun z => e z.symm)
      obtain ⟨h1, h2⟩ := idx_spec hk
      have e1 : (x :: k).idxOf 1 = k.idxOf 1 + 1 := by rw [List.idxOf_cons, beq_eq_false_iff_ne.mpr e]; rfl
      rw [e1]
      refine ⟨by simpa using h1, fun m hm => ?_⟩
      cases m with
      | zero => simp [e]
      | succ m => simpa using h2 m (by omega)
theorem take_succ_get {α : Type} (xs : List α) {i : Nat} (h : i < xs.length) : xs.take (i + 1) = xs.take i ++ [xs[i]] := by
  rw [List.take_add_one, List.getElem?_eq_getElem h]; rfl
theorem zipD_map {α : Type} (xs : List α) (f g : α → D) : zipD (xs.map f) (xs.map g) = xs.map fun x => .tup [f x, g x] := by
  apply List.ext_getElem?
  intro i
  by_cases h : i < xs.length
  · rw [zipD_get (by simpa using h), List.getElem?_map, List.getElem?_eq_getElem h]
    simp [List.getD, h]
  · rw [List.getElem?_eq_none (by rw [zipD_len]; simp; omega), List.getElem?_eq_none (by simp; omega)]
theorem zipD_zip {α β : Type} (xs : List α) (ys : List β) (f : α → D) (g : β → D) : zipD (xs.map f) (ys.map g) = (xs.zip ys).map fun p => .tup [f p.1, g p.2] := by
  apply List.ext_getElem?
  intro i
  by_cases h : i < min xs.length ys.length
  · have h1 : i < xs.length := by omega
    have h2 : i < ys.length := by omega
    rw [zipD_get (by simpa using h), List.getElem?_map, List.getElem?_eq_getElem (by simpa using h)]
    simp [List.getD, h1, h2]
  · rw [List.getElem?_eq_none (by rw [zipD_len]; simp; omega), List.getElem?_eq_none (by simp; omega)]
theorem enD_map {α : Type} (xs : List α) (f : α → D) (d : α) : enD (xs.map f) = (List.range xs.length).map fun i => .tup [.int (i : Nat), f (xs.getD i d)] := by
  unfold enD
  rw [List.length_map]
  refine List.map_congr_left fun i hi => ?_
  have h : i < xs.length := List.mem_range.mp hi
  simp [List.getD, h]
end
abbrev rLenQ (K : PySem.W.Frag) : List V → Hp → VK → Prop := fun xs H Q => ∃ p ys, xs = [.ref p] ∧ (SqL K H p ys ∨ SqT K H p ys) ∧ Q (.int ys.length) H
abbrev rInt1 : List V → Hp → VK → Prop := fun xs H Q => (∃ i, xs = [.int i] ∧ Q (.int i) H) ∨ ∃ k, xs = [.bl k] ∧ Q (.int (if k then 1 else 0)) H
/-! ### the fractions' calls -/
section
variable {K : PySem.W.Frag} {σ : L2.St} {H : Hp} {ta tb : TE} {a b : Rat}
theorem ev_add (ha : EvD K ta σ H (dQ a)) (hb : EvD K tb σ H (dQ b)) (hp : Big a b) : EvD K (tCall (sp_added K) [] E0 (tCons ta (tCons tb tNil))) σ H (dQ (a + b)) := ev_cQQ (res := fun a b => dQ (a + b)) ha hb hp
theorem ev_sub (ha : EvD K ta σ H (dQ a)) (hb : EvD K tb σ H (dQ b)) (hp : Big a b) : EvD K (tCall (sp_less K) [] E0 (tCons ta (tCons tb tNil))) σ H (dQ (a - b)) := ev_cQQ (res := fun a b => dQ (a - b)) ha hb hp
theorem ev_mul (ha : EvD K ta σ H (dQ a)) (hb : EvD K tb σ H (dQ b)) (hp : Big a b) : EvD K (tCall (sp_multiplied K) [] E0 (tCons ta (tCons tb tNil))) σ H (dQ (a * b)) := ev_cQQ (res := fun a b => dQ (a * b)) ha hb hp
theorem ev_div (ha : EvD K ta σ H (dQ a)) (hb : EvD K tb σ H (dQ b)) (hp : Big a b) (h0 : b ≠ 0) : EvD K (tCall (sp_divided K) [] E0 (tCons ta (tCons tb tNil))) σ H (dQ (a / b)) := ev_cQQ (res := fun a b => dQ (a / b)) ha hb ⟨hp, h0⟩
theorem ev_trn (ha : EvD K ta σ H (dQ a)) : EvD K (tCall (sp_turned K) [] E0 (tCons ta tNil)) σ H (dQ (-a)) := ev_cQ (pre := fun _ => True) (res := fun a => dQ (-a)) ha trivial
theorem ev_bes (ha : EvD K ta σ H (dQ a)) (hb : EvD K tb σ H (dQ b)) (hp : Big a b) : EvD K (tCall (sp_beside K) [] E0 (tCons ta (tCons tb tNil))) σ H (.int (sgn a b)) := ev_cQQ (res := fun a b => .int (sgn a b)) ha hb hp
end
/-- the terms of a sum -/
abbrev Ts : Type := List (List Int × Rat)
abbrev tQ (ts : Ts) : List (List Int × D) := ts.map fun e => (e.1, dQ e.2)
abbrev eT (e : List Int × Rat) : D := prD (e.1, dQ e.2)
abbrev dT (ts : Ts) : List D := ts.map eT
theorem dT_eq (ts : Ts) : (tQ ts).map prD = dT ts := by rw [List.map_map]; rfl
abbrev dS (m : Nat) (ts : Ts) : D := .tup [.int m, .ptup (dT ts)]
def deg (ts : Ts) : Int := mxF 0 (ts.map fun e => e.1.sum)
/-- the letter of a term of degree 1; m: none -/
def ltr (m : Nat) (k : List Int) : Nat := if (1 : Int) ∈ k then k.idxOf 1 else m
def numsOf (m : Nat) (ts : Ts) : List Rat := ts.foldl (fun acc e => acc.set (ltr m e.1) e.2) (List.replicate (m + 1) 0)
theorem numsOf_len (m : Nat) (ts : Ts) : (numsOf m ts).length = m + 1 := by
  have : ∀ (ts : Ts) (acc : List Rat), (ts.foldl (fun acc e => acc.set (ltr m e.1) e.2) acc).length = acc.length := by
    intro ts
    induction ts with
    | nil => intro acc; rfl
    | cons e ts ih => intro acc; rw [List.foldl_cons, ih]; simp
  rw [numsOf, this]; simp
def unitW (n j : Nat) : List Rat := (List.replicate n 0).set j 1
structure Rw where
  n : List Rat
  w : List Rat
  s : Bool
abbrev dR (r : Rw) : D := .tup [.lst (dQs r.n), .lst (dQs r.w), .bl r.s]
abbrev dRs (rs : List Rw) : List D := rs.map dR
def SzL (k : Nat) (qs : List Rat) : Prop := ∀ q ∈ qs, Sz k q
theorem ev_lenQ {K : PySem.W.Frag} {σ : L2.St} {H : Hp} {ta : TE} {qs : List Rat} (h : EvD K ta σ H (.lst (dQs qs))) : EvD K (tCB (rLenQ K) (tCons ta tNil)) σ H (.int (qs.length : Int)) := (ev_lenL h).is (by rw [List.length_map])
theorem ev_succN {K : PySem.W.Frag} {σ : L2.St} {H : Hp} {ta : TE} {a : Nat} (h : EvD K ta σ H (.int (a : Nat))) : EvD K (tOp (rI0 fun i j => .int (i + j)) ta (tC (.int 1))) σ H (.int ((a + 1 : Nat) : Int)) := (ev_iI (f := fun i j => i + j) h ev_int).is (by rw [Int.natCast_add]; rfl)
theorem ev_noN {K : PySem.W.Frag} {σ : L2.St} {H : Hp} {ta : TE} (h : EvD K ta σ H .non) : EvD K (tOp rIsN ta (tC .non)) σ H (.bl true) := ev_isN h
theorem ev_noT {K : PySem.W.Frag} {σ : L2.St} {H : Hp} {ta : TE} {ds : List D} (h : EvD K ta σ H (.tup ds)) : EvD K (tOp rIsN ta (tC .non)) σ H (.bl false) := ev_isN h
theorem ev_noP {K : PySem.W.Frag} {σ : L2.St} {H : Hp} {ta : TE} {ds : List D} (h : EvD K ta σ H (.ptup ds)) : EvD K (tOp rIsN ta (tC .non)) σ H (.bl false) := ev_isN h
theorem SzL.get {k : Nat} {qs : List Rat} (h : SzL k qs) (hk : 1 ≤ k) (i : Nat) : Sz k (qs.getD i 0) := by
  by_cases hi : i < qs.length
  · simp only [List.getD, List.getElem?_eq_getElem hi, Option.getD_some]; exact h _ (List.getElem_mem hi)
  · simp only [List.getD, List.getElem?_eq_none (Nat.le_of_not_lt hi), Option.getD_none]; exact Sz.zero.mono hk
def blend (a b : List Rat) (f g : Rat) : List Rat := (a.zip b).map fun p => p.1 * f + p.2 * g
def joinR (r q : Rw) (k : Nat) : Rw := ⟨blend r.n q.n (-(q.n.getD k 0)) (r.n.getD k 0), blend r.w q.w (-(q.n.getD k 0)) (r.n.getD k 0), r.s || q.s⟩
def coef (k : Nat) (r : Rw) : Rat := r.n.getD k 0
def putOut (rows : List Rw) (k : Nat) : List Rw :=
  rows.filter (fun r => decide (coef k r = 0)) ++ (rows.filter fun r => decide (0 < coef k r)).flatMap fun r => (rows.filter fun r => decide (coef k r < 0)).map fun q => joinR r q k
def sysAt (rows : List Rw) : Nat → List Rw
  | 0 => rows
  | k + 1 => putOut (sysAt rows k) k
def sysOf (rows : List Rw) (m : Nat) : List (List Rw) := (List.range (m + 1)).map (sysAt rows)
def lastN (r : Rw) : Rat := r.n.getD (r.n.length - 1) 0
def badP (r : Rw) : Bool := decide (lastN r < 0) || (decide (lastN r = 0) && r.s)
def badRow (rows : List Rw) : Option Rw := rows.find? badP
/-- from column j on, n columns -/
def restSum (ns spot : List Rat) (j n : Nat) (acc : Rat) : Rat := (List.range n).foldl (fun t i => t + ns.getD (j + i) 0 * spot.getD (j + i) 0) acc
def boundOf (r : Rw) (k : Nat) (spot : List Rat) : Rat := (-(restSum r.n spot (k + 1) (r.n.length - 1 - (k + 1)) (lastN r))) / coef k r
def greatest : List Rat → Option Rat
  | [] => none
  | x :: xs => some (xs.foldl (fun a y => if a < y then y else a) x)
def numberFor (rows : List Rw) (k : Nat) (spot : List Rat) : Rat :=
  match greatest ((rows.filter fun r => decide (0 < coef k r)).map fun r => boundOf r k spot), greatest (((rows.filter fun r => decide (coef k r < 0)).map fun r => boundOf r k spot).map fun q => -q) with
  | none, none => 0
  | none, some h => -h - 1
  | some l, none => l + 1
  | some l, some h => (l - h) / 2
/-- letters j - 1, .., 0 -/
def spotDown (rows : List Rw) : Nat → List Rat → List Rat
  | 0, spot => spot
  | j + 1, spot => spotDown rows j (spot.set j (numberFor (sysAt rows j) j spot))
def rimRows (m : Nat) (rims : List Ts) : List Rw := (List.range rims.length).map fun k => ⟨numsOf m (rims.getD k []), unitW (rims.length + 1) k, false⟩
end Lw
/-! The module of rims, walked. -/
namespace Lw
open PySem PySem.Spec PyProof.Rows L2
abbrev st_degree : Stmt := top 20
abbrev N_degree : List Str := ["one", "powers", "number"]
theorem sc_degree : FnScope N_degree ["one"] (defScope st_degree) := ⟨rfl, rfl, rfl, by decide +kernel, rfl, by decide +kernel, by decide +kernel⟩

abbrev st_need_straight : Stmt := top 55
abbrev N_need_straight : List Str := ["some", "one"]
theorem sc_need_straight : FnScope N_need_straight ["some"] (defScope st_need_straight) := ⟨rfl, rfl, rfl, by decide +kernel, rfl, by decide +kernel, by decide +kernel⟩

abbrev st_numbers_of : Stmt := top 56
abbrev N_numbers_of : List Str := ["one", "found", "powers", "number", "at"]
theorem sc_numbers_of : FnScope N_numbers_of ["one"] (defScope st_numbers_of) := ⟨rfl, rfl, rfl, by decide +kernel, rfl, by decide +kernel, by decide +kernel⟩

abbrev st_unit_weights : Stmt := top 57
abbrev N_unit_weights : List Str := ["many", "at", "found"]
theorem sc_unit_weights : FnScope N_unit_weights ["many", "at"] (defScope st_unit_weights) := ⟨rfl, rfl, rfl, by decide +kernel, rfl, by decide +kernel, by decide +kernel⟩

abbrev st_rim_rows : Stmt := top 58
abbrev N_rim_rows : List Str := ["rims", "k", "rim"]
theorem sc_rim_rows : FnScope N_rim_rows ["rims"] (defScope st_rim_rows) := ⟨rfl, rfl, rfl, by decide +kernel, rfl, by decide +kernel, by decide +kernel⟩

abbrev st_blended : Stmt := top 59
abbrev N_blended : List Str := ["ones", "others", "factor", "other_factor", "found", "one", "other"]
theorem sc_blended : FnScope N_blended ["ones", "others", "factor", "other_factor"] (defScope st_blended) := ⟨rfl, rfl, rfl, by decide +kernel, rfl, by decide +kernel, by decide +kernel⟩

abbrev st_joined : Stmt := top 60
abbrev N_joined : List Str := ["one", "other", "letter", "factor", "other_factor", "numbers", "weights"]
theorem sc_joined : FnScope N_joined ["one", "other", "letter"] (defScope st_joined) := ⟨rfl, rfl, rfl, by decide +kernel, rfl, by decide +kernel, by decide +kernel⟩

abbrev st_put_out : Stmt := top 61
abbrev N_put_out : List Str := ["rows", "letter", "signs", "row", "found", "sign", "above", "below", "one", "other"]
theorem sc_put_out : FnScope N_put_out ["rows", "letter"] (defScope st_put_out) := ⟨rfl, rfl, rfl, by decide +kernel, rfl, by decide +kernel, by decide +kernel⟩

abbrev st_systems_of : Stmt := top 62
abbrev N_systems_of : List Str := ["rows", "many", "found", "letter"]
theorem sc_systems_of : FnScope N_systems_of ["rows", "many"] (defScope st_systems_of) := ⟨rfl, rfl, rfl, by decide +kernel, rfl, by decide +kernel, by decide +kernel⟩

abbrev KtQ (K : PySem.W.Frag) (mg : Str → Option Value) (x : Str) (q : Rat) : Prop := Kt K mg x [.int q.num, .int (q.den : Int)]
abbrev sp_degree (K : PySem.W.Frag) : Sp := pSp K (fun p : Nat × Ts => [dS p.1 p.2]) (fun p => p.2.length < 1000000) fun p => .int (deg p.2)
abbrev dSs (m : Nat) (rims : List Ts) : List D := rims.map fun ts => dS m ts
abbrev sp_need_straight (K : PySem.W.Frag) : Sp := pSp K (fun p : Nat × List Ts => [.lst (dSs p.1 p.2)]) (fun p => ∀ ts ∈ p.2, ts.length < 1000000 ∧ deg ts ≤ 1) fun p => .non
abbrev sp_numbers_of (K : PySem.W.Frag) : Sp := pSp K (fun p : Nat × Ts => [dS p.1 p.2]) (fun p => p.1 < 100000 ∧ ∀ e ∈ p.2, e.1.length = p.1) fun p => .lst (dQs (numsOf p.1 p.2))
abbrev sp_unit_weights (K : PySem.W.Frag) : Sp := pSp K (fun p : Nat × Int => [.int p.1, .int p.2]) (fun p => p.1 < 100000 ∧ ∃ j, ixN p.1 p.2 = some j) fun p => .lst (dQs (unitW p.1 ((ixN p.1 p.2).getD 0)))
abbrev sp_rim_rows (K : PySem.W.Frag) : Sp := pSp K (fun p : Nat × List Ts => [.lst (dSs p.1 p.2)]) (fun p => p.1 < 100000 ∧ p.2.length < 1000 ∧ ∀ ts ∈ p.2, ∀ e ∈ ts, e.1.length = p.1) fun p => .lst (dRs (rimRows p.1 p.2))
abbrev sp_blended (K : PySem.W.Frag) : Sp := pSp K (fun p : (List Rat × List Rat) × Rat × Rat => [.lst (dQs p.1.1), .lst (dQs p.1.2), dQ p.2.1, dQ p.2.2]) (fun p => p.1.1.length < 1000 ∧ SzL 600 p.1.1 ∧ SzL 600 p.1.2 ∧ Sz 600 p.2.1 ∧ Sz 600 p.2.2) fun p => .lst (dQs (blend p.1.1 p.1.2 p.2.1 p.2.2))
def RwOk (k : Nat) (r : Rw) : Prop := r.n.length < 1000 ∧ r.w.length < 1000 ∧ SzL k r.n ∧ SzL k r.w
abbrev sp_joined (K : PySem.W.Frag) : Sp := pSp K (fun p : (Rw × Rw) × Nat => [dR p.1.1, dR p.1.2, .int p.2]) (fun p => RwOk 600 p.1.1 ∧ RwOk 600 p.1.2 ∧ p.2 < p.1.1.n.length ∧ p.2 < p.1.2.n.length) fun p => dR (joinR p.1.1 p.1.2 p.2)
abbrev sp_put_out (K : PySem.W.Frag) : Sp := pSp K (fun p : List Rw × Nat => [.lst (dRs p.1), .int p.2]) (fun p => p.1.length < 500 ∧ ∀ r ∈ p.1, RwOk 600 r ∧ p.2 < r.n.length) fun p => .lst (dRs (putOut p.1 p.2))
abbrev sp_systems_of (K : PySem.W.Frag) : Sp := pSp K (fun p : List Rw × Nat => [.lst (dRs p.1), .int p.2]) (fun p => p.2 < 100000 ∧ ∀ k, k < p.2 → (sysAt p.1 k).length < 500 ∧ ∀ r ∈ sysAt p.1 k, RwOk 600 r ∧ k < r.n.length) fun p => .lst ((sysOf p.1 p.2).map fun rs => .lst (dRs rs))
section
variable {K : PySem.W.Frag} {σ : L2.St} {H : Hp} {ta tb tc td : TE}
theorem ev_degree {m : Nat} {ts : Ts} (ha : EvD K ta σ H (dS m ts)) (hl : ts.length < 1000000) : EvD K (tCall (sp_degree K) [] E0 (tCons ta tNil)) σ H (.int (deg ts)) :=
  ev_call (args := fun p : Nat × Ts => [dS p.1 p.2]) (pre := fun p => p.2.length < 1000000) (res := fun p => .int (deg p.2)) (m, ts) (ea_cons ha ea_nil) hl
theorem ev_numbers_of {m : Nat} {ts : Ts} (ha : EvD K ta σ H (dS m ts)) (hm : m < 100000) (hk : ∀ e ∈ ts, e.1.length = m) : EvD K (tCall (sp_numbers_of K) [] E0 (tCons ta tNil)) σ H (.lst (dQs (numsOf m ts))) :=
  ev_call (args := fun p : Nat × Ts => [dS p.1 p.2]) (pre := fun p => p.1 < 100000 ∧ ∀ e ∈ p.2, e.1.length = p.1) (res := fun p => .lst (dQs (numsOf p.1 p.2))) (m, ts) (ea_cons ha ea_nil) ⟨hm, hk⟩
theorem ev_unit_weights {n j : Nat} {i : Int} (ha : EvD K ta σ H (.int n)) (hb : EvD K tb σ H (.int i)) (hn : n < 100000) (hj : ixN n i = some j) : EvD K (tCall (sp_unit_weights K) [] E0 (tCons ta (tCons tb tNil))) σ H (.lst (dQs (unitW n j))) :=
  (ev_call (args := fun p : Nat × Int => [.int p.1, .int p.2]) (pre := fun p => p.1 < 100000 ∧ ∃ j, ixN p.1 p.2 = some j) (res := fun p => .lst (dQs (unitW p.1 ((ixN p.1 p.2).getD 0)))) (n, i) (ea_cons ha (ea_cons hb ea_nil)) ⟨hn, j, hj⟩).is (by rw [hj]; rfl)
theorem ev_rim_rows {m : Nat} {rims : List Ts} (ha : EvD K ta σ H (.lst (dSs m rims))) (hm : m < 100000) (hl : rims.length < 1000) (hk : ∀ ts ∈ rims, ∀ e ∈ ts, e.1.length = m) : EvD K (tCall (sp_rim_rows K) [] E0 (tCons ta tNil)) σ H (.lst (dRs (rimRows m rims))) :=
  ev_call (args := fun p : Nat × List Ts => [.lst (dSs p.1 p.2)]) (pre := fun p => p.1 < 100000 ∧ p.2.length < 1000 ∧ ∀ ts ∈ p.2, ∀ e ∈ ts, e.1.length = p.1) (res := fun p => .lst (dRs (rimRows p.1 p.2))) (m, rims) (ea_cons ha ea_nil) ⟨hm, hl, hk⟩
theorem ev_blended {a b : List Rat} {f g : Rat} (ha : EvD K ta σ H (.lst (dQs a))) (hb : EvD K tb σ H (.lst (dQs b))) (hc : EvD K tc σ H (dQ f)) (hd : EvD K td σ H (dQ g)) (hl : a.length < 1000) (h1 : SzL 600 a) (h2 : SzL 600 b) (h3 : Sz 600 f) (h4 : Sz 600 g) :
    EvD K (tCall (sp_blended K) [] E0 (tCons ta (tCons tb (tCons tc (tCons td tNil))))) σ H (.lst (dQs (blend a b f g))) :=
  ev_call (args := fun p : (List Rat × List Rat) × Rat × Rat => [.lst (dQs p.1.1), .lst (dQs p.1.2), dQ p.2.1, dQ p.2.2]) (pre := fun p => p.1.1.length < 1000 ∧ SzL 600 p.1.1 ∧ SzL 600 p.1.2 ∧ Sz 600 p.2.1 ∧ Sz 600 p.2.2) (res := fun p => .lst (dQs (blend p.1.1 p.1.2 p.2.1 p.2.2))) ((a, b), f, g) (ea_cons ha (ea_cons hb (ea_cons hc (ea_cons hd ea_nil)))) ⟨hl, h1, h2, h3, h4⟩
theorem ev_joined {r q : Rw} {k : Nat} (ha : EvD K ta σ H (dR r)) (hb : EvD K tb σ H (dR q)) (hc : EvD K tc σ H (.int k)) (h1 : RwOk 600 r) (h2 : RwOk 600 q) (h3 : k < r.n.length) (h4 : k < q.n.length) : EvD K (tCall (sp_joined K) [] E0 (tCons ta (tCons tb (tCons tc tNil)))) σ H (dR (joinR r q k)) :=
  ev_call (args := fun p : (Rw × Rw) × Nat => [dR p.1.1, dR p.1.2, .int p.2]) (pre := fun p => RwOk 600 p.1.1 ∧ RwOk 600 p.1.2 ∧ p.2 < p.1.1.n.length ∧ p.2 < p.1.2.n.length) (res := fun p => dR (joinR p.1.1 p.1.2 p.2)) ((r, q), k) (ea_cons ha (ea_cons hb (ea_cons hc ea_nil))) ⟨h1, h2, h3, h4⟩
theorem ev_put_out {rows : List Rw} {k : Nat} (ha : EvD K ta σ H (.lst (dRs rows))) (hb : EvD K tb σ H (.int k)) (hl : rows.length < 500) (hr : ∀ r ∈ rows, RwOk 600 r ∧ k < r.n.length) : EvD K (tCall (sp_put_out K) [] E0 (tCons ta (tCons tb tNil))) σ H (.lst (dRs (putOut rows k))) :=
  ev_call (args := fun p : List Rw × Nat => [.lst (dRs p.1), .int p.2]) (pre := fun p => p.1.length < 500 ∧ ∀ r ∈ p.1, RwOk 600 r ∧ p.2 < r.n.length) (res := fun p => .lst (dRs (putOut p.1 p.2))) (rows, k) (ea_cons ha (ea_cons hb ea_nil)) ⟨hl, hr⟩
theorem ev_systems_of {rows : List Rw} {m : Nat} (ha : EvD K ta σ H (.lst (dRs rows))) (hb : EvD K tb σ H (.int m)) (hm : m < 100000) (hr : ∀ k, k < m → (sysAt rows k).length < 500 ∧ ∀ r ∈ sysAt rows k, RwOk 600 r ∧ k < r.n.length) : EvD K (tCall (sp_systems_of K) [] E0 (tCons ta (tCons tb tNil))) σ H (.lst ((sysOf rows m).map fun rs => .lst (dRs rs))) :=
  ev_call (args := fun p : List Rw × Nat => [.lst (dRs p.1), .int p.2]) (pre := fun p => p.2 < 100000 ∧ ∀ k, k < p.2 → (sysAt p.1 k).length < 500 ∧ ∀ r ∈ sysAt p.1 k, RwOk 600 r ∧ k < r.n.length) (res := fun p => .lst ((sysOf p.1 p.2).map fun rs => .lst (dRs rs))) (rows, m) (ea_cons ha (ea_cons hb ea_nil)) ⟨hm, hr⟩
end
section
variable {P : Program} {w : World} {K : PySem.W.Frag} {mg : Str → Option Value} {base : Heap} {f : Addr} {fd : FuncData}
theorem ok_degree (F : FnP K "degree" st_degree f fd) (B : Bl mg) : FnOk P w K mg base CX0 1 f fd ["one"] (sp_degree K) := by
  refine F.ok sc_degree (pSp_len fun _ => rfl) (fun cdv A outer s H vs Q E hr h => ?_)
  obtain ⟨⟨m, ts⟩, hv, hl, kq⟩ := h
  have nd := sc_degree.nd
  have c : Cf K H H (L2.start N_degree vs) H [.d (dS m ts), .no, .no] [] := Cf.start hv rfl
  refine ⟨_, PSs.nox (pss_one (ps_ret (pe_callBK (crk_maxD (by rfl) (by exact hu64_of hr)) (by rfl) B.max (by decide +kernel) (pa_cons (pe_fz (pe_lc (own := [("powers", 1), ("number", 2)]) (g := (gTup K 2 (gCons (gName 1) (gCons (gName 2) gNil)))) (tt := tYes) (te := (tCB (rSumT K) (tCons (tVar 1) tNil))) (by rfl) nd (pi_tup (pe_ix ix_tup (pv 0) pe_int (fun _ _ => rfl))) (blkOk_by (own := [("powers", 1), ("number", 2)]) (N := N_degree) (sc := defScope st_degree) (by decide +kernel)) (fun _ _ _ _ _ => (pg_tup rfl (pgs_cons (pg_name (i := 1) nd rfl (Or.inl rfl)) (pgs_cons (pg_name (i := 2) nd rfl (Or.inl rfl)) pgs_nil)))) (fun _ _ _ _ _ => pts_nil) (fun _ _ _ _ _ => (pe_callB (cr_sumT (by rfl)) (by rfl) B.sum (by decide +kernel) (pa_cons (pv 1) pa_nil))))) pa_nil) (pk_cons pe_int pk_nil)))), ?_⟩
  refine r_ret c (d := .int (deg ts)) (ev_maxD (ns := ts.map fun e : List Int × Rat => e.1.sum) (ev_fz ((em_map c (xs := ts) (enc := eT) (ei_tup (ev_pt (ev_ixT (ev_var c rfl) ev_int rfl))) (fun e => .int e.1.sum) _ (by decide) (fun e _ => eg_tup (egs_cons eg_name (egs_cons eg_name egs_nil)) rfl)
    (fun e _ Hs σ2 H2 c2 => ev_sumT (ev_pt (ev_var c2 rfl))) hl).is ?_))) kq
  rw [List.map_map]; rfl
theorem ok_need_straight (F : FnP K "need_straight" st_need_straight f fd) (C_degree : Fc P w K mg base "degree" 1 ["one"] (sp_degree K)) : FnOk P w K mg base CX0 2 f fd ["some"] (sp_need_straight K) := by
  refine F.ok sc_need_straight (pSp_len fun _ => rfl) (fun cdv A outer s H vs Q E hr h => ?_)
  obtain ⟨⟨m, rims⟩, hv, hl, kq⟩ := h
  have nd := sc_need_straight.nd
  have c : Cf K H H (L2.start N_need_straight vs) H [.d (.lst (dSs m rims)), .no] [] := Cf.start hv rfl
  refine ⟨_, PSs.nox (pss_one (ps_for PassesOwn.never rfl (pi_list (pv 0)) (pg_name (i := 1) nd rfl (Or.inl rfl))
    (pss_one (ps_if (pt_cmpR op_gt (pe_cc C_degree hr (by decide) (by rfl) (pa_cons (pv 1) pa_nil)) pe_int (nomark _))
    (pss_one ps_never)
    pss_nil)))), ?_⟩
  refine r_for c (ei_list (ev_var c rfl)) (fun _ => [.d (.lst (dSs m rims)), .no]) (fun _ => []) (Le.refl _) rfl (fun i Γ => Γ.set 1 (.d ((dSs m rims).getD i .non))) (js := [1]) (fun i d e => by rw [getD_of e]; exact eg_name) (fun Hs i d σ2 H2 e hi c2 => ?_) fun σ2 H2 c2 => ?_
  · have hi' : i < rims.length := by simpa using hi
    have e1 : (dSs m rims).getD i .non = dS m rims[i] := by simp [List.getD, hi']
    rw [e1] at c2
    have hm := hl _ (List.getElem_mem hi')
    refine r_if c2 (et_t (ev_iB (ev_call (args := fun p : Nat × Ts => [dS p.1 p.2]) (m, rims[i]) (ea_cons (ev_var c2 rfl) ea_nil) hm.1) ev_int)) (fun ht => ?_) fun ht H3 e3 c3 => r_next (c3.le (.keep (.drop .nil)))
    have := of_decide_eq_true ht
    have h2 : deg rims[i] ≤ 1 := hm.2
    exact absurd h2 (Int.not_le.mpr this)
  · exact kq _ _ c2.same (rep_non.mpr rfl)
theorem ok_numbers_of (F : FnP K "numbers_of" st_numbers_of f fd) (T_NOUGHT_fractions : KtQ K mg "NOUGHT_fractions" 0) : FnOk P w K mg base CX0 1 f fd ["one"] (sp_numbers_of K) := by
  refine F.ok sc_numbers_of (pSp_len fun _ => rfl) (fun cdv A outer s H vs Q E hr h => ?_)
  obtain ⟨⟨m, ts⟩, hv, ⟨hm, hk⟩, kq⟩ := h
  obtain ⟨a_NOUGHT_fractions, g_NOUGHT_fractions, k0⟩ := T_NOUGHT_fractions
  have nd := sc_numbers_of.nd
  have hm : m < 100000 := hm
  have hk : ∀ e ∈ ts, e.1.length = m := hk
  have c : Cf K H H (L2.start N_numbers_of vs) H [.d (dS m ts), .no, .no, .no, .no] [] := Cf.start hv rfl
  refine ⟨_, PSs.nox (pss_cons (ps_set (i := 1) nd rfl (Or.inl rfl) (pe_op op_rep (pe_lst (pa_cons (pe_glob (v := .ref a_NOUGHT_fractions) (by rfl) g_NOUGHT_fractions rfl) pa_nil)) (pe_op op_add (pe_ix ix_tup (pv 0) pe_int (fun _ _ => rfl)) pe_int)))
    (pss_cons (ps_for PassesOwn.never rfl (pi_tup (pe_ix ix_tup (pv 0) pe_int (fun _ _ => rfl))) (pg_tup rfl (pgs_cons (pg_name (i := 2) nd rfl (Or.inl rfl)) (pgs_cons (pg_name (i := 3) nd rfl (Or.inl rfl)) pgs_nil)))
    (pss_cons (ps_set (i := 4) nd rfl (Or.inl rfl) (pe_ix ix_tup (pv 0) pe_int (fun _ _ => rfl)))
    (pss_cons (ps_if (pt_cmpR op_in_seq pe_int (pv 2) rfl)
    (pss_one (ps_set (i := 4) nd rfl (Or.inl rfl) (pe_tupIx (pv 2) pe_int ⟨rfl, rfl, rfl, rfl⟩)))
    pss_nil)
    (pss_one (ps_asg (pv 3) (pg_sub (pv 1) (pv 4) set_list))))))
    (pss_one (ps_ret (pe_fz (pv 1)))))), ?_⟩
  refine q_seq (r_setM c (m := .lst (dQs (List.replicate (m + 1) 0))) ((em_repL (em_lst (ea_cons (ev_cst k0) ea_nil)) (ev_iI (ev_ixT (ev_var c rfl) ev_int rfl) ev_int) (by omega) (by simp; omega) (by omega)).is ?_) fun p σ2 H2 e2 c2 => ?_)
  · rw [rep1_flat]
    have : ((m : Int) + 1).toNat = m + 1 := by omega
    rw [this]
    show Mo.lst (List.replicate (m + 1) (dQ 0)) = _
    rw [dQs, List.map_replicate]
  refine q_seq (r_forM c2 (xs := ts) (enc := eT) (ei_tup (ev_pt (ev_ixT (ev_var c2 rfl) ev_int rfl))) (fun _ => [.d (dS m ts), .at p, .no, .no, .no]) (fun i => [(p, .lst (dQs ((ts.take i).foldl (fun acc e => acc.set (ltr m e.1) e.2) (List.replicate (m + 1) 0))))]) (Le.refl _) rfl _
    (fun e _ => eg_tup (egs_cons eg_name (egs_cons eg_name egs_nil)) rfl) (fun Hs i hi σ3 H3 c3 => ?_) fun σ3 H3 c3 => ?_)
  · have hki := hk _ (List.getElem_mem hi)
    have hlen : ((ts.take i).foldl (fun acc e => acc.set (ltr m e.1) e.2) (List.replicate (m + 1) 0)).length = m + 1 := numsOf_len m (ts.take i)
    refine q_seq (r_set c3 (ev_ixT (ev_var c3 rfl) ev_int rfl) fun σ4 H4 e4 c4 => ?_)
    have hlt : ltr m ts[i].1 < m + 1 := by
      unfold ltr
      split
      · have := List.idxOf_lt_length_of_mem ‹_›
        omega
      · omega
    dsimp only
    with_reducible refine q_split (β := Unit) (fun _ σ' H' => Cf K H Hs σ' H' [.d (dS m ts), .at p, .d (.key ts[i].1), .d (dQ ts[i].2), .d (.int (ltr m ts[i].1 : Nat))] [(p, .lst (dQs ((ts.take i).foldl (fun acc e => acc.set (ltr m e.1) e.2) (List.replicate (m + 1) 0))))]) (fun _ σ5 H5 c5 => ?_) fun fin => ?_
    · refine r_setL (k := 0) (d := dQ ts[i].2) (i := (ltr m ts[i].1 : Nat)) c5 rfl rfl (ev_var c5 rfl) (ev_var c5 rfl) (ixN_nat (by rw [List.length_map, hlen]; exact hlt)) fun H6 c6 => ?_
      refine (c6.le (.keep (.keep (.drop (.drop (.drop .nil)))))).msE ?_
      show [(p, Mo.lst ((dQs _).set _ (dQ ts[i].2)))] = _
      rw [take_succ_get ts hi, List.foldl_append]
      simp only [dQs, List.map_set, List.foldl_cons, List.foldl_nil]
    · refine r_if c4 (et_t (ev_inI ev_int (ev_pt (ev_var c4 rfl)))) (fun ht H5 e5 c5 => ?_) (fun ht H5 e5 c5 => ?_)
      · have hmem := of_decide_eq_true ht
        obtain ⟨i1, i2⟩ := idx_spec hmem
        refine r_set c5 (ev_tupIx (ev_var c5 rfl) ev_int i1 i2) fun σ6 H6 e6 c6 => fin () σ6 H6 ?_
        have : ltr m ts[i].1 = ts[i].1.idxOf 1 := if_pos hmem
        rw [this]; exact c6
      · have hmem := of_decide_eq_false ht
        have : ltr m ts[i].1 = m := if_neg hmem
        refine r_next (fin () _ _ ?_)
        rw [this]; exact c5
  · rw [List.take_length] at c3
    exact r_retF (k := 0) c3 rfl rfl kq
theorem ok_unit_weights (F : FnP K "unit_weights" st_unit_weights f fd) (T_NOUGHT_fractions : KtQ K mg "NOUGHT_fractions" 0) (T_UNIT : KtQ K mg "UNIT" 1) : FnOk P w K mg base CX0 1 f fd ["many", "at"] (sp_unit_weights K) := by
  refine F.ok sc_unit_weights (pSp_len fun _ => rfl) (fun cdv A outer s H vs Q E hr h => ?_)
  obtain ⟨⟨m, i⟩, hv, ⟨hm, j, hj⟩, kq⟩ := h
  obtain ⟨a_NOUGHT_fractions, g_NOUGHT_fractions, k0⟩ := T_NOUGHT_fractions
  obtain ⟨a_UNIT, g_UNIT, k1⟩ := T_UNIT
  have nd := sc_unit_weights.nd
  have hm : m < 100000 := hm
  have hj : ixN m i = some j := hj
  have c : Cf K H H (L2.start N_unit_weights vs) H [.d (.int m), .d (.int i), .no] [] := Cf.start hv rfl
  refine ⟨_, PSs.nox (pss_cons (ps_set (i := 2) nd rfl (Or.inl rfl) (pe_op op_rep (pe_lst (pa_cons (pe_glob (v := .ref a_NOUGHT_fractions) (by rfl) g_NOUGHT_fractions rfl) pa_nil)) (pv 0)))
    (pss_cons (ps_asg (pe_glob (v := .ref a_UNIT) (by rfl) g_UNIT rfl) (pg_sub (pv 2) (pv 1) set_list))
    (pss_one (ps_ret (pe_fz (pv 2)))))), ?_⟩
  refine q_seq (r_setM c (m := .lst (dQs (List.replicate m 0))) ((em_repL (em_lst (ea_cons (ev_cst k0) ea_nil)) (ev_var c rfl) (by omega) (by simp; omega) (by omega)).is ?_) fun p σ2 H2 e2 c2 => ?_)
  · rw [rep1_flat]
    have : (m : Int).toNat = m := by omega
    rw [this]
    show Mo.lst (List.replicate m (dQ 0)) = _
    rw [dQs, List.map_replicate]
  refine q_seq (r_setL (k := 0) (d := dQ 1) c2 rfl rfl (ev_cst k1) (ev_var c2 rfl) (by rw [List.length_map, List.length_replicate]; exact hj) fun H6 c6 => ?_)
  refine r_retF (k := 0) (ds := dQs (unitW m ((ixN m i).getD 0))) c6 rfl ?_ kq
  show [(p, Mo.lst ((dQs (List.replicate m 0)).set j (dQ 1)))][0]? = _
  rw [hj]
  simp only [dQs, unitW, List.map_set]; rfl
theorem ok_rim_rows (F : FnP K "rim_rows" st_rim_rows f fd) (B : Bl mg) (C_numbers_of : Fc P w K mg base "numbers_of" 1 ["one"] (sp_numbers_of K)) (C_unit_weights : Fc P w K mg base "unit_weights" 1 ["many", "at"] (sp_unit_weights K)) : FnOk P w K mg base CX0 2 f fd ["rims"] (sp_rim_rows K) := by
  refine F.ok sc_rim_rows (pSp_len fun _ => rfl) (fun cdv A outer s H vs Q E hr h => ?_)
  obtain ⟨⟨m, rims⟩, hv, ⟨hm, hl, hk⟩, kq⟩ := h
  have nd := sc_rim_rows.nd
  have hm : m < 100000 := hm
  have hl : rims.length < 1000 := hl
  have hk : ∀ ts ∈ rims, ∀ e ∈ ts, e.1.length = m := hk
  have c : Cf K H H (L2.start N_rim_rows vs) H [.d (.lst (dSs m rims)), .no, .no] [] := Cf.start hv rfl
  refine ⟨_, PSs.nox (pss_one (ps_ret (pe_fz (pe_lc (own := [("k", 1), ("rim", 2)]) (g := (gTup K 2 (gCons (gName 1) (gCons (gName 2) gNil)))) (tt := tYes) (te := (tTup (tCons (tCall (sp_numbers_of K) [] E0 (tCons (tVar 2) tNil)) (tCons (tCall (sp_unit_weights K) [] E0 (tCons (tOp (rI0 fun i j => .int (i + j)) (tCB (rLenQ K) (tCons (tVar 0) tNil)) (tC (.int 1))) (tCons (tVar 1) tNil))) (tCons (tC (.bl false)) tNil))))) (by rfl) nd (pi_enum (by rfl) B.enumerate (pa_cons (pv 0) pa_nil)) (blkOk_by (own := [("k", 1), ("rim", 2)]) (N := N_rim_rows) (sc := defScope st_rim_rows) (by decide +kernel)) (fun _ _ _ _ _ => (pg_tup rfl (pgs_cons (pg_name (i := 1) nd rfl (Or.inl rfl)) (pgs_cons (pg_name (i := 2) nd rfl (Or.inl rfl)) pgs_nil)))) (fun _ _ _ _ _ => pts_nil) (fun _ _ _ _ _ => (pe_tup (pa_cons (pe_cc C_numbers_of hr (by decide) (by rfl) (pa_cons (pv 2) pa_nil)) (pa_cons (pe_cc C_unit_weights hr (by decide) (by rfl) (pa_cons (pe_op op_add (pe_callB call_len_seq (by rfl) B.len (by decide +kernel) (pa_cons (pv 0) pa_nil)) pe_int) (pa_cons (pv 1) pa_nil))) (pa_cons pe_bl pa_nil))))))))), ?_⟩
  refine r_ret c (d := .lst (dRs (rimRows m rims))) (ev_fz ((em_map c (xs := List.range rims.length) (enc := fun i => .tup [.int (i : Nat), dS m (rims.getD i [])]) ((ei_enum (ev_var c rfl)).is (enD_map rims _ [])) (fun k => dR ⟨numsOf m (rims.getD k []), unitW (rims.length + 1) k, false⟩) _ (by decide) (fun e _ => eg_tup (egs_cons eg_name (egs_cons eg_name egs_nil)) rfl)
    (fun k hk' Hs σ2 H2 c2 => ?_) (by rw [List.length_range]; omega)).is ?_)) kq
  · have hk2 : k < rims.length := List.mem_range.mp hk'
    have hmem : rims.getD k [] ∈ rims := by simp [List.getD, hk2]
    have e1 : (((dSs m rims).length : Nat) : Int) + 1 = ((rims.length + 1 : Nat) : Int) := by simp
    exact ev_tup (ea_cons (ev_numbers_of (ev_var c2 rfl) hm (hk _ hmem)) (ea_cons (ev_unit_weights (i := (k : Nat)) ((ev_iI (ev_lenL (ev_var c2 rfl)) ev_int).is (by rw [e1])) (ev_var c2 rfl) (by omega) (ixN_nat (by omega))) (ea_cons ev_bl ea_nil)))
  · rw [dRs, rimRows, List.map_map]; rfl
theorem big_of {a b : Rat} {n m : Nat} (ha : Sz n a) (hb : Sz m b) (h1 : n ≤ 4000) (h2 : m ≤ 4000) : Big a b := ⟨ha.mono h1, hb.mono h2⟩
theorem ok_blended (F : FnP K "blended" st_blended f fd) (B : Bl mg) (C_added : Fc P w K mg base "added" 3 ["one", "other"] (sp_added K)) (C_multiplied : Fc P w K mg base "multiplied" 3 ["one", "other"] (sp_multiplied K)) : FnOk P w K mg base CX0 4 f fd ["ones", "others", "factor", "other_factor"] (sp_blended K) := by
  refine F.ok sc_blended (pSp_len fun _ => rfl) (fun cdv A outer s H vs Q E hr h => ?_)
  obtain ⟨⟨⟨a, b⟩, g1, g2⟩, hv, ⟨hl, h1, h2, h3, h4⟩, kq⟩ := h
  have nd := sc_blended.nd
  have hl : a.length < 1000 := hl
  have h1 : SzL 600 a := h1
  have h2 : SzL 600 b := h2
  have h3 : Sz 600 g1 := h3
  have h4 : Sz 600 g2 := h4
  have c : Cf K H H (L2.start N_blended vs) H [.d (.lst (dQs a)), .d (.lst (dQs b)), .d (dQ g1), .d (dQ g2), .no, .no, .no] [] := Cf.start hv rfl
  refine ⟨_, PSs.nox (pss_cons (ps_set (i := 4) nd rfl (Or.inl rfl) (pe_lst pa_nil))
    (pss_cons (ps_for PassesOwn.never rfl (RZ.pi_zipA (by rfl) B.zip (pa_cons (pv 0) (pa_cons (pv 1) pa_nil))) (pg_tup rfl (pgs_cons (pg_name (i := 5) nd rfl (Or.inl rfl)) (pgs_cons (pg_name (i := 6) nd rfl (Or.inl rfl)) pgs_nil)))
    (pss_one (ps_expr (pe_bm PySem.F.plainAttrs_list PySem.F.slot_list_append PySem.F.type_list_append mt_append (pv 4) (pa_cons (pe_cc C_added hr (by decide) (by rfl) (pa_cons (pe_cc C_multiplied hr (by decide) (by rfl) (pa_cons (pv 5) (pa_cons (pv 2) pa_nil))) (pa_cons (pe_cc C_multiplied hr (by decide) (by rfl) (pa_cons (pv 6) (pa_cons (pv 3) pa_nil))) pa_nil))) pa_nil)))))
    (pss_one (ps_ret (pe_fz (pv 4)))))), ?_⟩
  refine q_seq (r_setM c (em_lst ea_nil) fun p σ2 H2 e2 c2 => ?_)
  refine q_seq (r_forM c2 (xs := a.zip b) (enc := fun p => .tup [dQ p.1, dQ p.2]) ((ei_zipLL (ev_var c2 rfl) (ev_var c2 rfl)).is (zipD_zip a b _ _)) (fun _ => [.d (.lst (dQs a)), .d (.lst (dQs b)), .d (dQ g1), .d (dQ g2), .at p, .no, .no]) (fun i => [(p, .lst (dQs (((a.zip b).take i).map fun p => p.1 * g1 + p.2 * g2)))]) (Le.refl _) rfl _
    (fun e _ => eg_tup (egs_cons eg_name (egs_cons eg_name egs_nil)) rfl) (fun Hs i hi σ3 H3 c3 => ?_) fun σ3 H3 c3 => ?_)
  · have hx : Sz 600 (a.zip b)[i].1 := h1 _ (List.of_mem_zip (List.getElem_mem hi)).1
    have hy : Sz 600 (a.zip b)[i].2 := h2 _ (List.of_mem_zip (List.getElem_mem hi)).2
    refine r_app (k := 0) (d := dQ ((a.zip b)[i].1 * g1 + (a.zip b)[i].2 * g2)) c3 rfl rfl (ev_add (ev_mul (ev_var c3 rfl) (ev_var c3 rfl) (big_of hx h3 (by decide) (by decide))) (ev_mul (ev_var c3 rfl) (ev_var c3 rfl) (big_of hy h4 (by decide) (by decide))) (big_of (hx.mul h3) (hy.mul h4) (by decide) (by decide))) ?_ fun H4 c4 => ?_
    · have : (a.zip b).length = min a.length b.length := List.length_zip
      simp only [dQs, List.length_map, List.length_take]; omega
    · refine (c4.le (.keep (.keep (.keep (.keep (.keep (.drop (.drop .nil)))))))).msE ?_
      rw [take_succ_get _ hi]
      simp only [dQs, List.map_append, List.map_cons, List.map_nil, List.set_cons_zero]
  · rw [List.take_length] at c3
    exact r_retF (k := 0) c3 rfl rfl kq
theorem RwOk.szn {k i : Nat} {r : Rw} (h : RwOk k r) (hk : 1 ≤ k) : Sz k (coef i r) := h.2.2.1.get hk i
theorem ok_joined (F : FnP K "joined" st_joined f fd) (C_turned : Fc P w K mg base "turned" 1 ["one"] (sp_turned K)) (C_blended : Fc P w K mg base "blended" 4 ["ones", "others", "factor", "other_factor"] (sp_blended K)) : FnOk P w K mg base CX0 5 f fd ["one", "other", "letter"] (sp_joined K) := by
  refine F.ok sc_joined (pSp_len fun _ => rfl) (fun cdv A outer s H vs Q E hr h => ?_)
  obtain ⟨⟨⟨r, q⟩, k⟩, hv, ⟨h1, h2, h3, h4⟩, kq⟩ := h
  have nd := sc_joined.nd
  have h1 : RwOk 600 r := h1
  have h2 : RwOk 600 q := h2
  have h3 : k < r.n.length := h3
  have h4 : k < q.n.length := h4
  have c : Cf K H H (L2.start N_joined vs) H [.d (dR r), .d (dR q), .d (.int k), .no, .no, .no, .no] [] := Cf.start hv rfl
  refine ⟨_, PSs.nox (pss_cons (ps_set (i := 3) nd rfl (Or.inl rfl) (pe_cc C_turned hr (by decide) (by rfl) (pa_cons (pe_ix ix_list (pe_ix ix_tup (pv 1) pe_int (fun _ _ => rfl)) (pv 2) (fun _ _ => rfl)) pa_nil)))
    (pss_cons (ps_set (i := 4) nd rfl (Or.inl rfl) (pe_ix ix_list (pe_ix ix_tup (pv 0) pe_int (fun _ _ => rfl)) (pv 2) (fun _ _ => rfl)))
    (pss_cons (ps_set (i := 5) nd rfl (Or.inl rfl) (pe_cc C_blended hr (by decide) (by rfl) (pa_cons (pe_ix ix_tup (pv 0) pe_int (fun _ _ => rfl)) (pa_cons (pe_ix ix_tup (pv 1) pe_int (fun _ _ => rfl)) (pa_cons (pv 3) (pa_cons (pv 4) pa_nil))))))
    (pss_cons (ps_set (i := 6) nd rfl (Or.inl rfl) (pe_cc C_blended hr (by decide) (by rfl) (pa_cons (pe_ix ix_tup (pv 0) pe_int (fun _ _ => rfl)) (pa_cons (pe_ix ix_tup (pv 1) pe_int (fun _ _ => rfl)) (pa_cons (pv 3) (pa_cons (pv 4) pa_nil))))))
    (pss_one (ps_ret (pe_tup (pa_cons (pv 5) (pa_cons (pv 6) (pa_cons (pe_or (pe_ix ix_tup (pv 0) pe_int (fun _ _ => rfl)) (pe_one (pe_ix ix_tup (pv 1) pe_int (fun _ _ => rfl)))) pa_nil)))))))))), ?_⟩
  have hf : Sz 600 (-(q.n.getD k 0)) := (h2.szn (i := k) (by decide)).neg
  have hg : Sz 600 (r.n.getD k 0) := h1.szn (i := k) (by decide)
  refine q_seq (r_set c (ev_trn (ev_ixL (ev_ixT (ev_var c rfl) ev_int rfl) (ev_var c rfl) (atI_dQs h4))) fun σ2 H2 e2 c2 => ?_)
  refine q_seq (r_set c2 (ev_ixL (ev_ixT (ev_var c2 rfl) ev_int rfl) (ev_var c2 rfl) (atI_dQs h3)) fun σ3 H3 e3 c3 => ?_)
  refine q_seq (r_set c3 (ev_blended (ev_ixT (ev_var c3 rfl) ev_int rfl) (ev_ixT (ev_var c3 rfl) ev_int rfl) (ev_var c3 rfl) (ev_var c3 rfl) h1.1 h1.2.2.1 h2.2.2.1 hf hg) fun σ4 H4 e4 c4 => ?_)
  refine q_seq (r_set c4 (ev_blended (ev_ixT (ev_var c4 rfl) ev_int rfl) (ev_ixT (ev_var c4 rfl) ev_int rfl) (ev_var c4 rfl) (ev_var c4 rfl) h1.2.1 h1.2.2.2 h2.2.2.2 hf hg) fun σ5 H5 e5 c5 => ?_)
  exact r_ret c5 (d := dR (joinR r q k)) (ev_tup (ea_cons (ev_var c5 rfl) (ea_cons (ev_var c5 rfl) (ea_cons (ev_orV (ev_ixT (ev_var c5 rfl) ev_int rfl) (ev_ixT (ev_var c5 rfl) ev_int rfl)) ea_nil)))) kq
theorem flatMap_len {α β : Type} {f : α → List β} {n : Nat} : ∀ {l : List α}, (∀ x ∈ l, (f x).length ≤ n) → (l.flatMap f).length ≤ l.length * n
  | [], _ => Nat.zero_le _
  | x :: l, h => by
    rw [List.flatMap_cons, List.length_append, List.length_cons, Nat.succ_mul]
    have h1 := h x List.mem_cons_self
    have h2 := flatMap_len (l := l) fun y hy => h y (List.mem_cons_of_mem _ hy)
    omega
theorem sgn0_eq (q : Rat) : decide (sgn q 0 = 0) = decide (q = 0) := decide_eq_decide.mpr sgn_zero
theorem sgn0_pos (q : Rat) : decide (0 < sgn q 0) = decide (0 < q) := decide_eq_decide.mpr sgn_pos
theorem sgn0_neg (q : Rat) : decide (sgn q 0 < 0) = decide (q < 0) := decide_eq_decide.mpr sgn_neg
theorem ok_put_out (F : FnP K "put_out" st_put_out f fd) (B : Bl mg) (T_NOUGHT_fractions : KtQ K mg "NOUGHT_fractions" 0) (C_beside : Fc P w K mg base "beside" 1 ["one", "other"] (sp_beside K)) (C_joined : Fc P w K mg base "joined" 5 ["one", "other", "letter"] (sp_joined K)) : FnOk P w K mg base CX0 6 f fd ["rows", "letter"] (sp_put_out K) := by
  refine F.ok sc_put_out (pSp_len fun _ => rfl) (fun cdv A outer s H vs Q E hr h => ?_)
  obtain ⟨⟨rows, k⟩, hv, ⟨hl, hk⟩, kq⟩ := h
  obtain ⟨a_NOUGHT_fractions, g_NOUGHT_fractions, k0⟩ := T_NOUGHT_fractions
  have nd := sc_put_out.nd
  have hl : rows.length < 500 := hl
  have hk : ∀ r ∈ rows, RwOk 600 r ∧ k < r.n.length := hk
  have c : Cf K H H (L2.start N_put_out vs) H [.d (.lst (dRs rows)), .d (.int k), .no, .no, .no, .no, .no, .no, .no, .no] [] := Cf.start hv rfl
  refine ⟨_, PSs.nox (pss_cons (ps_gz 2 (ps_setLc (i := 2) (own := [("row", 3)]) (g := (gName 3)) (tt := tYes) (te := (tCall (sp_beside K) [] E0 (tCons (tOp (rIxL K) (tOp (rIxT K) (tVar 3) (tC (.int 0))) (tVar 1)) (tCons (tC (.ref a_NOUGHT_fractions)) tNil)))) (by rfl) nd rfl rfl (sw_true rfl rfl rfl (by decide +kernel)) (pi_list (pv 0)) (blkOk_by (own := [("row", 3)]) (N := N_put_out) (sc := defScope st_put_out) (by decide +kernel)) (fun _ _ _ _ _ => (pg_name (i := 3) nd rfl (Or.inl rfl))) (fun _ _ _ _ _ => pts_nil) (fun _ _ _ _ _ => (pe_cc C_beside hr (by decide) (by rfl) (pa_cons (pe_ix ix_list (pe_ix ix_tup (pv 3) pe_int (fun _ _ => rfl)) (pv 1) (fun _ _ => rfl)) (pa_cons (pe_glob (v := .ref a_NOUGHT_fractions) (by rfl) g_NOUGHT_fractions rfl) pa_nil))))))
    (pss_cons (ps_setLc (i := 4) (own := [("row", 3), ("sign", 5)]) (g := (gTup K 2 (gCons (gName 3) (gCons (gName 5) gNil)))) (tt := (tTest (tOp (rEq) (tVar 5) (tC (.int 0))))) (te := (tVar 3)) (by rfl) nd rfl rfl (sw_true rfl rfl rfl (by decide +kernel)) (RZ.pi_zipA (by rfl) B.zip (pa_cons (pv 0) (pa_cons (pv 2) pa_nil))) (blkOk_by (own := [("row", 3), ("sign", 5)]) (N := N_put_out) (sc := defScope st_put_out) (by decide +kernel)) (fun _ _ _ _ _ => (pg_tup rfl (pgs_cons (pg_name (i := 3) nd rfl (Or.inl rfl)) (pgs_cons (pg_name (i := 5) nd rfl (Or.inl rfl)) pgs_nil)))) (fun _ _ _ _ _ => (pts_one (pt_cmpR op_eq (pv 5) pe_int (nomark _)))) (fun _ _ _ _ _ => (pv 3)))
    (pss_cons (ps_gz 6 (ps_setLc (i := 6) (own := [("row", 3), ("sign", 5)]) (g := (gTup K 2 (gCons (gName 3) (gCons (gName 5) gNil)))) (tt := (tTest (tOp (rI0 fun i j => .bl (decide (j < i))) (tVar 5) (tC (.int 0))))) (te := (tVar 3)) (by rfl) nd rfl rfl (sw_true rfl rfl rfl (by decide +kernel)) (RZ.pi_zipA (by rfl) B.zip (pa_cons (pv 0) (pa_cons (pv 2) pa_nil))) (blkOk_by (own := [("row", 3), ("sign", 5)]) (N := N_put_out) (sc := defScope st_put_out) (by decide +kernel)) (fun _ _ _ _ _ => (pg_tup rfl (pgs_cons (pg_name (i := 3) nd rfl (Or.inl rfl)) (pgs_cons (pg_name (i := 5) nd rfl (Or.inl rfl)) pgs_nil)))) (fun _ _ _ _ _ => (pts_one (pt_cmpR op_gt (pv 5) pe_int (nomark _)))) (fun _ _ _ _ _ => (pv 3))))
    (pss_cons (ps_gz 7 (ps_setLc (i := 7) (own := [("row", 3), ("sign", 5)]) (g := (gTup K 2 (gCons (gName 3) (gCons (gName 5) gNil)))) (tt := (tTest (tOp (rI0 fun i j => .bl (decide (i < j))) (tVar 5) (tC (.int 0))))) (te := (tVar 3)) (by rfl) nd rfl rfl (sw_true rfl rfl rfl (by decide +kernel)) (RZ.pi_zipA (by rfl) B.zip (pa_cons (pv 0) (pa_cons (pv 2) pa_nil))) (blkOk_by (own := [("row", 3), ("sign", 5)]) (N := N_put_out) (sc := defScope st_put_out) (by decide +kernel)) (fun _ _ _ _ _ => (pg_tup rfl (pgs_cons (pg_name (i := 3) nd rfl (Or.inl rfl)) (pgs_cons (pg_name (i := 5) nd rfl (Or.inl rfl)) pgs_nil)))) (fun _ _ _ _ _ => (pts_one (pt_cmpR op_lt (pv 5) pe_int (nomark _)))) (fun _ _ _ _ _ => (pv 3))))
    (pss_cons (ps_for PassesOwn.never rfl (pi_list (pv 6)) (pg_name (i := 8) nd rfl (Or.inr rfl))
    (pss_one (ps_expr (pe_bm PySem.F.plainAttrs_list PySem.F.slot_list_extend PySem.F.type_list_extend mt_extend (pv 4) (pa_cons (pe_lc (own := [("other", 9)]) (g := (gName 9)) (tt := tYes) (te := (tCall (sp_joined K) [] E0 (tCons (tVar 8) (tCons (tVar 9) (tCons (tVar 1) tNil))))) (by rfl) nd (pi_list (pv 7)) (blkOk_by (own := [("other", 9)]) (N := N_put_out) (sc := defScope st_put_out) (by decide +kernel)) (fun _ _ _ _ _ => (pg_name (i := 9) nd rfl (Or.inl rfl))) (fun _ _ _ _ _ => pts_nil) (fun _ _ _ _ _ => (pe_cc C_joined hr (by decide) (by rfl) (pa_cons (pv 8) (pa_cons (pv 9) (pa_cons (pv 1) pa_nil)))))) pa_nil)))))
    (pss_one (ps_ret (pe_fz (pv 4))))))))), ?_⟩
  refine q_seq (r_setM c (em_map c (xs := rows) (enc := dR) (ei_list (ev_var c rfl)) (fun r => .int (sgn (coef k r) 0)) _ (by decide) (fun r _ => eg_name) (fun r hr Hs σ2 H2 c2 => ?_) (by omega)) fun p σ2 H2 e2 c2 => r_gz (k := 0) c2 rfl rfl fun H3 c3 => ?_)
  · exact ev_bes (ev_ixL (ev_ixT (ev_var c2 rfl) ev_int rfl) (ev_var c2 rfl) (atI_dQs (hk r hr).2)) (ev_cst k0) (big_of ((hk r hr).1.szn (by decide)) Sz.zero (by decide) (by decide))
  refine q_seq (r_setM c3 ((em_lc c3 (xs := rows) (enc := fun r => .tup [dR r, .int (sgn (coef k r) 0)]) ((ei_zipLL (ev_var c3 rfl) (ev_var c3 rfl)).is (zipD_map rows _ _)) (fun r => decide (sgn (coef k r) 0 = 0)) dR _ (by decide) (fun e _ => eg_tup (egs_cons eg_name (egs_cons eg_name egs_nil)) rfl)
    (fun r hr Hs σ2 H2 c2 => et_t (ev_eqI (ev_var c2 rfl) ev_int)) (fun r hr hf Hs σ2 H2 c2 => ev_var c2 rfl) (by omega)).is (by simp only [gvn, sgn0_eq] : _ = Mo.lst (dRs (rows.filter fun r => decide (coef k r = 0))))) fun p4 σ4 H4 e4 c4 => ?_)
  refine q_seq (r_setM c4 ((em_lc c4 (xs := rows) (enc := fun r => .tup [dR r, .int (sgn (coef k r) 0)]) ((ei_zipLL (ev_var c4 rfl) (ev_var c4 rfl)).is (zipD_map rows _ _)) (fun r => decide (0 < sgn (coef k r) 0)) dR _ (by decide) (fun e _ => eg_tup (egs_cons eg_name (egs_cons eg_name egs_nil)) rfl)
    (fun r hr Hs σ2 H2 c2 => et_t (ev_iB (ev_var c2 rfl) ev_int)) (fun r hr hf Hs σ2 H2 c2 => ev_var c2 rfl) (by omega)).is (by simp only [gvn, sgn0_pos] : _ = Mo.lst (dRs (rows.filter fun r => decide (0 < coef k r))))) fun p5 σ5 H5 e5 c5 => r_gz (k := 0) c5 rfl rfl fun H6 c6 => ?_)
  refine q_seq (r_setM c6 ((em_lc c6 (xs := rows) (enc := fun r => .tup [dR r, .int (sgn (coef k r) 0)]) ((ei_zipLL (ev_var c6 rfl) (ev_var c6 rfl)).is (zipD_map rows _ _)) (fun r => decide (sgn (coef k r) 0 < 0)) dR _ (by decide) (fun e _ => eg_tup (egs_cons eg_name (egs_cons eg_name egs_nil)) rfl)
    (fun r hr Hs σ2 H2 c2 => et_t (ev_iB (ev_var c2 rfl) ev_int)) (fun r hr hf Hs σ2 H2 c2 => ev_var c2 rfl) (by omega)).is (by simp only [gvn, sgn0_neg] : _ = Mo.lst (dRs (rows.filter fun r => decide (coef k r < 0))))) fun p7 σ7 H7 e7 c7 => r_gz (k := 0) c7 rfl rfl fun H8 c8 => ?_)
  have hA : ∀ r ∈ rows.filter (fun r => decide (0 < coef k r)), r ∈ rows := fun r h => (List.mem_filter.mp h).1
  have hB : ∀ r ∈ rows.filter (fun r => decide (coef k r < 0)), r ∈ rows := fun r h => (List.mem_filter.mp h).1
  generalize eA : rows.filter (fun r => decide (0 < coef k r)) = As at hA c8
  generalize eB : rows.filter (fun r => decide (coef k r < 0)) = Bs at hB c8
  have lA : As.length ≤ rows.length := by rw [← eA]; exact List.length_filter_le _ _
  have lB : Bs.length ≤ rows.length := by rw [← eB]; exact List.length_filter_le _ _
  have lZ : (rows.filter fun r => decide (coef k r = 0)).length ≤ rows.length := List.length_filter_le _ _
  refine q_seq (r_forM c8 (xs := As) (enc := dR) (ei_list (ev_var c8 rfl)) (fun _ => [.d (.lst (dRs rows)), .d (.int k), .d (.lst (rows.map fun r => .int (sgn (coef k r) 0))), .no, .at p4, .no, .d (.lst (dRs As)), .d (.lst (dRs Bs)), .no, .no])
    (fun i => [(p4, .lst (dRs ((rows.filter fun r => decide (coef k r = 0)) ++ (As.take i).flatMap fun r => Bs.map fun q => joinR r q k)))]) (Le.refl _) (by simp [List.flatMap]) _
    (fun e _ => eg_name) (fun Hs i hi σ3 H3 c9 => ?_) fun σ3 H3 c9 => ?_)
  · have hr1 := hk _ (hA _ (List.getElem_mem hi))
    refine r_ext (k := 0) c9 rfl rfl (em_map c9 (xs := Bs) (enc := dR) (ei_list (ev_var c9 rfl)) (fun q => dR (joinR As[i] q k)) _ (by decide) (fun q _ => eg_name) (fun q hq Hs' σ4 H4 c10 => ?_) (by omega)) ?_ fun H11 c11 => ?_
    · have hr2 := hk _ (hB _ hq)
      exact ev_joined (ev_var c10 rfl) (ev_var c10 rfl) (ev_var c10 rfl) hr1.1 hr2.1 hr1.2 hr2.2
    · have : ((As.take i).flatMap fun r => Bs.map fun q => joinR r q k).length ≤ (As.take i).length * Bs.length := flatMap_len fun r _ => by rw [List.length_map]; exact Nat.le_refl _
      have h2 : (As.take i).length ≤ 500 := by rw [List.length_take]; omega
      have h3 : (As.take i).length * Bs.length ≤ 500 * 500 := Nat.mul_le_mul h2 (by omega)
      simp only [dRs, List.length_map, List.length_append]
      omega
    · refine (c11.le (.keep (.keep (.keep (.keep (.keep (.keep (.keep (.keep (.drop (.keep .nil))))))))))).msE ?_
      rw [take_succ_get _ hi, List.flatMap_append]
      simp only [dRs, List.map_append, List.flatMap_cons, List.flatMap_nil, List.append_nil, List.append_assoc, List.map_map, List.set_cons_zero]
      rfl
  · rw [List.take_length] at c9
    refine r_retF (k := 0) (ds := dRs (putOut rows k)) c9 rfl ?_ kq
    rw [putOut, eA, eB]; rfl
theorem ok_systems_of (F : FnP K "systems_of" st_systems_of f fd) (B : Bl mg) (C_put_out : Fc P w K mg base "put_out" 6 ["rows", "letter"] (sp_put_out K)) : FnOk P w K mg base CX0 7 f fd ["rows", "many"] (sp_systems_of K) := by
  refine F.ok sc_systems_of (pSp_len fun _ => rfl) (fun cdv A outer s H vs Q E hr h => ?_)
  obtain ⟨⟨rows, m⟩, hv, ⟨hm, hk⟩, kq⟩ := h
  have nd := sc_systems_of.nd
  have hm : m < 100000 := hm
  have hk : ∀ k, k < m → (sysAt rows k).length < 500 ∧ ∀ r ∈ sysAt rows k, RwOk 600 r ∧ k < r.n.length := hk
  have c : Cf K H H (L2.start N_systems_of vs) H [.d (.lst (dRs rows)), .d (.int m), .no, .no] [] := Cf.start hv rfl
  refine ⟨_, PSs.nox (pss_cons (ps_set (i := 2) nd rfl (Or.inl rfl) (pe_lst (pa_cons (pv 0) pa_nil)))
    (pss_cons (ps_for PassesOwn.never rfl (pi_range1 (by rfl) B.range (pa_cons (pv 1) pa_nil)) (pg_name (i := 3) nd rfl (Or.inl rfl))
    (pss_one (ps_expr (pe_bm PySem.F.plainAttrs_list PySem.F.slot_list_append PySem.F.type_list_append mt_append (pv 2) (pa_cons (pe_cc C_put_out hr (by decide) (by rfl) (pa_cons (pe_ix ix_list (pv 2) (pe_un un_neg pe_int) (fun _ _ => rfl)) (pa_cons (pv 3) pa_nil))) pa_nil)))))
    (pss_one (ps_ret (pe_fz (pv 2)))))), ?_⟩
  refine q_seq (r_setM c (em_lst (ea_cons (ev_var c rfl) ea_nil)) fun p σ2 H2 e2 c2 => ?_)
  refine q_seq (r_forM c2 (xs := List.range m) (enc := fun i => .int (i : Nat)) (ei_rng (ea_cons (ev_var c2 rfl) ea_nil) (by omega)) (fun _ => [.d (.lst (dRs rows)), .d (.int m), .at p, .no]) (fun i => [(p, .lst ((List.range (i + 1)).map fun j => .lst (dRs (sysAt rows j))))]) (Le.refl _) rfl _
    (fun e _ => eg_name) (fun Hs i hi σ3 H3 c3 => ?_) fun σ3 H3 c3 => ?_)
  · have hi' : i < m := by simpa using hi
    have ei : (List.range m)[i] = i := List.getElem_range hi
    rw [ei] at c3
    refine r_app (k := 0) (d := .lst (dRs (sysAt rows (i + 1)))) c3 rfl rfl (ev_put_out (ev_ixM (k := 0) c3 rfl rfl (ev_neg ev_int) (atI_neg (j := 1) (by decide) (by simp) (by simp))) (ev_var c3 rfl) (hk i hi').1 (hk i hi').2) (by simp; omega) fun H4 c4 => ?_
    refine (c4.le (.keep (.keep (.keep (.drop .nil))))).msE ?_
    rw [List.range_succ (n := i + 1), List.map_append]; rfl
  · rw [List.length_range] at c3
    exact r_retF (k := 0) (ds := (sysOf rows m).map fun rs => .lst (dRs rs)) c3 rfl (by rw [sysOf, List.map_map]; rfl) kq
end
end Lw
/-! The module of rims, walked: bounds, spots, kept, over. -/
namespace Lw
open PySem PySem.Spec PyProof.Rows L2
abbrev st_bad_row : Stmt := top 63
abbrev N_bad_row : List Str := ["rows", "row", "sign"]
theorem sc_bad_row : FnScope N_bad_row ["rows"] (defScope st_bad_row) := ⟨rfl, rfl, rfl, by decide +kernel, rfl, by decide +kernel, by decide +kernel⟩

abbrev st_bound_of : Stmt := top 64
abbrev N_bound_of : List Str := ["row", "letter", "spot", "total", "later"]
theorem sc_bound_of : FnScope N_bound_of ["row", "letter", "spot"] (defScope st_bound_of) := ⟨rfl, rfl, rfl, by decide +kernel, rfl, by decide +kernel, by decide +kernel⟩

abbrev st_greatest_of : Stmt := top 65
abbrev N_greatest_of : List Str := ["numbers", "found", "number"]
theorem sc_greatest_of : FnScope N_greatest_of ["numbers"] (defScope st_greatest_of) := ⟨rfl, rfl, rfl, by decide +kernel, rfl, by decide +kernel, by decide +kernel⟩

abbrev st_number_for : Stmt := top 66
abbrev N_number_for : List Str := ["rows", "letter", "spot", "lows", "row", "highs", "low", "high", "number"]
theorem sc_number_for : FnScope N_number_for ["rows", "letter", "spot"] (defScope st_number_for) := ⟨rfl, rfl, rfl, by decide +kernel, rfl, by decide +kernel, by decide +kernel⟩

abbrev st_shares : Stmt := top 68
abbrev N_shares : List Str := ["weights", "whole", "weight"]
theorem sc_shares : FnScope N_shares ["weights", "whole"] (defScope st_shares) := ⟨rfl, rfl, rfl, by decide +kernel, rfl, by decide +kernel, by decide +kernel⟩

abbrev dRo : Option Rw → D
  | none => .non
  | some r => dR r
abbrev dQo : Option Rat → D
  | none => .non
  | some q => dQ q
/-- the size of a bound, n columns behind -/
def szB (a b n : Nat) : Nat := a + n * (a + b + 1)
/-- rows and a spot fit for letter k -/
structure NumOk (a b n : Nat) (rows : List Rw) (k : Nat) (spot : List Rat) : Prop where
  a1 : 1 ≤ a
  b1 : 1 ≤ b
  fit : 2 * (szB a b n + a) + 10 ≤ 4000
  few : rows.length < 1000
  row : ∀ r ∈ rows, SzL a r.n ∧ k < r.n.length ∧ r.n.length < 1000 ∧ r.n.length ≤ spot.length + 1 ∧ r.n.length - 1 - (k + 1) ≤ n
  spot : SzL b spot
abbrev sp_bad_row (K : PySem.W.Frag) : Sp := pSp K (fun p : List Rw => [.lst (dRs p)]) (fun p => ∀ r ∈ p, SzL 4000 r.n ∧ r.n ≠ []) fun p => dRo (badRow p)
abbrev sp_bound_of (K : PySem.W.Frag) : Sp := pSp K (fun p : Rw × Nat × List Rat => [dR p.1, .int p.2.1, .lst (dQs p.2.2)]) (fun p => (∃ a b n, NumOk a b n [p.1] p.2.1 p.2.2) ∧ coef p.2.1 p.1 ≠ 0) fun p => dQ (boundOf p.1 p.2.1 p.2.2)
abbrev sp_greatest_of (K : PySem.W.Frag) : Sp := pSp K (fun p : List Rat => [.lst (dQs p)]) (fun p => SzL 4000 p) fun p => dQo (greatest p)
abbrev sp_number_for (K : PySem.W.Frag) : Sp := pSp K (fun p : List Rw × Nat × List Rat => [.lst (dRs p.1), .int p.2.1, .lst (dQs p.2.2)]) (fun p => ∃ a b n, NumOk a b n p.1 p.2.1 p.2.2) fun p => dQ (numberFor p.1 p.2.1 p.2.2)
abbrev sp_shares (K : PySem.W.Frag) : Sp := pSp K (fun p : List Rat × Rat => [.lst (dQs p.1), dQ p.2]) (fun p => p.1.length < 1000 ∧ SzL 2000 p.1 ∧ Sz 2000 p.2 ∧ p.2 ≠ 0) fun p => .lst (dQs (p.1.map (· / p.2)))
section
variable {K : PySem.W.Frag} {σ : L2.St} {H : Hp} {ta tb tc : TE}
theorem ev_bad_row {rows : List Rw} (ha : EvD K ta σ H (.lst (dRs rows))) (hr : ∀ r ∈ rows, SzL 4000 r.n ∧ r.n ≠ []) : EvD K (tCall (sp_bad_row K) [] E0 (tCons ta tNil)) σ H (dRo (badRow rows)) :=
  ev_call (args := fun p : List Rw => [.lst (dRs p)]) (pre := fun p => ∀ r ∈ p, SzL 4000 r.n ∧ r.n ≠ []) (res := fun p => dRo (badRow p)) rows (ea_cons ha ea_nil) hr
theorem ev_bound_of {r : Rw} {k : Nat} {spot : List Rat} {a b n : Nat} (ha : EvD K ta σ H (dR r)) (hb : EvD K tb σ H (.int k)) (hc : EvD K tc σ H (.lst (dQs spot))) (hk : NumOk a b n [r] k spot) (h0 : coef k r ≠ 0) : EvD K (tCall (sp_bound_of K) [] E0 (tCons ta (tCons tb (tCons tc tNil)))) σ H (dQ (boundOf r k spot)) :=
  ev_call (args := fun p : Rw × Nat × List Rat => [dR p.1, .int p.2.1, .lst (dQs p.2.2)]) (pre := fun p => (∃ a b n, NumOk a b n [p.1] p.2.1 p.2.2) ∧ coef p.2.1 p.1 ≠ 0) (res := fun p => dQ (boundOf p.1 p.2.1 p.2.2)) (r, k, spot) (ea_cons ha (ea_cons hb (ea_cons hc ea_nil))) ⟨⟨a, b, n, hk⟩, h0⟩
theorem ev_greatest_of {qs : List Rat} (ha : EvD K ta σ H (.lst (dQs qs))) (hr : SzL 4000 qs) : EvD K (tCall (sp_greatest_of K) [] E0 (tCons ta tNil)) σ H (dQo (greatest qs)) :=
  ev_call (args := fun p : List Rat => [.lst (dQs p)]) (pre := fun p => SzL 4000 p) (res := fun p => dQo (greatest p)) qs (ea_cons ha ea_nil) hr
theorem ev_number_for {rows : List Rw} {k : Nat} {spot : List Rat} {a b n : Nat} (ha : EvD K ta σ H (.lst (dRs rows))) (hb : EvD K tb σ H (.int k)) (hc : EvD K tc σ H (.lst (dQs spot))) (hk : NumOk a b n rows k spot) : EvD K (tCall (sp_number_for K) [] E0 (tCons ta (tCons tb (tCons tc tNil)))) σ H (dQ (numberFor rows k spot)) :=
  ev_call (args := fun p : List Rw × Nat × List Rat => [.lst (dRs p.1), .int p.2.1, .lst (dQs p.2.2)]) (pre := fun p => ∃ a b n, NumOk a b n p.1 p.2.1 p.2.2) (res := fun p => dQ (numberFor p.1 p.2.1 p.2.2)) (rows, k, spot) (ea_cons ha (ea_cons hb (ea_cons hc ea_nil))) ⟨a, b, n, hk⟩
theorem ev_shares {qs : List Rat} {q : Rat} (ha : EvD K ta σ H (.lst (dQs qs))) (hb : EvD K tb σ H (dQ q)) (hl : qs.length < 1000) (h1 : SzL 2000 qs) (h2 : Sz 2000 q) (h0 : q ≠ 0) : EvD K (tCall (sp_shares K) [] E0 (tCons ta (tCons tb tNil))) σ H (.lst (dQs (qs.map (· / q)))) :=
  ev_call (args := fun p : List Rat × Rat => [.lst (dQs p.1), dQ p.2]) (pre := fun p => p.1.length < 1000 ∧ SzL 2000 p.1 ∧ Sz 2000 p.2 ∧ p.2 ≠ 0) (res := fun p => .lst (dQs (p.1.map (· / p.2)))) (qs, q) (ea_cons ha (ea_cons hb ea_nil)) ⟨hl, h1, h2, h0⟩
end
theorem find_at {α : Type} {p : α → Bool} : ∀ {xs : List α} {i : Nat} (h : i < xs.length), (∀ x ∈ xs.take i, p x = false) → p xs[i] = true → xs.find? p = some xs[i]
  | x :: xs, 0, _, _, h => by rw [List.find?_cons]; simp only [List.getElem_cons_zero] at h ⊢; rw [h]
  | x :: xs, i + 1, hi, hn, h => by
    have hx : p x = false := hn x (by simp)
    rw [List.find?_cons, hx]
    have := find_at (xs := xs) (i := i) (by simpa using hi) (fun y hy => hn y (by simp [hy])) (by simpa using h)
    simpa using this
theorem atI_last {r : Rw} (h : r.n ≠ []) : atI (dQs r.n) (-1) = some (dQ (lastN r)) := by
  have hl : 1 ≤ r.n.length := List.length_pos_iff.mpr h
  have h2 : r.n.length - 1 < r.n.length := by omega
  refine atI_neg (j := 1) (by decide) (by rw [List.length_map]; exact hl) ?_
  rw [List.length_map, List.getElem?_map, List.getElem?_eq_getElem h2]
  simp [lastN, List.getD, h2]
theorem ei_rngAB {K : PySem.W.Frag} {σ : L2.St} {H : Hp} {ta : TA} {a b : Nat} (h : EvA K ta σ H [.int a, .int ((b : Int) - 1)]) (ha : a < 100000000) (hb : b < 100000000) : EvI K (iRng2 ta) σ H ((List.range (b - 1 - a)).map fun i => .int ((a + i : Nat) : Int)) :=
  (ei_rng2 h ⟨by omega, by omega, by omega, by omega⟩).is (by
    show (List.range (((b : Int) - 1) - a).toNat).map _ = _
    have e : (((b : Int) - 1) - a).toNat = b - 1 - a := by omega
    rw [e]
    exact List.map_congr_left fun i _ => by rw [Int.natCast_add])
theorem szB_mono {a b n m : Nat} (h : n ≤ m) : szB a b n ≤ szB a b m := by
  unfold szB
  have := Nat.mul_le_mul_right (a + b + 1) h
  omega
theorem restSum_succ (ns spot : List Rat) (j n : Nat) (acc : Rat) : restSum ns spot j (n + 1) acc = restSum ns spot j n acc + ns.getD (j + n) 0 * spot.getD (j + n) 0 := by
  unfold restSum
  rw [List.range_succ, List.foldl_append]; rfl
theorem restSum_sz {ns spot : List Rat} {a b j : Nat} {acc : Rat} (h1 : SzL a ns) (h2 : SzL b spot) (ha : 1 ≤ a) (hb : 1 ≤ b) (h0 : Sz a acc) : ∀ n, Sz (szB a b n) (restSum ns spot j n acc)
  | 0 => h0.mono (by unfold szB; omega)
  | n + 1 => by
    rw [restSum_succ]
    refine ((restSum_sz h1 h2 ha hb h0 n).add ((h1.get ha _).mul (h2.get hb _))).mono ?_
    unfold szB
    rw [Nat.succ_mul]; omega
theorem boundOf_sz {a b n k : Nat} {r : Rw} {spot : List Rat} (h : NumOk a b n [r] k spot) : Sz (szB a b n + a) (boundOf r k spot) := by
  obtain ⟨h1, h2, h3, h4, h5⟩ := h.row r (by simp)
  unfold boundOf
  refine (((restSum_sz h1 h.spot h.a1 h.b1 (h1.get h.a1 _) _).neg).div (h1.get h.a1 k)).mono ?_
  have := szB_mono (a := a) (b := b) h5
  omega
theorem NumOk.one {a b n k : Nat} {rows : List Rw} {spot : List Rat} (h : NumOk a b n rows k spot) {r : Rw} (hr : r ∈ rows) : NumOk a b n [r] k spot :=
  ⟨h.a1, h.b1, h.fit, by simp, fun x hx => by rw [List.mem_singleton.mp hx]; exact h.row r hr, h.spot⟩
section
variable {P : Program} {w : World} {K : PySem.W.Frag} {mg : Str → Option Value} {base : Heap} {f : Addr} {fd : FuncData}
theorem ok_bad_row (F : FnP K "bad_row" st_bad_row f fd) (B : Bl mg) (T_NOUGHT_fractions : KtQ K mg "NOUGHT_fractions" 0) (C_beside : Fc P w K mg base "beside" 1 ["one", "other"] (sp_beside K)) : FnOk P w K mg base CX0 2 f fd ["rows"] (sp_bad_row K) := by
  refine F.ok sc_bad_row (pSp_len fun _ => rfl) (fun cdv A outer s H vs Q E hr h => ?_)
  obtain ⟨rows, hv, hk, kq⟩ := h
  obtain ⟨a_NOUGHT_fractions, g_NOUGHT_fractions, k0⟩ := T_NOUGHT_fractions
  have nd := sc_bad_row.nd
  have hk : ∀ r ∈ rows, SzL 4000 r.n ∧ r.n ≠ [] := hk
  have c : Cf K H H (L2.start N_bad_row vs) H [.d (.lst (dRs rows)), .no, .no] [] := Cf.start hv rfl
  refine ⟨_, PSs.nox (pss_cons (ps_for PassesOwn.never rfl (pi_list (pv 0)) (pg_name (i := 1) nd rfl (Or.inl rfl))
    (pss_cons (ps_set (i := 2) nd rfl (Or.inl rfl) (pe_cc C_beside hr (by decide) (by rfl) (pa_cons (pe_ix ix_list (pe_ix ix_tup (pv 1) pe_int (fun _ _ => rfl)) (pe_un un_neg pe_int) (fun _ _ => rfl)) (pa_cons (pe_glob (v := .ref a_NOUGHT_fractions) (by rfl) g_NOUGHT_fractions rfl) pa_nil))))
    (pss_one (ps_if (PW.pt (pw_or (pt_cmpR op_lt (pv 2) pe_int (nomark _)) (pw_or1 (PW.pt (pw_and (pt_cmpR op_eq (pv 2) pe_int (nomark _)) (pw_and1 (pt_val (pe_ix ix_tup (pv 1) pe_int (fun _ _ => rfl)))))))))
    (pss_one (ps_ret (pv 1)))
    pss_nil))))
    (pss_one (ps_ret pe_non))), ?_⟩
  refine q_seq (r_forS c (xs := rows) (enc := dR) (ei_list (ev_var c rfl)) () (fun i _ => ∀ r ∈ rows.take i, badP r = false) (fun _ _ => [.d (.lst (dRs rows)), .no, .no]) (fun _ _ => []) (by simp) (Le.refl _) rfl _ (fun e _ => eg_name) (fun Hs i hi _ σ3 H3 hp c3 => ?_) fun _ σ3 H3 hp c3 => ?_)
  · have hri := hk _ (List.getElem_mem hi)
    refine q_seq (r_set c3 (ev_bes (ev_ixL (ev_ixT (ev_var c3 rfl) ev_int rfl) (ev_neg ev_int) (atI_last hri.2)) (ev_cst k0) (big_of (hri.1.get (by decide) _) Sz.zero (by decide) (by decide))) fun σ4 H4 e4 c4 => ?_)
    refine r_if (b := badP rows[i]) c4 ((et_or (et_t (ev_iB (ev_var c4 rfl) ev_int)) fun _ => et_and (et_t (ev_eqI (ev_var c4 rfl) ev_int)) fun _ => et_B (ev_ixT (ev_var c4 rfl) ev_int rfl)).is ?_) (fun ht H5 e5 c5 => ?_) (fun ht H5 e5 c5 => ?_)
    · rw [badP, sgn0_neg, sgn0_eq]
    · refine r_ret c5 (d := dRo (badRow rows)) ((ev_var c5 rfl).is ?_) kq
      rw [badRow, find_at hi hp ht]
    · refine r_next ⟨(), fun r hr => ?_, c5.le (.keep (.drop (.drop .nil)))⟩
      rw [take_succ_get _ hi] at hr
      rcases List.mem_append.mp hr with h | h
      · exact hp r h
      · rw [List.mem_singleton.mp h]; exact ht
  · dsimp only
    refine r_ret (te := tC .non) c3 (d := dRo (badRow rows)) (ev_non.is ?_) kq
    rw [List.take_length] at hp
    have : badRow rows = none := List.find?_eq_none.mpr fun r hr => by rw [hp r hr]; decide
    rw [this]
theorem ok_bound_of (F : FnP K "bound_of" st_bound_of f fd) (B : Bl mg) (C_added : Fc P w K mg base "added" 3 ["one", "other"] (sp_added K)) (C_multiplied : Fc P w K mg base "multiplied" 3 ["one", "other"] (sp_multiplied K)) (C_turned : Fc P w K mg base "turned" 1 ["one"] (sp_turned K)) (C_divided : Fc P w K mg base "divided" 3 ["one", "other"] (sp_divided K)) : FnOk P w K mg base CX0 4 f fd ["row", "letter", "spot"] (sp_bound_of K) := by
  refine F.ok sc_bound_of (pSp_len fun _ => rfl) (fun cdv A outer s H vs Q E hr h => ?_)
  obtain ⟨⟨r, k, spot⟩, hv, ⟨⟨a, b, n, hk⟩, h0⟩, kq⟩ := h
  have nd := sc_bound_of.nd
  have hk : NumOk a b n [r] k spot := hk
  have h0 : coef k r ≠ 0 := h0
  obtain ⟨h1, h2, h3, h4, h5⟩ := hk.row r (by simp)
  have hfit := hk.fit
  have c : Cf K H H (L2.start N_bound_of vs) H [.d (dR r), .d (.int k), .d (.lst (dQs spot)), .no, .no] [] := Cf.start hv rfl
  refine ⟨_, PSs.nox (pss_cons (ps_set (i := 3) nd rfl (Or.inl rfl) (pe_ix ix_list (pe_ix ix_tup (pv 0) pe_int (fun _ _ => rfl)) (pe_un un_neg pe_int) (fun _ _ => rfl)))
    (pss_cons (ps_for PassesOwn.never rfl (pi_range2 (by rfl) B.range (pa_cons (pe_op op_add (pv 1) pe_int) (pa_cons (pe_op op_sub (pe_callB call_len_seq (by rfl) B.len (by decide +kernel) (pa_cons (pe_ix ix_tup (pv 0) pe_int (fun _ _ => rfl)) pa_nil)) pe_int) pa_nil))) (pg_name (i := 4) nd rfl (Or.inl rfl))
    (pss_one (ps_set (i := 3) nd rfl (Or.inl rfl) (pe_cc C_added hr (by decide) (by rfl) (pa_cons (pv 3) (pa_cons (pe_cc C_multiplied hr (by decide) (by rfl) (pa_cons (pe_ix ix_list (pe_ix ix_tup (pv 0) pe_int (fun _ _ => rfl)) (pv 4) (fun _ _ => rfl)) (pa_cons (pe_ix ix_list (pv 2) (pv 4) (fun _ _ => rfl)) pa_nil))) pa_nil))))))
    (pss_one (ps_ret (pe_cc C_divided hr (by decide) (by rfl) (pa_cons (pe_cc C_turned hr (by decide) (by rfl) (pa_cons (pv 3) pa_nil)) (pa_cons (pe_ix ix_list (pe_ix ix_tup (pv 0) pe_int (fun _ _ => rfl)) (pv 1) (fun _ _ => rfl)) pa_nil))))))), ?_⟩
  have hne : r.n ≠ [] := fun e => by rw [e] at h2; simp at h2
  refine q_seq (r_set c (ev_ixL (ev_ixT (ev_var c rfl) ev_int rfl) (ev_neg ev_int) (atI_last hne)) fun σ2 H2 e2 c2 => ?_)
  refine q_seq (r_forM c2 (xs := List.range (r.n.length - 1 - (k + 1))) (enc := fun i => .int ((k + 1 + i : Nat) : Int)) (ei_rngAB (ea_cons (ev_succN (ev_var c2 rfl)) (ea_cons (ev_iI (ev_lenQ (qs := r.n) (ev_ixT (ev_var c2 rfl) ev_int rfl)) ev_int) ea_nil)) (by omega) (by omega)) (fun i => [.d (dR r), .d (.int k), .d (.lst (dQs spot)), .d (dQ (restSum r.n spot (k + 1) i (lastN r))), .no]) (fun _ => []) (Le.refl _) rfl _
    (fun e _ => eg_name) (fun Hs i hi σ3 H3 c3 => ?_) fun σ3 H3 c3 => ?_)
  · have hi' : i < r.n.length - 1 - (k + 1) := by simpa using hi
    have ei : (List.range (r.n.length - 1 - (k + 1)))[i] = i := List.getElem_range hi
    rw [ei] at c3
    have z1 := restSum_sz (j := k + 1) h1 hk.spot hk.a1 hk.b1 (h1.get hk.a1 (r.n.length - 1)) i
    have z2 := szB_mono (a := a) (b := b) (n := i) (m := n) (by omega)
    have z3 : a + b ≤ szB a b n ∨ n = 0 := by
      by_cases hn : n = 0
      · exact .inr hn
      · left
        unfold szB
        have : 1 * (a + b + 1) ≤ n * (a + b + 1) := Nat.mul_le_mul_right _ (by omega)
        omega
    have z4 : a + b ≤ 4000 ∧ a ≤ 4000 ∧ b ≤ 4000 := by
      rcases z3 with z | z
      · omega
      · omega
    refine r_set c3 (d := dQ (restSum r.n spot (k + 1) (i + 1) (lastN r))) ((ev_add (ev_var c3 rfl) (ev_mul (ev_ixL (ev_ixT (ev_var c3 rfl) ev_int rfl) (ev_var c3 rfl) (atI_dQs (by omega))) (ev_ixL (ev_var c3 rfl) (ev_var c3 rfl) (atI_dQs (by omega))) (big_of (h1.get hk.a1 _) (hk.spot.get hk.b1 _) z4.2.1 z4.2.2))
      (big_of z1 ((h1.get hk.a1 _).mul (hk.spot.get hk.b1 _)) (by omega) z4.1)).is ?_) fun σ4 H4 e4 c4 => c4.le (.keep (.keep (.keep (.keep (.drop .nil)))))
    rw [restSum_succ]; rfl
  · rw [List.length_range] at c3
    have z1 := restSum_sz (j := k + 1) h1 hk.spot hk.a1 hk.b1 (h1.get hk.a1 (r.n.length - 1)) (r.n.length - 1 - (k + 1))
    have z2 := szB_mono (a := a) (b := b) h5
    exact r_ret c3 (d := dQ (boundOf r k spot)) (ev_div (ev_trn (ev_var c3 rfl)) (ev_ixL (ev_ixT (ev_var c3 rfl) ev_int rfl) (ev_var c3 rfl) (atI_dQs h2)) (big_of z1.neg (h1.get hk.a1 _) (by omega) (by omega)) h0) kq
theorem greatest_snoc (qs : List Rat) (q : Rat) : greatest (qs ++ [q]) = match greatest qs with
    | none => some q
    | some x => some (if x < q then q else x) := by
  cases qs with
  | nil => rfl
  | cons x xs =>
    show some ((xs ++ [q]).foldl _ x) = _
    rw [List.foldl_append]; rfl
theorem greatest_mem : ∀ {qs : List Rat} {x : Rat}, greatest qs = some x → x ∈ qs
  | [], _, h => by cases h
  | y :: ys, x, h => by
    have : ∀ (l : List Rat) (a : Rat), l.foldl (fun a y => if a < y then y else a) a = a ∨ l.foldl (fun a y => if a < y then y else a) a ∈ l := by
      intro l
      induction l with
      | nil => intro a; exact .inl rfl
      | cons b l ih =>
        intro a
        rw [List.foldl_cons]
        rcases ih (if a < b then b else a) with h | h
        · rw [h]
          split
          · exact .inr List.mem_cons_self
          · exact .inl rfl
        · exact .inr (List.mem_cons_of_mem _ h)
    have e : x = ys.foldl (fun a y => if a < y then y else a) y := (Option.some.inj h).symm
    rw [e]
    rcases this ys y with h | h
    · rw [h]; exact List.mem_cons_self
    · exact List.mem_cons_of_mem _ h
theorem ok_greatest_of (F : FnP K "greatest_of" st_greatest_of f fd) (C_beside : Fc P w K mg base "beside" 1 ["one", "other"] (sp_beside K)) : FnOk P w K mg base CX0 2 f fd ["numbers"] (sp_greatest_of K) := by
  refine F.ok sc_greatest_of (pSp_len fun _ => rfl) (fun cdv A outer s H vs Q E hr h => ?_)
  obtain ⟨qs, hv, hk, kq⟩ := h
  have nd := sc_greatest_of.nd
  have hk : SzL 4000 qs := hk
  have c : Cf K H H (L2.start N_greatest_of vs) H [.d (.lst (dQs qs)), .no, .no] [] := Cf.start hv rfl
  refine ⟨_, PSs.nox (pss_cons (ps_set (i := 1) nd rfl (Or.inl rfl) pe_non)
    (pss_cons (ps_for PassesOwn.never rfl (pi_list (pv 0)) (pg_name (i := 2) nd rfl (Or.inl rfl))
    (pss_one (ps_if (PW.pt (pw_or (pt_cmpR op_isN1 (pv 1) pe_non (nomark _)) (pw_or1 (pt_cmpR op_gt (pe_cc C_beside hr (by decide) (by rfl) (pa_cons (pv 2) (pa_cons (pv 1) pa_nil))) pe_int (nomark _)))))
    (pss_one (ps_set (i := 1) nd rfl (Or.inl rfl) (pv 2)))
    pss_nil)))
    (pss_one (ps_ret (pv 1))))), ?_⟩
  refine q_seq (r_set c ev_non fun σ2 H2 e2 c2 => ?_)
  refine q_seq (r_forM c2 (xs := qs) (enc := dQ) (ei_list (ev_var c2 rfl)) (fun i => [.d (.lst (dQs qs)), .d (dQo (greatest (qs.take i))), .no]) (fun _ => []) (Le.refl _) rfl _ (fun e _ => eg_name) (fun Hs i hi σ3 H3 c3 => ?_) fun σ3 H3 c3 => ?_)
  · have hq := hk _ (List.getElem_mem hi)
    have e1 := greatest_snoc (qs.take i) qs[i]
    rw [← take_succ_get _ hi] at e1
    cases hg : greatest (qs.take i) with
    | none =>
      rw [hg] at c3 e1
      refine r_if (b := true) c3 (et_or (a := true) (b := true) (et_t (ev_noN (ev_var c3 rfl))) (fun h => by cases h)) (fun _ H4 e4 c4 => ?_) (fun h => by cases h)
      exact r_set c4 (ev_var c4 rfl) fun σ5 H5 e5 c5 => (c5.gE (Γ' := [.d (.lst (dQs qs)), .d (dQo (greatest (qs.take (i + 1)))), .d (dQ qs[i])]) (by rw [e1]; rfl)).le (.keep (.keep (.drop .nil)))
    | some x =>
      rw [hg] at c3 e1
      have hx : Sz 4000 x := hk _ (List.mem_of_mem_take (greatest_mem hg))
      refine r_if c3 (et_or (a := false) (et_t (ev_noT (ev_var c3 rfl))) (fun _ => et_t (ev_iB (ev_bes (ev_var c3 rfl) (ev_var c3 rfl) ⟨hq, hx⟩) ev_int))) (fun ht H4 e4 c4 => ?_) (fun ht H4 e4 c4 => ?_)
      · have hlt : x < qs[i] := sgn_pos.mp (of_decide_eq_true (by simpa using ht))
        refine r_set c4 (ev_var c4 rfl) fun σ5 H5 e5 c5 => (c5.gE (Γ' := [.d (.lst (dQs qs)), .d (dQo (greatest (qs.take (i + 1)))), .d (dQ qs[i])]) ?_).le (.keep (.keep (.drop .nil)))
        rw [e1]; simp only [hlt, if_true]; rfl
      · have hlt : ¬ x < qs[i] := fun z => by
          have := sgn_pos.mpr z
          simp [this] at ht
        refine r_next ((c4.gE (Γ' := [.d (.lst (dQs qs)), .d (dQo (greatest (qs.take (i + 1)))), .d (dQ qs[i])]) ?_).le (.keep (.keep (.drop .nil))))
        rw [e1]; simp only [hlt, if_false]; rfl
  · rw [List.take_length] at c3
    exact r_ret c3 (ev_var c3 rfl) kq
theorem ok_number_for (F : FnP K "number_for" st_number_for f fd) (B : Bl mg) (T_NOUGHT_fractions : KtQ K mg "NOUGHT_fractions" 0) (T_UNIT : KtQ K mg "UNIT" 1) (C_beside : Fc P w K mg base "beside" 1 ["one", "other"] (sp_beside K)) (C_bound_of : Fc P w K mg base "bound_of" 4 ["row", "letter", "spot"] (sp_bound_of K)) (C_greatest_of : Fc P w K mg base "greatest_of" 2 ["numbers"] (sp_greatest_of K))
    (C_turned : Fc P w K mg base "turned" 1 ["one"] (sp_turned K)) (C_less : Fc P w K mg base "less" 3 ["one", "other"] (sp_less K)) (C_added : Fc P w K mg base "added" 3 ["one", "other"] (sp_added K)) (C_divided : Fc P w K mg base "divided" 3 ["one", "other"] (sp_divided K)) : FnOk P w K mg base CX0 5 f fd ["rows", "letter", "spot"] (sp_number_for K) := by
  refine F.ok sc_number_for (pSp_len fun _ => rfl) (fun cdv A outer s H vs Q E hr h => ?_)
  obtain ⟨⟨rows, k, spot⟩, hv, ⟨a, b, n, hk⟩, kq⟩ := h
  obtain ⟨a_NOUGHT_fractions, g_NOUGHT_fractions, k0⟩ := T_NOUGHT_fractions
  obtain ⟨a_UNIT, g_UNIT, k1⟩ := T_UNIT
  have nd := sc_number_for.nd
  have hk : NumOk a b n rows k spot := hk
  have hfit := hk.fit
  have hfew := hk.few
  have c : Cf K H H (L2.start N_number_for vs) H [.d (.lst (dRs rows)), .d (.int k), .d (.lst (dQs spot)), .no, .no, .no, .no, .no, .no] [] := Cf.start hv rfl
  refine ⟨_, PSs.nox (pss_cons (ps_gz 3 (ps_setLc (i := 3) (own := [("row", 4)]) (g := (gName 4)) (tt := (tTest (tOp (rI0 fun i j => .bl (decide (j < i))) (tCall (sp_beside K) [] E0 (tCons (tOp (rIxL K) (tOp (rIxT K) (tVar 4) (tC (.int 0))) (tVar 1)) (tCons (tC (.ref a_NOUGHT_fractions)) tNil))) (tC (.int 0))))) (te := (tCall (sp_bound_of K) [] E0 (tCons (tVar 4) (tCons (tVar 1) (tCons (tVar 2) tNil))))) (by rfl) nd rfl rfl (sw_true rfl rfl rfl (by decide +kernel)) (pi_list (pv 0)) (blkOk_by (own := [("row", 4)]) (N := N_number_for) (sc := defScope st_number_for) (by decide +kernel)) (fun _ _ _ _ _ => (pg_name (i := 4) nd rfl (Or.inl rfl))) (fun _ _ _ _ _ => (pts_one (pt_cmpR op_gt (pe_cc C_beside hr (by decide) (by rfl) (pa_cons (pe_ix ix_list (pe_ix ix_tup (pv 4) pe_int (fun _ _ => rfl)) (pv 1) (fun _ _ => rfl)) (pa_cons (pe_glob (v := .ref a_NOUGHT_fractions) (by rfl) g_NOUGHT_fractions rfl) pa_nil))) pe_int (nomark _)))) (fun _ _ _ _ _ => (pe_cc C_bound_of hr (by decide) (by rfl) (pa_cons (pv 4) (pa_cons (pv 1) (pa_cons (pv 2) pa_nil)))))))
    (pss_cons (ps_gz 5 (ps_setLc (i := 5) (own := [("row", 4)]) (g := (gName 4)) (tt := (tTest (tOp (rI0 fun i j => .bl (decide (i < j))) (tCall (sp_beside K) [] E0 (tCons (tOp (rIxL K) (tOp (rIxT K) (tVar 4) (tC (.int 0))) (tVar 1)) (tCons (tC (.ref a_NOUGHT_fractions)) tNil))) (tC (.int 0))))) (te := (tCall (sp_bound_of K) [] E0 (tCons (tVar 4) (tCons (tVar 1) (tCons (tVar 2) tNil))))) (by rfl) nd rfl rfl (sw_true rfl rfl rfl (by decide +kernel)) (pi_list (pv 0)) (blkOk_by (own := [("row", 4)]) (N := N_number_for) (sc := defScope st_number_for) (by decide +kernel)) (fun _ _ _ _ _ => (pg_name (i := 4) nd rfl (Or.inl rfl))) (fun _ _ _ _ _ => (pts_one (pt_cmpR op_lt (pe_cc C_beside hr (by decide) (by rfl) (pa_cons (pe_ix ix_list (pe_ix ix_tup (pv 4) pe_int (fun _ _ => rfl)) (pv 1) (fun _ _ => rfl)) (pa_cons (pe_glob (v := .ref a_NOUGHT_fractions) (by rfl) g_NOUGHT_fractions rfl) pa_nil))) pe_int (nomark _)))) (fun _ _ _ _ _ => (pe_cc C_bound_of hr (by decide) (by rfl) (pa_cons (pv 4) (pa_cons (pv 1) (pa_cons (pv 2) pa_nil)))))))
    (pss_cons (ps_set (i := 6) nd rfl (Or.inl rfl) (pe_cc C_greatest_of hr (by decide) (by rfl) (pa_cons (pv 3) pa_nil)))
    (pss_cons (ps_set (i := 7) nd rfl (Or.inl rfl) (pe_cc C_greatest_of hr (by decide) (by rfl) (pa_cons (pe_fz (pe_lc (own := [("number", 8)]) (g := (gName 8)) (tt := tYes) (te := (tCall (sp_turned K) [] E0 (tCons (tVar 8) tNil))) (by rfl) nd (pi_list (pv 5)) (blkOk_by (own := [("number", 8)]) (N := N_number_for) (sc := defScope st_number_for) (by decide +kernel)) (fun _ _ _ _ _ => (pg_name (i := 8) nd rfl (Or.inl rfl))) (fun _ _ _ _ _ => pts_nil) (fun _ _ _ _ _ => (pe_cc C_turned hr (by decide) (by rfl) (pa_cons (pv 8) pa_nil))))) pa_nil)))
    (pss_cons (ps_if (PW.pt (pw_and (pt_cmpR op_isN1 (pv 6) pe_non (nomark _)) (pw_and1 (pt_cmpR op_isN1 (pv 7) pe_non (nomark _)))))
    (pss_one (ps_ret (pe_glob (v := .ref a_NOUGHT_fractions) (by rfl) g_NOUGHT_fractions rfl)))
    pss_nil)
    (pss_cons (ps_if (pt_cmpR op_isN1 (pv 6) pe_non (nomark _))
    (pss_one (ps_ret (pe_cc C_less hr (by decide) (by rfl) (pa_cons (pe_cc C_turned hr (by decide) (by rfl) (pa_cons (pv 7) pa_nil)) (pa_cons (pe_glob (v := .ref a_UNIT) (by rfl) g_UNIT rfl) pa_nil)))))
    pss_nil)
    (pss_cons (ps_if (pt_cmpR op_isN1 (pv 7) pe_non (nomark _))
    (pss_one (ps_ret (pe_cc C_added hr (by decide) (by rfl) (pa_cons (pv 6) (pa_cons (pe_glob (v := .ref a_UNIT) (by rfl) g_UNIT rfl) pa_nil)))))
    pss_nil)
    (pss_one (ps_ret (pe_cc C_divided hr (by decide) (by rfl) (pa_cons (pe_cc C_less hr (by decide) (by rfl) (pa_cons (pv 6) (pa_cons (pv 7) pa_nil))) (pa_cons (pe_tup (pa_cons pe_int (pa_cons pe_int pa_nil))) pa_nil)))))))))))), ?_⟩
  have hb : ∀ r ∈ rows, Big (coef k r) 0 := fun r hr => big_of ((hk.row r hr).1.get hk.a1 k) Sz.zero (by omega) (by decide)
  refine q_seq (r_setM c ((em_lc c (xs := rows) (enc := dR) (ei_list (ev_var c rfl)) (fun r => decide (0 < sgn (coef k r) 0)) (fun r => dQ (boundOf r k spot)) _ (by decide) (fun e _ => eg_name)
    (fun r hr Hs σ2 H2 c2 => et_t (ev_iB (ev_bes (ev_ixL (ev_ixT (ev_var c2 rfl) ev_int rfl) (ev_var c2 rfl) (atI_dQs (hk.row r hr).2.1)) (ev_cst k0) (hb r hr)) ev_int)) (fun r hr hf Hs σ2 H2 c2 => ?_) (by omega)).is ?_) fun p σ2 H2 e2 c2 => r_gz (k := 0) (ds := dQs ((rows.filter fun r => decide (0 < coef k r)).map fun r => boundOf r k spot)) c2 rfl rfl fun H3 c3 => ?_)
  · have : 0 < coef k r := sgn_pos.mp (of_decide_eq_true hf)
    exact ev_bound_of (ev_var c2 rfl) (ev_var c2 rfl) (ev_var c2 rfl) (hk.one hr) (fun e => by rw [e] at this; exact Rat.lt_irrefl this)
  · simp only [gvn, sgn0_pos, dQs, List.map_map]; rfl
  refine q_seq (r_setM c3 ((em_lc c3 (xs := rows) (enc := dR) (ei_list (ev_var c3 rfl)) (fun r => decide (sgn (coef k r) 0 < 0)) (fun r => dQ (boundOf r k spot)) _ (by decide) (fun e _ => eg_name)
    (fun r hr Hs σ2 H2 c2 => et_t (ev_iB (ev_bes (ev_ixL (ev_ixT (ev_var c2 rfl) ev_int rfl) (ev_var c2 rfl) (atI_dQs (hk.row r hr).2.1)) (ev_cst k0) (hb r hr)) ev_int)) (fun r hr hf Hs σ2 H2 c2 => ?_) (by omega)).is ?_) fun p σ4 H4 e4 c4 => r_gz (k := 0) (ds := dQs ((rows.filter fun r => decide (coef k r < 0)).map fun r => boundOf r k spot)) c4 rfl rfl fun H5 c5 => ?_)
  · have : coef k r < 0 := sgn_neg.mp (of_decide_eq_true hf)
    exact ev_bound_of (ev_var c2 rfl) (ev_var c2 rfl) (ev_var c2 rfl) (hk.one hr) (fun e => by rw [e] at this; exact Rat.lt_irrefl this)
  · simp only [gvn, sgn0_neg, dQs, List.map_map]; rfl
  have zb : ∀ r ∈ rows, Sz (szB a b n + a) (boundOf r k spot) := fun r hr => boundOf_sz (hk.one hr)
  generalize eL : (rows.filter fun r => decide (0 < coef k r)).map (fun r => boundOf r k spot) = ls at c5
  generalize eH : (rows.filter fun r => decide (coef k r < 0)).map (fun r => boundOf r k spot) = hs at c5
  have zl : SzL (szB a b n + a) ls := fun q hq => by
    rw [← eL] at hq
    obtain ⟨r, hr, rfl⟩ := List.mem_map.mp hq
    exact zb r (List.mem_filter.mp hr).1
  have zh : SzL (szB a b n + a) (hs.map fun q => -q) := fun q hq => by
    rw [← eH, List.map_map] at hq
    obtain ⟨r, hr, rfl⟩ := List.mem_map.mp hq
    exact (zb r (List.mem_filter.mp hr).1).neg
  have lh : hs.length ≤ rows.length := by rw [← eH, List.length_map]; exact List.length_filter_le _ _
  refine q_seq (r_set c5 (ev_greatest_of (ev_var c5 rfl) fun q hq => (zl q hq).mono (by omega)) fun σ6 H6 e6 c6 => ?_)
  refine q_seq (r_set c6 (ev_greatest_of (qs := hs.map fun q => -q) (ev_fz ((em_map c6 (xs := hs) (enc := dQ) (ei_list (ev_var c6 rfl)) (fun q => dQ (-q)) _ (by decide) (fun e _ => eg_name) (fun q hq Hs σ2 H2 c2 => ev_trn (ev_var c2 rfl)) (by omega)).is (by rw [dQs, List.map_map]; rfl))) fun q hq => (zh q hq).mono (by omega)) fun σ7 H7 e7 c7 => ?_)
  have hres : numberFor rows k spot = match greatest ls, greatest (hs.map fun q => -q) with
    | none, none => 0
    | none, some h => -h - 1
    | some l, none => l + 1
    | some l, some h => (l - h) / 2 := by
    (rw [numberFor, eL, eH]) <;> (cases greatest ls <;> cases greatest (hs.map fun q => -q) <;> rfl)
  cases hl : greatest ls with
  | none =>
    cases hh : greatest (hs.map fun q => -q) with
    | none =>
      rw [hl, hh] at c7 hres
      refine q_seq (r_if (b := true) c7 (et_and (a := true) (b := true) (et_t (ev_noN (ev_var c7 rfl))) fun _ => et_t (ev_noN (ev_var c7 rfl))) (fun _ H8 e8 c8 => ?_) (fun z => by cases z))
      exact r_ret c8 (d := dQ (numberFor rows k spot)) ((ev_cst k0).is (by simp only [hres])) kq
    | some h =>
      rw [hl, hh] at c7 hres
      have zz := zh _ (greatest_mem hh)
      refine q_seq (r_if (b := false) c7 (et_and (a := true) (b := false) (et_t (ev_noN (ev_var c7 rfl))) fun _ => et_t (ev_noT (ev_var c7 rfl))) (fun z => by cases z) fun _ H8 e8 c8 => ?_)
      refine q_seq (r_if (b := true) c8 (et_t (ev_noN (ev_var c8 rfl))) (fun _ H9 e9 c9 => ?_) (fun z => by cases z))
      exact r_ret c9 (d := dQ (numberFor rows k spot)) ((ev_sub (ev_trn (ev_var c9 rfl)) (ev_cst k1) (big_of zz.neg Sz.one (by omega) (by decide))).is (by simp only [hres])) kq
  | some l =>
    have zz := zl _ (greatest_mem hl)
    cases hh : greatest (hs.map fun q => -q) with
    | none =>
      rw [hl, hh] at c7 hres
      refine q_seq (r_if (b := false) c7 (et_and (a := false) (b := false) (et_t (ev_noT (ev_var c7 rfl))) fun z => by cases z) (fun z => by cases z) fun _ H8 e8 c8 => ?_)
      refine q_seq (r_if (b := false) c8 (et_t (ev_noT (ev_var c8 rfl))) (fun z => by cases z) fun _ H9 e9 c9 => ?_)
      refine q_seq (r_if (b := true) c9 (et_t (ev_noN (ev_var c9 rfl))) (fun _ H10 e10 c10 => ?_) (fun z => by cases z))
      exact r_ret c10 (d := dQ (numberFor rows k spot)) ((ev_add (ev_var c10 rfl) (ev_cst k1) (big_of zz Sz.one (by omega) (by decide))).is (by simp only [hres])) kq
    | some h =>
      rw [hl, hh] at c7 hres
      have zy := zh _ (greatest_mem hh)
      refine q_seq (r_if (b := false) c7 (et_and (a := false) (b := false) (et_t (ev_noT (ev_var c7 rfl))) fun z => by cases z) (fun z => by cases z) fun _ H8 e8 c8 => ?_)
      refine q_seq (r_if (b := false) c8 (et_t (ev_noT (ev_var c8 rfl))) (fun z => by cases z) fun _ H9 e9 c9 => ?_)
      refine q_seq (r_if (b := false) c9 (et_t (ev_noT (ev_var c9 rfl))) (fun z => by cases z) fun _ H10 e10 c10 => ?_)
      exact r_ret c10 (d := dQ (numberFor rows k spot)) ((ev_div (b := 2) (ev_sub (ev_var c10 rfl) (ev_var c10 rfl) (big_of zz zy (by omega) (by omega))) (ev_tup (ea_cons ev_int (ea_cons ev_int ea_nil))) (big_of (zz.sub zy) (m := 2) ⟨by decide, by decide⟩ (by omega) (by decide)) (by decide)).is (by simp only [hres])) kq
theorem ok_shares (F : FnP K "shares" st_shares f fd) (C_divided : Fc P w K mg base "divided" 3 ["one", "other"] (sp_divided K)) : FnOk P w K mg base CX0 4 f fd ["weights", "whole"] (sp_shares K) := by
  refine F.ok sc_shares (pSp_len fun _ => rfl) (fun cdv A outer s H vs Q E hr h => ?_)
  obtain ⟨⟨qs, q⟩, hv, ⟨hl, h1, h2, h0⟩, kq⟩ := h
  have nd := sc_shares.nd
  have hl : qs.length < 1000 := hl
  have h1 : SzL 2000 qs := h1
  have h2 : Sz 2000 q := h2
  have h0 : q ≠ 0 := h0
  have c : Cf K H H (L2.start N_shares vs) H [.d (.lst (dQs qs)), .d (dQ q), .no] [] := Cf.start hv rfl
  refine ⟨_, PSs.nox (pss_one (ps_ret (pe_fz (pe_lc (own := [("weight", 2)]) (g := (gName 2)) (tt := tYes) (te := (tCall (sp_divided K) [] E0 (tCons (tVar 2) (tCons (tVar 1) tNil)))) (by rfl) nd (pi_list (pv 0)) (blkOk_by (own := [("weight", 2)]) (N := N_shares) (sc := defScope st_shares) (by decide +kernel)) (fun _ _ _ _ _ => (pg_name (i := 2) nd rfl (Or.inl rfl))) (fun _ _ _ _ _ => pts_nil) (fun _ _ _ _ _ => (pe_cc C_divided hr (by decide) (by rfl) (pa_cons (pv 2) (pa_cons (pv 1) pa_nil)))))))), ?_⟩
  exact r_ret c (d := .lst (dQs (qs.map (· / q)))) (ev_fz ((em_map c (xs := qs) (enc := dQ) (ei_list (ev_var c rfl)) (fun x => dQ (x / q)) _ (by decide) (fun e _ => eg_name) (fun x hx Hs σ2 H2 c2 => ev_div (ev_var c2 rfl) (ev_var c2 rfl) (big_of (h1 x hx) h2 (by decide) (by decide)) h0) (by omega)).is (by rw [dQs, List.map_map]; rfl))) kq
end
end Lw
/-! The module of rims, walked: spot_by, kept, over. -/
namespace Lw
open PySem PySem.Spec PyProof.Rows L2
abbrev st_spot_by : Stmt := top 67
abbrev N_spot_by : List Str := ["systems", "many", "spot", "letter"]
theorem sc_spot_by : FnScope N_spot_by ["systems", "many", "spot"] (defScope st_spot_by) := ⟨rfl, rfl, rfl, by decide +kernel, rfl, by decide +kernel, by decide +kernel⟩

abbrev st_kept : Stmt := top 69
abbrev N_kept : List Str := ["rims", "many", "systems", "bad"]
theorem sc_kept : FnScope N_kept ["rims"] (defScope st_kept) := ⟨rfl, rfl, rfl, by decide +kernel, rfl, by decide +kernel, by decide +kernel⟩

abbrev st_over : Stmt := top 70
abbrev N_over : List Str := ["one", "rims", "told", "strict", "number", "systems", "bad"]
theorem sc_over : FnScope N_over ["one", "rims"] (defScope st_over) := ⟨rfl, rfl, rfl, by decide +kernel, rfl, by decide +kernel, by decide +kernel⟩

/-- letters m - 1, .., m - i told -/
def spotAft (rows : List Rw) (m : Nat) (qs : List Rat) : Nat → List Rat
  | 0 => qs
  | i + 1 => (spotAft rows m qs i).set (m - 1 - i) (numberFor (sysAt rows (m - 1 - i)) (m - 1 - i) (spotAft rows m qs i))
theorem spotAft_len (rows : List Rw) (m : Nat) (qs : List Rat) : ∀ i, (spotAft rows m qs i).length = qs.length
  | 0 => rfl
  | i + 1 => by rw [spotAft, List.length_set, spotAft_len rows m qs i]
def SpotOk (rows : List Rw) (m : Nat) (qs : List Rat) : Prop := m ≤ qs.length ∧ ∀ i, i < m → ∃ a b n, NumOk a b n (sysAt rows (m - 1 - i)) (m - 1 - i) (spotAft rows m qs i)
def spotOf (rows : List Rw) (m : Nat) (qs : List Rat) : List Rat := (spotAft rows m qs m).take m
def spSpot (K : PySem.W.Frag) : Sp := fun vs H Q _ => ∃ (rows : List Rw) (m : Nat) (qs : List Rat) (l : Addr) (x y : V), vs = [x, y, .ref l] ∧ Rep K H (.lst ((sysOf rows m).map fun rs => .lst (dRs rs))) x ∧ Rep K H (.int m) y ∧ MoOk K H l (.lst (dQs qs)) ∧ m < 1000 ∧ SpotOk rows m qs ∧
  ∀ v H', (∀ b o, b ≠ l → H b = some o → H' b = some o) → Rep K H' (.ptup (dQs (spotOf rows m qs))) v → Q v H'
abbrev sp_spot_by (K : PySem.W.Frag) : Sp := spSpot K
def SysOk (rows : List Rw) (m c : Nat) : Prop := ∀ k, k ≤ m → (sysAt rows k).length < 500 ∧ ∀ r ∈ sysAt rows k, RwOk 600 r ∧ r.n.length = c
structure SumOk (m : Nat) (ts : Ts) : Prop where
  few : ts.length < 1000
  deg : deg ts ≤ 1
  key : ∀ e ∈ ts, e.1.length = m
structure KeptOk (m : Nat) (rims : List Ts) : Prop where
  m1 : m < 900
  ne : rims ≠ []
  few : rims.length < 100
  tl : ∀ ts ∈ rims, SumOk m ts
  sys : SysOk (rimRows m rims) m (m + 1)
  good : badRow (sysAt (rimRows m rims) m) = none
  spot : SpotOk (rimRows m rims) m (List.replicate m 0)
abbrev sp_kept (K : PySem.W.Frag) : Sp := pSp K (fun p : Nat × List Ts => [.lst (dSs p.1 p.2)]) (fun p => KeptOk p.1 p.2) fun p => .tup [.str "kept", .ptup (dQs (spotOf (rimRows p.1 p.2) p.1 (List.replicate p.1 0)))]
def lastL (qs : List Rat) : Rat := qs.getD (qs.length - 1) 0
def strictR (m : Nat) (ts : Ts) (n : Nat) : Rw := ⟨(numsOf m ts).map (-·), unitW (n + 1) n, true⟩
def overRows (m : Nat) (ts : Ts) (rims : List Ts) : List Rw := rimRows m rims ++ [strictR m ts rims.length]
structure OverOk (m : Nat) (ts : Ts) (rims : List Ts) : Prop where
  k : KeptOk m rims
  s : SumOk m ts
  sys : SysOk (overRows m ts rims) m (m + 1)
  spot : badRow (sysAt (overRows m ts rims) m) = none → SpotOk (overRows m ts rims) m (List.replicate m 0)
  bad : ∀ r, badRow (sysAt (overRows m ts rims) m) = some r → r.w ≠ [] ∧ lastL r.w ≠ 0
def overD (m : Nat) (ts : Ts) (rims : List Ts) : D :=
  match badRow (sysAt (overRows m ts rims) m) with
  | none => .tup [.str "below", .ptup (dQs (spotOf (overRows m ts rims) m (List.replicate m 0)))]
  | some r => .tup [.str "so", dQ (-(lastN r) / lastL r.w), .lst (dQs ((r.w.take (r.w.length - 1)).map (· / lastL r.w)))]
abbrev sp_over (K : PySem.W.Frag) : Sp := pSp K (fun p : Nat × Ts × List Ts => [dS p.1 p.2.1, .lst (dSs p.1 p.2.2)]) (fun p => OverOk p.1 p.2.1 p.2.2) fun p => overD p.1 p.2.1 p.2.2
theorem numLen (m : Nat) (ts : Ts) : (numsOf m ts).length = m + 1 := numsOf_len m ts
theorem rimRows_len (m : Nat) (rims : List Ts) : (rimRows m rims).length = rims.length := by simp [rimRows]
theorem cut_take (xs : List D) (m : Nat) : cutD xs none (some (m : Int)) = xs.take m := by
  unfold cutD HT.sIx
  simp only [List.drop_zero, Nat.sub_zero]
  rw [if_neg (by omega)]
  rw [Int.toNat_natCast]
  by_cases h : m ≤ xs.length
  · rw [Nat.min_eq_left h]
  · rw [Nat.min_eq_right (by omega), List.take_length, List.take_of_length_le (by omega)]
theorem cut_last (xs : List D) (h : 1 ≤ xs.length) : cutD xs none (some (-1)) = xs.take (xs.length - 1) := by
  unfold cutD HT.sIx
  simp only [List.drop_zero, Nat.sub_zero]
  rw [if_pos (by omega)]
  congr 1
  omega
theorem atI_lastL {qs : List Rat} (h : qs ≠ []) : atI (dQs qs) (-1) = some (dQ (lastL qs)) := atI_last (r := ⟨qs, [], false⟩) h
section
variable {K : PySem.W.Frag} {σ : L2.St} {H H0 Hb : Hp} {ta tb tc te : TE} {Γ : List G} {ms : List (Addr × Mo)} {Dn : Ends} {ds : List D}
theorem ev_need_straight {m : Nat} {rims : List Ts} (ha : EvD K ta σ H (.lst (dSs m rims))) (h : ∀ ts ∈ rims, SumOk m ts) : EvD K (tCall (sp_need_straight K) [] E0 (tCons ta tNil)) σ H .non :=
  ev_call (args := fun p : Nat × List Ts => [.lst (dSs p.1 p.2)]) (pre := fun p => ∀ ts ∈ p.2, ts.length < 1000000 ∧ deg ts ≤ 1) (res := fun p => .non) (m, rims) (ea_cons ha ea_nil) fun ts hts => ⟨by have := (h ts hts).few; omega, (h ts hts).deg⟩
theorem ev_spot_by {rows : List Rw} {m : Nat} {qs : List Rat} (ha : EvD K ta σ H (.lst ((sysOf rows m).map fun rs => .lst (dRs rs)))) (hb : EvD K tb σ H (.int m)) (hc : EvM K tc σ H (.lst (dQs qs))) (hm : m < 1000) (hs : SpotOk rows m qs) : EvD K (tCall (spSpot K) [] E0 (tCons ta (tCons tb (tCons tc tNil)))) σ H (.ptup (dQs (spotOf rows m qs))) := fun H1 e Q q =>
  ha H1 e _ fun x H2 e2 r2 => hb H2 (e.trans e2) _ fun y H3 e3 r3 => hc H3 ((e.trans e2).trans e3) _ fun p H4 e4 hp hm4 =>
    ⟨rows, m, qs, p, x, y, rfl, r2.mono (imm_same (e3.trans e4)), r3.mono (imm_same e4), hm4, hm, hs, fun v H' k r => q v H' (fun b o hb => k b o (fun z => by
      have := (e2.trans e3) b o hb
      rw [z, hp] at this; cases this) (e4 b o ((e2.trans e3) b o hb))) r⟩
theorem ev_kept {m : Nat} {rims : List Ts} (ha : EvD K ta σ H (.lst (dSs m rims))) (h : KeptOk m rims) : EvD K (tCall (sp_kept K) [] E0 (tCons ta tNil)) σ H (.tup [.str "kept", .ptup (dQs (spotOf (rimRows m rims) m (List.replicate m 0)))]) :=
  ev_call (args := fun p : Nat × List Ts => [.lst (dSs p.1 p.2)]) (pre := fun p => KeptOk p.1 p.2) (res := fun p => .tup [.str "kept", .ptup (dQs (spotOf (rimRows p.1 p.2) p.1 (List.replicate p.1 0)))]) (m, rims) (ea_cons ha ea_nil) h
/-- x[i] = e, e read while x is locked -/
theorem r_setLock {n j k : Nat} {l : Addr} {i : Int} {q : Rat} (c : Cf K H0 Hb σ H Γ ms) (hn : Γ[n]? = some (.at l)) (hk : ms[k]? = some (l, .lst ds)) (h : ∀ H', Cf K H0 Hb σ H' (Γ.set n (.d (.lst ds))) (ms.eraseIdx k) → EvD K te σ H' (dQ q)) (hi : EvD K tb σ H (.int i)) (hj : ixN ds.length i = some j)
    (qq : ∀ H', Cf K H0 Hb σ H' Γ (ms.set k (l, .lst (ds.set j (dQ q)))) → Dn.nx σ H') : tAsg (tLockE te) (gSub (tVar n) tb rSetL) Dn σ H := by
  obtain ⟨h0, vs, h1, h2⟩ := c.mu _ (List.mem_of_getElem? hk)
  have e := c.st.ref hn
  refine ⟨l, _, h1, trivial, fun od => ?_⟩
  have c1 := (c.frz (o := od) k hk h1 trivial).setD (d := .lst ds) (v := .ref l) n (rep_lst.mpr ⟨l, vs, od, rfl, upd_same, h2.mono (imm_upd (.inl (by rw [h1]; trivial)))⟩)
  have es : σ.set n (some (.ref l)) = σ := by
    apply List.ext_getElem?
    intro j
    by_cases ej : n = j
    · subst ej
      rw [List.getElem?_set_self (List.getElem?_eq_some_iff.mp e).1, e]
    · rw [List.getElem?_set_ne ej]
  rw [es] at c1
  refine h _ c1 _ (Same.refl _) _ fun v H2 e2 r2 => ⟨e2 _ _ upd_same, ?_⟩
  have sm : Same H (upd H2 l (.lst vs)) := fun b o hb => by
    by_cases z : b = l
    · rw [z] at hb ⊢
      rw [h1] at hb; cases hb
      exact upd_same
    · rw [upd_ne z]
      exact e2 b o (by rw [upd_ne z]; exact hb)
  have r3 : Rep K (upd H2 l (.lst vs)) (dQ q) v := by
    obtain ⟨a, ws, rfl, hT, hw⟩ := rep_tup.mp r2
    have hl : H2 l = some (.frz od (.lst vs)) := e2 _ _ upd_same
    have hw' := repL_int_eq (ns := [q.num, (q.den : Int)]) hw
    refine rep_tup.mpr ⟨a, ws, rfl, ?_, by rw [hw']; exact repL_ints [q.num, (q.den : Int)]⟩
    rcases hT with (hT | ⟨o, hT⟩) | hT
    · refine .inl (.inl ?_)
      rw [upd_ne (fun z => by rw [z, hl] at hT; cases hT)]; exact hT
    · refine .inl (.inr ⟨o, ?_⟩)
      rw [upd_ne (fun z => by rw [z, hl] at hT; cases hT)]; exact hT
    · exact .inr hT
  exact r_setL (te := tC v) (c.ext sm) hn hk (fun H1 e1 Q q1 => q1 v H1 (Same.refl H1) (r3.mono (imm_same e1))) (hi.ext sm) hj qq
theorem ei_down {ta : TA} {m : Nat} (h : EvA K ta σ H [.int ((m : Int) - 1), .int (-1), .int (-1)]) (hm : m < 100000000) : EvI K (iRng3 ta) σ H ((List.range m).map fun i => .int ((m - 1 - i : Nat) : Int)) :=
  (ei_rng3 h ⟨by omega, by omega, by omega, by omega⟩).is (by
    show (List.range (((m : Int) - 1) - (-1)).toNat).map _ = _
    have e : (((m : Int) - 1) - (-1)).toNat = m := by omega
    rw [e]
    refine List.map_congr_left fun i hi => ?_
    have := List.mem_range.mp hi
    congr 1
    omega)
end
section
variable {P : Program} {w : World} {K : PySem.W.Frag} {mg : Str → Option Value} {base : Heap} {f : Addr} {fd : FuncData}
theorem ok_spot_by (F : FnP K "spot_by" st_spot_by f fd) (B : Bl mg) (C_number_for : Fc P w K mg base "number_for" 5 ["rows", "letter", "spot"] (sp_number_for K)) : FnOk P w K mg base CX0 6 f fd ["systems", "many", "spot"] (sp_spot_by K) := by
  refine F.ok sc_spot_by (fun vs H Q E h => by obtain ⟨_, _, _, _, _, _, rfl, _⟩ := h; rfl) (fun cdv A outer s H vs Q E hr h => ?_)
  obtain ⟨rows, m, qs, l, x, y, rfl, hx, hy, hl, hm, ⟨hml, hs⟩, kq⟩ := h
  have nd := sc_spot_by.nd
  have c : Cf K (fun b => if b = l then none else H b) H (L2.start N_spot_by [x, y, .ref l]) H [.d (.lst ((sysOf rows m).map fun rs => .lst (dRs rs))), .d (.int m), .at l, .no] [(l, .lst (dQs qs))] := by
    refine ⟨fun b o hb => ?_, Imm.refl H, ?_, fun p hp => ?_, by simp⟩
    · by_cases z : b = l
      · rw [if_pos z] at hb; cases hb
      · rw [if_neg z] at hb; exact hb
    · exact .cons ⟨x, rfl, hx⟩ (.cons ⟨y, rfl, hy⟩ (.cons rfl (.cons trivial .nil)))
    · rw [List.mem_singleton.mp hp]
      exact ⟨if_pos rfl, hl⟩
  refine ⟨_, PSs.nox (pss_cons (ps_for PassesOwn.never rfl (pi_range3 (by rfl) B.range (pa_cons (pe_op op_sub (pv 1) pe_int) (pa_cons (pe_un un_neg pe_int) (pa_cons (pe_un un_neg pe_int) pa_nil)))) (pg_name (i := 3) nd rfl (Or.inl rfl))
    (pss_one (ps_asg (pe_lock (pe_cc C_number_for hr (by decide) (by rfl) (pa_cons (pe_ix ix_list (pv 0) (pv 3) (fun _ _ => rfl)) (pa_cons (pv 3) (pa_cons (pv 2) pa_nil))))) (pg_sub (pv 2) (pv 3) set_list))))
    (pss_one (ps_ret (pe_callTy call_tupleP (by rfl) B.tuple (by decide +kernel) (pa_cons (pe_fz (pe_slice sl_list (pv 2) po_none (po_some (pv 1)))) pa_nil))))), ?_⟩
  refine q_seq (r_forM c (xs := List.range m) (enc := fun i => .int ((m - 1 - i : Nat) : Int)) (ei_down (ea_cons (ev_iI (ev_var c rfl) ev_int) (ea_cons (ev_neg ev_int) (ea_cons (ev_neg ev_int) ea_nil))) (by omega)) (fun _ => [.d (.lst ((sysOf rows m).map fun rs => .lst (dRs rs))), .d (.int m), .at l, .no]) (fun i => [(l, .lst (dQs (spotAft rows m qs i)))]) (Le.refl _) rfl _
    (fun e _ => eg_name) (fun Hs i hi σ3 H3 c3 => ?_) fun σ3 H3 c3 => ?_)
  · have hi' : i < m := by simpa using hi
    have ei : (List.range m)[i] = i := List.getElem_range hi
    rw [ei] at c3
    obtain ⟨a, b, n, hk⟩ := hs i hi'
    refine r_setLock (k := 0) c3 rfl rfl (fun H4 c4 => ev_number_for (ev_ixL (ev_var c4 rfl) (ev_var c4 rfl) (atI_nat ?_)) (ev_var c4 rfl) (ev_var c4 rfl) hk) (ev_var c3 rfl) (ixN_nat (by rw [List.length_map, spotAft_len]; omega)) fun H5 c5 => ?_
    · rw [List.getElem?_map, sysOf, List.getElem?_map, List.getElem?_range (by omega)]; rfl
    · refine (c5.le (.keep (.keep (.keep (.drop .nil))))).msE ?_
      simp only [spotAft, dQs, List.map_set, List.set_cons_zero]
  · rw [List.length_range] at c3
    refine r_ret c3 (d := .ptup (dQs (spotOf rows m qs))) ((ev_tupleP (ev_fz (em_slM (k := 0) c3 rfl rfl eo_none (eo_int (ev_var c3 rfl))))).is ?_) fun v H' sm r => kq v H' (fun b o z hb => sm b o (by show (if b = l then none else H b) = some o; rw [if_neg z]; exact hb)) r
    rw [cut_take]; simp only [spotOf, dQs, List.map_take]
theorem sys_atI {rows : List Rw} {m : Nat} : atI ((sysOf rows m).map fun rs => D.lst (dRs rs)) (-1) = some (.lst (dRs (sysAt rows m))) := by
  refine atI_neg (j := 1) (by decide) (by simp [sysOf]) ?_
  rw [List.getElem?_map, sysOf, List.getElem?_map]
  simp
theorem ok_kept (F : FnP K "kept" st_kept f fd) (T_NOUGHT_fractions : KtQ K mg "NOUGHT_fractions" 0) (C_need_straight : Fc P w K mg base "need_straight" 2 ["some"] (sp_need_straight K)) (C_systems_of : Fc P w K mg base "systems_of" 7 ["rows", "many"] (sp_systems_of K)) (C_rim_rows : Fc P w K mg base "rim_rows" 2 ["rims"] (sp_rim_rows K))
    (C_bad_row : Fc P w K mg base "bad_row" 2 ["rows"] (sp_bad_row K)) (C_spot_by : Fc P w K mg base "spot_by" 6 ["systems", "many", "spot"] (sp_spot_by K)) : FnOk P w K mg base CX0 8 f fd ["rims"] (sp_kept K) := by
  refine F.ok sc_kept (pSp_len fun _ => rfl) (fun cdv A outer s H vs Q E hr h => ?_)
  obtain ⟨⟨m, rims⟩, hv, hk, kq⟩ := h
  obtain ⟨a_NOUGHT_fractions, g_NOUGHT_fractions, k0⟩ := T_NOUGHT_fractions
  have nd := sc_kept.nd
  have hk : KeptOk m rims := hk
  have hm := hk.m1
  have c : Cf K H H (L2.start N_kept vs) H [.d (.lst (dSs m rims)), .no, .no, .no] [] := Cf.start hv rfl
  refine ⟨_, PSs.nox (pss_cons (ps_expr (pe_cc C_need_straight hr (by decide) (by rfl) (pa_cons (pv 0) pa_nil)))
    (pss_cons (ps_set (i := 1) nd rfl (Or.inl rfl) (pe_ix ix_tup (pe_ix ix_list (pv 0) pe_int (fun _ _ => rfl)) pe_int (fun _ _ => rfl)))
    (pss_cons (ps_set (i := 2) nd rfl (Or.inl rfl) (pe_cc C_systems_of hr (by decide) (by rfl) (pa_cons (pe_cc C_rim_rows hr (by decide) (by rfl) (pa_cons (pv 0) pa_nil)) (pa_cons (pv 1) pa_nil))))
    (pss_cons (ps_set (i := 3) nd rfl (Or.inl rfl) (pe_cc C_bad_row hr (by decide) (by rfl) (pa_cons (pe_ix ix_list (pv 2) (pe_un un_neg pe_int) (fun _ _ => rfl)) pa_nil)))
    (pss_cons (ps_if (pt_cmpR op_isN1 (pv 3) pe_non (nomark _))
    (pss_one (ps_ret (pe_tup (pa_cons pe_str (pa_cons (pe_cc C_spot_by hr (by decide) (by rfl) (pa_cons (pv 2) (pa_cons (pv 1) (pa_cons (pe_op op_rep (pe_lst (pa_cons (pe_glob (v := .ref a_NOUGHT_fractions) (by rfl) g_NOUGHT_fractions rfl) pa_nil)) (pv 1)) pa_nil)))) pa_nil)))))
    pss_nil)
    (pss_one ps_never)))))), ?_⟩
  refine q_seq (ev_need_straight (ev_var c rfl) hk.tl H (Same.refl H) _ fun v1 H1 e1 _ => ?_)
  have c1 := c.ext e1
  have hlen : 0 < rims.length := List.length_pos_iff.mpr hk.ne
  refine q_seq (r_set c1 (ev_ixT (ev_ixL (d := dS m rims[0]) (ev_var c1 rfl) ev_int (atI_nat (j := 0) (by rw [List.getElem?_map, List.getElem?_eq_getElem hlen]; rfl))) ev_int rfl) fun σ2 H2 e2 c2 => ?_)
  refine q_seq (r_set c2 (ev_systems_of (ev_rim_rows (ev_var c2 rfl) (by omega) (by have := hk.few; omega) fun ts hts => (hk.tl ts hts).key) (ev_var c2 rfl) (by omega) fun k hkm => ⟨(hk.sys k (by omega)).1, fun r hr => ⟨((hk.sys k (by omega)).2 r hr).1, by rw [((hk.sys k (by omega)).2 r hr).2]; omega⟩⟩) fun σ3 H3 e3 c3 => ?_)
  refine q_seq (r_set c3 (d := .non) ((ev_bad_row (ev_ixL (ev_var c3 rfl) (ev_neg ev_int) sys_atI) fun r hr => ?_).is (by rw [hk.good])) fun σ4 H4 e4 c4 => ?_)
  · have := (hk.sys m (Nat.le_refl m)).2 r hr
    exact ⟨fun q hq => (this.1.2.2.1 q hq).mono (by decide), fun z => by have := this.2; rw [z] at this; simp at this⟩
  refine q_seq (r_if (b := true) c4 (et_t (ev_noN (ev_var c4 rfl))) (fun _ H5 e5 c5 => ?_) (fun z => by cases z))
  refine r_ret c5 (d := .tup [.str "kept", .ptup (dQs (spotOf (rimRows m rims) m (List.replicate m 0)))]) (ev_tup (ea_cons ev_str (ea_cons (ev_spot_by (ev_var c5 rfl) (ev_var c5 rfl) ((em_repL (em_lst (ea_cons (ev_cst k0) ea_nil)) (ev_var c5 rfl) (by omega) (by simp; omega) (by omega)).is ?_) (by omega) hk.spot) ea_nil))) kq
  rw [rep1_flat, Int.toNat_natCast]
  show Mo.lst (List.replicate m (dQ 0)) = _
  rw [dQs, List.map_replicate]
theorem ok_over (F : FnP K "over" st_over f fd) (B : Bl mg) (T_NOUGHT_fractions : KtQ K mg "NOUGHT_fractions" 0) (C_need_straight : Fc P w K mg base "need_straight" 2 ["some"] (sp_need_straight K)) (C_kept : Fc P w K mg base "kept" 8 ["rims"] (sp_kept K)) (C_turned : Fc P w K mg base "turned" 1 ["one"] (sp_turned K)) (C_numbers_of : Fc P w K mg base "numbers_of" 1 ["one"] (sp_numbers_of K)) (C_unit_weights : Fc P w K mg base "unit_weights" 1 ["many", "at"] (sp_unit_weights K))
    (C_systems_of : Fc P w K mg base "systems_of" 7 ["rows", "many"] (sp_systems_of K)) (C_rim_rows : Fc P w K mg base "rim_rows" 2 ["rims"] (sp_rim_rows K)) (C_bad_row : Fc P w K mg base "bad_row" 2 ["rows"] (sp_bad_row K)) (C_spot_by : Fc P w K mg base "spot_by" 6 ["systems", "many", "spot"] (sp_spot_by K)) (C_divided : Fc P w K mg base "divided" 3 ["one", "other"] (sp_divided K)) (C_shares : Fc P w K mg base "shares" 4 ["weights", "whole"] (sp_shares K)) :
    FnOk P w K mg base CX0 9 f fd ["one", "rims"] (sp_over K) := by
  refine F.ok sc_over (pSp_len fun _ => rfl) (fun cdv A outer s H vs Q E hr h => ?_)
  obtain ⟨⟨m, ts, rims⟩, hv, hk, kq⟩ := h
  obtain ⟨a_NOUGHT_fractions, g_NOUGHT_fractions, k0⟩ := T_NOUGHT_fractions
  have nd := sc_over.nd
  have hk : OverOk m ts rims := hk
  have hm := hk.k.m1
  have hfew := hk.k.few
  have c : Cf K H H (L2.start N_over vs) H [.d (dS m ts), .d (.lst (dSs m rims)), .no, .no, .no, .no, .no] [] := Cf.start hv rfl
  refine ⟨_, PSs.nox (pss_cons (ps_expr (pe_cc C_need_straight hr (by decide) (by rfl) (pa_cons (pe_fz (pe_op op_catL (pe_fz (pe_lst (pa_cons (pv 0) pa_nil))) (pv 1))) pa_nil)))
    (pss_cons (ps_set (i := 2) nd rfl (Or.inl rfl) (pe_cc C_kept hr (by decide) (by rfl) (pa_cons (pv 1) pa_nil)))
    (pss_cons (ps_if (pt_cmpR op_eq (pe_ix ix_tup (pv 2) pe_int (fun _ _ => rfl)) pe_str (nomark _))
    (pss_one (ps_ret (pv 2)))
    pss_nil)
    (pss_cons (ps_set (i := 3) nd rfl (Or.inl rfl) (pe_tup (pa_cons (pe_fz (pe_lc (own := [("number", 4)]) (g := (gName 4)) (tt := tYes) (te := (tCall (sp_turned K) [] E0 (tCons (tVar 4) tNil))) (by rfl) nd (pi_list (pe_cc C_numbers_of hr (by decide) (by rfl) (pa_cons (pv 0) pa_nil))) (blkOk_by (own := [("number", 4)]) (N := N_over) (sc := defScope st_over) (by decide +kernel)) (fun _ _ _ _ _ => (pg_name (i := 4) nd rfl (Or.inl rfl))) (fun _ _ _ _ _ => pts_nil) (fun _ _ _ _ _ => (pe_cc C_turned hr (by decide) (by rfl) (pa_cons (pv 4) pa_nil))))) (pa_cons (pe_cc C_unit_weights hr (by decide) (by rfl) (pa_cons (pe_op op_add (pe_callB call_len_seq (by rfl) B.len (by decide +kernel) (pa_cons (pv 1) pa_nil)) pe_int) (pa_cons (pe_un un_neg pe_int) pa_nil))) (pa_cons pe_bl pa_nil)))))
    (pss_cons (ps_set (i := 5) nd rfl (Or.inl rfl) (pe_cc C_systems_of hr (by decide) (by rfl) (pa_cons (pe_fz (pe_op op_catL (pe_cc C_rim_rows hr (by decide) (by rfl) (pa_cons (pv 1) pa_nil)) (pe_fz (pe_lst (pa_cons (pv 3) pa_nil))))) (pa_cons (pe_ix ix_tup (pv 0) pe_int (fun _ _ => rfl)) pa_nil))))
    (pss_cons (ps_set (i := 6) nd rfl (Or.inl rfl) (pe_cc C_bad_row hr (by decide) (by rfl) (pa_cons (pe_ix ix_list (pv 5) (pe_un un_neg pe_int) (fun _ _ => rfl)) pa_nil)))
    (pss_cons (ps_if (pt_cmpR op_isN1 (pv 6) pe_non (nomark _))
    (pss_one (ps_ret (pe_tup (pa_cons pe_str (pa_cons (pe_cc C_spot_by hr (by decide) (by rfl) (pa_cons (pv 5) (pa_cons (pe_ix ix_tup (pv 0) pe_int (fun _ _ => rfl)) (pa_cons (pe_op op_rep (pe_lst (pa_cons (pe_glob (v := .ref a_NOUGHT_fractions) (by rfl) g_NOUGHT_fractions rfl) pa_nil)) (pe_ix ix_tup (pv 0) pe_int (fun _ _ => rfl))) pa_nil)))) pa_nil)))))
    pss_nil)
    (pss_one (ps_ret (pe_tup (pa_cons pe_str (pa_cons (pe_cc C_divided hr (by decide) (by rfl) (pa_cons (pe_cc C_turned hr (by decide) (by rfl) (pa_cons (pe_ix ix_list (pe_ix ix_tup (pv 6) pe_int (fun _ _ => rfl)) (pe_un un_neg pe_int) (fun _ _ => rfl)) pa_nil)) (pa_cons (pe_ix ix_list (pe_ix ix_tup (pv 6) pe_int (fun _ _ => rfl)) (pe_un un_neg pe_int) (fun _ _ => rfl)) pa_nil))) (pa_cons (pe_cc C_shares hr (by decide) (by rfl) (pa_cons (pe_fz (pe_slice sl_list (pe_ix ix_tup (pv 6) pe_int (fun _ _ => rfl)) po_none (po_some (pe_un un_neg pe_int)))) (pa_cons (pe_ix ix_list (pe_ix ix_tup (pv 6) pe_int (fun _ _ => rfl)) (pe_un un_neg pe_int) (fun _ _ => rfl)) pa_nil))) pa_nil))))))))))))), ?_⟩
  refine q_seq (ev_need_straight (rims := ts :: rims) (ev_fz (em_catL (ds := [dS m ts]) (ev_fz (em_lst (ea_cons (ev_var c rfl) ea_nil))) (ev_var c rfl) (by simp; omega))) (fun t ht => by
    rcases List.mem_cons.mp ht with z | z
    · rw [z]; exact hk.s
    · exact hk.k.tl t z) H (Same.refl H) _ fun v1 H1 e1 _ => ?_)
  have c1 := c.ext e1
  refine q_seq (r_set c1 (ev_kept (ev_var c1 rfl) hk.k) fun σ2 H2 e2 c2 => ?_)
  refine q_seq (r_if (b := false) c2 (et_t ((ev_eqS (ev_ixT (ev_var c2 rfl) ev_int rfl) ev_str).is (congrArg D.bl (by decide)))) (fun z => by cases z) fun _ H3 e3 c3 => ?_)
  refine q_seq (r_set c3 (d := dR (strictR m ts rims.length)) (ev_tup (ea_cons (ev_fz ((em_map c3 (xs := numsOf m ts) (enc := dQ) (ei_list (ev_numbers_of (ev_var c3 rfl) (by omega) hk.s.key)) (fun q => dQ (-q)) _ (by decide) (fun e _ => eg_name) (fun q hq Hs σ2 H2 c2 => ev_trn (ev_var c2 rfl)) (by rw [numLen]; omega)).is (by show Mo.lst _ = Mo.lst (dQs ((numsOf m ts).map (-·))); rw [dQs, List.map_map]; rfl)))
    (ea_cons (ev_unit_weights (n := rims.length + 1) (ev_succN ((ev_lenL (ev_var c3 rfl)).is (by rw [List.length_map]))) (ev_neg ev_int) (by omega) (ixN_neg (j := 1) (by decide) (by omega))) (ea_cons ev_bl ea_nil)))) fun σ4 H4 e4 c4 => ?_)
  refine q_seq (r_set c4 (ev_systems_of (rows := overRows m ts rims) (ev_fz ((em_catL (ev_rim_rows (ev_var c4 rfl) (by omega) (by omega) fun t ht => (hk.k.tl t ht).key) (ev_fz (em_lst (ea_cons (ev_var c4 rfl) ea_nil))) (by simp [rimRows]; omega)).is (by simp only [overRows, dRs, List.map_append, List.map_cons, List.map_nil]))) (ev_ixT (ev_var c4 rfl) ev_int rfl) (by omega)
    fun k hkm => ⟨(hk.sys k (by omega)).1, fun r hr => ⟨((hk.sys k (by omega)).2 r hr).1, by rw [((hk.sys k (by omega)).2 r hr).2]; omega⟩⟩) fun σ5 H5 e5 c5 => ?_)
  have hrow : ∀ r ∈ sysAt (overRows m ts rims) m, SzL 4000 r.n ∧ r.n ≠ [] := fun r hr => by
    have := (hk.sys m (Nat.le_refl m)).2 r hr
    exact ⟨fun q hq => (this.1.2.2.1 q hq).mono (by decide), fun z => by have := this.2; rw [z] at this; simp at this⟩
  refine q_seq (r_set c5 (ev_bad_row (ev_ixL (ev_var c5 rfl) (ev_neg ev_int) sys_atI) hrow) fun σ6 H6 e6 c6 => ?_)
  cases hb : badRow (sysAt (overRows m ts rims) m) with
  | none =>
    rw [hb] at c6
    have hD : overD m ts rims = .tup [.str "below", .ptup (dQs (spotOf (overRows m ts rims) m (List.replicate m 0)))] := by rw [overD, hb]
    refine q_seq (r_if (b := true) c6 (et_t (ev_noN (ev_var c6 rfl))) (fun _ H7 e7 c7 => ?_) (fun z => by cases z))
    refine r_ret c7 (d := overD m ts rims) ((ev_tup (ea_cons ev_str (ea_cons (ev_spot_by (rows := overRows m ts rims) (ev_var c7 rfl) (ev_ixT (ev_var c7 rfl) ev_int rfl) ((em_repL (em_lst (ea_cons (ev_cst k0) ea_nil)) (ev_ixT (ev_var c7 rfl) ev_int rfl) (by omega) (by simp; omega) (by omega)).is ?_) (by omega) (hk.spot hb)) ea_nil))).is hD.symm) kq
    rw [rep1_flat, Int.toNat_natCast]
    show Mo.lst (List.replicate m (dQ 0)) = _
    rw [dQs, List.map_replicate]
  | some r =>
    rw [hb] at c6
    obtain ⟨hw, hw0⟩ := hk.bad r hb
    have hr := (hk.sys m (Nat.le_refl m)).2 r (List.mem_of_find?_eq_some hb)
    have hrn := hrow r (List.mem_of_find?_eq_some hb)
    have zl : Sz 600 (lastL r.w) := hr.1.2.2.2.get (by decide) _
    have zn : Sz 600 (lastN r) := hr.1.2.2.1.get (by decide) _
    have hwl : 1 ≤ r.w.length := List.length_pos_iff.mpr hw
    have hD : overD m ts rims = .tup [.str "so", dQ (-(lastN r) / lastL r.w), .lst (dQs ((r.w.take (r.w.length - 1)).map (· / lastL r.w)))] := by rw [overD, hb]
    refine q_seq (r_if (b := false) c6 (et_t (ev_noT (ev_var c6 rfl))) (fun z => by cases z) fun _ H7 e7 c7 => ?_)
    refine r_ret c7 (d := overD m ts rims) ((ev_tup (ea_cons ev_str (ea_cons (ev_div (ev_trn (ev_ixL (ev_ixT (ev_var c7 rfl) ev_int rfl) (ev_neg ev_int) (atI_last hrn.2))) (ev_ixL (ev_ixT (ev_var c7 rfl) ev_int rfl) (ev_neg ev_int) (atI_lastL hw)) (big_of zn.neg zl (by decide) (by decide)) hw0)
      (ea_cons (ev_shares (ev_fz ((em_slL (ev_ixT (ev_var c7 rfl) ev_int rfl) eo_none (eo_int (K := K) (ev_neg ev_int))).is ?_)) (ev_ixL (ev_ixT (ev_var c7 rfl) ev_int rfl) (ev_neg ev_int) (atI_lastL hw)) ?_ ?_ (zl.mono (by decide)) hw0) ea_nil)))).is hD.symm) kq
    · rw [cut_last _ (by rw [List.length_map]; exact hwl), List.length_map]; simp only [dQs, List.map_take]
    · have := hr.1.2.1
      rw [List.length_take]; omega
    · exact fun q hq => (hr.1.2.2.2 q (List.mem_of_mem_take hq)).mono (by decide)
end
end Lw
/-! The module of reach, walked. -/
namespace Lw
open PySem PySem.Spec PyProof.Rows L2
abbrev st_with_worth : Stmt := top 72
abbrev N_with_worth : List Str := ["row", "share", "numbers", "weights", "strict"]
theorem sc_with_worth : FnScope N_with_worth ["row", "share"] (defScope st_with_worth) := ⟨rfl, rfl, rfl, by decide +kernel, rfl, by decide +kernel, by decide +kernel⟩

abbrev st_least_row : Stmt := top 73
abbrev N_least_row : List Str := ["rows", "found", "row"]
theorem sc_least_row : FnScope N_least_row ["rows"] (defScope st_least_row) := ⟨rfl, rfl, rfl, by decide +kernel, rfl, by decide +kernel, by decide +kernel⟩

abbrev st_number_of : Stmt := top 74
abbrev N_number_of : List Str := ["row"]
theorem sc_number_of : FnScope N_number_of ["row"] (defScope st_number_of) := ⟨rfl, rfl, rfl, by decide +kernel, rfl, by decide +kernel, by decide +kernel⟩

abbrev st_reach : Stmt := top 77
abbrev N_reach : List Str := ["one", "rims", "told", "many", "numbers", "number", "own", "systems", "row", "spot"]
theorem sc_reach : FnScope N_reach ["one", "rims"] (defScope st_reach) := ⟨rfl, rfl, rfl, by decide +kernel, rfl, by decide +kernel, by decide +kernel⟩

def worthR (r : Rw) (q : Rat) : Rw := ⟨r.n.take (r.n.length - 1) ++ [q] ++ [lastN r], r.w, r.s⟩
def worthN (r : Rw) : Rat := r.n.getD (r.n.length - 2) 0
def numOf (r : Rw) : Rat := -(lastN r) / worthN r
def leastStep (f : Option Rw) (r : Rw) : Option Rw :=
  if 0 < worthN r then (match f with
    | none => some r
    | some x => if numOf x < numOf r then some r else some x) else f
def leastRow (rows : List Rw) : Option Rw := rows.foldl leastStep none
def WOk (r : Rw) : Prop := SzL 600 r.n ∧ 2 ≤ r.n.length ∧ r.n.length < 1000
abbrev sp_with_worth (K : PySem.W.Frag) : Sp := pSp K (fun p : Rw × Rat => [dR p.1, dQ p.2]) (fun p => p.1.n ≠ [] ∧ p.1.n.length < 1000) fun p => dR (worthR p.1 p.2)
abbrev sp_number_of (K : PySem.W.Frag) : Sp := pSp K (fun p : Rw => [dR p]) (fun p => WOk p ∧ worthN p ≠ 0) fun p => dQ (numOf p)
abbrev sp_least_row (K : PySem.W.Frag) : Sp := pSp K (fun p : List Rw => [.lst (dRs p)]) (fun p => ∀ r ∈ p, WOk r) fun p => dRo (leastRow p)
def ownR (m : Nat) (ts : Ts) (n : Nat) : Rw := ⟨(numsOf m ts).map (-·), unitW (n + 1) n, false⟩
def reachRows (m : Nat) (ts : Ts) (rims : List Ts) : List Rw := (rimRows m rims).map (fun r => worthR r 0) ++ [worthR (ownR m ts rims.length) 1]
def reachD (m : Nat) (ts : Ts) (rims : List Ts) : D :=
  match leastRow (sysAt (reachRows m ts rims) m) with
  | none => .non
  | some r => .tup [.str "least", dQ (numOf r), .ptup (dQs (spotOf (reachRows m ts rims) m (List.replicate m 0 ++ [numOf r]))), .lst (dQs ((r.w.take (r.w.length - 1)).map (· / lastL r.w)))]
structure ReachOk (m : Nat) (ts : Ts) (rims : List Ts) : Prop where
  k : KeptOk m rims
  s : SumOk m ts
  sys : SysOk (reachRows m ts rims) m (m + 2)
  row : ∃ r, leastRow (sysAt (reachRows m ts rims) m) = some r ∧ r.w ≠ [] ∧ lastL r.w ≠ 0 ∧ SpotOk (reachRows m ts rims) m (List.replicate m 0 ++ [numOf r])
abbrev sp_reach (K : PySem.W.Frag) : Sp := pSp K (fun p : Nat × Ts × List Ts => [dS p.1 p.2.1, .lst (dSs p.1 p.2.2)]) (fun p => ReachOk p.1 p.2.1 p.2.2) fun p => reachD p.1 p.2.1 p.2.2
theorem leastRow_snoc (rows : List Rw) (r : Rw) : leastRow (rows ++ [r]) = leastStep (leastRow rows) r := by
  rw [leastRow, List.foldl_append]; rfl
theorem leastRow_mem : ∀ (rows : List Rw) {x : Rw}, leastRow rows = some x → x ∈ rows ∧ 0 < worthN x := by
  have : ∀ (rows : List Rw) (f : Option Rw) {x : Rw}, rows.foldl leastStep f = some x → (x ∈ rows ∧ 0 < worthN x) ∨ f = some x := by
    intro rows
    induction rows with
    | nil => intro f x h; exact .inr h
    | cons r rows ih =>
      intro f x h
      rw [List.foldl_cons] at h
      rcases ih _ h with ⟨h1, h2⟩ | h1
      · exact .inl ⟨List.mem_cons_of_mem _ h1, h2⟩
      · unfold leastStep at h1
        split at h1
        · rename_i hw
          cases f with
          | none =>
            cases h1
            exact .inl ⟨List.mem_cons_self, hw⟩
          | some y =>
            simp only at h1
            split at h1
            · cases h1; exact .inl ⟨List.mem_cons_self, hw⟩
            · exact .inr h1
        · exact .inr h1
  intro rows x h
  rcases this rows none h with h | h
  · exact h
  · cases h
theorem atI_2nd {r : Rw} (h : 2 ≤ r.n.length) : atI (dQs r.n) (-2) = some (dQ (worthN r)) := by
  have h2 : r.n.length - 2 < r.n.length := by omega
  refine atI_neg (j := 2) (by decide) (by rw [List.length_map]; exact h) ?_
  rw [List.length_map, List.getElem?_map, List.getElem?_eq_getElem h2]
  simp [worthN, List.getD, h2]
section
variable {K : PySem.W.Frag} {σ : L2.St} {H : Hp} {ta tb : TE}
theorem ev_with_worth {r : Rw} {q : Rat} (ha : EvD K ta σ H (dR r)) (hb : EvD K tb σ H (dQ q)) (h1 : r.n ≠ []) (h2 : r.n.length < 1000) : EvD K (tCall (sp_with_worth K) [] E0 (tCons ta (tCons tb tNil))) σ H (dR (worthR r q)) :=
  ev_call (args := fun p : Rw × Rat => [dR p.1, dQ p.2]) (pre := fun p => p.1.n ≠ [] ∧ p.1.n.length < 1000) (res := fun p => dR (worthR p.1 p.2)) (r, q) (ea_cons ha (ea_cons hb ea_nil)) ⟨h1, h2⟩
theorem ev_number_of {r : Rw} (ha : EvD K ta σ H (dR r)) (h1 : WOk r) (h2 : worthN r ≠ 0) : EvD K (tCall (sp_number_of K) [] E0 (tCons ta tNil)) σ H (dQ (numOf r)) :=
  ev_call (args := fun p : Rw => [dR p]) (pre := fun p => WOk p ∧ worthN p ≠ 0) (res := fun p => dQ (numOf p)) r (ea_cons ha ea_nil) ⟨h1, h2⟩
theorem ev_least_row {rows : List Rw} (ha : EvD K ta σ H (.lst (dRs rows))) (h1 : ∀ r ∈ rows, WOk r) : EvD K (tCall (sp_least_row K) [] E0 (tCons ta tNil)) σ H (dRo (leastRow rows)) :=
  ev_call (args := fun p : List Rw => [.lst (dRs p)]) (pre := fun p => ∀ r ∈ p, WOk r) (res := fun p => dRo (leastRow p)) rows (ea_cons ha ea_nil) h1
end
theorem WOk.sz {r : Rw} (h : WOk r) (h0 : worthN r ≠ 0) : Sz 1200 (numOf r) := ((h.1.get (by decide) _).neg).div (h.1.get (by decide) _)
theorem rat_ne_of_pos {q : Rat} (h : 0 < q) : q ≠ 0 := fun e => by rw [e] at h; exact Rat.lt_irrefl h
theorem cut_from (xs : List D) (h : 1 ≤ xs.length) : cutD xs (some (-1)) none = xs.drop (xs.length - 1) := by
  unfold cutD HT.sIx
  simp only
  rw [if_pos (by omega)]
  have e : ((-1 : Int) + (xs.length : Int)).toNat = xs.length - 1 := by omega
  rw [e, List.take_of_length_le (by rw [List.length_drop]; omega)]
theorem drop_last {qs : List Rat} (h : 1 ≤ qs.length) : qs.drop (qs.length - 1) = [qs.getD (qs.length - 1) 0] := by
  have h2 : qs.length - 1 < qs.length := by omega
  rw [List.drop_eq_getElem_cons h2, List.drop_of_length_le (by omega)]
  simp [List.getD, h2]
section
variable {P : Program} {w : World} {K : PySem.W.Frag} {mg : Str → Option Value} {base : Heap} {f : Addr} {fd : FuncData}
theorem ok_with_worth (F : FnP K "with_worth" st_with_worth f fd) : FnOk P w K mg base CX0 1 f fd ["row", "share"] (sp_with_worth K) := by
  refine F.ok sc_with_worth (pSp_len fun _ => rfl) (fun cdv A outer s H vs Q E hr h => ?_)
  obtain ⟨⟨r, q⟩, hv, ⟨h1, h2⟩, kq⟩ := h
  have nd := sc_with_worth.nd
  have h1 : r.n ≠ [] := h1
  have h2 : r.n.length < 1000 := h2
  have hl : 1 ≤ r.n.length := List.length_pos_iff.mpr h1
  have c : Cf K H H (L2.start N_with_worth vs) H [.d (dR r), .d (dQ q), .no, .no, .no] [] := Cf.start hv rfl
  refine ⟨_, PSs.nox (pss_cons (ps_asg (pv 0) (pg_tup rfl (pgs_cons (pg_name (i := 2) nd rfl (Or.inl rfl)) (pgs_cons (pg_name (i := 3) nd rfl (Or.inl rfl)) (pgs_cons (pg_name (i := 4) nd rfl (Or.inl rfl)) pgs_nil)))))
    (pss_one (ps_ret (pe_tup (pa_cons (pe_fz (pe_op op_catL (pe_fz (pe_op op_catL (pe_fz (pe_slice sl_list (pv 2) po_none (po_some (pe_un un_neg pe_int)))) (pe_fz (pe_lst (pa_cons (pv 1) pa_nil))))) (pe_fz (pe_slice sl_list (pv 2) (po_some (pe_un un_neg pe_int)) po_none)))) (pa_cons (pv 3) (pa_cons (pv 4) pa_nil))))))), ?_⟩
  refine q_seq (r_asg c (ev_var c rfl) (eg_tup (egs_cons eg_name (egs_cons eg_name (egs_cons eg_name egs_nil))) rfl) fun σ2 H2 e2 c2 => ?_)
  refine r_ret c2 (d := dR (worthR r q)) (ev_tup (ea_cons (ev_fz ((em_catL (ev_fz (em_catL (ev_fz (em_slL (ev_var c2 rfl) eo_none (eo_int (K := K) (ev_neg ev_int)))) (ev_fz (em_lst (ea_cons (ev_var c2 rfl) ea_nil))) ?_)) (ev_fz (em_slL (ev_var c2 rfl) (eo_int (K := K) (ev_neg ev_int)) eo_none)) ?_).is ?_)) (ea_cons (ev_var c2 rfl) (ea_cons (ev_var c2 rfl) ea_nil)))) kq
  · have : (cutD (dQs r.n) none (some (-1))).length ≤ 1000 := by rw [cut_last _ (by rw [List.length_map]; exact hl)]; simp; omega
    simp only [List.length_cons, List.length_nil]; omega
  · rw [cut_last _ (by rw [List.length_map]; exact hl), cut_from _ (by rw [List.length_map]; exact hl)]; simp; omega
  · rw [cut_last _ (by rw [List.length_map]; exact hl), cut_from _ (by rw [List.length_map]; exact hl), List.length_map]
    have e := drop_last hl
    simp only [worthR, dQs, List.map_append, List.map_take, List.map_cons, List.map_nil]
    rw [← List.map_drop, e]; rfl
theorem ok_number_of (F : FnP K "number_of" st_number_of f fd) (C_turned : Fc P w K mg base "turned" 1 ["one"] (sp_turned K)) (C_divided : Fc P w K mg base "divided" 3 ["one", "other"] (sp_divided K)) : FnOk P w K mg base CX0 4 f fd ["row"] (sp_number_of K) := by
  refine F.ok sc_number_of (pSp_len fun _ => rfl) (fun cdv A outer s H vs Q E hr h => ?_)
  obtain ⟨r, hv, ⟨h1, h2⟩, kq⟩ := h
  have nd := sc_number_of.nd
  have h1 : WOk r := h1
  have h2 : worthN r ≠ 0 := h2
  have hne : r.n ≠ [] := fun e => by have := h1.2.1; rw [e] at this; simp at this
  have c : Cf K H H (L2.start N_number_of vs) H [.d (dR r)] [] := Cf.start hv rfl
  refine ⟨_, PSs.nox (pss_one (ps_ret (pe_cc C_divided hr (by decide) (by rfl) (pa_cons (pe_cc C_turned hr (by decide) (by rfl) (pa_cons (pe_ix ix_list (pe_ix ix_tup (pv 0) pe_int (fun _ _ => rfl)) (pe_un un_neg pe_int) (fun _ _ => rfl)) pa_nil)) (pa_cons (pe_ix ix_list (pe_ix ix_tup (pv 0) pe_int (fun _ _ => rfl)) (pe_un un_neg pe_int) (fun _ _ => rfl)) pa_nil))))), ?_⟩
  exact r_ret c (d := dQ (numOf r)) (ev_div (ev_trn (ev_ixL (ev_ixT (ev_var c rfl) ev_int rfl) (ev_neg ev_int) (atI_last hne))) (ev_ixL (ev_ixT (ev_var c rfl) ev_int rfl) (ev_neg ev_int) (atI_2nd h1.2.1)) (big_of ((h1.1.get (by decide) _).neg) (h1.1.get (by decide) _) (by decide) (by decide)) h2) kq
theorem ok_least_row (F : FnP K "least_row" st_least_row f fd) (T_NOUGHT_fractions : KtQ K mg "NOUGHT_fractions" 0) (C_beside : Fc P w K mg base "beside" 1 ["one", "other"] (sp_beside K)) (C_number_of : Fc P w K mg base "number_of" 4 ["row"] (sp_number_of K)) : FnOk P w K mg base CX0 5 f fd ["rows"] (sp_least_row K) := by
  refine F.ok sc_least_row (pSp_len fun _ => rfl) (fun cdv A outer s H vs Q E hr h => ?_)
  obtain ⟨rows, hv, hk, kq⟩ := h
  obtain ⟨a_NOUGHT_fractions, g_NOUGHT_fractions, k0⟩ := T_NOUGHT_fractions
  have nd := sc_least_row.nd
  have hk : ∀ r ∈ rows, WOk r := hk
  have c : Cf K H H (L2.start N_least_row vs) H [.d (.lst (dRs rows)), .no, .no] [] := Cf.start hv rfl
  refine ⟨_, PSs.nox (pss_cons (ps_set (i := 1) nd rfl (Or.inl rfl) pe_non)
    (pss_cons (ps_for PassesOwn.never rfl (pi_list (pv 0)) (pg_name (i := 2) nd rfl (Or.inl rfl))
    (pss_one (ps_if (PW.pt (pw_and (pt_cmpR op_gt (pe_cc C_beside hr (by decide) (by rfl) (pa_cons (pe_ix ix_list (pe_ix ix_tup (pv 2) pe_int (fun _ _ => rfl)) (pe_un un_neg pe_int) (fun _ _ => rfl)) (pa_cons (pe_glob (v := .ref a_NOUGHT_fractions) (by rfl) g_NOUGHT_fractions rfl) pa_nil))) pe_int (nomark _)) (pw_and1 (PW.pt (pw_or (pt_cmpR op_isN1 (pv 1) pe_non (nomark _)) (pw_or1 (pt_cmpR op_gt (pe_cc C_beside hr (by decide) (by rfl) (pa_cons (pe_cc C_number_of hr (by decide) (by rfl) (pa_cons (pv 2) pa_nil)) (pa_cons (pe_cc C_number_of hr (by decide) (by rfl) (pa_cons (pv 1) pa_nil)) pa_nil))) pe_int (nomark _))))))))
    (pss_one (ps_set (i := 1) nd rfl (Or.inl rfl) (pv 2)))
    pss_nil)))
    (pss_one (ps_ret (pv 1))))), ?_⟩
  refine q_seq (r_set c ev_non fun σ2 H2 e2 c2 => ?_)
  refine q_seq (r_forM c2 (xs := rows) (enc := dR) (ei_list (ev_var c2 rfl)) (fun i => [.d (.lst (dRs rows)), .d (dRo (leastRow (rows.take i))), .no]) (fun _ => []) (Le.refl _) rfl _ (fun e _ => eg_name) (fun Hs i hi σ3 H3 c3 => ?_) fun σ3 H3 c3 => ?_)
  · have hri := hk _ (List.getElem_mem hi)
    have e1 := leastRow_snoc (rows.take i) rows[i]
    rw [← take_succ_get _ hi] at e1
    have zw : Sz 600 (worthN rows[i]) := hri.1.get (by decide) _
    have t1 : EvT (tTest (tOp (rI0 fun i j => .bl (decide (j < i))) (tCall (sp_beside K) [] E0 (tCons (tOp (rIxL K) (tOp (rIxT K) (tVar 2) (tC (.int 0))) (tUn (rU fun i => .int (-i)) (tC (.int 2)))) (tCons (tC (.ref a_NOUGHT_fractions)) tNil))) (tC (.int 0)))) σ3 H3 (decide (0 < worthN rows[i])) :=
      (et_t (ev_iB (ev_bes (ev_ixL (ev_ixT (ev_var c3 rfl) ev_int rfl) (ev_neg ev_int) (atI_2nd hri.2.1)) (ev_cst k0) (big_of zw Sz.zero (by decide) (by decide))) ev_int)).is (sgn0_pos _)
    by_cases hw : 0 < worthN rows[i]
    · rw [decide_eq_true hw] at t1
      have hw0 := rat_ne_of_pos hw
      cases hg : leastRow (rows.take i) with
      | none =>
        rw [hg] at c3 e1
        have e2 : leastRow (rows.take (i + 1)) = some rows[i] := by rw [e1]; simp only [leastStep, hw, if_true]
        refine r_if (b := true) c3 (et_and (a := true) (b := true) t1 fun _ => et_or (a := true) (b := true) (et_t (ev_noN (ev_var c3 rfl))) (fun h => by cases h)) (fun _ H4 e4 c4 => ?_) (fun h => by cases h)
        exact r_set c4 (ev_var c4 rfl) fun σ5 H5 e5 c5 => (c5.gE (Γ' := [.d (.lst (dRs rows)), .d (dRo (leastRow (rows.take (i + 1)))), .d (dR rows[i])]) (by rw [e2]; rfl)).le (.keep (.keep (.drop .nil)))
      | some x =>
        rw [hg] at c3 e1
        obtain ⟨hx1, hx2⟩ := leastRow_mem _ hg
        have hxk := hk x (List.mem_of_mem_take hx1)
        have hx0 := rat_ne_of_pos hx2
        refine r_if (b := decide (numOf x < numOf rows[i])) c3 ((et_and (a := true) t1 fun _ => et_or (a := false) (et_t (ev_noT (ev_var c3 rfl))) (fun _ => et_t (ev_iB (ev_bes (ev_number_of (ev_var c3 rfl) hri hw0) (ev_number_of (ev_var c3 rfl) hxk hx0) (big_of (hri.sz hw0) (hxk.sz hx0) (by decide) (by decide))) ev_int))).is (by rw [Bool.true_and, Bool.false_or]; exact decide_eq_decide.mpr sgn_pos)) (fun ht H4 e4 c4 => ?_) (fun ht H4 e4 c4 => ?_)
        · have hlt := of_decide_eq_true ht
          have e2 : leastRow (rows.take (i + 1)) = some rows[i] := by rw [e1]; simp only [leastStep, hw, hlt, if_true]
          exact r_set c4 (ev_var c4 rfl) fun σ5 H5 e5 c5 => (c5.gE (Γ' := [.d (.lst (dRs rows)), .d (dRo (leastRow (rows.take (i + 1)))), .d (dR rows[i])]) (by rw [e2]; rfl)).le (.keep (.keep (.drop .nil)))
        · have hlt := of_decide_eq_false ht
          have e2 : leastRow (rows.take (i + 1)) = some x := by rw [e1]; simp only [leastStep, hw, hlt, if_true, if_false]
          exact r_next ((c4.gE (Γ' := [.d (.lst (dRs rows)), .d (dRo (leastRow (rows.take (i + 1)))), .d (dR rows[i])]) (by rw [e2]; rfl)).le (.keep (.keep (.drop .nil))))
    · rw [decide_eq_false hw] at t1
      have e2 : leastRow (rows.take (i + 1)) = leastRow (rows.take i) := by rw [e1]; simp only [leastStep, hw, if_false]
      refine r_if (b := false) c3 (et_and (a := false) (b := false) t1 fun z => by cases z) (fun z => by cases z) (fun _ H4 e4 c4 => ?_)
      exact r_next ((c4.gE (Γ' := [.d (.lst (dRs rows)), .d (dRo (leastRow (rows.take (i + 1)))), .d (dR rows[i])]) (by rw [e2]; rfl)).le (.keep (.keep (.drop .nil))))
  · rw [List.take_length] at c3
    exact r_ret c3 (d := dRo (leastRow rows)) (ev_var c3 rfl) kq
theorem ok_reach (F : FnP K "reach" st_reach f fd) (B : Bl mg) (T_NOUGHT_fractions : KtQ K mg "NOUGHT_fractions" 0) (T_UNIT : KtQ K mg "UNIT" 1) (C_need_straight : Fc P w K mg base "need_straight" 2 ["some"] (sp_need_straight K)) (C_kept : Fc P w K mg base "kept" 8 ["rims"] (sp_kept K)) (C_turned : Fc P w K mg base "turned" 1 ["one"] (sp_turned K)) (C_numbers_of : Fc P w K mg base "numbers_of" 1 ["one"] (sp_numbers_of K)) (C_unit_weights : Fc P w K mg base "unit_weights" 1 ["many", "at"] (sp_unit_weights K))
    (C_with_worth : Fc P w K mg base "with_worth" 1 ["row", "share"] (sp_with_worth K)) (C_systems_of : Fc P w K mg base "systems_of" 7 ["rows", "many"] (sp_systems_of K)) (C_rim_rows : Fc P w K mg base "rim_rows" 2 ["rims"] (sp_rim_rows K)) (C_least_row : Fc P w K mg base "least_row" 5 ["rows"] (sp_least_row K)) (C_number_of : Fc P w K mg base "number_of" 4 ["row"] (sp_number_of K)) (C_spot_by : Fc P w K mg base "spot_by" 6 ["systems", "many", "spot"] (sp_spot_by K)) (C_shares : Fc P w K mg base "shares" 4 ["weights", "whole"] (sp_shares K)) :
    FnOk P w K mg base CX0 9 f fd ["one", "rims"] (sp_reach K) := by
  refine F.ok sc_reach (pSp_len fun _ => rfl) (fun cdv A outer s H vs Q E hr h => ?_)
  obtain ⟨⟨m, ts, rims⟩, hv, hk, kq⟩ := h
  obtain ⟨a_NOUGHT_fractions, g_NOUGHT_fractions, k0⟩ := T_NOUGHT_fractions
  obtain ⟨a_UNIT, g_UNIT, k1⟩ := T_UNIT
  have nd := sc_reach.nd
  have hk : ReachOk m ts rims := hk
  have hm := hk.k.m1
  have hfew := hk.k.few
  have hlen : 0 < rims.length := List.length_pos_iff.mpr hk.k.ne
  have c : Cf K H H (L2.start N_reach vs) H [.d (dS m ts), .d (.lst (dSs m rims)), .no, .no, .no, .no, .no, .no, .no, .no] [] := Cf.start hv rfl
  refine ⟨_, PSs.nox (pss_cons (ps_expr (pe_cc C_need_straight hr (by decide) (by rfl) (pa_cons (pe_fz (pe_op op_catL (pe_fz (pe_lst (pa_cons (pv 0) pa_nil))) (pv 1))) pa_nil)))
    (pss_cons (ps_set (i := 2) nd rfl (Or.inl rfl) (pe_cc C_kept hr (by decide) (by rfl) (pa_cons (pv 1) pa_nil)))
    (pss_cons (ps_if (pt_cmpR op_eq (pe_ix ix_tup (pv 2) pe_int (fun _ _ => rfl)) pe_str (nomark _))
    (pss_one (ps_ret (pv 2)))
    pss_nil)
    (pss_cons (ps_set (i := 3) nd rfl (Or.inl rfl) (pe_ix ix_tup (pv 0) pe_int (fun _ _ => rfl)))
    (pss_cons (ps_gz 4 (ps_setLc (i := 4) (own := [("number", 5)]) (g := (gName 5)) (tt := tYes) (te := (tCall (sp_turned K) [] E0 (tCons (tVar 5) tNil))) (by rfl) nd rfl rfl (sw_true rfl rfl rfl (by decide +kernel)) (pi_list (pe_cc C_numbers_of hr (by decide) (by rfl) (pa_cons (pv 0) pa_nil))) (blkOk_by (own := [("number", 5)]) (N := N_reach) (sc := defScope st_reach) (by decide +kernel)) (fun _ _ _ _ _ => (pg_name (i := 5) nd rfl (Or.inl rfl))) (fun _ _ _ _ _ => pts_nil) (fun _ _ _ _ _ => (pe_cc C_turned hr (by decide) (by rfl) (pa_cons (pv 5) pa_nil)))))
    (pss_cons (ps_set (i := 6) nd rfl (Or.inl rfl) (pe_cc C_with_worth hr (by decide) (by rfl) (pa_cons (pe_tup (pa_cons (pv 4) (pa_cons (pe_cc C_unit_weights hr (by decide) (by rfl) (pa_cons (pe_op op_add (pe_callB call_len_seq (by rfl) B.len (by decide +kernel) (pa_cons (pv 1) pa_nil)) pe_int) (pa_cons (pe_un un_neg pe_int) pa_nil))) (pa_cons pe_bl pa_nil)))) (pa_cons (pe_glob (v := .ref a_UNIT) (by rfl) g_UNIT rfl) pa_nil))))
    (pss_cons (ps_set (i := 7) nd rfl (Or.inl rfl) (pe_cc C_systems_of hr (by decide) (by rfl) (pa_cons (pe_fz (pe_op op_catL (pe_fz (pe_lc (own := [("row", 8)]) (g := (gName 8)) (tt := tYes) (te := (tCall (sp_with_worth K) [] E0 (tCons (tVar 8) (tCons (tC (.ref a_NOUGHT_fractions)) tNil)))) (by rfl) nd (pi_list (pe_cc C_rim_rows hr (by decide) (by rfl) (pa_cons (pv 1) pa_nil))) (blkOk_by (own := [("row", 8)]) (N := N_reach) (sc := defScope st_reach) (by decide +kernel)) (fun _ _ _ _ _ => (pg_name (i := 8) nd rfl (Or.inl rfl))) (fun _ _ _ _ _ => pts_nil) (fun _ _ _ _ _ => (pe_cc C_with_worth hr (by decide) (by rfl) (pa_cons (pv 8) (pa_cons (pe_glob (v := .ref a_NOUGHT_fractions) (by rfl) g_NOUGHT_fractions rfl) pa_nil)))))) (pe_fz (pe_lst (pa_cons (pv 6) pa_nil))))) (pa_cons (pv 3) pa_nil))))
    (pss_cons (ps_set (i := 8) nd rfl (Or.inl rfl) (pe_cc C_least_row hr (by decide) (by rfl) (pa_cons (pe_ix ix_list (pv 7) (pe_un un_neg pe_int) (fun _ _ => rfl)) pa_nil)))
    (pss_cons (ps_if (pt_cmpR op_isN1 (pv 8) pe_non (nomark _))
    (pss_one ps_never)
    pss_nil)
    (pss_cons (ps_set (i := 5) nd rfl (Or.inl rfl) (pe_cc C_number_of hr (by decide) (by rfl) (pa_cons (pv 8) pa_nil)))
    (pss_cons (ps_set (i := 9) nd rfl (Or.inl rfl) (pe_cc C_spot_by hr (by decide) (by rfl) (pa_cons (pv 7) (pa_cons (pv 3) (pa_cons (pe_op op_catL (pe_fz (pe_op op_rep (pe_lst (pa_cons (pe_glob (v := .ref a_NOUGHT_fractions) (by rfl) g_NOUGHT_fractions rfl) pa_nil)) (pv 3))) (pe_fz (pe_lst (pa_cons (pv 5) pa_nil)))) pa_nil)))))
    (pss_one (ps_ret (pe_tup (pa_cons pe_str (pa_cons (pv 5) (pa_cons (pv 9) (pa_cons (pe_cc C_shares hr (by decide) (by rfl) (pa_cons (pe_fz (pe_slice sl_list (pe_ix ix_tup (pv 8) pe_int (fun _ _ => rfl)) po_none (po_some (pe_un un_neg pe_int)))) (pa_cons (pe_ix ix_list (pe_ix ix_tup (pv 8) pe_int (fun _ _ => rfl)) (pe_un un_neg pe_int) (fun _ _ => rfl)) pa_nil))) pa_nil)))))))))))))))))), ?_⟩
  refine q_seq (ev_need_straight (rims := ts :: rims) (ev_fz (em_catL (ds := [dS m ts]) (ev_fz (em_lst (ea_cons (ev_var c rfl) ea_nil))) (ev_var c rfl) (by simp; omega))) (fun t ht => by
    rcases List.mem_cons.mp ht with z | z
    · rw [z]; exact hk.s
    · exact hk.k.tl t z) H (Same.refl H) _ fun v1 H1 e1 _ => ?_)
  have c1 := c.ext e1
  refine q_seq (r_set c1 (ev_kept (ev_var c1 rfl) hk.k) fun σ2 H2 e2 c2 => ?_)
  refine q_seq (r_if (b := false) c2 (et_t ((ev_eqS (ev_ixT (ev_var c2 rfl) ev_int rfl) ev_str).is (congrArg D.bl (by decide)))) (fun z => by cases z) fun _ H3 e3 c3 => ?_)
  refine q_seq (r_set c3 (ev_ixT (ev_var c3 rfl) ev_int rfl) fun σ4 H4 e4 c4 => ?_)
  refine q_seq (r_setM c4 ((em_map c4 (xs := numsOf m ts) (enc := dQ) (ei_list (ev_numbers_of (ev_var c4 rfl) (by omega) hk.s.key)) (fun q => dQ (-q)) _ (by decide) (fun e _ => eg_name) (fun q hq Hs σ2 H2 c2 => ev_trn (ev_var c2 rfl)) (by rw [numLen]; omega)).is (by rw [dQs, List.map_map]; rfl : _ = Mo.lst (dQs ((numsOf m ts).map (-·))))) fun p σ5 H5 e5 c5 => r_gz (k := 0) c5 rfl rfl fun H6 c6 => ?_)
  have hnl : (numsOf m ts).map (-·) ≠ [] := fun z => by
    have := numLen m ts
    rw [List.map_eq_nil_iff] at z
    rw [z] at this; simp at this
  refine q_seq (r_set c6 (ev_with_worth (r := ownR m ts rims.length) (ev_tup (ea_cons (ev_var c6 rfl) (ea_cons (ev_unit_weights (n := rims.length + 1) (ev_succN ((ev_lenL (ev_var c6 rfl)).is (by rw [List.length_map]))) (ev_neg ev_int) (by omega) (ixN_neg (j := 1) (by decide) (by omega))) (ea_cons ev_bl ea_nil)))) (ev_cst k1) hnl (by simp only [ownR, List.length_map, numLen]; omega)) fun σ7 H7 e7 c7 => ?_)
  have hrr : ∀ r ∈ rimRows m rims, r.n.length = m + 1 := fun r hr => ((hk.k.sys 0 (Nat.zero_le _)).2 r hr).2
  refine q_seq (r_set c7 (ev_systems_of (rows := reachRows m ts rims) (ev_fz ((em_catL (ev_fz (em_map c7 (xs := rimRows m rims) (enc := dR) (ei_list (ev_rim_rows (ev_var c7 rfl) (by omega) (by omega) fun t ht => (hk.k.tl t ht).key)) (fun r => dR (worthR r 0)) _ (by decide) (fun e _ => eg_name) (fun r hr Hs σ2 H2 c2 => ev_with_worth (ev_var c2 rfl) (ev_cst k0) (fun z => by have := hrr r hr; rw [z] at this; simp at this) (by rw [hrr r hr]; omega)) (by rw [rimRows_len]; omega)))
    (ev_fz (em_lst (ea_cons (ev_var c7 rfl) ea_nil))) (by simp [rimRows]; omega)).is (by simp only [reachRows, dRs, List.map_append, List.map_cons, List.map_nil, List.map_map]; rfl))) (ev_var c7 rfl) (by omega)
    fun k hkm => ⟨(hk.sys k (by omega)).1, fun r hr => ⟨((hk.sys k (by omega)).2 r hr).1, by rw [((hk.sys k (by omega)).2 r hr).2]; omega⟩⟩) fun σ8 H8 e8 c8 => ?_)
  have hrow : ∀ r ∈ sysAt (reachRows m ts rims) m, WOk r := fun r hr => by
    have := (hk.sys m (Nat.le_refl m)).2 r hr
    exact ⟨this.1.2.2.1, by rw [this.2]; omega, this.1.1⟩
  obtain ⟨r, hrl, hw, hw0, hsp⟩ := hk.row
  obtain ⟨hrm, hrp⟩ := leastRow_mem _ hrl
  have hrw := rat_ne_of_pos hrp
  have hr1 := (hk.sys m (Nat.le_refl m)).2 r hrm
  have zl : Sz 600 (lastL r.w) := hr1.1.2.2.2.get (by decide) _
  have hwl : 1 ≤ r.w.length := List.length_pos_iff.mpr hw
  refine q_seq (r_set c8 (d := dR r) ((ev_least_row (ev_ixL (ev_var c8 rfl) (ev_neg ev_int) sys_atI) hrow).is (by rw [hrl])) fun σ9 H9 e9 c9 => ?_)
  refine q_seq (r_if (b := false) c9 (et_t (ev_noT (ev_var c9 rfl))) (fun z => by cases z) fun _ H10 e10 c10 => ?_)
  refine q_seq (r_set c10 (ev_number_of (ev_var c10 rfl) (hrow r hrm) hrw) fun σ11 H11 e11 c11 => ?_)
  refine q_seq (r_set c11 (ev_spot_by (rows := reachRows m ts rims) (ev_var c11 rfl) (ev_var c11 rfl) ((em_catL (ev_fz (em_repL (em_lst (ea_cons (ev_cst k0) ea_nil)) (ev_var c11 rfl) (by omega) (by simp; omega) (by omega))) (ev_fz (em_lst (ea_cons (ev_var c11 rfl) ea_nil))) (by rw [rep1_flat]; simp; omega)).is ?_) (by omega) hsp) fun σ12 H12 e12 c12 => ?_)
  · rw [rep1_flat, Int.toNat_natCast]
    show Mo.lst (List.replicate m (dQ 0) ++ [dQ (numOf r)]) = _
    simp only [dQs, List.map_append, List.map_replicate, List.map_cons, List.map_nil]
  have hD : reachD m ts rims = .tup [.str "least", dQ (numOf r), .ptup (dQs (spotOf (reachRows m ts rims) m (List.replicate m 0 ++ [numOf r]))), .lst (dQs ((r.w.take (r.w.length - 1)).map (· / lastL r.w)))] := by rw [reachD, hrl]
  refine r_ret c12 (d := reachD m ts rims) ((ev_tup (ea_cons ev_str (ea_cons (ev_var c12 rfl) (ea_cons (ev_var c12 rfl) (ea_cons (ev_shares (ev_fz ((em_slL (ev_ixT (ev_var c12 rfl) ev_int rfl) eo_none (eo_int (K := K) (ev_neg ev_int))).is ?_)) (ev_ixL (ev_ixT (ev_var c12 rfl) ev_int rfl) (ev_neg ev_int) (atI_lastL hw)) ?_ ?_ (zl.mono (by decide)) hw0) ea_nil))))).is hD.symm) kq
  · rw [cut_last _ (by rw [List.length_map]; exact hwl), List.length_map]; simp only [dQs, List.map_take]
  · have := hr1.1.2.1
    rw [List.length_take]; omega
  · exact fun q hq => (hr1.1.2.2.2 q (List.mem_of_mem_take hq)).mono (by decide)
end
end Lw
/-! Tables of fractions: what the dicts of the program hold. -/
namespace Lw
open PySem PySem.Spec PyProof.Rows L2
/-- what a table says at a key; 0: nothing -/
def val (t : Ts) (k : List Int) : Rat := (lk t k).getD 0
def addQ (t : Ts) (k : List Int) (q : Rat) : Ts := pt t k (fun _ => val t k + q) (val t k + q)
theorem lk_tQ (t : Ts) (k : List Int) : lk (tQ t) k = (lk t k).map dQ := by
  induction t with
  | nil => rfl
  | cons e t ih =>
    by_cases h : e.1 = k
    · rw [lk_pos (t := t) h]
      show lk ((e.1, dQ e.2) :: tQ t) k = _
      rw [lk_pos (x := (e.1, dQ e.2)) h]; rfl
    · rw [lk_neg (t := t) h]
      show lk ((e.1, dQ e.2) :: tQ t) k = _
      rw [lk_neg (x := (e.1, dQ e.2)) h]; exact ih
theorem pt_tQ (t : Ts) (k : List Int) (q : Rat) : pt (tQ t) k (fun _ => dQ q) (dQ q) = tQ (pt t k (fun _ => q) q) := by
  unfold pt
  rw [lk_tQ, Option.isSome_map]
  by_cases h : (lk t k).isSome = true
  · rw [if_pos h, if_pos h]
    simp only [tQ, List.map_map]
    refine List.map_congr_left fun e _ => ?_
    show (if e.1 = k then (e.1, dQ q) else (e.1, dQ e.2)) = ((if e.1 = k then (e.1, q) else e).1, dQ (if e.1 = k then (e.1, q) else e).2)
    split <;> rfl
  · rw [if_neg h, if_neg h]
    simp [tQ]
theorem getD_tQ (t : Ts) (k : List Int) : (lk (tQ t) k).getD (dQ 0) = dQ (val t k) := by
  rw [lk_tQ, val]
  cases lk t k <;> rfl
theorem lk_map_put {α : Type} (t : List (List Int × α)) (k j : List Int) (f : α → α) : lk (t.map fun x => if x.1 = k then (x.1, f x.2) else x) j = if j = k then (lk t k).map f else lk t j := by
  induction t with
  | nil => by_cases h : j = k <;> simp [h, lk]
  | cons e t ih =>
    rw [List.map_cons]
    by_cases h : e.1 = k
    · rw [if_pos h]
      by_cases hj : j = k
      · rw [if_pos hj, lk_pos (x := (e.1, f e.2)) (h.trans hj.symm), lk_pos h]; rfl
      · rw [if_neg hj, lk_neg (x := (e.1, f e.2)) (fun z => hj (z.symm.trans h)), lk_neg (fun z => hj (z.symm.trans h)), ih, if_neg hj]
    · rw [if_neg h]
      by_cases hj : j = k
      · rw [if_pos hj, lk_neg (fun z => h (z.trans hj)), ih, if_pos hj, lk_neg h]
      · rw [if_neg hj]
        by_cases he : e.1 = j
        · rw [lk_pos he, lk_pos he]
        · rw [lk_neg he, lk_neg he, ih, if_neg hj]
theorem lk_snoc {α : Type} (t : List (List Int × α)) (k j : List Int) (a : α) (h : lk t k = none) : lk (t ++ [(k, a)]) j = if j = k then some a else lk t j := by
  induction t with
  | nil =>
    by_cases hj : j = k
    · rw [if_pos hj]; exact lk_pos hj.symm
    · rw [if_neg hj]; exact lk_neg (fun z => hj z.symm)
  | cons e t ih =>
    have hk : ¬ e.1 = k := fun z => by rw [lk_pos z] at h; cases h
    rw [lk_neg hk] at h
    rw [List.cons_append]
    by_cases he : e.1 = j
    · rw [lk_pos he, lk_pos he, if_neg (fun z => hk (he.trans z))]
    · rw [lk_neg he, lk_neg he, ih h]
theorem lk_pt {α : Type} (t : List (List Int × α)) (k j : List Int) (a : α) : lk (pt t k (fun _ => a) a) j = if j = k then some a else lk t j := by
  unfold pt
  cases h : lk t k with
  | none => rw [if_neg (by simp)]; exact lk_snoc t k j a h
  | some b =>
    rw [if_pos (show (some b).isSome = true from rfl), lk_map_put t k j (fun _ => a)]
    by_cases hj : j = k
    · rw [if_pos hj, if_pos hj, h]; rfl
    · rw [if_neg hj, if_neg hj]
theorem pt_keys {α : Type} (t : List (List Int × α)) (k : List Int) (f : α → α) (a : α) : (pt t k f a).map (·.1) = if (lk t k).isSome then t.map (·.1) else t.map (·.1) ++ [k] := by
  unfold pt
  split
  · rw [List.map_map]
    refine List.map_congr_left fun e _ => ?_
    show (if e.1 = k then (e.1, f e.2) else e).1 = e.1
    split <;> rfl
  · simp
theorem pt_nd {α : Type} {t : List (List Int × α)} (h : (t.map (·.1)).Nodup) (k : List Int) (f : α → α) (a : α) : ((pt t k f a).map (·.1)).Nodup := by
  rw [pt_keys]
  split
  · exact h
  · rename_i hn
    rw [List.nodup_append]
    refine ⟨h, by simp, fun x hx y hy e => ?_⟩
    rw [List.mem_singleton] at hy
    subst hy; subst e
    obtain ⟨e, he, e1⟩ := List.mem_map.mp hx
    have : lk t x = some e.2 := lk_mem h (by rw [← e1]; exact he)
    rw [this] at hn; simp at hn
theorem pt_mem {α : Type} {t : List (List Int × α)} {k : List Int} {a : α} {e : List Int × α} (h : e ∈ pt t k (fun _ => a) a) : e = (k, a) ∨ e ∈ t := by
  unfold pt at h
  split at h
  · obtain ⟨x, hx, e1⟩ := List.mem_map.mp h
    split at e1
    · rename_i hk
      left; rw [← e1, hk]
    · right; rw [← e1]; exact hx
  · rcases List.mem_append.mp h with h | h
    · exact .inr h
    · exact .inl (List.mem_singleton.mp h)
theorem val_add (t : Ts) (k j : List Int) (q : Rat) : val (addQ t k q) j = if j = k then val t k + q else val t j := by
  unfold val addQ
  rw [lk_pt]
  by_cases h : j = k
  · rw [if_pos h, if_pos h]; rfl
  · rw [if_neg h, if_neg h]
theorem val_nil (k : List Int) : val [] k = 0 := rfl
theorem val_mem {t : Ts} (h : (t.map (·.1)).Nodup) {e : List Int × Rat} (he : e ∈ t) : val t e.1 = e.2 := by
  unfold val; rw [lk_mem h he]; rfl
theorem val_none {t : Ts} {k : List Int} (h : k ∉ t.map (·.1)) : val t k = 0 := by unfold val; rw [lk_none_of h]; rfl
theorem addQ_keys {t : Ts} {k : List Int} {q : Rat} {x : List Int} (h : x ∈ (addQ t k q).map (·.1)) : x = k ∨ x ∈ t.map (·.1) := by
  obtain ⟨e, he, rfl⟩ := List.mem_map.mp h
  rcases pt_mem he with z | z
  · rw [z]; exact .inl rfl
  · exact .inr (List.mem_map.mpr ⟨e, z, rfl⟩)
theorem addQ_nd {t : Ts} (h : (t.map (·.1)).Nodup) (k : List Int) (q : Rat) : ((addQ t k q).map (·.1)).Nodup := pt_nd h _ _ _
theorem addQ_len (t : Ts) (k : List Int) (q : Rat) : (addQ t k q).length ≤ t.length + 1 := pt_len _ _ _ _
/-- the sizes of a table's values -/
def SzT (s : Nat) (t : Ts) : Prop := ∀ e ∈ t, Sz s e.2
theorem SzT.val {s : Nat} {t : Ts} (h : SzT s t) (hs : 1 ≤ s) (k : List Int) : Sz s (val t k) := by
  unfold Lw.val
  cases q : lk t k with
  | none => exact Sz.zero.mono hs
  | some a => exact h _ (lk_some_mem q)
theorem SzT.add {s : Nat} {t : Ts} (h : SzT s t) {k : List Int} {q : Rat} (hq : Sz s (Lw.val t k + q)) : SzT s (addQ t k q) := fun e he => by
  rcases pt_mem he with z | z
  · rw [z]; exact hq
  · exact h e z
theorem SzT.mono {s r : Nat} {t : Ts} (h : SzT s t) (hr : s ≤ r) : SzT r t := fun e he => (h e he).mono hr
/-- the terms of a sum, in order, none with 0 -/
def trm (t : Ts) : Ts := ((srtK (t.map (·.1))).filter fun k => decide (val t k ≠ 0)).map fun k => (k, val t k)
def addAll (a b : Ts) : Ts := b.foldl (fun acc e => addQ acc e.1 e.2) a
def addK (a b : List Int) : List Int := (a.zip b).map fun p => p.1 + p.2
def mulOut (some others : Ts) : Ts := some.foldl (fun acc e => others.foldl (fun acc o => addQ acc (addK e.1 o.1) (e.2 * o.2)) acc) []
theorem trm_val {t : Ts} (k : List Int) : val (trm t) k = val t k := by
  unfold trm
  by_cases h : k ∈ t.map (·.1) ∧ val t k ≠ 0
  · have hm : k ∈ (srtK (t.map (·.1))).filter fun k => decide (val t k ≠ 0) := List.mem_filter.mpr ⟨(srtK_perm _).mem_iff.mpr h.1, decide_eq_true h.2⟩
    have : ∀ l : List (List Int), k ∈ l → lk (l.map fun k => (k, val t k)) k = some (val t k) := by
      intro l
      induction l with
      | nil => intro h; cases h
      | cons x l ih =>
        intro h
        rw [List.map_cons]
        by_cases e : x = k
        · rw [lk_pos (x := (x, val t x)) e, e]
        · rw [lk_neg (x := (x, val t x)) e]
          exact ih ((List.mem_cons.mp h).resolve_left fun z => e z.symm)
    rw [val, this _ hm]; rfl
  · have h0 : val t k = 0 := by
      by_cases hk : k ∈ t.map (·.1)
      · exact Classical.byContradiction fun z => h ⟨hk, z⟩
      · exact val_none hk
    rw [h0]
    refine val_none fun hm => ?_
    rw [List.map_map] at hm
    obtain ⟨x, hx, e⟩ := List.mem_map.mp hm
    have e' : x = k := e
    rw [e'] at hx
    have := (List.mem_filter.mp hx).2
    simp [h0] at this
theorem trm_keys {t : Ts} {k : List Int} (h : k ∈ (trm t).map (·.1)) : k ∈ t.map (·.1) ∧ val t k ≠ 0 := by
  unfold trm at h
  rw [List.map_map] at h
  obtain ⟨x, hx, e⟩ := List.mem_map.mp h
  have e' : x = k := e
  rw [e'] at hx
  obtain ⟨h1, h2⟩ := List.mem_filter.mp hx
  exact ⟨(srtK_perm _).mem_iff.mp h1, of_decide_eq_true h2⟩
theorem trm_nd {t : Ts} (h : (t.map (·.1)).Nodup) : ((trm t).map (·.1)).Nodup := by
  unfold trm
  rw [List.map_map]
  have : ((fun x : List Int × Rat => x.1) ∘ fun k => (k, val t k)) = id := rfl
  rw [this, List.map_id]
  exact ((srtK_perm _).nodup_iff.mpr h).filter _
theorem trm_len (t : Ts) : (trm t).length ≤ t.length := by
  unfold trm
  rw [List.length_map]
  refine Nat.le_trans (List.length_filter_le _ _) ?_
  rw [(srtK_perm _).length_eq, List.length_map]; exact Nat.le_refl _
theorem trm_mem {t : Ts} {e : List Int × Rat} (h : e ∈ trm t) : e.2 = val t e.1 ∧ e.1 ∈ t.map (·.1) ∧ e.2 ≠ 0 := by
  unfold trm at h
  obtain ⟨x, hx, rfl⟩ := List.mem_map.mp h
  obtain ⟨h1, h2⟩ := List.mem_filter.mp hx
  exact ⟨rfl, (srtK_perm _).mem_iff.mp h1, of_decide_eq_true h2⟩
theorem addAll_val : ∀ (b : Ts) (a : Ts) (k : List Int), (b.map (·.1)).Nodup → val (addAll a b) k = val a k + val b k
  | [], a, k, _ => by
    show val a k = val a k + 0
    rw [Rat.add_zero]
  | e :: b, a, k, h => by
    rw [List.map_cons, List.nodup_cons] at h
    show val (addAll (addQ a e.1 e.2) b) k = _
    rw [addAll_val b _ k h.2, val_add]
    by_cases hk : k = e.1
    · rw [if_pos hk]
      have h1 : val b k = 0 := by rw [hk]; exact val_none h.1
      have h2 : val (e :: b) k = e.2 := by unfold val; rw [lk_pos hk.symm]; rfl
      rw [h1, h2, hk, Rat.add_zero]
    · rw [if_neg hk]
      have h2 : val (e :: b) k = val b k := by unfold val; rw [lk_neg (fun z => hk z.symm)]
      rw [h2]
theorem addAll_nd : ∀ (b a : Ts), (a.map (·.1)).Nodup → ((addAll a b).map (·.1)).Nodup
  | [], a, h => h
  | e :: b, a, h => addAll_nd b _ (addQ_nd h _ _)
theorem addAll_keys : ∀ (b a : Ts) {k : List Int}, k ∈ (addAll a b).map (·.1) → k ∈ a.map (·.1) ∨ k ∈ b.map (·.1)
  | [], a, k, h => .inl h
  | e :: b, a, k, h => by
    rcases addAll_keys b _ h with z | z
    · rcases addQ_keys z with y | y
      · exact .inr (by rw [y]; exact List.mem_cons_self)
      · exact .inl y
    · exact .inr (List.mem_cons_of_mem _ z)
theorem addAll_len : ∀ (b a : Ts), (addAll a b).length ≤ a.length + b.length
  | [], a => Nat.le_refl _
  | e :: b, a => by
    have h1 := addAll_len b (addQ a e.1 e.2)
    have h2 := addQ_len a e.1 e.2
    show (addAll (addQ a e.1 e.2) b).length ≤ _
    rw [List.length_cons]; omega
end Lw
/-! The module of sums, walked. -/
namespace Lw
open PySem PySem.Spec PyProof.Rows L2
abbrev st_sum_of : Stmt := top 21
abbrev N_sum_of : List Str := ["many", "found", "powers"]
theorem sc_sum_of : FnScope N_sum_of ["many", "found"] (defScope st_sum_of) := ⟨rfl, rfl, rfl, by decide +kernel, rfl, by decide +kernel, by decide +kernel⟩

abbrev st_bounded : Stmt := top 22
abbrev N_bounded : List Str := ["many", "found", "made"]
theorem sc_bounded : FnScope N_bounded ["many", "found"] (defScope st_bounded) := ⟨rfl, rfl, rfl, by decide +kernel, rfl, by decide +kernel, by decide +kernel⟩

abbrev st_plus : Stmt := top 23
abbrev N_plus : List Str := ["one", "other", "found", "powers", "number"]
theorem sc_plus : FnScope N_plus ["one", "other"] (defScope st_plus) := ⟨rfl, rfl, rfl, by decide +kernel, rfl, by decide +kernel, by decide +kernel⟩

abbrev st_multiplied_out : Stmt := top 24
abbrev N_multiplied_out : List Str := ["some", "others", "found", "powers", "number", "more", "factor", "both", "power", "other"]
theorem sc_multiplied_out : FnScope N_multiplied_out ["some", "others"] (defScope st_multiplied_out) := ⟨rfl, rfl, rfl, by decide +kernel, rfl, by decide +kernel, by decide +kernel⟩

abbrev st_power_of : Stmt := top 26
abbrev N_power_of : List Str := ["number", "power", "found", "turn"]
theorem sc_power_of : FnScope N_power_of ["number", "power"] (defScope st_power_of) := ⟨rfl, rfl, rfl, by decide +kernel, rfl, by decide +kernel, by decide +kernel⟩

abbrev st_worth : Stmt := top 27
abbrev N_worth : List Str := ["one", "spot", "total", "powers", "number", "power", "place"]
theorem sc_worth : FnScope N_worth ["one", "spot"] (defScope st_worth) := ⟨rfl, rfl, rfl, by decide +kernel, rfl, by decide +kernel, by decide +kernel⟩

structure TbOk (m : Nat) (t : Ts) : Prop where
  m1 : 1 ≤ m
  key : ∀ e ∈ t, KOk m e.1
  few : t.length < 64
abbrev sp_sum_of (K : PySem.W.Frag) : Sp := pSp K (fun p : Nat × Ts => [.int p.1, .dc (tQ p.2)]) (fun p => TbOk p.1 p.2) fun p => dS p.1 (trm p.2)
abbrev sp_bounded (K : PySem.W.Frag) : Sp := pSp K (fun p : Nat × Ts => [.int p.1, .dc (tQ p.2)]) (fun p => TbOk p.1 p.2 ∧ deg (trm p.2) ≤ 16) fun p => dS p.1 (trm p.2)
structure PlusOk (m : Nat) (a b : Ts) : Prop where
  nda : (a.map (·.1)).Nodup
  ndb : (b.map (·.1)).Nodup
  za : SzT 1500 a
  zb : SzT 1500 b
  ok : TbOk m (addAll a b)
  deg : deg (trm (addAll a b)) ≤ 16
  few : a.length + b.length < 1000
abbrev sp_plus (K : PySem.W.Frag) : Sp := pSp K (fun p : Nat × Ts × Ts => [dS p.1 p.2.1, dS p.1 p.2.2]) (fun p => PlusOk p.1 p.2.1 p.2.2) fun p => dS p.1 (trm (addAll p.2.1 p.2.2))
structure MulOk (a b : Nat) (some others : Ts) : Prop where
  za : SzT a some
  zb : SzT b others
  fit : (a + b + 1) * (some.length * others.length) + 1 ≤ 4000
  few : some.length * others.length < 1000
  a4 : a ≤ 4000
  b4 : b ≤ 4000
  len : ∀ e ∈ some, e.1.length < 1000
abbrev sp_multiplied_out (K : PySem.W.Frag) : Sp := pSm K (fun p : Ts × Ts => [.lst (dT p.1), .ptup (dT p.2)]) (fun p => ∃ a b, MulOk a b p.1 p.2) fun p => .dc (tQ (mulOut p.1 p.2))
def pw (q : Rat) : Nat → Rat
  | 0 => 1
  | n + 1 => pw q n * q
abbrev sp_power_of (K : PySem.W.Frag) : Sp := pSp K (fun p : Rat × Nat => [dQ p.1, .int p.2]) (fun p => ∃ a, 1 ≤ a ∧ Sz a p.1 ∧ a * p.2 + 1 ≤ 4000 ∧ a ≤ 4000 ∧ p.2 < 100000) fun p => dQ (pw p.1 p.2)
def prodOf (q : Rat) (k : List Int) (spot : List Rat) : Rat := (k.zip spot).foldl (fun n p => n * pw p.2 p.1.toNat) q
def worthOf (ts : Ts) (spot : List Rat) : Rat := ts.foldl (fun t e => t + prodOf e.2 e.1 spot) 0
structure WorthOk (a b : Nat) (ts : Ts) (spot : List Rat) : Prop where
  za : SzT a ts
  zb : SzL b spot
  b1 : 1 ≤ b
  bit : ∀ e ∈ ts, ∀ x ∈ e.1, x = 0 ∨ x = 1
  fit : ts.length * (a + spot.length * (b + 1) + 1) + 1 ≤ 4000
  few : ts.length < 1000 ∧ spot.length < 1000 ∧ b < 3000
abbrev sp_worth (K : PySem.W.Frag) : Sp := pSp K (fun p : Nat × Ts × List Rat => [dS p.1 p.2.1, .ptup (dQs p.2.2)]) (fun p => ∃ a b, WorthOk a b p.2.1 p.2.2) fun p => dQ (worthOf p.2.1 p.2.2)
section
variable {K : PySem.W.Frag} {σ : L2.St} {H : Hp} {ta tb : TE}
theorem ev_sum_of {m : Nat} {t : Ts} (ha : EvD K ta σ H (.int m)) (hb : EvD K tb σ H (.dc (tQ t))) (h : TbOk m t) : EvD K (tCall (sp_sum_of K) [] E0 (tCons ta (tCons tb tNil))) σ H (dS m (trm t)) :=
  ev_call (args := fun p : Nat × Ts => [.int p.1, .dc (tQ p.2)]) (pre := fun p => TbOk p.1 p.2) (res := fun p => dS p.1 (trm p.2)) (m, t) (ea_cons ha (ea_cons hb ea_nil)) h
theorem ev_bounded {m : Nat} {t : Ts} (ha : EvD K ta σ H (.int m)) (hb : EvD K tb σ H (.dc (tQ t))) (h : TbOk m t) (hd : deg (trm t) ≤ 16) : EvD K (tCall (sp_bounded K) [] E0 (tCons ta (tCons tb tNil))) σ H (dS m (trm t)) :=
  ev_call (args := fun p : Nat × Ts => [.int p.1, .dc (tQ p.2)]) (pre := fun p => TbOk p.1 p.2 ∧ deg (trm p.2) ≤ 16) (res := fun p => dS p.1 (trm p.2)) (m, t) (ea_cons ha (ea_cons hb ea_nil)) ⟨h, hd⟩
theorem ev_plus {m : Nat} {a b : Ts} (ha : EvD K ta σ H (dS m a)) (hb : EvD K tb σ H (dS m b)) (h : PlusOk m a b) : EvD K (tCall (sp_plus K) [] E0 (tCons ta (tCons tb tNil))) σ H (dS m (trm (addAll a b))) :=
  ev_call (args := fun p : Nat × Ts × Ts => [dS p.1 p.2.1, dS p.1 p.2.2]) (pre := fun p => PlusOk p.1 p.2.1 p.2.2) (res := fun p => dS p.1 (trm (addAll p.2.1 p.2.2))) (m, a, b) (ea_cons ha (ea_cons hb ea_nil)) h
theorem em_multiplied_out {some others : Ts} {a b : Nat} (ha : EvD K ta σ H (.lst (dT some))) (hb : EvD K tb σ H (.ptup (dT others))) (h : MulOk a b some others) : EvM K (tCall (sp_multiplied_out K) [] E0 (tCons ta (tCons tb tNil))) σ H (.dc (tQ (mulOut some others))) :=
  em_call (args := fun p : Ts × Ts => [.lst (dT p.1), .ptup (dT p.2)]) (pre := fun p => ∃ a b, MulOk a b p.1 p.2) (res := fun p => .dc (tQ (mulOut p.1 p.2))) (some, others) (ea_cons ha (ea_cons hb ea_nil)) ⟨a, b, h⟩
theorem ev_power_of {q : Rat} {n a : Nat} (ha : EvD K ta σ H (dQ q)) (hb : EvD K tb σ H (.int n)) (h1 : 1 ≤ a) (h2 : Sz a q) (h3 : a * n + 1 ≤ 4000) (h4 : a ≤ 4000) (h5 : n < 100000) : EvD K (tCall (sp_power_of K) [] E0 (tCons ta (tCons tb tNil))) σ H (dQ (pw q n)) :=
  ev_call (args := fun p : Rat × Nat => [dQ p.1, .int p.2]) (pre := fun p => ∃ a, 1 ≤ a ∧ Sz a p.1 ∧ a * p.2 + 1 ≤ 4000 ∧ a ≤ 4000 ∧ p.2 < 100000) (res := fun p => dQ (pw p.1 p.2)) (q, n) (ea_cons ha (ea_cons hb ea_nil)) ⟨a, h1, h2, h3, h4, h5⟩
theorem ev_worth {m : Nat} {ts : Ts} {spot : List Rat} {a b : Nat} (ha : EvD K ta σ H (dS m ts)) (hb : EvD K tb σ H (.ptup (dQs spot))) (h : WorthOk a b ts spot) : EvD K (tCall (sp_worth K) [] E0 (tCons ta (tCons tb tNil))) σ H (dQ (worthOf ts spot)) :=
  ev_call (args := fun p : Nat × Ts × List Rat => [dS p.1 p.2.1, .ptup (dQs p.2.2)]) (pre := fun p => ∃ a b, WorthOk a b p.2.1 p.2.2) (res := fun p => dQ (worthOf p.2.1 p.2.2)) (m, ts, spot) (ea_cons ha (ea_cons hb ea_nil)) ⟨a, b, h⟩
end
theorem lk_of_key {α : Type} : ∀ {t : List (List Int × α)} {k : List Int}, k ∈ t.map (·.1) → ∃ a, lk t k = some a
  | [], _, h => by cases h
  | e :: t, k, h => by
    by_cases he : e.1 = k
    · exact ⟨e.2, lk_pos he⟩
    · rw [List.map_cons] at h
      obtain ⟨a, ha⟩ := lk_of_key ((List.mem_cons.mp h).resolve_left fun z => he z.symm)
      exact ⟨a, by rw [lk_neg he]; exact ha⟩
theorem lk_val {t : Ts} {k : List Int} (h : k ∈ t.map (·.1)) : lk (tQ t) k = some (dQ (val t k)) := by
  obtain ⟨a, ha⟩ := lk_of_key h
  rw [lk_tQ, val, ha]; rfl
theorem tQ_keys (t : Ts) : (tQ t).map (·.1) = t.map (·.1) := by rw [List.map_map]; rfl
theorem num0 (q : Rat) : (!decide (q.num = 0)) = decide (q ≠ 0) := by
  rw [Bool.eq_iff_iff]
  simp [Rat.num_eq_zero]
section
variable {P : Program} {w : World} {K : PySem.W.Frag} {mg : Str → Option Value} {base : Heap} {f : Addr} {fd : FuncData}
theorem ok_sum_of (F : FnP K "sum_of" st_sum_of f fd) (B : Bl mg) : FnOk P w K mg base CX0 1 f fd ["many", "found"] (sp_sum_of K) := by
  refine F.ok sc_sum_of (pSp_len fun _ => rfl) (fun cdv A outer s H vs Q E hr h => ?_)
  obtain ⟨⟨m, t⟩, hv, ht, kq⟩ := h
  have nd := sc_sum_of.nd
  have ht : TbOk m t := ht
  have hfew := ht.few
  have c : Cf K H H (L2.start N_sum_of vs) H [.d (.int m), .d (.dc (tQ t)), .no] [] := Cf.start hv rfl
  refine ⟨_, PSs.nox (pss_one (ps_ret (pe_tup (pa_cons (pv 0) (pa_cons (pe_callTy call_tupleP (by rfl) B.tuple (by decide +kernel) (pa_cons (pe_fz (pe_lc (own := [("powers", 2)]) (g := (gName 2)) (tt := (tTest (tOp (rNe) (tOp (rIxT K) (tXGet (tVar 1) (tVar 2)) (tC (.int 0))) (tC (.int 0))))) (te := (tTup (tCons (tVar 2) (tCons (tXGet (tVar 1) (tVar 2)) tNil)))) (by rfl) nd (pi_list (pe_fz (pe_callB (cr_sortX (by rfl)) (by rfl) B.sorted (by decide +kernel) (pa_cons (pv 1) pa_nil)))) (blkOk_by (own := [("powers", 2)]) (N := N_sum_of) (sc := defScope st_sum_of) (by decide +kernel)) (fun _ _ _ _ _ => (pg_name (i := 2) nd rfl (Or.inl rfl))) (fun _ _ _ _ _ => (pts_one (pt_cmpR op_ne (pe_ix ix_tup (pe_xget (by exact hu_of hr) (pv 1) (pv 2) (fun _ _ => rfl)) pe_int (fun _ _ => rfl)) pe_int (nomark _)))) (fun _ _ _ _ _ => (pe_tup (pa_cons (pv 2) (pa_cons (pe_xget (by exact hu_of hr) (pv 1) (pv 2) (fun _ _ => rfl)) pa_nil)))))) pa_nil)) pa_nil))))), ?_⟩
  refine r_ret c (d := dS m (trm t)) (ev_tup (ea_cons (ev_var c rfl) (ea_cons (ev_tupleP (ev_fz ((em_lc c (xs := srtK (t.map (·.1))) (enc := D.key) (ei_list (ev_fz ((em_sortX (evx_D (ev_var c rfl)) ht.m1 ?_ (by rw [List.length_map]; exact hfew)).is (by rw [tQ_keys])))) (fun k => decide (val t k ≠ 0)) (fun k => eT (k, val t k)) _ (by decide) (fun e _ => eg_name)
    (fun k hk Hs σ2 H2 c2 => (et_t (ev_neI (ev_ixT (ev_xget (evx_D (ev_var c2 rfl)) (ev_var c2 rfl) (lk_val ((srtK_perm _).mem_iff.mp hk))) ev_int rfl) ev_int)).is (num0 _)) (fun k hk hf Hs σ2 H2 c2 => ev_tup (ea_cons (ev_var c2 rfl) (ea_cons (ev_xget (evx_D (ev_var c2 rfl)) (ev_var c2 rfl) (lk_val ((srtK_perm _).mem_iff.mp hk))) ea_nil))) ?_).is ?_))) ea_nil))) kq
  · intro e he
    obtain ⟨x, hx, rfl⟩ := List.mem_map.mp he
    exact ht.key x hx
  · rw [(srtK_perm _).length_eq, List.length_map]; omega
  · simp only [gvn, trm, dT, List.map_map]; rfl
theorem ok_bounded (F : FnP K "bounded" st_bounded f fd) (B : Bl mg) (T_MD : ∃ t, mg "MOST_DEGREE" = some (.int 16 t)) (T_MT : ∃ t, mg "MOST_TERMS" = some (.int 500 t)) (C_sum_of : Fc P w K mg base "sum_of" 1 ["many", "found"] (sp_sum_of K)) (C_degree : Fc P w K mg base "degree" 1 ["one"] (sp_degree K)) : FnOk P w K mg base CX0 2 f fd ["many", "found"] (sp_bounded K) := by
  refine F.ok sc_bounded (pSp_len fun _ => rfl) (fun cdv A outer s H vs Q E hr h => ?_)
  obtain ⟨⟨m, t⟩, hv, ⟨ht, hd⟩, kq⟩ := h
  obtain ⟨t1, g_MOST_DEGREE⟩ := T_MD
  obtain ⟨t2, g_MOST_TERMS⟩ := T_MT
  have nd := sc_bounded.nd
  have ht : TbOk m t := ht
  have hd : deg (trm t) ≤ 16 := hd
  have hfew := ht.few
  have hl := trm_len t
  have c : Cf K H H (L2.start N_bounded vs) H [.d (.int m), .d (.dc (tQ t)), .no] [] := Cf.start hv rfl
  refine ⟨_, PSs.nox (pss_cons (ps_set (i := 2) nd rfl (Or.inl rfl) (pe_cc C_sum_of hr (by decide) (by rfl) (pa_cons (pv 0) (pa_cons (pv 1) pa_nil))))
    (pss_cons (ps_if (PW.pt (pw_or (pt_cmpR op_gt (pe_cc C_degree hr (by decide) (by rfl) (pa_cons (pv 2) pa_nil)) (pe_glob (v := .int 16) (by rfl) g_MOST_DEGREE ⟨_, rfl⟩) (nomark _)) (pw_or1 (pt_cmpR op_gt (pe_callB call_len_seq (by rfl) B.len (by decide +kernel) (pa_cons (pe_ix ix_tup (pv 2) pe_int (fun _ _ => rfl)) pa_nil)) (pe_glob (v := .int 500) (by rfl) g_MOST_TERMS ⟨_, rfl⟩) (nomark _)))))
    (pss_one ps_never)
    pss_nil)
    (pss_one (ps_ret (pv 2))))), ?_⟩
  refine q_seq (r_set c (ev_sum_of (ev_var c rfl) (ev_var c rfl) ht) fun σ2 H2 e2 c2 => ?_)
  refine q_seq (r_if (b := false) c2 ((et_or (et_t (ev_iB (ev_degree (ev_var c2 rfl) (by omega)) ev_int)) fun _ => et_t (ev_iB (ev_lenT (ev_pt (ev_ixT (ev_var c2 rfl) ev_int rfl))) ev_int)).is ?_) (fun z => by cases z) fun _ H3 e3 c3 => ?_)
  · rw [decide_eq_false (by omega), decide_eq_false (by rw [List.length_map]; omega)]; rfl
  · exact r_ret c3 (ev_var c3 rfl) kq
theorem ok_plus (F : FnP K "plus" st_plus f fd) (B : Bl mg) (T_NOUGHT_fractions : KtQ K mg "NOUGHT_fractions" 0) (C_added : Fc P w K mg base "added" 3 ["one", "other"] (sp_added K)) (C_bounded : Fc P w K mg base "bounded" 2 ["many", "found"] (sp_bounded K)) : FnOk P w K mg base CX0 4 f fd ["one", "other"] (sp_plus K) := by
  refine F.ok sc_plus (pSp_len fun _ => rfl) (fun cdv A outer s H vs Q E hr h => ?_)
  obtain ⟨⟨m, a, b⟩, hv, hk, kq⟩ := h
  obtain ⟨a_NOUGHT_fractions, g_NOUGHT_fractions, k0⟩ := T_NOUGHT_fractions
  have nd := sc_plus.nd
  have hk : PlusOk m a b := hk
  have hfew := hk.few
  have c : Cf K H H (L2.start N_plus vs) H [.d (dS m a), .d (dS m b), .no, .no, .no] [] := Cf.start hv rfl
  refine ⟨_, PSs.nox (pss_cons (ps_set (i := 2) nd rfl (Or.inl rfl) (pe_callTy (call_dictX (by rfl) (by exact hu2_of hr)) (by rfl) B.dict (by decide +kernel) (pa_cons (pe_ix ix_tup (pv 0) pe_int (fun _ _ => rfl)) pa_nil)))
    (pss_cons (ps_gz 2 (ps_for PassesOwn.never rfl (pi_tup (pe_ix ix_tup (pv 1) pe_int (fun _ _ => rfl))) (pg_tup rfl (pgs_cons (pg_name (i := 3) nd rfl (Or.inl rfl)) (pgs_cons (pg_name (i := 4) nd rfl (Or.inl rfl)) pgs_nil)))
    (pss_one (ps_xput (by exact hu_of hr) (pv 2) (pv 3) (pe_cc C_added hr (by decide) (by rfl) (pa_cons (pe_xget2 (by exact hu_of hr) (pv 2) (pv 3) (pe_glob (v := .ref a_NOUGHT_fractions) (by rfl) g_NOUGHT_fractions rfl) ⟨rfl, rfl, rfl, rfl⟩) (pa_cons (pv 4) pa_nil))) rfl))))
    (pss_one (ps_ret (pe_cc C_bounded hr (by decide) (by rfl) (pa_cons (pe_ix ix_tup (pv 0) pe_int (fun _ _ => rfl)) (pa_cons (pv 2) pa_nil))))))), ?_⟩
  refine q_seq (r_setM c (m := .dc (tQ a)) ((em_dictP (t := tQ a) ((ev_ixT (ev_var c rfl) ev_int rfl).is (by rw [dT_eq]))).is (by rw [putAll_nd _ _ _ (by rw [List.nil_append, tQ_keys]; exact hk.nda)]; rfl)) fun p σ2 H2 e2 c2 => ?_)
  refine q_seq (r_forM c2 (xs := b) (enc := eT) (ei_tup (ev_pt (ev_ixT (ev_var c2 rfl) ev_int rfl))) (fun _ => [.d (dS m a), .d (dS m b), .at p, .no, .no]) (fun i => [(p, .dc (tQ (addAll a (b.take i))))]) (Le.refl _) rfl _
    (fun e _ => eg_tup (egs_cons eg_name (egs_cons eg_name egs_nil)) rfl) (fun Hs i hi σ3 H3 c3 => ?_) fun σ3 H3 c3 => ?_)
  · have hnd : ((b.take i).map (·.1)).Nodup := hk.ndb.sublist ((List.take_sublist i b).map _)
    have hni : b[i].1 ∉ (b.take i).map (·.1) := by
      have h1 := hk.ndb
      have h2 : b = b.take i ++ b[i] :: b.drop (i + 1) := by rw [List.getElem_cons_drop, List.take_append_drop]
      rw [h2, List.map_append, List.map_cons, List.nodup_append] at h1
      exact fun z => h1.2.2 _ z _ List.mem_cons_self rfl
    have hval : val (addAll a (b.take i)) b[i].1 = val a b[i].1 := by rw [addAll_val _ _ _ hnd, val_none hni, Rat.add_zero]
    have z1 : Sz 1500 (val (addAll a (b.take i)) b[i].1) := by rw [hval]; exact hk.za.val (by decide) _
    have z2 : Sz 1500 b[i].2 := hk.zb _ (List.getElem_mem hi)
    have hl := addAll_len (b.take i) a
    refine r_xput (j := 0) (d := dQ (val (addAll a (b.take i)) b[i].1 + b[i].2)) c3 rfl rfl (ev_var c3 rfl) (ev_add ((ev_xget2 (evx_M (j := 0) c3 rfl rfl) (ev_var c3 rfl) (ev_cst (d := dQ 0) k0)).is (getD_tQ _ _)) (ev_var c3 rfl) (big_of z1 z2 (by decide) (by decide))) (by rw [List.length_map]; rw [List.length_take] at hl; omega) fun H4 c4 => ?_
    refine (c4.le (.keep (.keep (.keep (.drop (.drop .nil)))))).msE ?_
    rw [take_succ_get _ hi, pt_tQ]
    show [(p, Mo.dc (tQ (addQ (addAll a (b.take i)) b[i].1 b[i].2)))] = _
    rw [addAll, addAll, List.foldl_append]; rfl
  · rw [List.take_length] at c3
    refine r_gzX (k := 0) c3 rfl rfl fun H4 c4 => ?_
    exact r_ret c4 (ev_bounded (ev_ixT (ev_var c4 rfl) ev_int rfl) (ev_var c4 rfl) hk.ok hk.deg) kq
/-- the inner walk of multiplied_out -/
def mulIn (e : List Int × Rat) (others acc : Ts) : Ts := others.foldl (fun acc o => addQ acc (addK e.1 o.1) (e.2 * o.2)) acc
theorem mulIn_sz {a b s : Nat} {e : List Int × Rat} (he : Sz a e.2) : ∀ {others acc : Ts}, SzT b others → SzT s acc → 1 ≤ s → SzT (s + (a + b + 1) * others.length) (mulIn e others acc)
  | [], acc, _, h, _ => h
  | o :: others, acc, hb, h, hs => by
    have h1 : SzT (s + (a + b + 1)) (addQ acc (addK e.1 o.1) (e.2 * o.2)) := (h.mono (by omega)).add (((h.val hs _).add (he.mul (hb o List.mem_cons_self))).mono (by omega))
    have h2 := mulIn_sz (s := s + (a + b + 1)) he (others := others) (acc := addQ acc (addK e.1 o.1) (e.2 * o.2)) (fun x hx => hb x (List.mem_cons_of_mem _ hx)) h1 (by omega)
    exact h2.mono (by rw [List.length_cons, Nat.mul_succ]; omega)
theorem mulIn_len {e : List Int × Rat} : ∀ {others acc : Ts}, (mulIn e others acc).length ≤ acc.length + others.length
  | [], acc => Nat.le_refl _
  | o :: others, acc => by
    have h1 := mulIn_len (e := e) (others := others) (acc := addQ acc (addK e.1 o.1) (e.2 * o.2))
    have h2 := addQ_len acc (addK e.1 o.1) (e.2 * o.2)
    show (mulIn e others (addQ acc (addK e.1 o.1) (e.2 * o.2))).length ≤ _
    rw [List.length_cons]; omega
theorem mulOut_eq (some others : Ts) : mulOut some others = some.foldl (fun acc e => mulIn e others acc) [] := rfl
theorem mulOut_sz {a b : Nat} {others : Ts} (hb : SzT b others) : ∀ (some : Ts), SzT a some → SzT ((a + b + 1) * (some.length * others.length) + 1) (mulOut some others) := by
  have : ∀ (some : Ts) (acc : Ts) (s : Nat), SzT a some → SzT s acc → 1 ≤ s → SzT (s + (a + b + 1) * (some.length * others.length)) (some.foldl (fun acc e => mulIn e others acc) acc) := by
    intro some
    induction some with
    | nil => intro acc s _ h _; exact h.mono (by omega)
    | cons e some ih =>
      intro acc s ha h hs
      have h1 := mulIn_sz (ha e List.mem_cons_self) hb h hs
      have h2 := ih (mulIn e others acc) _ (fun x hx => ha x (List.mem_cons_of_mem _ hx)) h1 (by omega)
      refine h2.mono ?_
      have e1 : (a + b + 1) * ((some.length + 1) * others.length) = (a + b + 1) * (some.length * others.length) + (a + b + 1) * others.length := by rw [show (some.length + 1) * others.length = some.length * others.length + others.length from Nat.succ_mul _ _, Nat.mul_add]
      rw [List.length_cons, e1]; omega
  intro some ha
  have := this some [] 1 ha (fun e he => by cases he) (by decide)
  exact this.mono (by omega)
theorem mulOut_len {others : Ts} : ∀ (some : Ts), (mulOut some others).length ≤ some.length * others.length := by
  have : ∀ (some acc : Ts), (some.foldl (fun acc e => mulIn e others acc) acc).length ≤ acc.length + some.length * others.length := by
    intro some
    induction some with
    | nil => intro acc; simp
    | cons e some ih =>
      intro acc
      have h1 := ih (mulIn e others acc)
      have h2 := mulIn_len (e := e) (others := others) (acc := acc)
      rw [List.foldl_cons, List.length_cons, Nat.succ_mul]; omega
  intro some
  have := this some []
  rw [mulOut_eq]
  simpa using this
theorem mulOut_take (some others : Ts) {i : Nat} (hi : i < some.length) : mulOut (some.take (i + 1)) others = mulIn some[i] others (mulOut (some.take i) others) := by
  rw [take_succ_get _ hi, mulOut_eq, List.foldl_append]; rfl
theorem mulIn_take (e : List Int × Rat) (others acc : Ts) {j : Nat} (hj : j < others.length) : mulIn e (others.take (j + 1)) acc = addQ (mulIn e (others.take j) acc) (addK e.1 others[j].1) (e.2 * others[j].2) := by
  rw [take_succ_get _ hj, mulIn, List.foldl_append]; rfl
theorem ok_multiplied_out (F : FnP K "multiplied_out" st_multiplied_out f fd) (B : Bl mg) (T_NOUGHT_fractions : KtQ K mg "NOUGHT_fractions" 0) (C_added : Fc P w K mg base "added" 3 ["one", "other"] (sp_added K)) (C_multiplied : Fc P w K mg base "multiplied" 3 ["one", "other"] (sp_multiplied K)) : FnOk P w K mg base CX0 4 f fd ["some", "others"] (sp_multiplied_out K) := by
  refine F.ok sc_multiplied_out (pSm_len fun _ => rfl) (fun cdv A outer s H vs Q E hr h => ?_)
  obtain ⟨⟨some, others⟩, hv, ⟨a, b, hk⟩, kq⟩ := h
  obtain ⟨a_NOUGHT_fractions, g_NOUGHT_fractions, k0⟩ := T_NOUGHT_fractions
  have nd := sc_multiplied_out.nd
  have hk : MulOk a b some others := hk
  have hfew := hk.few
  have hfit := hk.fit
  have ha4 := hk.a4
  have hb4 := hk.b4
  have c : Cf K H H (L2.start N_multiplied_out vs) H [.d (.lst (dT some)), .d (.ptup (dT others)), .no, .no, .no, .no, .no, .no, .no, .no] [] := Cf.start hv rfl
  refine ⟨_, PSs.nox (pss_cons (ps_set (i := 2) nd rfl (Or.inl rfl) pe_xnew)
    (pss_cons (ps_for PassesOwn.never rfl (pi_list (pv 0)) (pg_tup rfl (pgs_cons (pg_name (i := 3) nd rfl (Or.inl rfl)) (pgs_cons (pg_name (i := 4) nd rfl (Or.inl rfl)) pgs_nil)))
    (pss_one (ps_for PassesOwn.never rfl (pi_tup (pv 1)) (pg_tup rfl (pgs_cons (pg_name (i := 5) nd rfl (Or.inl rfl)) (pgs_cons (pg_name (i := 6) nd rfl (Or.inl rfl)) pgs_nil)))
    (pss_cons (ps_set (i := 7) nd rfl (Or.inl rfl) (pe_callTy call_tupleP (by rfl) B.tuple (by decide +kernel) (pa_cons (pe_fz (pe_lc (own := [("power", 8), ("other", 9)]) (g := (gTup K 2 (gCons (gName 8) (gCons (gName 9) gNil)))) (tt := tYes) (te := (tOp (rI0 fun i j => .int (i + j)) (tVar 8) (tVar 9))) (by rfl) nd (RZ.pi_zipA (by rfl) B.zip (pa_cons (pv 3) (pa_cons (pv 5) pa_nil))) (blkOk_by (own := [("power", 8), ("other", 9)]) (N := N_multiplied_out) (sc := defScope st_multiplied_out) (by decide +kernel)) (fun _ _ _ _ _ => (pg_tup rfl (pgs_cons (pg_name (i := 8) nd rfl (Or.inl rfl)) (pgs_cons (pg_name (i := 9) nd rfl (Or.inl rfl)) pgs_nil)))) (fun _ _ _ _ _ => pts_nil) (fun _ _ _ _ _ => (pe_op op_add (pv 8) (pv 9))))) pa_nil)))
    (pss_one (ps_xput (by exact hu_of hr) (pv 2) (pv 7) (pe_cc C_added hr (by decide) (by rfl) (pa_cons (pe_xget2 (by exact hu_of hr) (pv 2) (pv 7) (pe_glob (v := .ref a_NOUGHT_fractions) (by rfl) g_NOUGHT_fractions rfl) ⟨rfl, rfl, rfl, rfl⟩) (pa_cons (pe_cc C_multiplied hr (by decide) (by rfl) (pa_cons (pv 4) (pa_cons (pv 6) pa_nil))) pa_nil))) rfl))))))
    (pss_one (ps_ret (pv 2))))), ?_⟩
  refine q_seq (r_setM c em_xnew fun p σ2 H2 e2 c2 => ?_)
  refine q_seq (r_forM c2 (xs := some) (enc := eT) (ei_list (ev_var c2 rfl)) (fun _ => [.d (.lst (dT some)), .d (.ptup (dT others)), .at p, .no, .no, .no, .no, .no, .no, .no]) (fun i => [(p, .dc (tQ (mulOut (some.take i) others)))]) (Le.refl _) rfl _
    (fun e _ => eg_tup (egs_cons eg_name (egs_cons eg_name egs_nil)) rfl) (fun Hs i hi σ3 H3 c3 => ?_) fun σ3 H3 c3 => ?_)
  · have zi : SzT ((a + b + 1) * ((some.take i).length * others.length) + 1) (mulOut (some.take i) others) := mulOut_sz hk.zb _ fun e he => hk.za e (List.mem_of_mem_take he)
    have ti : (some.take i).length = i := by rw [List.length_take]; omega
    rw [ti] at zi
    have hstep : (a + b + 1) * (i * others.length) + (a + b + 1) * others.length ≤ (a + b + 1) * (some.length * others.length) := by
      rw [← Nat.mul_add, ← Nat.succ_mul]
      exact Nat.mul_le_mul_left _ (Nat.mul_le_mul_right _ hi)
    have li := mulOut_len (others := others) (some.take i)
    rw [ti] at li
    have hl2 : i * others.length + others.length ≤ some.length * others.length := by
      rw [← Nat.succ_mul]; exact Nat.mul_le_mul_right _ hi
    refine r_forM c3 (xs := others) (enc := eT) (ei_tup (ev_pt (ev_var c3 rfl))) (fun _ => [.d (.lst (dT some)), .d (.ptup (dT others)), .at p, .d (.key some[i].1), .d (dQ some[i].2), .no, .no, .no, .no, .no]) (fun j => [(p, .dc (tQ (mulIn some[i] (others.take j) (mulOut (some.take i) others))))]) (Le.refl _) rfl _
      (fun e _ => eg_tup (egs_cons eg_name (egs_cons eg_name egs_nil)) rfl) (fun Hs' j hj σ4 H4 c4 => ?_) fun σ4 H4 c4 => ?_
    · refine q_seq (r_set c4 (d := .key (addK some[i].1 others[j].1)) (ev_tupleP (ev_fz ((em_map c4 (xs := some[i].1.zip others[j].1) (enc := fun p => .tup [.int p.1, .int p.2]) ((ei_zipTT (ev_pt (ev_var c4 rfl)) (ev_pt (ev_var c4 rfl))).is (zipD_zip _ _ _ _)) (fun p => .int (p.1 + p.2)) _ (by decide) (fun e _ => eg_tup (egs_cons eg_name (egs_cons eg_name egs_nil)) rfl)
        (fun p _ Hs σ2 H2 c2 => ev_iI (ev_var c2 rfl) (ev_var c2 rfl)) (by have := hk.len _ (List.getElem_mem hi); rw [List.length_zip]; omega)).is (by rw [addK, List.map_map]; rfl)))) fun σ5 H5 e5 c5 => ?_)
      have zj : SzT ((a + b + 1) * (i * others.length) + 1 + (a + b + 1) * (others.take j).length) (mulIn some[i] (others.take j) (mulOut (some.take i) others)) := mulIn_sz (hk.za _ (List.getElem_mem hi)) (fun e he => hk.zb e (List.mem_of_mem_take he)) zi (by omega)
      have tj : (others.take j).length = j := by rw [List.length_take]; omega
      rw [tj] at zj
      have hj2 : (a + b + 1) * j + (a + b + 1) ≤ (a + b + 1) * others.length := by
        rw [← Nat.mul_succ]; exact Nat.mul_le_mul_left _ hj
      have z1 := zj.val (by omega) (addK some[i].1 others[j].1)
      have z2 : Sz (a + b) (some[i].2 * others[j].2) := (hk.za _ (List.getElem_mem hi)).mul (hk.zb _ (List.getElem_mem hj))
      have lj := mulIn_len (e := some[i]) (others := others.take j) (acc := mulOut (some.take i) others)
      rw [tj] at lj
      refine r_xput (j := 0) (d := dQ (val (mulIn some[i] (others.take j) (mulOut (some.take i) others)) (addK some[i].1 others[j].1) + some[i].2 * others[j].2)) c5 rfl rfl (ev_var c5 rfl)
        (ev_add ((ev_xget2 (evx_M (j := 0) c5 rfl rfl) (ev_var c5 rfl) (ev_cst (d := dQ 0) k0)).is (getD_tQ _ _)) (ev_mul (ev_var c5 rfl) (ev_var c5 rfl) (big_of (hk.za _ (List.getElem_mem hi)) (hk.zb _ (List.getElem_mem hj)) ha4 hb4)) (big_of z1 z2 (by omega) (by omega))) (by rw [List.length_map]; omega) fun H6 c6 => ?_
      refine (c6.le (.keep (.keep (.keep (.keep (.keep (.drop (.drop (.drop (.drop (.drop .nil))))))))))).msE ?_
      rw [pt_tQ, mulIn_take _ _ _ hj]; rfl
    · rw [List.take_length] at c4
      refine (c4.le (.keep (.keep (.keep (.drop (.drop (.drop (.drop (.drop (.drop (.drop .nil))))))))))).msE ?_
      rw [mulOut_take _ _ hi]
  · rw [List.take_length] at c3
    exact r_retM (k := 0) c3 rfl rfl kq
theorem pw_sz {q : Rat} {a : Nat} (h : Sz a q) : ∀ n, Sz (a * n + 1) (pw q n)
  | 0 => Sz.one.mono (by omega)
  | n + 1 => ((pw_sz h n).mul h).mono (by rw [Nat.mul_succ]; omega)
theorem ok_power_of (F : FnP K "power_of" st_power_of f fd) (B : Bl mg) (T_UNIT : KtQ K mg "UNIT" 1) (C_multiplied : Fc P w K mg base "multiplied" 3 ["one", "other"] (sp_multiplied K)) : FnOk P w K mg base CX0 4 f fd ["number", "power"] (sp_power_of K) := by
  refine F.ok sc_power_of (pSp_len fun _ => rfl) (fun cdv A outer s H vs Q E hr h => ?_)
  obtain ⟨⟨q, n⟩, hv, ⟨a, h1, h2, h3, h4, h5⟩, kq⟩ := h
  obtain ⟨a_UNIT, g_UNIT, k1⟩ := T_UNIT
  have nd := sc_power_of.nd
  have h2 : Sz a q := h2
  have h3 : a * n + 1 ≤ 4000 := h3
  have h5 : n < 100000 := h5
  have c : Cf K H H (L2.start N_power_of vs) H [.d (dQ q), .d (.int n), .no, .no] [] := Cf.start hv rfl
  refine ⟨_, PSs.nox (pss_cons (ps_set (i := 2) nd rfl (Or.inl rfl) (pe_glob (v := .ref a_UNIT) (by rfl) g_UNIT rfl))
    (pss_cons (ps_for PassesOwn.never rfl (pi_range1 (by rfl) B.range (pa_cons (pv 1) pa_nil)) (pg_name (i := 3) nd rfl (Or.inl rfl))
    (pss_one (ps_set (i := 2) nd rfl (Or.inl rfl) (pe_cc C_multiplied hr (by decide) (by rfl) (pa_cons (pv 2) (pa_cons (pv 0) pa_nil))))))
    (pss_one (ps_ret (pv 2))))), ?_⟩
  refine q_seq (r_set c (ev_cst (d := dQ 1) k1) fun σ2 H2 e2 c2 => ?_)
  refine q_seq (r_forM c2 (xs := List.range n) (enc := fun i => .int (i : Nat)) (ei_rng (ea_cons (ev_var c2 rfl) ea_nil) (by omega)) (fun i => [.d (dQ q), .d (.int n), .d (dQ (pw q i)), .no]) (fun _ => []) (Le.refl _) rfl _ (fun e _ => eg_name) (fun Hs i hi σ3 H3 c3 => ?_) fun σ3 H3 c3 => ?_)
  · have hi' : i < n := by simpa using hi
    have : a * i ≤ a * n := Nat.mul_le_mul_left _ (by omega)
    exact r_set c3 (ev_mul (ev_var c3 rfl) (ev_var c3 rfl) (big_of (pw_sz h2 i) h2 (by omega) h4)) fun σ4 H4 e4 c4 => c4.le (.keep (.keep (.keep (.drop .nil))))
  · rw [List.length_range] at c3
    exact r_ret c3 (ev_var c3 rfl) kq
theorem prodOf_take {q : Rat} {k : List Int} {spot : List Rat} {i : Nat} (hi : i < (k.zip spot).length) : ((k.zip spot).take (i + 1)).foldl (fun n p => n * pw p.2 p.1.toNat) q = ((k.zip spot).take i).foldl (fun n p => n * pw p.2 p.1.toNat) q * pw (k.zip spot)[i].2 (k.zip spot)[i].1.toNat := by
  rw [take_succ_get _ hi, List.foldl_append]; rfl
theorem prod_sz {q : Rat} {a b : Nat} (hq : Sz a q) : ∀ (l : List (Int × Rat)), (∀ p ∈ l, (p.1 = 0 ∨ p.1 = 1) ∧ Sz b p.2) → Sz (a + l.length * (b + 1)) (l.foldl (fun n p => n * pw p.2 p.1.toNat) q) := by
  intro l
  induction l generalizing a q with
  | nil => intro _; exact hq.mono (by omega)
  | cons p l ih =>
    intro h
    obtain ⟨hp, hz⟩ := h p List.mem_cons_self
    have h1 : Sz (b + 1) (pw p.2 p.1.toNat) := by
      have := pw_sz hz p.1.toNat
      rcases hp with e | e
      · rw [e] at this ⊢; exact this.mono (by show b * 0 + 1 ≤ b + 1; omega)
      · rw [e] at this ⊢; exact this.mono (by show b * 1 + 1 ≤ b + 1; omega)
    have h2 := ih (hq.mul h1) fun x hx => h x (List.mem_cons_of_mem _ hx)
    rw [List.foldl_cons, List.length_cons, Nat.succ_mul]
    exact h2.mono (by omega)
theorem worth_sz {a b n : Nat} {spot : List Rat} (hb : SzL b spot) (hn : spot.length ≤ n) : ∀ (ts : Ts), SzT a ts → (∀ e ∈ ts, ∀ x ∈ e.1, x = 0 ∨ x = 1) → Sz (ts.length * (a + n * (b + 1) + 1) + 1) (worthOf ts spot) := by
  have : ∀ (ts : Ts) (acc : Rat) (s : Nat), Sz s acc → SzT a ts → (∀ e ∈ ts, ∀ x ∈ e.1, x = 0 ∨ x = 1) → Sz (s + ts.length * (a + n * (b + 1) + 1)) (ts.foldl (fun t e => t + prodOf e.2 e.1 spot) acc) := by
    intro ts
    induction ts with
    | nil => intro acc s h _ _; exact h.mono (by omega)
    | cons e ts ih =>
      intro acc s h hz hx
      have h1 : Sz (a + (e.1.zip spot).length * (b + 1)) (prodOf e.2 e.1 spot) := prod_sz (hz e List.mem_cons_self) _ fun p hp => ⟨hx e List.mem_cons_self _ (List.of_mem_zip hp).1, hb _ (List.of_mem_zip hp).2⟩
      have hl : (e.1.zip spot).length * (b + 1) ≤ n * (b + 1) := Nat.mul_le_mul_right _ (by rw [List.length_zip]; omega)
      have h2 := ih _ _ (h.add h1) (fun x hx => hz x (List.mem_cons_of_mem _ hx)) fun x hx' => hx x (List.mem_cons_of_mem _ hx')
      rw [List.foldl_cons, List.length_cons, Nat.succ_mul]
      exact h2.mono (by omega)
  intro ts hz hx
  exact (this ts 0 1 Sz.zero hz hx).mono (by omega)
theorem ok_worth (F : FnP K "worth" st_worth f fd) (B : Bl mg) (T_NOUGHT_fractions : KtQ K mg "NOUGHT_fractions" 0) (C_added : Fc P w K mg base "added" 3 ["one", "other"] (sp_added K)) (C_multiplied : Fc P w K mg base "multiplied" 3 ["one", "other"] (sp_multiplied K)) (C_power_of : Fc P w K mg base "power_of" 4 ["number", "power"] (sp_power_of K)) : FnOk P w K mg base CX0 5 f fd ["one", "spot"] (sp_worth K) := by
  refine F.ok sc_worth (pSp_len fun _ => rfl) (fun cdv A outer s H vs Q E hr h => ?_)
  obtain ⟨⟨m, ts, spot⟩, hv, ⟨a, b, hk⟩, kq⟩ := h
  obtain ⟨a_NOUGHT_fractions, g_NOUGHT_fractions, k0⟩ := T_NOUGHT_fractions
  have nd := sc_worth.nd
  have hk : WorthOk a b ts spot := hk
  have hfit := hk.fit
  obtain ⟨f1, f2, f3⟩ := hk.few
  have hb1 := hk.b1
  have c : Cf K H H (L2.start N_worth vs) H [.d (dS m ts), .d (.ptup (dQs spot)), .no, .no, .no, .no, .no] [] := Cf.start hv rfl
  refine ⟨_, PSs.nox (pss_cons (ps_set (i := 2) nd rfl (Or.inl rfl) (pe_glob (v := .ref a_NOUGHT_fractions) (by rfl) g_NOUGHT_fractions rfl))
    (pss_cons (ps_for PassesOwn.never rfl (pi_tup (pe_ix ix_tup (pv 0) pe_int (fun _ _ => rfl))) (pg_tup rfl (pgs_cons (pg_name (i := 3) nd rfl (Or.inl rfl)) (pgs_cons (pg_name (i := 4) nd rfl (Or.inl rfl)) pgs_nil)))
    (pss_cons (ps_for PassesOwn.never rfl (RZ.pi_zipA (by rfl) B.zip (pa_cons (pv 3) (pa_cons (pv 1) pa_nil))) (pg_tup rfl (pgs_cons (pg_name (i := 5) nd rfl (Or.inl rfl)) (pgs_cons (pg_name (i := 6) nd rfl (Or.inl rfl)) pgs_nil)))
    (pss_one (ps_set (i := 4) nd rfl (Or.inl rfl) (pe_cc C_multiplied hr (by decide) (by rfl) (pa_cons (pv 4) (pa_cons (pe_cc C_power_of hr (by decide) (by rfl) (pa_cons (pv 6) (pa_cons (pv 5) pa_nil))) pa_nil))))))
    (pss_one (ps_set (i := 2) nd rfl (Or.inl rfl) (pe_cc C_added hr (by decide) (by rfl) (pa_cons (pv 2) (pa_cons (pv 4) pa_nil)))))))
    (pss_one (ps_ret (pv 2))))), ?_⟩
  refine q_seq (r_set c (ev_cst (d := dQ 0) k0) fun σ2 H2 e2 c2 => ?_)
  refine q_seq (r_forM c2 (xs := ts) (enc := eT) (ei_tup (ev_pt (ev_ixT (ev_var c2 rfl) ev_int rfl))) (fun i => [.d (dS m ts), .d (.ptup (dQs spot)), .d (dQ (worthOf (ts.take i) spot)), .no, .no, .no, .no]) (fun _ => []) (Le.refl _) rfl _ (fun e _ => eg_tup (egs_cons eg_name (egs_cons eg_name egs_nil)) rfl) (fun Hs i hi σ3 H3 c3 => ?_) fun σ3 H3 c3 => ?_)
  · have hei := List.getElem_mem hi
    have ti : (ts.take i).length = i := by rw [List.length_take]; omega
    have zt : Sz (i * (a + spot.length * (b + 1) + 1) + 1) (worthOf (ts.take i) spot) := by
      have := worth_sz (n := spot.length) hk.zb (Nat.le_refl _) (ts.take i) (fun e he => hk.za e (List.mem_of_mem_take he)) fun e he => hk.bit e (List.mem_of_mem_take he)
      rw [ti] at this; exact this
    have hle : i * (a + spot.length * (b + 1) + 1) + (a + spot.length * (b + 1) + 1) ≤ ts.length * (a + spot.length * (b + 1) + 1) := by
      rw [← Nat.succ_mul]; exact Nat.mul_le_mul_right _ hi
    have zp : ∀ j, Sz (a + j * (b + 1)) (((ts[i].1.zip spot).take j).foldl (fun n p => n * pw p.2 p.1.toNat) ts[i].2) := fun j => by
      have := prod_sz (a := a) (b := b) (hk.za _ hei) ((ts[i].1.zip spot).take j) fun p hp => ⟨hk.bit _ hei _ (List.of_mem_zip (List.mem_of_mem_take hp)).1, hk.zb _ (List.of_mem_zip (List.mem_of_mem_take hp)).2⟩
      refine this.mono ?_
      have : ((ts[i].1.zip spot).take j).length * (b + 1) ≤ j * (b + 1) := Nat.mul_le_mul_right _ (by rw [List.length_take]; omega)
      omega
    refine q_seq (r_forM c3 (xs := ts[i].1.zip spot) (enc := fun p => .tup [.int p.1, dQ p.2]) ((ei_zipTT (ev_pt (ev_var c3 rfl)) (ev_pt (ev_var c3 rfl))).is (zipD_zip _ _ _ _)) (fun j => [.d (dS m ts), .d (.ptup (dQs spot)), .d (dQ (worthOf (ts.take i) spot)), .d (.key ts[i].1), .d (dQ (((ts[i].1.zip spot).take j).foldl (fun n p => n * pw p.2 p.1.toNat) ts[i].2)), .no, .no]) (fun _ => []) (Le.refl _) rfl _
      (fun e _ => eg_tup (egs_cons eg_name (egs_cons eg_name egs_nil)) rfl) (fun Hs' j hj σ4 H4 c4 => ?_) fun σ4 H4 c4 => ?_)
    · have hpj := List.of_mem_zip (List.getElem_mem hj)
      have hb : (ts[i].1.zip spot)[j].1 = 0 ∨ (ts[i].1.zip spot)[j].1 = 1 := hk.bit _ hei _ hpj.1
      have hzj : Sz b (ts[i].1.zip spot)[j].2 := hk.zb _ hpj.2
      have hjl : j < spot.length := by rw [List.length_zip] at hj; omega
      have hj2 : j * (b + 1) + (b + 1) ≤ spot.length * (b + 1) := by rw [← Nat.succ_mul]; exact Nat.mul_le_mul_right _ hjl
      have hcast : ((ts[i].1.zip spot)[j].1.toNat : Int) = (ts[i].1.zip spot)[j].1 := by rcases hb with e | e <;> rw [e] <;> rfl
      have hn : (ts[i].1.zip spot)[j].1.toNat ≤ 1 := by rcases hb with e | e <;> rw [e] <;> decide
      have h6 : b * (ts[i].1.zip spot)[j].1.toNat ≤ b * 1 := Nat.mul_le_mul_left _ hn
      have zpw : Sz (b + 1) (pw (ts[i].1.zip spot)[j].2 (ts[i].1.zip spot)[j].1.toNat) := (pw_sz hzj _).mono (by omega)
      refine r_set c4 ((ev_mul (ev_var c4 rfl) (ev_power_of (n := (ts[i].1.zip spot)[j].1.toNat) (ev_var c4 rfl) ((ev_var c4 rfl).is (by rw [hcast])) hb1 hzj (by omega) (by omega) (by omega)) (big_of (zp j) zpw (by omega) (by omega))).is ?_) fun σ5 H5 e5 c5 => c5.le (.keep (.keep (.keep (.keep (.keep (.drop (.drop .nil)))))))
      rw [prodOf_take hj]
    · rw [List.take_length] at c4
      have zz := zp (ts[i].1.zip spot).length
      rw [List.take_length] at zz
      have hlz : (ts[i].1.zip spot).length * (b + 1) ≤ spot.length * (b + 1) := Nat.mul_le_mul_right _ (by rw [List.length_zip]; omega)
      refine r_set c4 ((ev_add (ev_var c4 rfl) (ev_var c4 rfl) (big_of zt zz (by omega) (by omega))).is ?_) fun σ5 H5 e5 c5 => c5.le (.keep (.keep (.keep (.drop (.drop (.drop (.drop .nil)))))))
      rw [take_succ_get _ hi, worthOf, worthOf, List.foldl_append]; rfl
  · rw [List.take_length] at c3
    exact r_ret c3 (ev_var c3 rfl) kq
end
end Lw
/-! Straight sums put into straight sums: the tables. No program here. -/
namespace Lw
open PySem PySem.Spec PyProof.Rows L2
def zK (m : Nat) : List Int := List.replicate m 0
def uK (m i : Nat) : List Int := (zK m).set i 1
theorem zK_succ (n : Nat) : zK (n + 1) = 0 :: zK n := rfl
theorem uK_zero (n : Nat) : uK (n + 1) 0 = 1 :: zK n := rfl
theorem uK_succ (n i : Nat) : uK (n + 1) (i + 1) = 0 :: uK n i := rfl
theorem zK_len (n : Nat) : (zK n).length = n := by simp [zK]
theorem uK_len (n i : Nat) : (uK n i).length = n := by simp [uK, zK]
theorem uK_ne : ∀ {n i : Nat}, i < n → uK n i ≠ zK n
  | 0, _, h => absurd h (Nat.not_lt_zero _)
  | n + 1, 0, _ => fun e => by rw [uK_zero, zK_succ] at e; simp at e
  | n + 1, i + 1, h => fun e => by
    rw [uK_succ, zK_succ] at e
    injection e with _ e
    exact uK_ne (Nat.lt_of_succ_lt_succ h) e
theorem uK_inj : ∀ {n i j : Nat}, i < n → uK n i = uK n j → i = j
  | 0, _, _, h, _ => absurd h (Nat.not_lt_zero _)
  | n + 1, 0, 0, _, _ => rfl
  | n + 1, 0, j + 1, _, e => by rw [uK_zero, uK_succ] at e; simp at e
  | n + 1, i + 1, 0, _, e => by rw [uK_zero, uK_succ] at e; simp at e
  | n + 1, i + 1, j + 1, h, e => by
    rw [uK_succ, uK_succ] at e
    injection e with _ e
    rw [uK_inj (Nat.lt_of_succ_lt_succ h) e]
theorem addK_zz (m : Nat) : addK (zK m) (zK m) = zK m := by
  induction m with
  | zero => rfl
  | succ m ih => rw [zK_succ]; show (0 + 0 : Int) :: addK (zK m) (zK m) = _; rw [ih]; rfl
theorem addK_z : ∀ (k : List Int), addK (zK k.length) k = k
  | [] => rfl
  | x :: k => by
    show ((0 : Int) + x) :: addK (zK k.length) k = _
    rw [addK_z k, Int.zero_add]
theorem addK_zu (m i : Nat) : addK (zK m) (uK m i) = uK m i := by
  have := addK_z (uK m i)
  rw [uK_len] at this; exact this
/-- the letter put in for letter k -/
def mvT (m k : Nat) (low high : Rat) : Ts := (if low ≠ 0 then [(zK m, low)] else []) ++ [(uK m k, high - low)]
/-- terms by what their keys say from letter j on -/
def tl (j : Nat) (ts : Ts) : Ts := ts.map fun e => (e.1.drop j, e.2)
def pw1 (j : Nat) (d : Int) (ts : Ts) : Ts := ts.filter fun e => decide (e.1.getD j 0 = d)
theorem drop_getD {k : List Int} {j : Nat} (h : j < k.length) : k.drop j = k.getD j 0 :: k.drop (j + 1) := by
  rw [List.drop_eq_getElem_cons h]
  simp [List.getD, h]
theorem val_cons (e : List Int × Rat) (ts : Ts) (k : List Int) : val (e :: ts) k = if e.1 = k then e.2 else val ts k := by
  unfold val
  by_cases h : e.1 = k
  · rw [if_pos h, lk_pos h]; rfl
  · rw [if_neg h, lk_neg h]
theorem val_tl {m j : Nat} (hj : j < m) (d : Int) (x : List Int) : ∀ (ts : Ts), (∀ e ∈ ts, e.1.length = m) → val (tl j ts) (d :: x) = val (tl (j + 1) (pw1 j d ts)) x
  | [], _ => rfl
  | e :: ts, h => by
    have ih := val_tl hj d x ts fun y hy => h y (List.mem_cons_of_mem _ hy)
    have hl : j < e.1.length := by rw [h e List.mem_cons_self]; exact hj
    show val ((e.1.drop j, e.2) :: tl j ts) (d :: x) = val (tl (j + 1) (List.filter _ (e :: ts))) x
    rw [val_cons, List.filter_cons]
    simp only
    rw [drop_getD hl]
    by_cases hd : e.1.getD j 0 = d
    · rw [if_pos (decide_eq_true hd)]
      show _ = val ((e.1.drop (j + 1), e.2) :: tl (j + 1) (pw1 j d ts)) x
      rw [val_cons]
      simp only
      by_cases hx : e.1.drop (j + 1) = x
      · rw [if_pos hx, if_pos (by rw [hd, hx])]
      · rw [if_neg hx, if_neg (fun z => hx (by injection z)), ih]
    · rw [if_neg (show ¬ decide (e.1.getD j 0 = d) = true from by rw [decide_eq_false hd]; decide), if_neg (fun z : e.1.getD j 0 :: e.1.drop (j + 1) = d :: x => hd (by injection z)), ih]; rfl
/-- terms of a straight sum, from letter j on -/
structure LinT (m j : Nat) (ts : Ts) : Prop where
  len : ∀ e ∈ ts, e.1.length = m
  tail : ∀ e ∈ ts, e.1.drop j = zK (m - j) ∨ ∃ i, i < m - j ∧ e.1.drop j = uK (m - j) i
  nd : ((tl j ts).map (·.1)).Nodup
theorem tl_keys (j : Nat) (ts : Ts) : (tl j ts).map (·.1) = ts.map fun e => e.1.drop j := by rw [tl, List.map_map]; rfl
theorem LinT.sub {m j : Nat} {ts : Ts} (h : LinT m j ts) (hj : j < m) (d : Int) : LinT m (j + 1) (pw1 j d ts) := by
  have hm : m - j = (m - (j + 1)) + 1 := by omega
  refine ⟨fun e he => h.len e (List.mem_filter.mp he).1, fun e he => ?_, ?_⟩
  · obtain ⟨h1, h2⟩ := List.mem_filter.mp he
    have hl := h.len e h1
    have hd := drop_getD (k := e.1) (j := j) (by omega)
    rcases h.tail e h1 with z | ⟨i, hi, z⟩
    · rw [hd, hm, zK_succ] at z
      injection z with _ z
      exact .inl z
    · rw [hd, hm] at z
      cases i with
      | zero =>
        rw [uK_zero] at z
        injection z with _ z
        exact .inl z
      | succ i =>
        rw [uK_succ] at z
        injection z with _ z
        exact .inr ⟨i, by omega, z⟩
  · have h1 := h.nd
    rw [tl_keys] at h1 ⊢
    rw [pw1]
    have h2 : ((ts.filter fun e => decide (e.1.getD j 0 = d)).map fun e => e.1.drop j).Nodup := h1.sublist ((List.filter_sublist (l := ts)).map _)
    rw [List.Nodup, List.pairwise_map] at h2 ⊢
    refine List.Pairwise.imp_of_mem (fun {a b} ha hb hne e => hne ?_) h2
    obtain ⟨a1, a2⟩ := List.mem_filter.mp ha
    obtain ⟨b1, b2⟩ := List.mem_filter.mp hb
    rw [drop_getD (k := a.1) (j := j) (by rw [h.len a a1]; exact hj), drop_getD (k := b.1) (j := j) (by rw [h.len b b1]; exact hj), of_decide_eq_true a2, of_decide_eq_true b2, e]
/-- a term's power is 0 or 1 -/
theorem LinT.pow {m j : Nat} {ts : Ts} (h : LinT m j ts) (hj : j < m) {e : List Int × Rat} (he : e ∈ ts) : e.1.getD j 0 = 0 ∨ e.1.getD j 0 = 1 := by
  have hm : m - j = (m - (j + 1)) + 1 := by omega
  have hd := drop_getD (k := e.1) (j := j) (by rw [h.len e he]; exact hj)
  rcases h.tail e he with z | ⟨i, hi, z⟩
  · rw [hd, hm, zK_succ] at z
    injection z with z _
    exact .inl z
  · rw [hd, hm] at z
    cases i with
    | zero =>
      rw [uK_zero] at z
      injection z with z _
      exact .inr z
    | succ i =>
      rw [uK_succ] at z
      injection z with z _
      exact .inl z
/-- with power 1 nothing is left behind it -/
theorem LinT.one {m j : Nat} {ts : Ts} (h : LinT m j ts) (hj : j < m) {e : List Int × Rat} (he : e ∈ pw1 j 1 ts) : e.1.drop (j + 1) = zK (m - (j + 1)) := by
  obtain ⟨h1, h2⟩ := List.mem_filter.mp he
  have hm : m - j = (m - (j + 1)) + 1 := by omega
  have hd := drop_getD (k := e.1) (j := j) (by rw [h.len e h1]; exact hj)
  rw [of_decide_eq_true h2] at hd
  rcases h.tail e h1 with z | ⟨i, hi, z⟩
  · rw [hd, hm, zK_succ] at z
    simp at z
  · rw [hd, hm] at z
    cases i with
    | zero =>
      rw [uK_zero] at z
      injection z with _ z
    | succ i =>
      rw [uK_succ] at z
      simp at z
abbrev Bx : Type := List (Rat × Rat)
def bl (box : Bx) (k : Nat) : Rat := (box.getD k (0, 0)).1
def bh (box : Bx) (k : Nat) : Rat := (box.getD k (0, 0)).2
/-- f 0 + .. + f (n - 1) -/
def sumF (f : Nat → Rat) : Nat → Rat
  | 0 => 0
  | n + 1 => f 0 + sumF (fun i => f (i + 1)) n
theorem sumF_zero {f : Nat → Rat} : ∀ {n : Nat}, (∀ i, i < n → f i = 0) → sumF f n = 0
  | 0, _ => rfl
  | n + 1, h => by
    rw [sumF, h 0 (by omega), sumF_zero fun i hi => h (i + 1) (by omega), Rat.add_zero]
theorem sumF_congr {f g : Nat → Rat} : ∀ {n : Nat}, (∀ i, i < n → f i = g i) → sumF f n = sumF g n
  | 0, _ => rfl
  | n + 1, h => by rw [sumF, sumF, h 0 (by omega), sumF_congr fun i hi => h (i + 1) (by omega)]
def szP (a b n : Nat) : Nat := a + b + n * (a + b + 1)
/-- what comes of terms from letter j on -/
structure PutSpec (m j a b : Nat) (ts : Ts) (box : Bx) (t : Ts) : Prop where
  nd : (t.map (·.1)).Nodup
  keys : ∀ k ∈ t.map (·.1), k = zK m ∨ ∃ i, i < m - j ∧ k = uK m (j + i) ∧ uK (m - j) i ∈ (tl j ts).map (·.1)
  v0 : val t (zK m) = val (tl j ts) (zK (m - j)) + sumF (fun i => val (tl j ts) (uK (m - j) i) * bl box (j + i)) (m - j)
  vi : ∀ i, i < m - j → val t (uK m (j + i)) = val (tl j ts) (uK (m - j) i) * (bh box (j + i) - bl box (j + i))
  sz : SzT (szP a b (m - j)) t
structure PutOk (m j a b : Nat) (ts : Ts) (box : Bx) : Prop where
  hm : box.length = m
  hj : j ≤ m
  m1 : 1 ≤ m
  m2 : m ≤ 60
  lin : LinT m j ts
  za : SzT a ts
  zb : ∀ k, Sz b (bl box k) ∧ Sz b (bh box k - bl box k)
  a1 : 1 ≤ a
  b1 : 1 ≤ b
  fit : szP a b m + a + b + 10 ≤ 3900
  few : ts.length ≤ 60
theorem szP_mono {a b n k : Nat} (h : n ≤ k) : szP a b n ≤ szP a b k := by
  unfold szP
  have := Nat.mul_le_mul_right (a + b + 1) h
  omega
theorem PutOk.sub {m j a b : Nat} {ts : Ts} {box : Bx} (h : PutOk m j a b ts box) (hj : j < m) (d : Int) : PutOk m (j + 1) a b (pw1 j d ts) box :=
  ⟨h.hm, hj, h.m1, h.m2, h.lin.sub hj d, fun e he => h.za e (List.mem_filter.mp he).1, h.zb, h.a1, h.b1, h.fit, Nat.le_trans (List.length_filter_le _ _) h.few⟩
/-- behind the round of power 1, or at the start: one constant at most, the letter's number -/
structure OneC (m : Nat) (c : Rat) (t : Ts) : Prop where
  nd : (t.map (·.1)).Nodup
  keys : ∀ k ∈ t.map (·.1), k = zK m
  v : val t (zK m) = c
theorem OneC.nil {m : Nat} {c : Rat} (h : c = 0) : OneC m c [] := ⟨List.nodup_nil, (fun k hk => by cases hk), by rw [h]; rfl⟩
theorem OneC.is {m : Nat} {c : Rat} {t : Ts} (h : OneC m c t) : (t = [] ∧ c = 0) ∨ t = [(zK m, c)] := by
  cases t with
  | nil => exact .inl ⟨rfl, h.v.symm⟩
  | cons e t =>
    have he : e.1 = zK m := h.keys _ List.mem_cons_self
    have hc : e.2 = c := by
      have := h.v
      rw [val_cons, if_pos he] at this; exact this
    cases t with
    | nil => right; rw [← he, ← hc]
    | cons f t =>
      have hf : f.1 = zK m := h.keys _ (by simp)
      have := h.nd
      rw [List.map_cons, List.nodup_cons] at this
      exact absurd (by rw [he, ← hf]; simp) this.1
theorem LinT.vone {m j : Nat} {ts : Ts} (h : LinT m j ts) (hj : j < m) : val (tl (j + 1) (pw1 j 1 ts)) (zK (m - (j + 1))) = val (tl j ts) (uK (m - j) 0) := by
  have hm : m - j = (m - (j + 1)) + 1 := by omega
  rw [hm, uK_zero, val_tl hj 1 _ ts h.len]
theorem PutSpec.one {m j a b : Nat} {ts : Ts} {box : Bx} {t : Ts} (hk : PutOk m j a b ts box) (hj : j < m) (h : PutSpec m (j + 1) a b (pw1 j 1 ts) box t) : OneC m (val (tl j ts) (uK (m - j) 0)) t := by
  have hkeys : ∀ k ∈ (tl (j + 1) (pw1 j 1 ts)).map (·.1), k = zK (m - (j + 1)) := fun k hk' => by
    rw [tl_keys] at hk'
    obtain ⟨e, he, rfl⟩ := List.mem_map.mp hk'
    exact hk.lin.one hj he
  refine ⟨h.nd, fun k hk' => ?_, ?_⟩
  · rcases h.keys k hk' with z | ⟨i, hi, z, z2⟩
    · exact z
    · exact absurd (hkeys _ z2) (uK_ne hi)
  · rw [h.v0, sumF_zero fun i hi => ?_, Rat.add_zero, hk.lin.vone hj]
    have : val (tl (j + 1) (pw1 j 1 ts)) (uK (m - (j + 1)) i) = 0 := val_none fun z => uK_ne hi (hkeys _ z)
    rw [this, Rat.zero_mul]
theorem mul_one_c {m j : Nat} {c low high : Rat} {t : Ts} (h : OneC m c t) (hj : j < m) :
    (((mulOut t (mvT m j low high)).map (·.1)).Nodup) ∧ (∀ k ∈ (mulOut t (mvT m j low high)).map (·.1), k = zK m ∨ (k = uK m j ∧ t ≠ [])) ∧ val (mulOut t (mvT m j low high)) (zK m) = c * low ∧ val (mulOut t (mvT m j low high)) (uK m j) = c * (high - low) := by
  rcases h.is with ⟨rfl, rfl⟩ | rfl
  · refine ⟨List.nodup_nil, fun k hk => (by cases hk), ?_, ?_⟩
    · rw [Rat.zero_mul]; rfl
    · rw [Rat.zero_mul]; rfl
  · have hne : zK m ≠ uK m j := fun e => uK_ne hj e.symm
    by_cases hl : low ≠ 0
    · have e : mulOut [(zK m, c)] (mvT m j low high) = addQ (addQ [] (zK m) (c * low)) (uK m j) (c * (high - low)) := by
        rw [mulOut, mvT, if_pos hl]
        show addQ (addQ [] (addK (zK m) (zK m)) (c * low)) (addK (zK m) (uK m j)) (c * (high - low)) = _
        rw [addK_zz, addK_zu]
      rw [e]
      refine ⟨addQ_nd (addQ_nd (t := []) List.nodup_nil _ _) _ _, fun k hk => ?_, ?_, ?_⟩
      · rcases addQ_keys hk with z | z
        · exact .inr ⟨z, by simp⟩
        · rcases addQ_keys z with z | z
          · exact .inl z
          · cases z
      · rw [val_add, if_neg hne, val_add, if_pos rfl, val_nil, Rat.zero_add]
      · rw [val_add, if_pos rfl, val_add, if_neg (Ne.symm hne), val_nil, Rat.zero_add]
    · have h0 : low = 0 := Classical.byContradiction hl
      have e : mulOut [(zK m, c)] (mvT m j low high) = addQ [] (uK m j) (c * (high - low)) := by
        rw [mulOut, mvT, if_neg hl]
        show addQ [] (addK (zK m) (uK m j)) (c * (high - low)) = _
        rw [addK_zu]
      rw [e]
      refine ⟨addQ_nd (t := []) List.nodup_nil _ _, fun k hk => ?_, ?_, ?_⟩
      · rcases addQ_keys hk with z | z
        · exact .inr ⟨z, by simp⟩
        · cases z
      · rw [val_add, if_neg hne, val_nil, h0, Rat.mul_zero]
      · rw [val_add, if_pos rfl, val_nil, Rat.zero_add]
theorem szP_succ (a b n : Nat) : szP a b (n + 1) = szP a b n + (a + b + 1) := by
  unfold szP; rw [Nat.succ_mul]; omega
/-- the round of power 0 -/
theorem PutSpec.fin {m j a b : Nat} {ts : Ts} {box : Bx} {t u : Ts} (hk : PutOk m j a b ts box) (hj : j < m) (h : OneC m (val (tl j ts) (uK (m - j) 0)) t) (hne : t ≠ [] → pw1 j 1 ts ≠ []) (hu : PutSpec m (j + 1) a b (pw1 j 0 ts) box u) :
    PutSpec m j a b ts box (addAll (mulOut t (mvT m j (bl box j) (bh box j))) u) := by
  have hm : m - j = (m - (j + 1)) + 1 := by omega
  obtain ⟨f1, f2, f3, f4⟩ := mul_one_c (low := bl box j) (high := bh box j) h hj
  have hv := fun k => addAll_val u (mulOut t (mvT m j (bl box j) (bh box j))) k hu.nd
  have t0 : ∀ x, val (tl j ts) (0 :: x) = val (tl (j + 1) (pw1 j 0 ts)) x := fun x => val_tl hj 0 x ts hk.lin.len
  have uj : val u (uK m j) = 0 := val_none fun z => by
    rcases hu.keys _ z with e | ⟨i, hi, e, _⟩
    · exact uK_ne hj e
    · have := uK_inj hj e; omega
  have fz : ∀ i, i < m - (j + 1) → val (mulOut t (mvT m j (bl box j) (bh box j))) (uK m (j + 1 + i)) = 0 := fun i hi => val_none fun z => by
    rcases f2 _ z with e | ⟨e, _⟩
    · exact uK_ne (by omega) e
    · have := uK_inj (by omega) e; omega
  refine ⟨addAll_nd _ _ f1, fun k hkk => ?_, ?_, fun i hi => ?_, ?_⟩
  · rcases addAll_keys _ _ hkk with z | z
    · rcases f2 k z with e | ⟨e, e2⟩
      · exact .inl e
      · refine .inr ⟨0, by omega, e, ?_⟩
        have hp := hne e2
        obtain ⟨x, hx⟩ := List.exists_mem_of_ne_nil _ hp
        have h1 := hk.lin.one hj hx
        obtain ⟨x1, x2⟩ := List.mem_filter.mp hx
        rw [tl_keys]
        refine List.mem_map.mpr ⟨x, x1, ?_⟩
        rw [drop_getD (k := x.1) (j := j) (by rw [hk.lin.len x x1]; exact hj), of_decide_eq_true x2, h1, hm, uK_zero]
    · rcases hu.keys k z with e | ⟨i, hi, e, e2⟩
      · exact .inl e
      · refine .inr ⟨i + 1, by omega, by rw [e]; congr 1; omega, ?_⟩
        rw [tl_keys] at e2 ⊢
        obtain ⟨x, hx, e3⟩ := List.mem_map.mp e2
        obtain ⟨x1, x2⟩ := List.mem_filter.mp hx
        refine List.mem_map.mpr ⟨x, x1, ?_⟩
        rw [drop_getD (k := x.1) (j := j) (by rw [hk.lin.len x x1]; exact hj), of_decide_eq_true x2, e3, hm, uK_succ]
  · rw [hv, f3, hu.v0, ← t0, hm, zK_succ, sumF]
    have e1 : sumF (fun i => val (tl (j + 1) (pw1 j 0 ts)) (uK (m - (j + 1)) i) * bl box (j + 1 + i)) (m - (j + 1)) = sumF (fun i => val (tl j ts) (uK (m - (j + 1) + 1) (i + 1)) * bl box (j + (i + 1))) (m - (j + 1)) := by
      refine sumF_congr fun i hi => ?_
      rw [uK_succ, t0]
      congr 2; omega
    rw [e1]
    simp only [Nat.add_zero]
    grind
  · rw [hv]
    cases i with
    | zero =>
      rw [Nat.add_zero, f4, uj, Rat.add_zero]
    | succ i =>
      have hi' : i < m - (j + 1) := by omega
      have e1 : j + (i + 1) = j + 1 + i := by omega
      rw [e1, fz i hi', hu.vi i hi', Rat.zero_add, hm, uK_succ, t0]
  · -- sizes
    have za : SzT a t := fun e he => by
      rcases h.is with ⟨rfl, _⟩ | rfl
      · cases he
      · rw [List.mem_singleton.mp he]
        have : SzT a (tl j ts) := fun x hx => by
          obtain ⟨y, hy, rfl⟩ := List.mem_map.mp hx
          exact hk.za y hy
        exact this.val hk.a1 _
    have hub : ∀ k, Sz (a + b) (val (mulOut t (mvT m j (bl box j) (bh box j))) k) := fun k => by
      have hc : Sz a (val (tl j ts) (uK (m - j) 0)) := by
        have : SzT a (tl j ts) := fun x hx => by
          obtain ⟨y, hy, rfl⟩ := List.mem_map.mp hx
          exact hk.za y hy
        exact this.val hk.a1 _
      by_cases h1 : k = zK m
      · rw [h1, f3]; exact hc.mul (hk.zb j).1
      · by_cases h2 : k = uK m j
        · rw [h2, f4]; exact hc.mul (hk.zb j).2
        · rw [val_none fun z => by rcases f2 k z with e | ⟨e, _⟩; exact h1 e; exact h2 e]
          exact Sz.zero.mono (by have := hk.a1; omega)
    intro e he
    have e2 : e.2 = val (addAll (mulOut t (mvT m j (bl box j) (bh box j))) u) e.1 := (val_mem (addAll_nd _ _ f1) he).symm
    rw [e2, hv]
    have hs := hu.sz.val (by unfold szP; have := hk.a1; omega) e.1
    have h3 := szP_succ a b (m - (j + 1))
    rw [← hm] at h3
    exact ((hub e.1).add hs).mono (by omega)
/-- at the end -/
theorem PutSpec.base {m a b : Nat} {ts : Ts} {box : Bx} (hk : PutOk m m a b ts box) {e : List Int × Rat} {r : Ts} (h : ts = e :: r) : PutSpec m m a b ts box [(zK m, e.2)] := by
  have hm : m - m = 0 := by omega
  refine ⟨by simp, fun k hk' => .inl (by simpa using hk'), ?_, fun i hi => by omega, fun x hx => ?_⟩
  · rw [hm]
    have he : e.1.drop m = [] := List.drop_of_length_le (by rw [hk.lin.len e (by rw [h]; simp)]; exact Nat.le_refl _)
    have : val (tl m ts) (zK 0) = e.2 := by
      rw [h]
      show val ((e.1.drop m, e.2) :: tl m r) (zK 0) = _
      rw [val_cons, if_pos (by rw [he]; rfl)]
    rw [this, val_cons, if_pos rfl]
    show e.2 = e.2 + 0
    rw [Rat.add_zero]
  · rw [List.mem_singleton.mp hx]
    exact (hk.za e (by rw [h]; simp)).mono (by unfold szP; omega)
theorem PutSpec.none {m j a b : Nat} {box : Bx} : PutSpec m j a b [] box [] := by
  refine ⟨List.nodup_nil, fun k hk => (by cases hk), ?_, fun i hi => ?_, fun e he => by cases he⟩
  · have : ∀ x, val (tl j []) x = 0 := fun x => rfl
    rw [this, sumF_zero fun i hi => by rw [this, Rat.zero_mul]]
    show (0 : Rat) = 0 + 0
    rw [Rat.add_zero]
  · show (0 : Rat) = 0 * _
    rw [Rat.zero_mul]
end Lw
/-! put_from as a function on tables, and the rules for its groups. -/
namespace Lw
open PySem PySem.Spec PyProof.Rows L2
def rounds (f : Int → Ts) (mv : Ts) (M : Nat) : Nat → Ts
  | 0 => []
  | i + 1 => addAll (mulOut (rounds f mv M i) mv) (f (((M - 1 - i : Nat)) : Int))
def putM (j : Nat) (ts : Ts) : Nat := if pw1 j 1 ts = [] then 1 else 2
def putT (m : Nat) (box : Bx) : Nat → Nat → Ts → Ts
  | 0, _, _ => []
  | lim + 1, j, ts => if ts = [] then [] else if j = m then [(zK m, (ts.headD ([], 0)).2)] else
    rounds (fun d => putT m box lim (j + 1) (pw1 j d ts)) (mvT m j (bl box j) (bh box j)) (putM j ts) (putM j ts)
theorem mulOut_nil (b : Ts) : mulOut [] b = [] := rfl
theorem putT_nil (m : Nat) (box : Bx) (lim j : Nat) : putT m box lim j [] = [] := by
  cases lim with
  | zero => rfl
  | succ n => rw [putT, if_pos rfl]
theorem OneC.addNil {m : Nat} {c : Rat} {u : Ts} (h : OneC m c u) : OneC m c (addAll [] u) := by
  refine ⟨addAll_nd _ _ List.nodup_nil, fun k hk => ?_, ?_⟩
  · rcases addAll_keys _ _ hk with z | z
    · cases z
    · exact h.keys k z
  · rw [addAll_val _ _ _ h.nd, h.v]
    show 0 + c = c
    rw [Rat.zero_add]
theorem putT_spec {m a b : Nat} {box : Bx} : ∀ (lim : Nat) {j : Nat} {ts : Ts}, PutOk m j a b ts box → m < j + lim → PutSpec m j a b ts box (putT m box lim j ts)
  | 0, j, ts, h, hl => by have := h.hj; omega
  | lim + 1, j, ts, h, hl => by
    have hj := h.hj
    rw [putT]
    by_cases ht : ts = []
    · rw [if_pos ht, ht]; exact PutSpec.none
    · rw [if_neg ht]
      by_cases hm : j = m
      · rw [if_pos hm]
        subst hm
        cases ts with
        | nil => exact absurd rfl ht
        | cons e r => exact PutSpec.base h rfl
      · rw [if_neg hm]
        have hjm : j < m := by omega
        have ih := fun d => putT_spec lim (h.sub hjm d) (by omega)
        have one : OneC m (val (tl j ts) (uK (m - j) 0)) (rounds (fun d => putT m box lim (j + 1) (pw1 j d ts)) (mvT m j (bl box j) (bh box j)) (putM j ts) (putM j ts - 1)) ∧
            (rounds (fun d => putT m box lim (j + 1) (pw1 j d ts)) (mvT m j (bl box j) (bh box j)) (putM j ts) (putM j ts - 1) ≠ [] → pw1 j 1 ts ≠ []) := by
          by_cases h1 : pw1 j 1 ts = []
          · have e : putM j ts = 1 := by rw [putM, if_pos h1]
            rw [e]
            refine ⟨OneC.nil ?_, fun z => absurd rfl z⟩
            have := (PutSpec.one h hjm (ih 1)).v
            rw [← this, h1, putT_nil]; rfl
          · have e : putM j ts = 2 := by rw [putM, if_neg h1]
            rw [e]
            exact ⟨(PutSpec.one h hjm (ih 1)).addNil, fun _ => h1⟩
        have e : putM j ts = (putM j ts - 1) + 1 := by unfold putM; split <;> rfl
        have hf := PutSpec.fin h hjm one.1 one.2 (ih 0)
        have e2 : rounds (fun d => putT m box lim (j + 1) (pw1 j d ts)) (mvT m j (bl box j) (bh box j)) (putM j ts) (putM j ts) = addAll (mulOut (rounds (fun d => putT m box lim (j + 1) (pw1 j d ts)) (mvT m j (bl box j) (bh box j)) (putM j ts) (putM j ts - 1)) (mvT m j (bl box j) (bh box j))) (putT m box lim (j + 1) (pw1 j 0 ts)) := by
          have : ∀ n, n = (n - 1) + 1 → rounds (fun d => putT m box lim (j + 1) (pw1 j d ts)) (mvT m j (bl box j) (bh box j)) (putM j ts) n = addAll (mulOut (rounds (fun d => putT m box lim (j + 1) (pw1 j d ts)) (mvT m j (bl box j) (bh box j)) (putM j ts) (n - 1)) (mvT m j (bl box j) (bh box j))) (putT m box lim (j + 1) (pw1 j ((putM j ts - 1 - (n - 1) : Nat) : Int) ts)) := fun n hn => by
            conv => lhs; rw [hn]
            rfl
          rw [this _ e]
          have e3 : putM j ts - 1 - (putM j ts - 1) = 0 := by omega
          rw [e3]; rfl
        rw [e2]; exact hf
theorem mvT_len (m j : Nat) (low high : Rat) : (mvT m j low high).length ≤ 2 := by
  unfold mvT; split <;> simp
theorem mvT_sz {m j b : Nat} {low high : Rat} (h1 : Sz b low) (h2 : Sz b (high - low)) : SzT b (mvT m j low high) := fun e he => by
  rcases List.mem_append.mp he with z | z
  · split at z
    · rw [List.mem_singleton.mp z]; exact h1
    · cases z
  · rw [List.mem_singleton.mp z]; exact h2
theorem OneC.len {m : Nat} {c : Rat} {t : Ts} (h : OneC m c t) : t.length ≤ 1 := by
  rcases h.is with ⟨rfl, _⟩ | rfl <;> simp
theorem OneC.szT {m a : Nat} {c : Rat} {t : Ts} (h : OneC m c t) (hc : Sz a c) : SzT a t := fun e he => by
  rcases h.is with ⟨rfl, _⟩ | rfl
  · cases he
  · rw [List.mem_singleton.mp he]; exact hc
theorem tl_sz {a j : Nat} {ts : Ts} (h : SzT a ts) : SzT a (tl j ts) := fun x hx => by
  obtain ⟨y, hy, rfl⟩ := List.mem_map.mp hx
  exact h y hy
/-- what stands ahead of a round -/
theorem rounds_pre {m j a b lim : Nat} {ts : Ts} {box : Bx} (h : PutOk m j a b ts box) (hjm : j < m) (hl : m < (j + 1) + lim) {i : Nat} (hi : i < putM j ts) :
    (rounds (fun d => putT m box lim (j + 1) (pw1 j d ts)) (mvT m j (bl box j) (bh box j)) (putM j ts) i).length ≤ 1 ∧ SzT a (rounds (fun d => putT m box lim (j + 1) (pw1 j d ts)) (mvT m j (bl box j) (bh box j)) (putM j ts) i)
    ∧ ∀ e ∈ rounds (fun d => putT m box lim (j + 1) (pw1 j d ts)) (mvT m j (bl box j) (bh box j)) (putM j ts) i, e.1.length = m := by
  have h2 : putM j ts ≤ 2 := by unfold putM; split <;> decide
  cases i with
  | zero => exact ⟨Nat.zero_le _, (fun e he => by cases he), fun e he => by cases he⟩
  | succ i =>
    have e1 : putM j ts = 2 := by omega
    have e0 : i = 0 := by omega
    subst e0
    have o := (PutSpec.one h hjm (putT_spec lim (h.sub hjm 1) hl)).addNil
    have ee : rounds (fun d => putT m box lim (j + 1) (pw1 j d ts)) (mvT m j (bl box j) (bh box j)) (putM j ts) (0 + 1) = addAll [] (putT m box lim (j + 1) (pw1 j 1 ts)) := by rw [e1]; rfl
    rw [ee]
    refine ⟨o.len, o.szT ((tl_sz h.za).val h.a1 _), fun e he => ?_⟩
    rw [o.keys _ (List.mem_map_of_mem he), zK_len]
theorem putT_len {m a b : Nat} {box : Bx} : ∀ (lim : Nat) {j : Nat} {ts : Ts}, PutOk m j a b ts box → m < j + lim → (putT m box lim j ts).length ≤ 2 * lim
  | 0, j, ts, h, hl => by have := h.hj; omega
  | lim + 1, j, ts, h, hl => by
    have hj := h.hj
    rw [putT]
    by_cases ht : ts = []
    · rw [if_pos ht]; exact Nat.zero_le _
    · rw [if_neg ht]
      by_cases hm : j = m
      · rw [if_pos hm]
        show 1 ≤ _
        omega
      · rw [if_neg hm]
        have hjm : j < m := by omega
        have e : putM j ts = (putM j ts - 1) + 1 := by unfold putM; split <;> rfl
        have hp := (rounds_pre h hjm (lim := lim) (by omega) (i := putM j ts - 1) (by omega)).1
        have : ∀ n, n = (n - 1) + 1 → (rounds (fun d => putT m box lim (j + 1) (pw1 j d ts)) (mvT m j (bl box j) (bh box j)) (putM j ts) (n - 1)).length ≤ 1 →
            (rounds (fun d => putT m box lim (j + 1) (pw1 j d ts)) (mvT m j (bl box j) (bh box j)) (putM j ts) n).length ≤ 2 * (lim + 1) := fun n hn h1 => by
          rw [hn]
          have l1 := addAll_len (putT m box lim (j + 1) (pw1 j ((putM j ts - 1 - (n - 1) : Nat) : Int) ts)) (mulOut (rounds (fun d => putT m box lim (j + 1) (pw1 j d ts)) (mvT m j (bl box j) (bh box j)) (putM j ts) (n - 1)) (mvT m j (bl box j) (bh box j)))
          have l2 := mulOut_len (others := mvT m j (bl box j) (bh box j)) (rounds (fun d => putT m box lim (j + 1) (pw1 j d ts)) (mvT m j (bl box j) (bh box j)) (putM j ts) (n - 1))
          have l3 := mvT_len m j (bl box j) (bh box j)
          have l4 := putT_len lim (h.sub hjm ((putM j ts - 1 - (n - 1) : Nat) : Int)) (by omega)
          have l5 := Nat.mul_le_mul h1 l3
          refine Nat.le_trans l1 ?_
          omega
        exact this _ e hp
/-! ### the groups -/
abbrev Grp : Type := List (Int × Addr)
def grpKv (s : Grp) : List (Key × V) := s.map fun x => (.inl x.1, .ref x.2)
def grpMs (j : Nat) (ts : Ts) (s : Grp) : List (Addr × Mo) := s.map fun x => (x.2, .lst (dT (pw1 j x.1 ts)))
structure GrpOk (j : Nat) (ts : Ts) (s : Grp) : Prop where
  nd : (s.map (·.1)).Nodup
  mem : ∀ d, d ∈ s.map (·.1) ↔ pw1 j d ts ≠ []
  few : s.length ≤ ts.length
theorem grp_val : ∀ {s : Grp} {d : Int} {g : Addr}, (s.map (·.1)).Nodup → (d, g) ∈ s → valV (grpKv s) (.inl d) = some (.ref g)
  | x :: s, d, g, hn, h => by
    rw [List.map_cons, List.nodup_cons] at hn
    rcases List.mem_cons.mp h with e | h'
    · subst e; exact valV_pos (p := (Sum.inl d, V.ref g)) rfl
    · have hne : x.1 ≠ d := fun e => hn.1 (by rw [e]; exact List.mem_map.mpr ⟨_, h', rfl⟩)
      show valV ((Sum.inl x.1, V.ref x.2) :: grpKv s) (.inl d) = _
      rw [valV_neg (fun e => hne (Sum.inl.inj e))]
      exact grp_val hn.2 h'
theorem grp_no : ∀ {s : Grp} {d : Int}, d ∉ s.map (·.1) → valV (grpKv s) (.inl d) = none
  | [], d, _ => rfl
  | x :: s, d, h => by
    have hne : x.1 ≠ d := fun e => h (by rw [← e]; simp)
    show valV ((Sum.inl x.1, V.ref x.2) :: grpKv s) (.inl d) = _
    rw [valV_neg (fun e => hne (Sum.inl.inj e))]
    exact grp_no fun z => h (List.mem_map.mpr (by obtain ⟨y, hy, e⟩ := List.mem_map.mp z; exact ⟨y, List.mem_cons_of_mem _ hy, e⟩))
theorem grp_put {s : Grp} {d : Int} {g : Addr} (h : d ∉ s.map (·.1)) : putK (grpKv s) (.inl d) (.ref g) = grpKv (s ++ [(d, g)]) := by
  unfold putK
  rw [valV_any, grp_no h]
  simp [grpKv]
theorem pw1_app (j : Nat) (d : Int) (ts : Ts) (e : List Int × Rat) : pw1 j d (ts ++ [e]) = pw1 j d ts ++ (if e.1.getD j 0 = d then [e] else []) := by
  unfold pw1
  rw [List.filter_append]
  congr 1
  by_cases h : e.1.getD j 0 = d
  · rw [if_pos h, List.filter_cons_of_pos (by exact decide_eq_true h)]; rfl
  · rw [if_neg h, List.filter_cons_of_neg (by rw [decide_eq_false h]; decide)]; rfl
section
variable {K : PySem.W.Frag} {σ : L2.St} {H H' H0 Hb : Hp} {Γ : List G} {ms : List (Addr × Mo)} {Dn : Ends} {tk te : TE}
theorem Cf.perm {ms' : List (Addr × Mo)} (c : Cf K H0 Hb σ H Γ ms) (h : ms.Perm ms') : Cf K H0 Hb σ H Γ ms' :=
  ⟨c.same, c.imm, c.st, fun p hp => c.mu p (h.mem_iff.mpr hp), (h.map _).nodup_iff.mp c.nd⟩
theorem ev_cv {v : V} {d : D} (h : Rep K H d v) : EvD K (tC v) σ H d := fun H1 e Q q => q v H1 (Same.refl H1) (h.mono (imm_same e))
theorem r_grp {n k j : Nat} {l : Addr} {s : Grp} {ts : Ts} {e : List Int × Rat} (c : Cf K H0 Hb σ H Γ ((l, .raw (.dK (grpKv s))) :: grpMs j ts s)) (hn : Γ[n]? = some (.at l)) (hk : EvD K tk σ H (.int (e.1.getD j 0))) (he : Γ[k]? = some (.d (eT e))) (g : GrpOk j ts s) (hz : ts.length < 100000)
    (q : ∀ s' H', GrpOk j (ts ++ [e]) s' → Cf K H0 Hb σ H' Γ ((l, .raw (.dK (grpKv s'))) :: grpMs j (ts ++ [e]) s') → Dn.nx σ H') : tDrop (tBM K "list" rAppend (tDSetd (tVar n) tk (tLst tNil)) (tCons (tVar k) tNil)) Dn σ H := by
  have hl : H l = some (.dK (grpKv s)) := (c.mu _ List.mem_cons_self).2
  have hfew := g.few
  refine ⟨.ref l, c.st.ref hn, l, rfl, .inl ⟨_, .of hl⟩, hk H (Same.refl H) _ fun y H2 e2 ry => ?_⟩
  refine em_lst (K := K) ea_nil (by exact Nat.le_of_ble_eq_true rfl) H2 e2 _ fun p H3 e3 hp hm => ?_
  have c3 := (c.ext e2).more e3 hp hm
  have e23 := e2.trans e3
  have hl3 := e23 _ _ hl
  rw [rep_int.mp ry]
  refine ⟨grpKv s, .inl (e.1.getD j 0), hl3, rfl, sz_lt (by rw [grpKv, List.length_map]; omega), fun v hv => ?_, fun hv => ?_⟩
  · -- there
    have hmem : e.1.getD j 0 ∈ s.map (·.1) := Classical.byContradiction fun z => by rw [grp_no z] at hv; cases hv
    obtain ⟨x, hx, hx1⟩ := List.mem_map.mp hmem
    obtain ⟨i, hi, hxi⟩ := List.mem_iff_getElem.mp hx
    have hv2 := grp_val g.nd (d := e.1.getD j 0) (g := x.2) (by rw [← hx1]; exact hx)
    rw [hv] at hv2
    cases hv2
    have c4 := c.ext e23
    have hms : ((l, Mo.raw (.dK (grpKv s))) :: grpMs j ts s)[i + 1]? = some (x.2, .lst (dT (pw1 j x.1 ts))) := by
      rw [List.getElem?_cons_succ, grpMs, List.getElem?_map, List.getElem?_eq_getElem hi, hxi]; rfl
    obtain ⟨h0, vs, h1, h2⟩ := c4.mu _ (List.mem_of_getElem? hms)
    obtain ⟨ve, hve, rve⟩ := c4.st.get he
    refine ⟨.inl ⟨rfl, vs, .of h1⟩, ve, hve, x.2, vs, ve, rfl, rfl, h1, sz_lt ?_, q s _ ⟨g.nd, fun d => ?_, ?_⟩ ?_⟩
    · rw [← repL_len h2, List.length_map]
      exact Nat.lt_of_le_of_lt (List.length_filter_le _ _) (by omega)
    · rw [pw1_app]
      by_cases hd : e.1.getD j 0 = d
      · rw [if_pos hd, ← hd]
        exact ⟨fun _ => by simp, fun _ => hmem⟩
      · rw [if_neg hd, List.append_nil]; exact g.mem d
    · rw [List.length_append]; omega
    · have im : Imm H3 (upd H3 x.2 (.lst (vs ++ [ve]))) := imm_upd (.inl (by rw [h1]; trivial))
      have c5 := c4.chg (m' := .lst (dT (pw1 j x.1 ts) ++ [eT e])) (o' := .lst (vs ++ [ve])) (i + 1) hms (by rw [h1]; trivial) ⟨_, upd_same, repL_app (h2.mono im) (repL_one (rve.mono im))⟩
      refine c5.msE ?_
      rw [List.set_cons_succ]
      congr 1
      apply List.ext_getElem?
      intro r
      by_cases hr : r = i
      · subst hr
        rw [List.getElem?_set_self (by rw [grpMs, List.length_map]; exact hi), grpMs, List.getElem?_map, List.getElem?_eq_getElem hi, hxi, Option.map_some, pw1_app, if_pos hx1.symm, dT, dT, List.map_append]
        rfl
      · rw [List.getElem?_set_ne (fun z => hr z.symm), grpMs, grpMs, List.getElem?_map, List.getElem?_map]
        cases hsr : s[r]? with
        | none => rfl
        | some y =>
          have hy : y.1 ≠ e.1.getD j 0 := fun z => by
            have a1 : (s.map (·.1))[r]? = some (e.1.getD j 0) := by rw [List.getElem?_map, hsr, Option.map_some, z]
            have a2 : (s.map (·.1))[i]? = some (e.1.getD j 0) := by rw [List.getElem?_map, List.getElem?_eq_getElem hi, hxi, Option.map_some, hx1]
            exact hr (nd_ix g.nd a1 a2)
          rw [Option.map_some, Option.map_some, pw1_app, if_neg (fun z => hy z.symm), List.append_nil]
  · -- new
    have hno : e.1.getD j 0 ∉ s.map (·.1) := fun z => by
      obtain ⟨x, hx, hx1⟩ := List.mem_map.mp z
      rw [grp_val g.nd (d := e.1.getD j 0) (g := x.2) (by rw [← hx1]; exact hx)] at hv
      cases hv
    have hpw : pw1 j (e.1.getD j 0) ts = [] := Classical.byContradiction fun z => hno ((g.mem _).mpr z)
    have c4 := c3.chg (m' := .raw (.dK (putK (grpKv s) (.inl (e.1.getD j 0)) (.ref p)))) (o' := .dK (putK (grpKv s) (.inl (e.1.getD j 0)) (.ref p))) 1 rfl (by rw [hl3]; trivial) upd_same
    have hms : (((p, Mo.lst []) :: (l, Mo.raw (.dK (grpKv s))) :: grpMs j ts s).set 1 (l, .raw (.dK (putK (grpKv s) (.inl (e.1.getD j 0)) (.ref p)))))[0]? = some (p, .lst []) := rfl
    obtain ⟨h0, vs, h1, h2⟩ := c4.mu _ (List.mem_of_getElem? hms)
    have hvs := repL_nil.mp h2
    subst hvs
    obtain ⟨ve, hve, rve⟩ := c4.st.get he
    refine ⟨.inl ⟨rfl, [], .of h1⟩, ve, hve, p, [], ve, rfl, rfl, h1, by decide, q (s ++ [(e.1.getD j 0, p)]) _ ⟨?_, fun d => ?_, ?_⟩ ?_⟩
    · rw [List.map_append, List.nodup_append]
      refine ⟨g.nd, by simp, fun a ha b hb => ?_⟩
      have : b = e.1.getD j 0 := by simpa using hb
      subst this
      exact fun z => hno (z ▸ ha)
    · rw [pw1_app, List.map_append, List.mem_append]
      by_cases hd : e.1.getD j 0 = d
      · rw [if_pos hd, ← hd]
        exact ⟨fun _ => by simp, fun _ => .inr (by simp)⟩
      · rw [if_neg hd, List.append_nil, ← g.mem d]
        exact ⟨fun z => z.resolve_right fun y => hd (by have := List.mem_singleton.mp y; exact this.symm), .inl⟩
    · rw [List.length_append, List.length_append]; simp; omega
    · have im : Imm (upd H3 l (.dK (putK (grpKv s) (.inl (e.1.getD j 0)) (.ref p)))) (upd (upd H3 l (.dK (putK (grpKv s) (.inl (e.1.getD j 0)) (.ref p)))) p (.lst ([] ++ [ve]))) := imm_upd (.inl (by rw [h1]; trivial))
      have c5 := c4.chg (m' := .lst [eT e]) (o' := .lst ([] ++ [ve])) 0 hms (by rw [h1]; trivial) ⟨_, upd_same, repL_one (rve.mono im)⟩
      refine c5.perm ?_
      rw [grp_put hno]
      show List.Perm ((p, Mo.lst [eT e]) :: (l, Mo.raw (.dK (grpKv (s ++ [(e.1.getD j 0, p)])))) :: grpMs j ts s) _
      have e1 : grpMs j (ts ++ [e]) (s ++ [(e.1.getD j 0, p)]) = grpMs j ts s ++ [(p, .lst [eT e])] := by
        rw [grpMs, List.map_append, grpMs]
        congr 1
        · refine List.map_congr_left fun x hx => ?_
          have : x.1 ≠ e.1.getD j 0 := fun z => hno (by rw [← z]; exact List.mem_map.mpr ⟨x, hx, rfl⟩)
          rw [pw1_app, if_neg (fun z => this z.symm), List.append_nil]
        · show [((p, Mo.lst (dT (pw1 j (e.1.getD j 0) (ts ++ [e])))) : Addr × Mo)] = _
          rw [pw1_app, if_pos rfl, hpw]; rfl
      rw [e1]
      refine (List.Perm.swap _ _ _).trans ((List.Perm.cons _ ?_))
      exact (List.perm_append_singleton _ _).symm
theorem ev_maxK {n : Nat} {l : Addr} {s : Grp} {M : Nat} (c : Cf K H0 Hb σ H Γ ms) (hn : Γ[n]? = some (.at l)) (hk : (l, Mo.raw (.dK (grpKv s))) ∈ ms) (hs : s ≠ []) (hM : 1 ≤ M) (h1 : ∀ x ∈ s, x.1 ≤ (M : Int) - 1) (h2 : ∀ y : Int, (∀ x ∈ s, x.1 ≤ y) → (M : Int) - 1 ≤ y) : EvD K (tCB rMaxK (tCons (tVar n) tNil)) σ H (.int ((M : Int) - 1)) := fun H1 e Q q => by
  have hl := e _ _ (c.mu _ hk).2
  refine ⟨.ref l, c.st.ref hn, l, grpKv s, s.map (·.1), rfl, hl, by rw [grpKv, List.map_map, List.map_map]; rfl, fun z => hs (List.map_eq_nil_iff.mp z), fun m hm hle => ?_⟩
  have : m = (M : Int) - 1 := by
    obtain ⟨x, hx, rfl⟩ := List.mem_map.mp hm
    have a := h1 x hx
    have b := h2 x.1 fun y hy => hle _ (List.mem_map.mpr ⟨y, hy, rfl⟩)
    omega
  rw [this]
  exact q _ H1 (Same.refl H1) (rep_int.mpr rfl)
/-- d.get(y, []), known for good from here on -/
theorem r_getFz {n y : Nat} {l : Addr} {d : Int} {kvs : List (Key × V)} {gs : List D} {R : VK} (c : Cf K H0 Hb σ H Γ ms) (hn : Γ[n]? = some (.at l)) (hl : (l, Mo.raw (.dK kvs)) ∈ ms) (hy : Γ[y]? = some (.d (.int d)))
    (hg : (valV kvs (.inl d) = none ∧ gs = []) ∨ ∃ (g : Addr) (k : Nat), valV kvs (.inl d) = some (.ref g) ∧ ms[k]? = some (g, Mo.lst gs))
    (r1 : valV kvs (.inl d) = none → ∀ v H', Cf K H0 Hb σ H' Γ ms → Rep K H' (D.lst gs) v → R v H')
    (r2 : ∀ (g : Addr) (k : Nat), valV kvs (.inl d) = some (.ref g) → ms[k]? = some (g, Mo.lst gs) → ∀ v H', Cf K H0 Hb σ H' Γ (ms.eraseIdx k) → Rep K H' (D.lst gs) v → R v H') : tFz (tDGet2 (tVar n) (tVar y) (tLst tNil)) σ H R := by
  have hd : H l = some (.dK kvs) := (c.mu _ hl).2
  obtain ⟨vy, hvy, ry⟩ := c.st.get hy
  rw [rep_int.mp ry] at hvy
  refine ⟨.ref l, c.st.ref hn, l, rfl, .inl ⟨_, .of hd⟩, .int d, hvy, em_lst (K := K) ea_nil (by exact Nat.le_of_ble_eq_true rfl) H (Same.refl H) _ fun p H3 e3 hp hm => ?_⟩
  have hd3 := e3 _ _ hd
  refine ⟨valV kvs (.inl d), .inl ⟨kvs, .inl d, .of hd3, rfl, rfl⟩, ?_⟩
  rcases hg with ⟨h1, h2⟩ | ⟨g, k, h1, h2⟩
  · subst h2
    rw [h1]
    obtain ⟨vs, hv, hr⟩ := hm
    have c3 := c.more (m := .lst []) e3 hp ⟨vs, hv, hr⟩
    refine ⟨p, _, rfl, hv, trivial, fun o => r1 h1 _ _ (c3.frz 0 rfl hv trivial) (rep_lst.mpr ⟨p, vs, o, rfl, upd_same, hr.mono (imm_upd (.inl (by rw [hv]; trivial)))⟩)⟩
  · rw [h1]
    have c3 := c.ext e3
    obtain ⟨h0, vs, hv, hr⟩ := c3.mu _ (List.mem_of_getElem? h2)
    exact ⟨g, _, rfl, hv, trivial, fun o => r2 g k h1 h2 _ _ (c3.frz k h2 hv trivial) (rep_lst.mpr ⟨g, vs, o, rfl, upd_same, hr.mono (imm_upd (.inl (by rw [hv]; trivial)))⟩)⟩
end
end Lw
/-! put_from and put_in, walked. -/
namespace Lw
open PySem PySem.Spec PyProof.Rows L2
abbrev st_put_from : Stmt := top 28
abbrev N_put_from : List Str := ["terms", "others", "letter", "by_power", "term", "found", "power", "more", "powers", "number"]
theorem sc_put_from : FnScope N_put_from ["terms", "others", "letter"] (defScope st_put_from) := ⟨rfl, rfl, rfl, by decide +kernel, rfl, by decide +kernel, by decide +kernel⟩

abbrev dMv (m : Nat) (box : Bx) : List D := (List.range box.length).map fun k => dS m (mvT m k (bl box k) (bh box k))
abbrev sp_put_from (K : PySem.W.Frag) (lim : Nat) : Sp := pSm K (fun p : Nat × Nat × Ts × Bx => [.lst (dT p.2.2.1), .lst (dMv p.1 p.2.2.2), .int p.2.1]) (fun p => (∃ a b, PutOk p.1 p.2.1 a b p.2.2.1 p.2.2.2) ∧ p.1 < p.2.1 + lim ∧ lim ≤ 60) fun p => .dc (tQ (putT p.1 p.2.2.2 lim p.2.1 p.2.2.1))
section
variable {K : PySem.W.Frag} {σ : L2.St} {H : Hp} {ta tb tc : TE}
theorem em_put {lim m j a b : Nat} {ts : Ts} {box : Bx} (ha : EvD K ta σ H (.lst (dT ts))) (hb : EvD K tb σ H (.lst (dMv m box))) (hc : EvD K tc σ H (.int j)) (h : PutOk m j a b ts box) (hl : m < j + lim) (h6 : lim ≤ 60) :
    EvM K (tCall (sp_put_from K lim) [] E0 (tCons ta (tCons tb (tCons tc tNil)))) σ H (.dc (tQ (putT m box lim j ts))) :=
  em_call (args := fun p : Nat × Nat × Ts × Bx => [.lst (dT p.2.2.1), .lst (dMv p.1 p.2.2.2), .int p.2.1]) (pre := fun p => (∃ a b, PutOk p.1 p.2.1 a b p.2.2.1 p.2.2.2) ∧ p.1 < p.2.1 + lim ∧ lim ≤ 60) (res := fun p => .dc (tQ (putT p.1 p.2.2.2 lim p.2.1 p.2.2.1))) (m, j, ts, box) (ea_cons ha (ea_cons hb (ea_cons hc ea_nil))) ⟨⟨a, b, h⟩, hl, h6⟩
end
theorem okDs_ints : ∀ ks : List Int, okDs (ks.map D.int) = true
  | [] => rfl
  | k :: ks => by rw [List.map_cons, okDs, okDs_ints ks]; rfl
theorem okD_dT : ∀ ts : Ts, okDs (dT ts) = true
  | [] => rfl
  | e :: ts => by
    show (okD (eT e) && okDs (dT ts)) = true
    rw [okD_dT ts, Bool.and_true]
    show (okDs (e.1.map D.int) && (okD (dQ e.2) && true)) = true
    rw [okDs_ints]; rfl
theorem lay_ints : ∀ ks : List Int, PyData.canLayAll0 (pyDs (ks.map D.int)) = true ∧ PyData.depthAll (pyDs (ks.map D.int)) ≤ 0
  | [] => ⟨rfl, Nat.le_refl _⟩
  | k :: ks => by
    have h := lay_ints ks
    rw [List.map_cons, pyDs, PyData.canLayAll0, PyData.depthAll, h.1]
    exact ⟨rfl, by rw [pyD, PyData.depth]; have := h.2; omega⟩
theorem lay_dT : ∀ ts : Ts, PyData.canLayAll0 (pyDs (dT ts)) = true ∧ PyData.depthAll (pyDs (dT ts)) ≤ 5
  | [] => ⟨rfl, Nat.zero_le _⟩
  | e :: ts => by
    have h := lay_dT ts
    have h1 := lay_ints e.1
    show PyData.canLayAll0 (pyD (eT e) :: pyDs (dT ts)) = true ∧ PyData.depthAll (pyD (eT e) :: pyDs (dT ts)) ≤ 5
    rw [PyData.canLayAll0, PyData.depthAll, h.1]
    simp only [pyD, pyDs, PyData.canLay0, PyData.canLayAll0, PyData.depth, PyData.depthAll, h1.1, Bool.and_true, true_and]
    have := h1.2
    have := h.2
    omega
theorem shp_dT (ts : Ts) : SeqAt.shaped (pyD (.lst (dT ts))) = true := by
  have h := lay_dT ts
  unfold SeqAt.shaped
  simp only [pyD, PyData.canLay0, PyData.depth, h.1, Bool.true_and]
  exact decide_eq_true (by have := h.2; omega)
theorem eqv_dT (ts : Ts) : PyData.eqv (pyD (.lst (dT ts))) (pyD (.lst [])) = decide (ts = []) := by
  cases ts with
  | nil => rfl
  | cons e ts => rfl
theorem pkey_at {e : List Int × Rat} {j : Nat} (h : j < e.1.length) : atI (e.1.map D.int) (j : Int) = some (.int (e.1.getD j 0)) := by
  refine atI_nat ?_
  rw [List.getElem?_map, List.getElem?_eq_getElem h]
  simp [List.getD, h]
theorem nd_take {t : Ts} (h : (t.map (·.1)).Nodup) {q : Nat} (hq : q < t.length) : t[q].1 ∉ (t.take q).map (·.1) := by
  have h2 : t = t.take q ++ t[q] :: t.drop (q + 1) := by rw [List.getElem_cons_drop, List.take_append_drop]
  have h1 := h
  rw [h2, List.map_append, List.map_cons, List.nodup_append] at h1
  exact fun z => h1.2.2 _ z _ List.mem_cons_self rfl
theorem eraseIdx_mp {α β : Type} (f : α → β) : ∀ (l : List α) (k : Nat), (l.map f).eraseIdx k = (l.eraseIdx k).map f
  | [], _ => rfl
  | _ :: _, 0 => rfl
  | x :: l, k + 1 => by
    show f x :: (l.map f).eraseIdx k = f x :: (l.eraseIdx k).map f
    rw [eraseIdx_mp f l k]
theorem asg_first {sp : Sp} {E : XK} {t1 : TE} {rest : TA} {n : Nat} {Dn : Ends} {σ : L2.St} {H : Hp} (h : tFz t1 σ H fun v H' => tAsg (tFz (tCall sp [] E (tCons (tC v) rest))) (gName n) Dn σ H') : tAsg (tFz (tCall sp [] E (tCons (tFz t1) rest))) (gName n) Dn σ H := h
section
variable {P : Program} {w : World} {K : PySem.W.Frag} {mg : Str → Option Value} {base : Heap} {f : Addr} {fd : FuncData}
theorem ok_put_from (F : FnP K "put_from" st_put_from f fd) (B : Bl mg) (hm : mg "put_from" = some (.ref f)) (hkp : PySem.W.keepIn K (.ref f) = true) (hbd : Binds K fd ["terms", "others", "letter"] []) (T_NOUGHT_fractions : KtQ K mg "NOUGHT_fractions" 0) (C_added : Fc P w K mg base "added" 3 ["one", "other"] (sp_added K))
    (C_multiplied_out : Fc P w K mg base "multiplied_out" 4 ["some", "others"] (sp_multiplied_out K)) : ∀ lim : Nat, FnOk P w K mg base CX0 (lim + 5) f fd ["terms", "others", "letter"] (sp_put_from K lim)
  | 0 => by
    refine F.ok sc_put_from (pSm_len fun _ => rfl) (fun cdv A outer s H vs Q E hr h => ?_)
    obtain ⟨⟨m, j, ts, box⟩, hv, ⟨⟨a, b, hk⟩, hl, h6⟩, kq⟩ := h
    exfalso
    have hk : PutOk m j a b ts box := hk
    have hl : m < j + 0 := hl
    have := hk.hj
    omega
  | lim + 1 => by
    have C_put_from : Fc P w K mg base "put_from" (lim + 5) ["terms", "others", "letter"] (sp_put_from K lim) := ⟨f, fd, ok_put_from F B hm hkp hbd T_NOUGHT_fractions C_added C_multiplied_out lim, hm, hkp, hbd⟩
    refine F.ok sc_put_from (pSm_len fun _ => rfl) (fun cdv A outer s H vs Q E hr h => ?_)
    obtain ⟨⟨m, j, ts, box⟩, hv, ⟨⟨a, b, hk⟩, hl, h6⟩, kq⟩ := h
    obtain ⟨a_NOUGHT_fractions, g_NOUGHT_fractions, k0⟩ := T_NOUGHT_fractions
    have nd := sc_put_from.nd
    have hk : PutOk m j a b ts box := hk
    have hl : m < j + (lim + 1) := hl
    have h6 : lim + 1 ≤ 60 := h6
    have hjm := hk.hj
    have hbl := hk.hm
    have hm1 := hk.m1
    have hm2 := hk.m2
    have hfit := hk.fit
    have hfew := hk.few
    have hres : putT m box (lim + 1) j ts = if ts = [] then [] else if j = m then [(zK m, (ts.headD ([], 0)).2)] else
      rounds (fun d => putT m box lim (j + 1) (pw1 j d ts)) (mvT m j (bl box j) (bh box j)) (putM j ts) (putM j ts) := by rw [putT]
    have c : Cf K H H (L2.start N_put_from vs) H [.d (.lst (dT ts)), .d (.lst (dMv m box)), .d (.int j), .no, .no, .no, .no, .no, .no, .no] [] := Cf.start hv rfl
    refine ⟨_, PSs.nox (pss_cons (ps_if (pt_cmpR (op_eqD (by exact hu64_of hr)) (pv 0) (pe_fz (pe_lst pa_nil)) (nomark _))
    (pss_one (ps_ret pe_xnew))
    pss_nil)
    (pss_cons (ps_if (pt_cmpR op_eq (pv 2) (pe_callB call_len_seq (by rfl) B.len (by decide +kernel) (pa_cons (pv 1) pa_nil)) (nomark _))
    (pss_one (ps_ret (pe_xdisp (by exact hu0_of hr) (pe_op op_repP (pe_tupP (pa_cons pe_int pa_nil)) (pe_ix ix_tup (pe_ix ix_list (pv 1) pe_int (fun _ _ => rfl)) pe_int (fun _ _ => rfl))) (pe_ix ix_tup (pe_ix ix_list (pv 0) pe_int (fun _ _ => rfl)) pe_int (fun _ _ => rfl)))))
    pss_nil)
    (pss_cons (ps_set (i := 3) nd rfl (Or.inl rfl) pe_dnewK)
    (pss_cons (ps_for PassesOwn.never rfl (pi_list (pv 0)) (pg_name (i := 4) nd rfl (Or.inl rfl))
    (pss_one (ps_expr (pe_bm PySem.F.plainAttrs_list PySem.F.slot_list_append PySem.F.type_list_append mt_append (pe_dsetd (pv 3) (pe_ix ix_tup (pe_ix ix_tup (pv 4) pe_int (fun _ _ => rfl)) (pv 2) (fun _ _ => rfl)) (pe_lst pa_nil) ⟨rfl, rfl, rfl, rfl⟩) (pa_cons (pv 4) pa_nil)))))
    (pss_cons (ps_set (i := 5) nd rfl (Or.inl rfl) pe_xnew)
    (pss_cons (ps_for PassesOwn.never rfl (pi_range3 (by rfl) B.range (pa_cons (pe_callB (cr_maxK (by rfl)) (by rfl) B.max (by decide +kernel) (pa_cons (pv 3) pa_nil)) (pa_cons (pe_un un_neg pe_int) (pa_cons (pe_un un_neg pe_int) pa_nil)))) (pg_name (i := 6) nd rfl (Or.inl rfl))
    (pss_cons (ps_set (i := 5) nd rfl (Or.inl rfl) (pe_cc C_multiplied_out hr (by omega) (by rfl) (pa_cons (pe_fz (pe_listItemsX (by rfl) (pv 5) (by rfl) B.list (by decide +kernel))) (pa_cons (pe_ix ix_tup (pe_ix ix_list (pv 1) (pv 2) (fun _ _ => rfl)) pe_int (fun _ _ => rfl)) pa_nil))))
    (pss_cons (ps_set (i := 7) nd rfl (Or.inl rfl) (pe_fz (pe_cc C_put_from hr (by omega) (by rfl) (pa_cons (pe_fz (pe_dget2 (by exact hu_of hr) (pv 3) (pv 6) (pe_lst pa_nil) ⟨rfl, rfl, rfl, rfl⟩)) (pa_cons (pv 1) (pa_cons (pe_op op_add (pv 2) pe_int) pa_nil))))))
    (pss_one (ps_for PassesOwn.never rfl (pi_itemsX (pv 7) rfl rfl) (pg_tup rfl (pgs_cons (pg_name (i := 8) nd rfl (Or.inl rfl)) (pgs_cons (pg_name (i := 9) nd rfl (Or.inl rfl)) pgs_nil)))
    (pss_one (ps_xput (by exact hu_of hr) (pv 5) (pv 8) (pe_cc C_added hr (by omega) (by rfl) (pa_cons (pe_xget2 (by exact hu_of hr) (pv 5) (pv 8) (pe_glob (v := .ref a_NOUGHT_fractions) (by rfl) g_NOUGHT_fractions rfl) ⟨rfl, rfl, rfl, rfl⟩) (pa_cons (pv 9) pa_nil))) rfl)))))))
    (pss_one (ps_ret (pv 5))))))))), ?_⟩
    refine q_seq (r_if (b := decide (ts = [])) c (et_B (ev_eqP (ev_var c rfl) (ev_fz (em_lst ea_nil)) (okD_dT ts) rfl (shp_dT ts) rfl (eqv_dT ts))) (fun z H2 e2 c2 => ?_) fun z H2 e2 c2 => ?_)
    · refine r_retE c2 em_xnew fun p H' sm hp hmo => kq p H' sm hp ?_
      show MoOk K H' p (.dc (tQ (putT m box (lim + 1) j ts)))
      rw [hres, if_pos (of_decide_eq_true z)]; exact hmo
    have hts : ts ≠ [] := of_decide_eq_false z
    refine q_seq (r_if (b := decide (j = m)) c2 ((et_B (ev_eqI (ev_var c2 rfl) (ev_lenL (ev_var c2 rfl)))).is ?_) (fun z H3 e3 c3 => ?_) fun z H3 e3 c3 => ?_)
    · rw [Bool.eq_iff_iff]
      simp [hbl]; omega
    · have hj : j = m := of_decide_eq_true z
      obtain ⟨e, r, hr2⟩ : ∃ e r, ts = e :: r := by
        cases ts with
        | nil => exact absurd rfl hts
        | cons e r => exact ⟨e, r, rfl⟩
      refine r_retE c3 (m := .dc [(zK m, dQ e.2)]) (em_xdisp ((ev_repP (ev_tupP (ea_cons ev_int ea_nil)) ((ev_ixT (ev_ixL (ev_var c3 rfl) ev_int (d := dS m (mvT m 0 (bl box 0) (bh box 0))) ?_) ev_int rfl)) (by simp) (by omega) (by omega) (by simp)).is ?_) (ev_ixT (ev_ixL (ev_var c3 rfl) ev_int (d := eT e) ?_) ev_int rfl)) fun p H' sm hp hmo => kq p H' sm hp ?_
      · refine atI_nat (j := 0) ?_
        rw [List.getElem?_map, List.getElem?_range (by omega)]; rfl
      · simp [D.key, zK]
      · rw [hr2]; exact atI_nat (j := 0) rfl
      · show MoOk K H' p (.dc (tQ (putT m box (lim + 1) j ts)))
        rw [hres, if_neg hts, if_pos hj, hr2]; exact hmo
    have hjn : j ≠ m := of_decide_eq_false z
    have hj : j < m := by omega
    -- the groups
    refine q_seq (fun p0 hp0 => ?_)
    have c4 : Cf K H H _ (upd H3 p0 (.dK [])) [.d (.lst (dT ts)), .d (.lst (dMv m box)), .d (.int j), .at p0, .no, .no, .no, .no, .no, .no] [(p0, .raw (.dK []))] := (c3.more (same_new hp0) hp0 (m := .raw (.dK [])) upd_same).setAt 3 p0
    refine q_seq (r_forS c4 (xs := ts) (enc := eT) (ei_list (ev_var c4 rfl)) ([] : Grp) (fun i s => GrpOk j (ts.take i) s) (fun _ _ => [.d (.lst (dT ts)), .d (.lst (dMv m box)), .d (.int j), .at p0, .no, .no, .no, .no, .no, .no]) (fun i s => (p0, .raw (.dK (grpKv s))) :: grpMs j (ts.take i) s) ⟨List.nodup_nil, fun d => by simp [pw1], Nat.le_refl _⟩ (Le.refl _) rfl _ (fun e _ => eg_name) (fun Hs i hi s σ5 H5 hs c5 => ?_) fun s σ5 H5 hs c5 => ?_)
    · have hlen : j < (ts[i]).1.length := by rw [hk.lin.len _ (List.getElem_mem hi)]; exact hj
      refine r_grp (n := 3) (k := 4) c5 rfl (ev_ixT (ev_pt (ev_ixT (ev_var c5 rfl) ev_int rfl)) (ev_var c5 rfl) (pkey_at hlen)) rfl hs (by rw [List.length_take]; omega) fun s' H6 hs' c6 => ⟨s', ?_, ?_⟩
      · rw [take_succ_get _ hi]; exact hs'
      · rw [take_succ_get _ hi]
        exact c6.le (.keep (.keep (.keep (.keep (.drop (.keep (.keep (.keep (.keep (.keep .nil))))))))))
    rw [List.take_length] at hs c5
    have hM : putM j ts ≤ 2 ∧ 1 ≤ putM j ts := by unfold putM; split <;> exact ⟨by decide, by decide⟩
    have hs01 : ∀ x ∈ s, x.1 = 0 ∨ x.1 = 1 := fun x hx => by
      have := (hs.mem x.1).mp (List.mem_map.mpr ⟨x, hx, rfl⟩)
      obtain ⟨e, he⟩ := List.exists_mem_of_ne_nil _ this
      obtain ⟨h1, h2⟩ := List.mem_filter.mp he
      rw [← of_decide_eq_true h2]
      exact hk.lin.pow hj h1
    have hsne : s ≠ [] := fun z => by
      obtain ⟨e, he⟩ := List.exists_mem_of_ne_nil _ hts
      have : pw1 j (e.1.getD j 0) ts ≠ [] := fun y => by
        have : e ∈ pw1 j (e.1.getD j 0) ts := List.mem_filter.mpr ⟨he, decide_eq_true rfl⟩
        rw [y] at this; cases this
      have := (hs.mem _).mpr this
      rw [z] at this; cases this
    have hs1 : ∀ x ∈ s, x.1 ≤ (putM j ts : Int) - 1 := fun x hx => by
      have h1 := hs01 x hx
      by_cases hp : pw1 j 1 ts = []
      · have e : putM j ts = 1 := by rw [putM, if_pos hp]
        rw [e]
        have : x.1 ≠ 1 := fun z => (hs.mem 1).mp (List.mem_map.mpr ⟨x, hx, z⟩) hp
        omega
      · have e : putM j ts = 2 := by rw [putM, if_neg hp]
        rw [e]; omega
    have hs2 : ∀ y : Int, (∀ x ∈ s, x.1 ≤ y) → (putM j ts : Int) - 1 ≤ y := fun y hy => by
      by_cases hp : pw1 j 1 ts = []
      · have e : putM j ts = 1 := by rw [putM, if_pos hp]
        rw [e]
        obtain ⟨x, hx⟩ := List.exists_mem_of_ne_nil _ hsne
        have h1 := hs01 x hx
        have := hy x hx
        omega
      · have e : putM j ts = 2 := by rw [putM, if_neg hp]
        rw [e]
        obtain ⟨x, hx, hx1⟩ := List.mem_map.mp ((hs.mem 1).mpr hp)
        have := hy x hx
        omega
    refine q_seq (r_setM c5 em_xnew fun p1 σ6 H6 e6 c6 => ?_)
    let f : Int → Ts := fun d => putT m box lim (j + 1) (pw1 j d ts)
    let mv : Ts := mvT m j (bl box j) (bh box j)
    refine q_seq (r_forS c6 (xs := List.range (putM j ts)) (enc := fun i => .int ((putM j ts - 1 - i : Nat) : Int)) (ei_down (ea_cons (ev_maxK c6 rfl (List.mem_cons_of_mem _ List.mem_cons_self) hsne hM.2 hs1 hs2) (ea_cons (ev_neg ev_int) (ea_cons (ev_neg ev_int) ea_nil))) (by omega)) ((p1, s) : Addr × Grp)
      (fun i st => st.2.Sublist s ∧ ∀ x ∈ s, x.1 < (putM j ts : Int) - (i : Nat) → x ∈ st.2) (fun _ st => [.d (.lst (dT ts)), .d (.lst (dMv m box)), .d (.int j), .at p0, .no, .at st.1, .no, .no, .no, .no]) (fun i st => (st.1, .dc (tQ (rounds f mv (putM j ts) i))) :: (p0, .raw (.dK (grpKv s))) :: grpMs j ts st.2) ⟨List.Sublist.refl _, fun x hx _ => hx⟩ (Le.refl _) rfl _ (fun e _ => eg_name) (fun Hs i hi st σ7 H7 hst c7 => ?_) fun st σ7 H7 hst c7 => ?_)
    · have hi' : i < putM j ts := by simpa using hi
      obtain ⟨p, rem⟩ := st
      obtain ⟨hsub, hrem⟩ := hst
      have hir : (List.range (putM j ts))[i] = i := List.getElem_range hi
      rw [hir] at c7
      have hsub : rem.Sublist s := hsub
      have hrem : ∀ x ∈ s, x.1 < (putM j ts : Int) - (i : Nat) → x ∈ rem := hrem
      have hpre := rounds_pre hk hj (lim := lim) (by omega) hi'
      have hmvl := mvT_len m j (bl box j) (bh box j)
      have hmvz := mvT_sz (m := m) (j := j) (hk.zb j).1 (hk.zb j).2
      have hsz : szP a b m + a + b + 10 ≤ 3900 := hfit
      have hszm : a + b + (a + b + 1) ≤ szP a b m := by
        have := szP_mono (a := a) (b := b) hm1
        unfold szP at this ⊢
        omega
      have hmul : (rounds f mv (putM j ts) i).length * mv.length ≤ 1 * 2 := Nat.mul_le_mul hpre.1 hmvl
      have hmul2 : (a + b + 1) * ((rounds f mv (putM j ts) i).length * mv.length) ≤ (a + b + 1) * (1 * 2) := Nat.mul_le_mul_left _ hmul
      have MO : MulOk a b (rounds f mv (putM j ts) i) mv := ⟨hpre.2.1, hmvz, by omega, by omega, by omega, by omega, fun e he => by rw [hpre.2.2 e he]; omega⟩
      refine q_seq (r_setM c7 (m := .dc (tQ (mulOut (rounds f mv (putM j ts) i) mv))) (em_multiplied_out (ev_fz ((em_items (t := tQ (rounds f mv (putM j ts) i)) (evx_M (j := 0) c7 rfl rfl)).is (by rw [dT_eq]))) (ev_ixT (ev_ixL (ev_var c7 rfl) (ev_var c7 rfl) (d := dS m mv) ?_) ev_int rfl) MO) fun p' σ8 H8 e8 c8 => ?_)
      · refine atI_nat ?_
        rw [List.getElem?_map, List.getElem?_range (by omega)]; rfl
      have c9 := c8.drop 1
      have hcd : ((putM j ts - 1 - i : Nat) : Int) = (putM j ts : Int) - 1 - (i : Nat) := by omega
      have hsubOk := hk.sub hj ((putM j ts - 1 - i : Nat) : Int)
      have spec := putT_spec lim hsubOk (by omega)
      have flen := putT_len lim hsubOk (by omega)
      have fin : ∀ rem' : Grp, rem'.Sublist s → (∀ x ∈ s, x.1 < (putM j ts : Int) - ((i + 1 : Nat) : Int) → x ∈ rem') → ∀ v H', Cf K H Hs σ8 H' [.d (.lst (dT ts)), .d (.lst (dMv m box)), .d (.int j), .at p0, .no, .at p', .d (.int ((putM j ts - 1 - i : Nat) : Int)), .no, .no, .no] ((p', .dc (tQ (mulOut (rounds f mv (putM j ts) i) mv))) :: (p0, .raw (.dK (grpKv s))) :: grpMs j ts rem') → Rep K H' (.lst (dT (pw1 j ((putM j ts - 1 - i : Nat) : Int) ts))) v → ∀ Dn : Ends, (∀ σ H_1 (st : Addr × Grp), (st.2.Sublist s ∧ ∀ x ∈ s, x.1 < (putM j ts : Int) - ((i + 1 : Nat) : Int) → x ∈ st.2) → Cf K H Hs σ H_1 [.d (.lst (dT ts)), .d (.lst (dMv m box)), .d (.int j), .at p0, .no, .at st.1, .no, .no, .no, .no] ((st.1, .dc (tQ (rounds f mv (putM j ts) (i + 1)))) :: (p0, .raw (.dK (grpKv s))) :: grpMs j ts st.2) → Dn.nx σ H_1) →
          tAsg (tFz (tCall (sp_put_from K lim) [] E0 (tCons (tC v) (tCons (tVar 1) (tCons (tOp (rI0 fun i j => .int (i + j)) (tVar 2) (tC (.int 1))) tNil))))) (gName 7) { Dn with nx := tFor (iItemsX (tVar 7)) (gTup K 2 (gCons (gName 8) (gCons (gName 9) gNil))) (sXPut (tVar 5) (tVar 8) (tCall (sp_added K) [] E0 (tCons (tXGet2 (tVar 5) (tVar 8) (tC (.ref a_NOUGHT_fractions))) (tCons (tVar 9) tNil)))) Dn } σ8 H' := fun rem' hr1 hr2 v H' cA rv Dn hDn => by
        refine r_set cA (d := .dc (tQ (f ((putM j ts - 1 - i : Nat) : Int)))) (ev_fzX (em_put (j := j + 1) (ev_cv rv) (ev_var cA rfl) ((ev_iI (ev_var cA rfl) ev_int).is (by rw [Int.natCast_succ])) hsubOk (by omega) (by omega))) fun σ9 H9 e9 cB => ?_
        refine r_forM cB (xs := f ((putM j ts - 1 - i : Nat) : Int)) (enc := eT) ((ei_itemsX (t := tQ (f ((putM j ts - 1 - i : Nat) : Int))) (ev_var cB rfl)).is (by rw [dT_eq])) (fun _ => [.d (.lst (dT ts)), .d (.lst (dMv m box)), .d (.int j), .at p0, .no, .at p', .no, .no, .no, .no]) (fun q => (p', .dc (tQ (addAll (mulOut (rounds f mv (putM j ts) i) mv) ((f ((putM j ts - 1 - i : Nat) : Int)).take q)))) :: (p0, .raw (.dK (grpKv s))) :: grpMs j ts rem') (.keep (.keep (.keep (.keep (.keep (.keep (.drop (.drop (.keep (.keep .nil)))))))))) rfl _
          (fun e _ => eg_tup (egs_cons eg_name (egs_cons eg_name egs_nil)) rfl) (fun Hs' q hq σ10 H10 cC => ?_) fun σ10 H10 cC => ?_
        · have hni : (f ((putM j ts - 1 - i : Nat) : Int))[q].1 ∉ ((f ((putM j ts - 1 - i : Nat) : Int)).take q).map (·.1) := nd_take spec.nd hq
          have hndt : (((f ((putM j ts - 1 - i : Nat) : Int)).take q).map (·.1)).Nodup := spec.nd.sublist ((List.take_sublist q _).map _)
          have hval : val (addAll (mulOut (rounds f mv (putM j ts) i) mv) ((f ((putM j ts - 1 - i : Nat) : Int)).take q)) (f ((putM j ts - 1 - i : Nat) : Int))[q].1 = val (mulOut (rounds f mv (putM j ts) i) mv) (f ((putM j ts - 1 - i : Nat) : Int))[q].1 := by rw [addAll_val _ _ _ hndt, val_none hni, Rat.add_zero]
          have z0 : Sz ((a + b + 1) * (1 * 2) + 1) (val (addAll (mulOut (rounds f mv (putM j ts) i) mv) ((f ((putM j ts - 1 - i : Nat) : Int)).take q)) (f ((putM j ts - 1 - i : Nat) : Int))[q].1) := by
            rw [hval]
            have zz : SzT ((a + b + 1) * ((rounds f mv (putM j ts) i).length * mv.length) + 1) (mulOut (rounds f mv (putM j ts) i) mv) := mulOut_sz hmvz _ hpre.2.1
            exact (zz.val (by omega) _).mono (by omega)
          have z2 : Sz (szP a b (m - (j + 1))) (f ((putM j ts - 1 - i : Nat) : Int))[q].2 := spec.sz _ (List.getElem_mem hq)
          have z3 : szP a b (m - (j + 1)) ≤ szP a b m := szP_mono (by omega)
          have l1 := addAll_len ((f ((putM j ts - 1 - i : Nat) : Int)).take q) (mulOut (rounds f mv (putM j ts) i) mv)
          have l2 := mulOut_len (others := mv) (rounds f mv (putM j ts) i)
          have l3 : ((f ((putM j ts - 1 - i : Nat) : Int)).take q).length ≤ 2 * lim := Nat.le_trans (List.length_take_le' _ _) flen
          refine r_xput (j := 0) (d := dQ (val (addAll (mulOut (rounds f mv (putM j ts) i) mv) ((f ((putM j ts - 1 - i : Nat) : Int)).take q)) (f ((putM j ts - 1 - i : Nat) : Int))[q].1 + (f ((putM j ts - 1 - i : Nat) : Int))[q].2)) cC rfl rfl (ev_var cC rfl) (ev_add ((ev_xget2 (evx_M (j := 0) cC rfl rfl) (ev_var cC rfl) (ev_cst (d := dQ 0) k0)).is (getD_tQ _ _)) (ev_var cC rfl) (big_of z0 z2 (by omega) (by omega))) (by rw [List.length_map]; omega) fun H11 cD => ?_
          refine (cD.le (.keep (.keep (.keep (.keep (.keep (.keep (.keep (.keep (.drop (.drop .nil))))))))))).msE ?_
          rw [take_succ_get _ hq, pt_tQ]
          show (p', Mo.dc (tQ (addQ (addAll _ _) _ _))) :: _ = _
          rw [addAll, addAll, List.foldl_append]; rfl
        · rw [List.take_length] at cC
          exact hDn _ _ (p', rem') ⟨hr1, hr2⟩ (cC.le (Le.refl _))
      refine q_seq (asg_first (r_getFz (kvs := grpKv s) (gs := dT (pw1 j ((putM j ts - 1 - i : Nat) : Int) ts)) c9 rfl (List.mem_cons_of_mem _ List.mem_cons_self) rfl ?_ ?_ ?_))
      · by_cases hin : ((putM j ts - 1 - i : Nat) : Int) ∈ s.map (·.1)
        · obtain ⟨x, hx, hx1⟩ := List.mem_map.mp hin
          have hxr := hrem x hx (by omega)
          obtain ⟨k, hk', hxk⟩ := List.mem_iff_getElem.mp hxr
          refine .inr ⟨x.2, k + 2, grp_val hs.nd (by rw [← hx1]; exact hx), ?_⟩
          show ((p', Mo.dc _) :: (p0, Mo.raw _) :: grpMs j ts rem)[k + 2]? = _
          rw [List.getElem?_cons_succ, List.getElem?_cons_succ, grpMs, List.getElem?_map, List.getElem?_eq_getElem hk', hxk, Option.map_some, hx1]
        · refine .inl ⟨grp_no hin, ?_⟩
          have : pw1 j ((putM j ts - 1 - i : Nat) : Int) ts = [] := Classical.byContradiction fun z => hin ((hs.mem _).mpr z)
          rw [this]; rfl
      · intro hno v H' cA rv
        refine fin rem hsub (fun x hx hlt => hrem x hx (by omega)) v H' cA rv _ fun σ H_1 st hst' cZ => ⟨st, hst', cZ⟩
      · intro g k hv' hk' v H' cA rv
        have hk' : (((p', Mo.dc (tQ (mulOut (rounds f mv (putM j ts) i) mv))) :: (p0, Mo.raw (.dK (grpKv s))) :: grpMs j ts rem))[k]? = some (g, .lst (dT (pw1 j ((putM j ts - 1 - i : Nat) : Int) ts))) := hk'
        obtain ⟨k, rfl⟩ : ∃ r, k = r + 2 := by
          have hin : ((putM j ts - 1 - i : Nat) : Int) ∈ s.map (·.1) := Classical.byContradiction fun z => by rw [grp_no z] at hv'; cases hv'
          obtain ⟨x, hx, hx1⟩ := List.mem_map.mp hin
          have hxr := hrem x hx (by omega)
          have hxg := grp_val hs.nd (d := ((putM j ts - 1 - i : Nat) : Int)) (g := x.2) (by rw [← hx1]; exact hx)
          rw [hv'] at hxg
          cases hxg
          obtain ⟨r, hr', hxk⟩ := List.mem_iff_getElem.mp hxr
          have a1 : ((((p', Mo.dc (tQ (mulOut (rounds f mv (putM j ts) i) mv))) :: (p0, Mo.raw (.dK (grpKv s))) :: grpMs j ts rem).map (·.1)))[r + 2]? = some x.2 := by
            rw [List.getElem?_map, List.getElem?_cons_succ, List.getElem?_cons_succ, grpMs, List.getElem?_map, List.getElem?_eq_getElem hr', hxk]; rfl
          have a2 : ((((p', Mo.dc (tQ (mulOut (rounds f mv (putM j ts) i) mv))) :: (p0, Mo.raw (.dK (grpKv s))) :: grpMs j ts rem).map (·.1)))[k]? = some x.2 := by
            rw [List.getElem?_map, hk']; rfl
          exact ⟨r, nd_ix c9.nd a2 a1⟩
        have hk2 : (grpMs j ts rem)[k]? = some (g, .lst (dT (pw1 j ((putM j ts - 1 - i : Nat) : Int) ts))) := hk'
        rw [grpMs, List.getElem?_map] at hk2
        obtain ⟨x, hx, hx2⟩ := Option.map_eq_some_iff.mp hk2
        have hxs : x ∈ s := hsub.subset (List.mem_of_getElem? hx)
        have hxd : x.1 = ((putM j ts - 1 - i : Nat) : Int) := by
          have hin : ((putM j ts - 1 - i : Nat) : Int) ∈ s.map (·.1) := Classical.byContradiction fun z => by rw [grp_no z] at hv'; cases hv'
          obtain ⟨y, hy, hy1⟩ := List.mem_map.mp hin
          have hyr := hrem y hy (by omega)
          have hyg := grp_val hs.nd (d := ((putM j ts - 1 - i : Nat) : Int)) (g := y.2) (by rw [← hy1]; exact hy)
          rw [hv'] at hyg
          cases hyg
          obtain ⟨r, hr', hyk⟩ := List.mem_iff_getElem.mp hyr
          have a1 : ((((p', Mo.dc (tQ (mulOut (rounds f mv (putM j ts) i) mv))) :: (p0, Mo.raw (.dK (grpKv s))) :: grpMs j ts rem).map (·.1)))[r + 2]? = some y.2 := by
            rw [List.getElem?_map, List.getElem?_cons_succ, List.getElem?_cons_succ, grpMs, List.getElem?_map, List.getElem?_eq_getElem hr', hyk]; rfl
          have a2 : ((((p', Mo.dc (tQ (mulOut (rounds f mv (putM j ts) i) mv))) :: (p0, Mo.raw (.dK (grpKv s))) :: grpMs j ts rem).map (·.1)))[k + 2]? = some y.2 := by
            rw [List.getElem?_map, hk']; rfl
          have : r = k := by have := nd_ix c9.nd a2 a1; omega
          subst this
          rw [List.getElem?_eq_getElem hr', hyk] at hx
          cases hx
          exact hy1
        refine fin (rem.eraseIdx k) ((List.eraseIdx_sublist rem k).trans hsub) (fun y hy hlt => ?_) v H' (cA.msE ?_) rv _ fun σ H_1 st hst' cZ => ⟨st, hst', cZ⟩
        · have hyr := hrem y hy (by omega)
          obtain ⟨r, hr', hyk⟩ := List.mem_iff_getElem.mp hyr
          refine List.mem_eraseIdx_iff_getElem?.mpr ⟨r, fun z => ?_, by rw [List.getElem?_eq_getElem hr', hyk]⟩
          subst z
          rw [List.getElem?_eq_getElem hr', hyk] at hx
          cases hx
          omega
        · show (p', Mo.dc _) :: (p0, Mo.raw _) :: (grpMs j ts rem).eraseIdx k = _
          rw [grpMs, grpMs, eraseIdx_mp]
    · rw [List.length_range] at c7
      refine r_retM (k := 0) c7 rfl rfl fun p H' sm hp hmo => kq p H' sm hp ?_
      show MoOk K H' p (.dc (tQ (putT m box (lim + 1) j ts)))
      rw [hres, if_neg hts, if_neg hjn]; exact hmo
end
end Lw
/-! put_in, walked; what straight keys are. -/
namespace Lw
open PySem PySem.Spec PyProof.Rows L2
abbrev st_put_in : Stmt := top 29
abbrev N_put_in : List Str := ["one", "others", "degrees", "other", "powers", "number", "power", "here"]
theorem sc_put_in : FnScope N_put_in ["one", "others"] (defScope st_put_in) := ⟨rfl, rfl, rfl, by decide +kernel, rfl, by decide +kernel, by decide +kernel⟩

def Lk (m : Nat) (k : List Int) : Prop := k = zK m ∨ ∃ i, i < m ∧ k = uK m i
theorem zK_mem {m : Nat} {x : Int} (h : x ∈ zK m) : x = 0 := List.eq_of_mem_replicate h
theorem uK_mem {m i : Nat} {x : Int} (h : x ∈ uK m i) : x = 0 ∨ x = 1 := by
  rcases List.mem_or_eq_of_mem_set h with h | h
  · exact .inl (zK_mem h)
  · exact .inr h
theorem zK_sum : ∀ m : Nat, (zK m).sum = 0
  | 0 => rfl
  | m + 1 => by rw [zK_succ, List.sum_cons, zK_sum m]; rfl
theorem uK_sum : ∀ {m i : Nat}, i < m → (uK m i).sum = 1
  | 0, _, h => absurd h (Nat.not_lt_zero _)
  | m + 1, 0, _ => by rw [uK_zero, List.sum_cons, zK_sum]; rfl
  | m + 1, i + 1, h => by rw [uK_succ, List.sum_cons, uK_sum (Nat.lt_of_succ_lt_succ h)]; rfl
theorem Lk.mem {m : Nat} {k : List Int} (h : Lk m k) {x : Int} (hx : x ∈ k) : x = 0 ∨ x = 1 := by
  rcases h with rfl | ⟨i, _, rfl⟩
  · exact .inl (zK_mem hx)
  · exact uK_mem hx
theorem Lk.len {m : Nat} {k : List Int} (h : Lk m k) : k.length = m := by
  rcases h with rfl | ⟨i, _, rfl⟩
  · exact zK_len m
  · exact uK_len m i
theorem Lk.sum {m : Nat} {k : List Int} (h : Lk m k) : 0 ≤ k.sum ∧ k.sum ≤ 1 := by
  rcases h with rfl | ⟨i, hi, rfl⟩
  · rw [zK_sum]; decide
  · rw [uK_sum hi]; decide
theorem Lk.kok {m : Nat} {k : List Int} (h : Lk m k) : KOk m k := ⟨h.len, fun x hx => by rcases h.mem hx with e | e <;> omega⟩
theorem mxF_bd {d lo hi : Int} (hd : lo ≤ d ∧ d ≤ hi) : ∀ {l : List Int}, (∀ x ∈ l, lo ≤ x ∧ x ≤ hi) → lo ≤ mxF d l ∧ mxF d l ≤ hi
  | [], _ => hd
  | y :: ys, h => by
    show lo ≤ ys.foldl (fun a y => if a < y then y else a) y ∧ ys.foldl (fun a y => if a < y then y else a) y ≤ hi
    have : ∀ (ys : List Int) (y : Int), (lo ≤ y ∧ y ≤ hi) → (∀ x ∈ ys, lo ≤ x ∧ x ≤ hi) → lo ≤ ys.foldl (fun a y => if a < y then y else a) y ∧ ys.foldl (fun a y => if a < y then y else a) y ≤ hi := by
      intro ys
      induction ys with
      | nil => intro y hy _; exact hy
      | cons z ys ih =>
        intro y hy hz
        rw [List.foldl_cons]
        refine ih _ ?_ fun x hx => hz x (List.mem_cons_of_mem _ hx)
        split
        · exact hz z List.mem_cons_self
        · exact hy
    exact this ys y (h y List.mem_cons_self) fun x hx => h x (List.mem_cons_of_mem _ hx)
theorem deg_lk {m : Nat} {t : Ts} (h : ∀ e ∈ t, Lk m e.1) : 0 ≤ deg t ∧ deg t ≤ 1 := by
  refine mxF_bd (by decide) fun x hx => ?_
  obtain ⟨e, he, rfl⟩ := List.mem_map.mp hx
  exact (h e he).sum
theorem trm_keyM {t : Ts} {e : List Int × Rat} (h : e ∈ trm t) : e.1 ∈ t.map (·.1) := by
  obtain ⟨k, hk, rfl⟩ := List.mem_map.mp h
  exact (srtK_perm _).mem_iff.mp (List.mem_filter.mp hk).1
theorem mvT_lk {m j : Nat} (hj : j < m) {low high : Rat} : ∀ e ∈ mvT m j low high, Lk m e.1 := fun e he => by
  rcases List.mem_append.mp he with z | z
  · split at z
    · rw [List.mem_singleton.mp z]; exact .inl rfl
    · cases z
  · rw [List.mem_singleton.mp z]; exact .inr ⟨j, hj, rfl⟩
theorem PutSpec.lk {m j a b : Nat} {ts t : Ts} {box : Bx} (h : PutSpec m j a b ts box t) (hj : j ≤ m) : ∀ e ∈ t, Lk m e.1 := fun e he => by
  rcases h.keys _ (List.mem_map_of_mem he) with z | ⟨i, hi, z, _⟩
  · exact .inl z
  · exact .inr ⟨j + i, by omega, z⟩
/-- the table of put_in -/
def putIn (m : Nat) (ts : Ts) (box : Bx) : Ts := putT m box 4 0 ts
structure PutInOk (m : Nat) (ts : Ts) (box : Bx) : Prop where
  p : ∃ a b, PutOk m 0 a b ts box
  m3 : m ≤ 3
  lk : ∀ e ∈ ts, Lk m e.1
abbrev sp_put_in (K : PySem.W.Frag) : Sp := pSp K (fun p : Nat × Ts × Bx => [dS p.1 p.2.1, .lst (dMv p.1 p.2.2)]) (fun p => PutInOk p.1 p.2.1 p.2.2) fun p => dS p.1 (trm (putIn p.1 p.2.1 p.2.2))
theorem PutInOk.spec {m : Nat} {ts : Ts} {box : Bx} (h : PutInOk m ts box) {a b : Nat} (p : PutOk m 0 a b ts box) : PutSpec m 0 a b ts box (putIn m ts box) := putT_spec 4 p (by have := h.m3; omega)
theorem PutInOk.tb {m : Nat} {ts : Ts} {box : Bx} (h : PutInOk m ts box) : TbOk m (putIn m ts box) ∧ deg (trm (putIn m ts box)) ≤ 16 := by
  obtain ⟨a, b, p⟩ := h.p
  have s := h.spec p
  have hl := putT_len 4 p (by have := h.m3; omega)
  have hk := s.lk (Nat.zero_le _)
  refine ⟨⟨p.m1, fun e he => (hk e he).kok, Nat.lt_of_le_of_lt hl (by decide)⟩, ?_⟩
  have : 0 ≤ deg (trm (putIn m ts box)) ∧ deg (trm (putIn m ts box)) ≤ 1 := deg_lk (m := m) fun e he => by
    obtain ⟨x, hx, e1⟩ := List.mem_map.mp (trm_keyM he)
    rw [← e1]; exact hk x hx
  omega
theorem degs_le {m : Nat} : ∀ {k ds : List Int}, (∀ x ∈ k, x = 0 ∨ x = 1) → (∀ d ∈ ds, 0 ≤ d ∧ d ≤ 1) → ((k.zip ds).map fun p => p.1 * p.2).sum ≤ (k.length : Int)
  | [], _, _, _ => by simp
  | x :: k, [], _, _ => by simp; omega
  | x :: k, d :: ds, h1, h2 => by
    have ih := degs_le (m := m) (k := k) (ds := ds) (fun y hy => h1 y (List.mem_cons_of_mem _ hy)) fun y hy => h2 y (List.mem_cons_of_mem _ hy)
    rw [List.zip_cons_cons, List.map_cons, List.sum_cons, List.length_cons]
    have hx := h1 x List.mem_cons_self
    have hd := h2 d List.mem_cons_self
    have : x * d ≤ 1 := by rcases hx with e | e <;> rw [e] <;> omega
    show x * d + _ ≤ _
    omega
section
variable {K : PySem.W.Frag} {σ : L2.St} {H : Hp} {ta tb : TE}
theorem ev_put_in {m : Nat} {ts : Ts} {box : Bx} (ha : EvD K ta σ H (dS m ts)) (hb : EvD K tb σ H (.lst (dMv m box))) (h : PutInOk m ts box) : EvD K (tCall (sp_put_in K) [] E0 (tCons ta (tCons tb tNil))) σ H (dS m (trm (putIn m ts box))) :=
  ev_call (args := fun p : Nat × Ts × Bx => [dS p.1 p.2.1, .lst (dMv p.1 p.2.2)]) (pre := fun p => PutInOk p.1 p.2.1 p.2.2) (res := fun p => dS p.1 (trm (putIn p.1 p.2.1 p.2.2))) (m, ts, box) (ea_cons ha (ea_cons hb ea_nil)) h
end
section
variable {P : Program} {w : World} {K : PySem.W.Frag} {mg : Str → Option Value} {base : Heap} {f : Addr} {fd : FuncData}
theorem ok_put_in (F : FnP K "put_in" st_put_in f fd) (B : Bl mg) (T_MD : ∃ t, mg "MOST_DEGREE" = some (.int 16 t)) (C_degree : Fc P w K mg base "degree" 1 ["one"] (sp_degree K)) (C_bounded : Fc P w K mg base "bounded" 2 ["many", "found"] (sp_bounded K))
    (C_put_from : Fc P w K mg base "put_from" 9 ["terms", "others", "letter"] (sp_put_from K 4)) : FnOk P w K mg base CX0 10 f fd ["one", "others"] (sp_put_in K) := by
  refine F.ok sc_put_in (pSp_len fun _ => rfl) (fun cdv A outer s H vs Q E hr h => ?_)
  obtain ⟨⟨m, ts, box⟩, hv, hk, kq⟩ := h
  obtain ⟨t1, g_MOST_DEGREE⟩ := T_MD
  have nd := sc_put_in.nd
  have hk : PutInOk m ts box := hk
  have hm3 := hk.m3
  obtain ⟨pa, pb, hp⟩ := hk.p
  have hbl := hp.hm
  have hm1 := hp.m1
  have c : Cf K H H (L2.start N_put_in vs) H [.d (dS m ts), .d (.lst (dMv m box)), .no, .no, .no, .no, .no, .no] [] := Cf.start hv rfl
  refine ⟨_, PSs.nox (pss_cons (ps_gz 2 (ps_setLc (i := 2) (own := [("other", 3)]) (g := (gName 3)) (tt := tYes) (te := (tCall (sp_degree K) [] E0 (tCons (tVar 3) tNil))) (by rfl) nd rfl rfl (sw_true rfl rfl rfl (by decide +kernel)) (pi_list (pv 1)) (blkOk_by (own := [("other", 3)]) (N := N_put_in) (sc := defScope st_put_in) (by decide +kernel)) (fun _ _ _ _ _ => (pg_name (i := 3) nd rfl (Or.inl rfl))) (fun _ _ _ _ _ => pts_nil) (fun _ _ _ _ _ => (pe_cc C_degree hr (by decide) (by rfl) (pa_cons (pv 3) pa_nil)))))
    (pss_cons (ps_for PassesOwn.never rfl (pi_tup (pe_ix ix_tup (pv 0) pe_int (fun _ _ => rfl))) (pg_tup rfl (pgs_cons (pg_name (i := 4) nd rfl (Or.inl rfl)) (pgs_cons (pg_name (i := 5) nd rfl (Or.inl rfl)) pgs_nil)))
    (pss_one (ps_if (pt_cmpR op_gt (pe_callB (cr_sum (by rfl)) (by rfl) B.sum (by decide +kernel) (pa_cons (pe_fz (pe_lc (own := [("power", 6), ("here", 7)]) (g := (gTup K 2 (gCons (gName 6) (gCons (gName 7) gNil)))) (tt := tYes) (te := (tOp (rI CMulW fun i j => .int (i * j)) (tVar 6) (tVar 7))) (by rfl) nd (pi_zipM (by rfl) B.zip (pa_cons (pv 4) (pa_cons (pv 2) pa_nil))) (blkOk_by (own := [("power", 6), ("here", 7)]) (N := N_put_in) (sc := defScope st_put_in) (by decide +kernel)) (fun _ _ _ _ _ => (pg_tup rfl (pgs_cons (pg_name (i := 6) nd rfl (Or.inl rfl)) (pgs_cons (pg_name (i := 7) nd rfl (Or.inl rfl)) pgs_nil)))) (fun _ _ _ _ _ => pts_nil) (fun _ _ _ _ _ => (pe_op op_mulW (pv 6) (pv 7))))) pa_nil)) (pe_glob (v := .int 16) (by rfl) g_MOST_DEGREE ⟨_, rfl⟩) (nomark _))
    (pss_one ps_never)
    pss_nil)))
    (pss_one (ps_ret (pe_cc C_bounded hr (by decide) (by rfl) (pa_cons (pe_ix ix_tup (pe_ix ix_list (pv 1) pe_int (fun _ _ => rfl)) pe_int (fun _ _ => rfl)) (pa_cons (pe_fz (pe_cc C_put_from hr (by decide) (by rfl) (pa_cons (pe_fz (pe_callTy call_list_of (by rfl) B.list (by decide +kernel) (pa_cons (pe_ix ix_tup (pv 0) pe_int (fun _ _ => rfl)) pa_nil))) (pa_cons (pv 1) (pa_cons pe_int pa_nil))))) pa_nil))))))), ?_⟩
  have hdg : ∀ k ∈ List.range box.length, 0 ≤ deg (mvT m k (bl box k) (bh box k)) ∧ deg (mvT m k (bl box k) (bh box k)) ≤ 1 := fun k hk' => deg_lk (m := m) (mvT_lk (by rw [← hbl]; exact List.mem_range.mp hk'))
  refine q_seq (r_setM c (m := .lst (((List.range box.length).map fun k => deg (mvT m k (bl box k) (bh box k))).map D.int)) ((em_map c (xs := List.range box.length) (enc := fun k => dS m (mvT m k (bl box k) (bh box k))) (ei_list (ev_var c rfl)) (fun k => .int (deg (mvT m k (bl box k) (bh box k)))) _ (by decide) (fun e _ => eg_name)
    (fun k _ Hs σ2 H2 c2 => ev_degree (ev_var c2 rfl) (by have := mvT_len m k (bl box k) (bh box k); omega)) (by rw [List.length_range]; omega)).is (by rw [List.map_map]; rfl)) fun p σ2 H2 e2 c2 => r_gz (k := 0) c2 rfl rfl fun H3 c3 => ?_)
  refine q_seq (r_forM c3 (xs := ts) (enc := eT) (ei_tup (ev_pt (ev_ixT (ev_var c3 rfl) ev_int rfl))) (fun _ => [.d (dS m ts), .d (.lst (dMv m box)), .d (.lst (((List.range box.length).map fun k => deg (mvT m k (bl box k) (bh box k))).map D.int)), .no, .no, .no, .no, .no]) (fun _ => []) (Le.refl _) rfl _
    (fun e _ => eg_tup (egs_cons eg_name (egs_cons eg_name egs_nil)) rfl) (fun Hs i hi σ4 H4 c4 => ?_) fun σ4 H4 c4 => ?_)
  · have hlk := hk.lk _ (List.getElem_mem hi)
    have hll := hlk.len
    refine r_if (b := false) c4 ((et_t (ev_iB (ev_sumL (ns := (ts[i].1.zip ((List.range box.length).map fun k => deg (mvT m k (bl box k) (bh box k)))).map fun p => p.1 * p.2) ((ev_fz (em_map c4 (xs := ts[i].1.zip ((List.range box.length).map fun k => deg (mvT m k (bl box k) (bh box k)))) (enc := fun p => .tup [.int p.1, .int p.2]) ((ei_zipTL (ev_pt (ev_var c4 rfl)) (ev_var c4 rfl)).is (zipD_zip _ _ _ _)) (fun p => .int (p.1 * p.2)) _ (by decide) (fun e _ => eg_tup (egs_cons eg_name (egs_cons eg_name egs_nil)) rfl)
      (fun p hp' Hs σ2 H2 c2 => ev_iC (ev_var c2 rfl) (ev_var c2 rfl) ?_) (by rw [List.length_zip]; omega))).is (by rw [List.map_map]; rfl))) ev_int)).is ?_) (fun z => by cases z) fun _ H5 e5 c5 => c5.le (.keep (.keep (.keep (.keep (.drop (.drop (.keep (.keep .nil))))))))
    · have h1 := hlk.mem (List.of_mem_zip hp').1
      obtain ⟨k, hk', e1⟩ := List.mem_map.mp (List.of_mem_zip hp').2
      have h2 := hdg k hk'
      rw [e1] at h2
      have b1 : p.1.natAbs < 2 := by rcases h1 with e | e <;> omega
      have b2 : p.2.natAbs < 2 := by omega
      exact wm (Nat.lt_of_lt_of_le b1 (by decide)) (Nat.lt_of_lt_of_le b2 (by decide))
    · have := degs_le (m := m) (k := ts[i].1) (ds := (List.range box.length).map fun k => deg (mvT m k (bl box k) (bh box k))) (fun x hx => hlk.mem hx) fun d hd => by
        obtain ⟨k, hk', rfl⟩ := List.mem_map.mp hd
        exact hdg k hk'
      exact decide_eq_false (by omega)
  · have tb := hk.tb
    refine r_ret c4 (ev_bounded (ev_ixT (ev_ixL (ev_var c4 rfl) ev_int (d := dS m (mvT m 0 (bl box 0) (bh box 0))) (atI_nat (j := 0) ?_)) ev_int rfl) (ev_fzX (em_put (lim := 4) (j := 0) (ev_fz (em_listT (ev_pt (ev_ixT (ev_var c4 rfl) ev_int rfl)))) (ev_var c4 rfl) ev_int hp (by omega) (by decide))) tb.1 tb.2) kq
    rw [List.getElem?_map, List.getElem?_range (by omega)]; rfl
end
end Lw
/-! Boxes: choose, moved_letter, greatest_powers, all_powers, walked. -/
namespace Lw
open PySem PySem.Spec PyProof.Rows L2
abbrev st_choose : Stmt := top 31
abbrev N_choose : List Str := ["many", "some", "found", "k"]
theorem sc_choose : FnScope N_choose ["many", "some"] (defScope st_choose) := ⟨rfl, rfl, rfl, by decide +kernel, rfl, by decide +kernel, by decide +kernel⟩

abbrev st_moved_letter : Stmt := top 35
abbrev N_moved_letter : List Str := ["many", "letter", "low", "high", "powers", "terms"]
theorem sc_moved_letter : FnScope N_moved_letter ["many", "letter", "low", "high"] (defScope st_moved_letter) := ⟨rfl, rfl, rfl, by decide +kernel, rfl, by decide +kernel, by decide +kernel⟩

abbrev st_greatest_powers : Stmt := top 36
abbrev N_greatest_powers : List Str := ["one", "found", "powers", "number", "letter", "power"]
theorem sc_greatest_powers : FnScope N_greatest_powers ["one"] (defScope st_greatest_powers) := ⟨rfl, rfl, rfl, by decide +kernel, rfl, by decide +kernel, by decide +kernel⟩

abbrev st_all_powers : Stmt := top 37
abbrev N_all_powers : List Str := ["most", "found", "many", "longer", "powers", "power"]
theorem sc_all_powers : FnScope N_all_powers ["most"] (defScope st_all_powers) := ⟨rfl, rfl, rfl, by decide +kernel, rfl, by decide +kernel, by decide +kernel⟩

abbrev dI (ns : List Int) : List D := ns.map .int
abbrev sp_choose (K : PySem.W.Frag) : Sp := pSp K (fun p : Int × Int => [.int p.1, .int p.2]) (fun p => (p.2 = 0 ∨ p.2 = 1) ∧ (p.1 = 0 ∨ p.1 = 1) ∧ p.2 ≤ p.1) fun _ => .int 1
abbrev sp_moved_letter (K : PySem.W.Frag) : Sp := pSp K (fun p : Nat × Nat × Rat × Rat => [.int p.1, .int p.2.1, dQ p.2.2.1, dQ p.2.2.2]) (fun p => p.2.1 < p.1 ∧ p.1 ≤ 60 ∧ Sz 4000 p.2.2.1 ∧ Sz 4000 p.2.2.2) fun p => dS p.1 (mvT p.1 p.2.1 p.2.2.1 p.2.2.2)
def mx1 (i j : Int) : Int := if j > i then j else i
/-- found, with the powers of one term -/
def gpIn (f : List Int) (k : List Int) (n : Nat) : List Int := (List.range n).foldl (fun f i => f.set i (mx1 (f.getD i 0) (k.getD i 0))) f
def gpOf (m : Nat) (ts : Ts) : List Int := ts.foldl (fun f e => gpIn f e.1 e.1.length) (zK m)
abbrev sp_greatest_powers (K : PySem.W.Frag) : Sp := pSp K (fun p : Nat × Ts => [dS p.1 p.2]) (fun p => p.1 ≤ 60 ∧ 1 ≤ p.1 ∧ ∀ e ∈ p.2, e.1.length = p.1) fun p => .lst (dI (gpOf p.1 p.2))
def longer (fs : List (List Int)) (n : Int) : List (List Int) := fs.flatMap fun k => (List.range (n + 1).toNat).map fun i : Nat => k ++ [(i : Int)]
def allP (most : List Int) : List (List Int) := most.foldl longer [[]]
abbrev dK (ks : List (List Int)) : List D := ks.map D.key
abbrev sp_all_powers (K : PySem.W.Frag) : Sp := pSp K (fun p : List Int => [.lst (dI p)]) (fun p => p.length ≤ 3 ∧ ∀ x ∈ p, x = 0 ∨ x = 1) fun p => .lst (dK (allP p))
section
variable {K : PySem.W.Frag} {σ : L2.St} {H H0 Hb : Hp} {ta tb tc td : TE} {Γ : List G} {ms : List (Addr × Mo)}
theorem ev_tupleV {n k : Nat} {l : Addr} {ds : List D} (c : Cf K H0 Hb σ H Γ ms) (hn : Γ[n]? = some (.at l)) (hk : ms[k]? = some (l, .lst ds)) : EvD K (tCB (rTupP K) (tCons (tVar n) tNil)) σ H (.ptup ds) := fun H1 e Q q => by
  obtain ⟨h0, vs, h1, h2⟩ := (c.ext e).mu _ (List.mem_of_getElem? hk)
  exact ⟨.ref l, c.st.ref hn, l, vs, rfl, .of h1, fun l' o' hl ho => q _ _ (same_new hl) (rep_ptN hl ho h2)⟩
theorem ev_choose {i j : Int} (ha : EvD K ta σ H (.int i)) (hb : EvD K tb σ H (.int j)) (h1 : j = 0 ∨ j = 1) (h2 : i = 0 ∨ i = 1) (h3 : j ≤ i) : EvD K (tCall (sp_choose K) [] E0 (tCons ta (tCons tb tNil))) σ H (.int 1) :=
  ev_call (args := fun p : Int × Int => [.int p.1, .int p.2]) (pre := fun p => (p.2 = 0 ∨ p.2 = 1) ∧ (p.1 = 0 ∨ p.1 = 1) ∧ p.2 ≤ p.1) (res := fun _ => .int 1) (i, j) (ea_cons ha (ea_cons hb ea_nil)) ⟨h1, h2, h3⟩
theorem ev_moved_letter {m k : Nat} {low high : Rat} (ha : EvD K ta σ H (.int m)) (hb : EvD K tb σ H (.int k)) (hc : EvD K tc σ H (dQ low)) (hd : EvD K td σ H (dQ high)) (h1 : k < m) (h2 : m ≤ 60) (h3 : Sz 4000 low) (h4 : Sz 4000 high) :
    EvD K (tCall (sp_moved_letter K) [] E0 (tCons ta (tCons tb (tCons tc (tCons td tNil))))) σ H (dS m (mvT m k low high)) :=
  ev_call (args := fun p : Nat × Nat × Rat × Rat => [.int p.1, .int p.2.1, dQ p.2.2.1, dQ p.2.2.2]) (pre := fun p => p.2.1 < p.1 ∧ p.1 ≤ 60 ∧ Sz 4000 p.2.2.1 ∧ Sz 4000 p.2.2.2) (res := fun p => dS p.1 (mvT p.1 p.2.1 p.2.2.1 p.2.2.2)) (m, k, low, high) (ea_cons ha (ea_cons hb (ea_cons hc (ea_cons hd ea_nil)))) ⟨h1, h2, h3, h4⟩
theorem ev_greatest_powers {m : Nat} {ts : Ts} (ha : EvD K ta σ H (dS m ts)) (h1 : m ≤ 60) (h0 : 1 ≤ m) (h2 : ∀ e ∈ ts, e.1.length = m) : EvD K (tCall (sp_greatest_powers K) [] E0 (tCons ta tNil)) σ H (.lst (dI (gpOf m ts))) :=
  ev_call (args := fun p : Nat × Ts => [dS p.1 p.2]) (pre := fun p => p.1 ≤ 60 ∧ 1 ≤ p.1 ∧ ∀ e ∈ p.2, e.1.length = p.1) (res := fun p => .lst (dI (gpOf p.1 p.2))) (m, ts) (ea_cons ha ea_nil) ⟨h1, h0, h2⟩
theorem ev_all_powers {most : List Int} (ha : EvD K ta σ H (.lst (dI most))) (h1 : most.length ≤ 3) (h2 : ∀ x ∈ most, x = 0 ∨ x = 1) : EvD K (tCall (sp_all_powers K) [] E0 (tCons ta tNil)) σ H (.lst (dK (allP most))) :=
  ev_call (args := fun p : List Int => [.lst (dI p)]) (pre := fun p => p.length ≤ 3 ∧ ∀ x ∈ p, x = 0 ∨ x = 1) (res := fun p => .lst (dK (allP p))) most (ea_cons ha ea_nil) ⟨h1, h2⟩
end
theorem q_ne0 (q : Rat) : (!decide (q.num = (0 : Rat).num ∧ ((q.den : Nat) : Int) = ((0 : Rat).den : Nat))) = decide (q ≠ 0) := by
  by_cases h : q = 0
  · subst h; rfl
  · rw [decide_eq_true (p := q ≠ 0) h, decide_eq_false]
    · rfl
    · exact fun z => h (Rat.num_eq_zero.mp z.1)
theorem rep_zero (m : Nat) : (List.replicate (m : Int).toNat [D.int 0]).flatten = dI (zK m) := by
  rw [show (m : Int).toNat = m from rfl]
  simp [dI, zK]
theorem gpIn_succ (f k : List Int) (n : Nat) : gpIn f k (n + 1) = (gpIn f k n).set n (mx1 ((gpIn f k n).getD n 0) (k.getD n 0)) := by
  rw [gpIn, List.range_succ, List.foldl_append]; rfl
theorem gpIn_len (f k : List Int) : ∀ n, (gpIn f k n).length = f.length
  | 0 => rfl
  | n + 1 => by rw [gpIn_succ, List.length_set, gpIn_len f k n]
theorem gpOf_len (m : Nat) : ∀ (ts : Ts), (gpOf m ts).length = m := by
  have : ∀ (ts : Ts) (f : List Int), (ts.foldl (fun f e => gpIn f e.1 e.1.length) f).length = f.length := by
    intro ts
    induction ts with
    | nil => intro f; rfl
    | cons e ts ih => intro f; rw [List.foldl_cons, ih, gpIn_len]
  intro ts
  rw [gpOf, this, zK_len]
theorem longer_len {fs : List (List Int)} {n : Int} (h : n = 0 ∨ n = 1) : (longer fs n).length ≤ 2 * fs.length := by
  rw [longer, List.length_flatMap]
  have : ∀ l : List (List Int), (l.map fun k => ((List.range (n + 1).toNat).map fun i : Nat => k ++ [(i : Int)]).length).sum ≤ 2 * l.length := by
    intro l
    induction l with
    | nil => simp
    | cons x l ih =>
      rw [List.map_cons, List.sum_cons, List.length_cons, List.length_map, List.length_range]
      have : (n + 1).toNat ≤ 2 := by omega
      omega
  exact this fs
theorem allP_take (most : List Int) {i : Nat} (hi : i < most.length) : allP (most.take (i + 1)) = longer (allP (most.take i)) most[i] := by
  rw [take_succ_get _ hi, allP, allP, List.foldl_append]; rfl
theorem allP_len (most : List Int) (h : ∀ x ∈ most, x = 0 ∨ x = 1) : ∀ i, i ≤ most.length → (allP (most.take i)).length ≤ 2 ^ i
  | 0, _ => by simp [allP]
  | i + 1, hi => by
    rw [allP_take _ (by omega)]
    have h1 := longer_len (fs := allP (most.take i)) (h _ (List.getElem_mem (by omega : i < most.length)))
    have h2 := allP_len most h i (by omega)
    rw [Nat.pow_succ]; omega
theorem longer_take (fs : List (List Int)) (n : Int) {i : Nat} (hi : i < fs.length) : longer (fs.take (i + 1)) n = longer (fs.take i) n ++ (List.range (n + 1).toNat).map fun j : Nat => fs[i] ++ [(j : Int)] := by
  rw [take_succ_get _ hi, longer, List.flatMap_append]
  simp [longer]
theorem allP_klen (most : List Int) : ∀ i, i ≤ most.length → ∀ k ∈ allP (most.take i), k.length = i
  | 0, _, k, hk => by simp [allP] at hk; simp [hk]
  | i + 1, hi, k, hk => by
    rw [allP_take _ (by omega)] at hk
    obtain ⟨x, hx, hk⟩ := List.mem_flatMap.mp hk
    obtain ⟨j, _, rfl⟩ := List.mem_map.mp hk
    rw [List.length_append, allP_klen most i (by omega) x hx]; rfl
section
variable {P : Program} {w : World} {K : PySem.W.Frag} {mg : Str → Option Value} {base : Heap} {f : Addr} {fd : FuncData}
theorem ok_choose (F : FnP K "choose" st_choose f fd) (B : Bl mg) : FnOk P w K mg base CX0 1 f fd ["many", "some"] (sp_choose K) := by
  refine F.ok sc_choose (pSp_len fun _ => rfl) (fun cdv A outer s H vs Q E hr h => ?_)
  obtain ⟨⟨i, j⟩, hv, ⟨h1, h2, h3⟩, kq⟩ := h
  have nd := sc_choose.nd
  have h1 : j = 0 ∨ j = 1 := h1
  have h2 : i = 0 ∨ i = 1 := h2
  have h3 : j ≤ i := h3
  have c : Cf K H H (L2.start N_choose vs) H [.d (.int i), .d (.int j), .no, .no] [] := Cf.start hv rfl
  refine ⟨_, PSs.nox (pss_cons (ps_set (i := 2) nd rfl (Or.inl rfl) pe_int)
    (pss_cons (ps_for PassesOwn.never rfl (pi_range1 (by rfl) B.range (pa_cons (pv 1) pa_nil)) (pg_name (i := 3) nd rfl (Or.inl rfl))
    (pss_one (ps_set (i := 2) nd rfl (Or.inl rfl) (pe_op op_fdivW (pe_op op_mulW (pv 2) (pe_op op_sub (pv 0) (pv 3))) (pe_op op_add (pv 3) pe_int)))))
    (pss_one (ps_ret (pv 2))))), ?_⟩
  refine q_seq (r_set c ev_int fun σ2 H2 e2 c2 => ?_)
  obtain ⟨n, rfl, hn⟩ : ∃ n : Nat, j = (n : Int) ∧ n ≤ 1 := ⟨j.toNat, by omega, by omega⟩
  refine q_seq (r_forM c2 (xs := List.range n) (enc := fun i => .int (i : Nat)) (ei_rng (ea_cons (ev_var c2 rfl) ea_nil) (by omega)) (fun _ => [.d (.int i), .d (.int n), .d (.int 1), .no]) (fun _ => []) (Le.refl _) rfl _ (fun e _ => eg_name) (fun Hs k hk σ3 H3 c3 => ?_) fun σ3 H3 c3 => ?_)
  · have hk' : k < n := by simpa using hk
    have hir : (List.range n)[k] = k := List.getElem_range hk
    rw [hir] at c3
    have hk0 : k = 0 := by omega
    have hn1 : n = 1 := by omega
    subst hk0
    subst hn1
    have hi1 : i = 1 := by omega
    subst hi1
    refine r_set c3 (d := .int 1) ((ev_iC (i := 1) (j := 1) (f := fun i j => i / j) ((ev_iC (i := 1) (j := 1) (f := fun i j => i * j) (ev_var c3 rfl) ((ev_iI (i := 1) (j := 0) (f := fun i j => i - j) (ev_var c3 rfl) (ev_var c3 rfl)).is rfl) (wm (by decide) (by decide))).is rfl) ((ev_iI (i := 0) (j := 1) (f := fun i j => i + j) (ev_var c3 rfl) ev_int).is rfl) ⟨by decide, by decide⟩).is rfl) fun σ4 H4 e4 c4 => c4.le (.keep (.keep (.keep (.drop .nil))))
  · exact r_ret c3 (ev_var c3 rfl) kq
theorem ok_moved_letter (F : FnP K "moved_letter" st_moved_letter f fd) (B : Bl mg) (T_NOUGHT_boxes : KtQ K mg "NOUGHT_boxes" 0) (C_less : Fc P w K mg base "less" 3 ["one", "other"] (sp_less K)) : FnOk P w K mg base CX0 4 f fd ["many", "letter", "low", "high"] (sp_moved_letter K) := by
  refine F.ok sc_moved_letter (pSp_len fun _ => rfl) (fun cdv A outer s H vs Q E hr h => ?_)
  obtain ⟨⟨m, k, low, high⟩, hv, ⟨h1, h2, h3, h4⟩, kq⟩ := h
  obtain ⟨a_NOUGHT_boxes, g_NOUGHT_boxes, k0⟩ := T_NOUGHT_boxes
  have nd := sc_moved_letter.nd
  have h1 : k < m := h1
  have h2 : m ≤ 60 := h2
  have h3 : Sz 4000 low := h3
  have h4 : Sz 4000 high := h4
  have c : Cf K H H (L2.start N_moved_letter vs) H [.d (.int m), .d (.int k), .d (dQ low), .d (dQ high), .no, .no] [] := Cf.start hv rfl
  refine ⟨_, PSs.nox (pss_cons (ps_set (i := 4) nd rfl (Or.inl rfl) (pe_op op_rep (pe_lst (pa_cons pe_int pa_nil)) (pv 0)))
    (pss_cons (ps_set (i := 5) nd rfl (Or.inl rfl) (pe_lst pa_nil))
    (pss_cons (ps_if (pt_cmpR (op_neD (by exact hu64_of hr)) (pv 2) (pe_glob (v := .ref a_NOUGHT_boxes) (by rfl) g_NOUGHT_boxes rfl) (nomark _))
    (pss_one (ps_expr (pe_bm PySem.F.plainAttrs_list PySem.F.slot_list_append PySem.F.type_list_append mt_append (pv 5) (pa_cons (pe_tup (pa_cons (pe_callTy call_tupleP (by rfl) B.tuple (by decide +kernel) (pa_cons (pv 4) pa_nil)) (pa_cons (pv 2) pa_nil))) pa_nil))))
    pss_nil)
    (pss_cons (ps_asg pe_int (pg_sub (pv 4) (pv 1) set_list))
    (pss_cons (ps_expr (pe_bm PySem.F.plainAttrs_list PySem.F.slot_list_append PySem.F.type_list_append mt_append (pv 5) (pa_cons (pe_tup (pa_cons (pe_callTy call_tupleP (by rfl) B.tuple (by decide +kernel) (pa_cons (pv 4) pa_nil)) (pa_cons (pe_cc C_less hr (by decide) (by rfl) (pa_cons (pv 3) (pa_cons (pv 2) pa_nil))) pa_nil))) pa_nil)))
    (pss_one (ps_ret (pe_tup (pa_cons (pv 0) (pa_cons (pe_callTy call_tupleP (by rfl) B.tuple (by decide +kernel) (pa_cons (pv 5) pa_nil)) pa_nil)))))))))), ?_⟩
  refine q_seq (r_setM c (m := .lst (dI (zK m))) ((em_repL (em_lst (ea_cons ev_int ea_nil)) (ev_var c rfl) (by omega) (by simp; omega) (by omega)).is (by rw [rep_zero])) fun p σ2 H2 e2 c2 => ?_)
  refine q_seq (r_setM c2 (em_lst ea_nil) fun q σ3 H3 e3 c3 => ?_)
  dsimp only
  with_reducible refine q_split (β := Unit) (fun _ σ1 H1 => Cf K H H σ1 H1 [.d (.int m), .d (.int k), .d (dQ low), .d (dQ high), .at p, .at q] [(q, .lst (dT (if low ≠ 0 then [(zK m, low)] else []))), (p, .lst (dI (zK m)))]) (fun _ σ4 H4 c4 => ?_) fun fin => ?_
  rotate_left
  · refine r_if (b := decide (low ≠ 0)) c3 ((et_B (ev_neII (ev_var c3 rfl) (ev_cst (d := dQ 0) k0))).is (q_ne0 low)) (fun z H4 e4 c4 => ?_) fun z H4 e4 c4 => ?_
    · refine r_app (k := 0) c4 rfl rfl (d := eT (zK m, low)) (ev_tup (ea_cons (ev_tupleV (k := 1) c4 rfl rfl) (ea_cons (ev_var c4 rfl) ea_nil))) (by decide) fun H5 c5 => fin () _ _ (c5.msE ?_)
      rw [if_pos (of_decide_eq_true z)]; rfl
    · refine fin () _ _ (c4.msE ?_)
      rw [if_neg (of_decide_eq_false z)]; rfl
  · refine q_seq (r_setL (k := 1) (j := k) c4 rfl rfl ev_int (ev_var c4 rfl) (ixN_nat (by rw [List.length_map, zK_len]; exact h1)) fun H5 c5 => ?_)
    have e1 : (dI (zK m)).set k (.int 1) = dI (uK m k) := by rw [dI, dI, uK, List.map_set]
    rw [e1] at c5
    refine q_seq (r_app (k := 0) c5 rfl rfl (d := eT (uK m k, high - low)) (ev_tup (ea_cons (ev_tupleV (k := 1) c5 rfl rfl) (ea_cons (ev_sub (ev_var c5 rfl) (ev_var c5 rfl) ⟨h4, h3⟩) ea_nil))) (by rw [List.length_map]; split <;> simp) fun H6 c6 => ?_)
    refine r_ret c6 (d := dS m (mvT m k low high)) (ev_tup (ea_cons (ev_var c6 rfl) (ea_cons ((ev_tupleV (k := 0) c6 rfl rfl).is ?_) ea_nil))) kq
    rw [mvT, dT, dT, List.map_append]; rfl
theorem ok_greatest_powers (F : FnP K "greatest_powers" st_greatest_powers f fd) (B : Bl mg) : FnOk P w K mg base CX0 1 f fd ["one"] (sp_greatest_powers K) := by
  refine F.ok sc_greatest_powers (pSp_len fun _ => rfl) (fun cdv A outer s H vs Q E hr h => ?_)
  obtain ⟨⟨m, ts⟩, hv, ⟨h1, h0, h2⟩, kq⟩ := h
  have nd := sc_greatest_powers.nd
  have h1 : m ≤ 60 := h1
  have h2 : ∀ e ∈ ts, e.1.length = m := h2
  have c : Cf K H H (L2.start N_greatest_powers vs) H [.d (dS m ts), .no, .no, .no, .no, .no] [] := Cf.start hv rfl
  refine ⟨_, PSs.nox (pss_cons (ps_set (i := 1) nd rfl (Or.inl rfl) (pe_op op_rep (pe_lst (pa_cons pe_int pa_nil)) (pe_ix ix_tup (pv 0) pe_int (fun _ _ => rfl))))
    (pss_cons (ps_for PassesOwn.never rfl (pi_tup (pe_ix ix_tup (pv 0) pe_int (fun _ _ => rfl))) (pg_tup rfl (pgs_cons (pg_name (i := 2) nd rfl (Or.inl rfl)) (pgs_cons (pg_name (i := 3) nd rfl (Or.inl rfl)) pgs_nil)))
    (pss_one (ps_for PassesOwn.never rfl (pi_enumT (by rfl) B.enumerate (pa_cons (pv 2) pa_nil)) (pg_tup rfl (pgs_cons (pg_name (i := 4) nd rfl (Or.inl rfl)) (pgs_cons (pg_name (i := 5) nd rfl (Or.inl rfl)) pgs_nil)))
    (pss_one (ps_asg (pe_callB (call_max2 (by rfl)) (by rfl) B.max (by decide +kernel) (pa_cons (pe_ix ix_list (pv 1) (pv 4) (fun _ _ => rfl)) (pa_cons (pv 5) pa_nil))) (pg_sub (pv 1) (pv 4) set_list))))))
    (pss_one (ps_ret (pe_fz (pv 1)))))), ?_⟩
  refine q_seq (r_setM c (m := .lst (dI (zK m))) ((em_repL (em_lst (ea_cons ev_int ea_nil)) (ev_ixT (ev_var c rfl) ev_int rfl) (by omega) (by simp; omega) (by omega)).is (by rw [rep_zero])) fun p σ2 H2 e2 c2 => ?_)
  refine q_seq (r_forM c2 (xs := ts) (enc := eT) (ei_tup (ev_pt (ev_ixT (ev_var c2 rfl) ev_int rfl))) (fun _ => [.d (dS m ts), .at p, .no, .no, .no, .no]) (fun i => [(p, .lst (dI (gpOf m (ts.take i))))]) (Le.refl _) rfl _
    (fun e _ => eg_tup (egs_cons eg_name (egs_cons eg_name egs_nil)) rfl) (fun Hs i hi σ3 H3 c3 => ?_) fun σ3 H3 c3 => ?_)
  · have hl := h2 _ (List.getElem_mem hi)
    refine r_forM c3 (xs := List.range ts[i].1.length) (enc := fun j => .tup [.int (j : Nat), .int (ts[i].1.getD j 0)]) ((ei_enumT (ev_pt (ev_var c3 rfl))).is (enD_map _ _ _)) (fun _ => [.d (dS m ts), .at p, .d (.key ts[i].1), .d (dQ ts[i].2), .no, .no]) (fun j => [(p, .lst (dI (gpIn (gpOf m (ts.take i)) ts[i].1 j)))]) (Le.refl _) rfl _
      (fun e _ => eg_tup (egs_cons eg_name (egs_cons eg_name egs_nil)) rfl) (fun Hs' j hj σ4 H4 c4 => ?_) fun σ4 H4 c4 => ?_
    · have hj' : j < ts[i].1.length := by simpa using hj
      have hjr : (List.range ts[i].1.length)[j] = j := List.getElem_range hj
      rw [hjr] at c4
      have hgl : (gpIn (gpOf m (ts.take i)) ts[i].1 j).length = m := by rw [gpIn_len, gpOf_len]
      have hat : atI (dI (gpIn (gpOf m (ts.take i)) ts[i].1 j)) (j : Int) = some (.int ((gpIn (gpOf m (ts.take i)) ts[i].1 j).getD j 0)) := by
        refine atI_nat ?_
        have : j < (gpIn (gpOf m (ts.take i)) ts[i].1 j).length := by omega
        rw [List.getElem?_map, List.getElem?_eq_getElem this]
        simp [List.getD, this]
      refine r_setL (k := 0) (j := j) c4 rfl rfl (ev_max2 (ev_ixM (k := 0) c4 rfl rfl (ev_var c4 rfl) hat) (ev_var c4 rfl)) (ev_var c4 rfl) (ixN_nat (by rw [List.length_map]; omega)) fun H5 c5 => (c5.le (.keep (.keep (.keep (.keep (.drop (.drop .nil))))))).msE ?_
      rw [gpIn_succ, dI, dI, List.map_set]; rfl
    · rw [List.length_range] at c4
      refine (c4.le (.keep (.keep (.drop (.drop (.keep (.keep .nil))))))).msE ?_
      rw [take_succ_get _ hi, gpOf, gpOf, List.foldl_append]; rfl
  · rw [List.take_length] at c3
    exact r_retF (k := 0) c3 rfl rfl kq
theorem ok_all_powers (F : FnP K "all_powers" st_all_powers f fd) (B : Bl mg) : FnOk P w K mg base CX0 1 f fd ["most"] (sp_all_powers K) := by
  refine F.ok sc_all_powers (pSp_len fun _ => rfl) (fun cdv A outer s H vs Q E hr h => ?_)
  obtain ⟨most, hv, ⟨h1, h2⟩, kq⟩ := h
  have nd := sc_all_powers.nd
  have h1 : most.length ≤ 3 := h1
  have h2 : ∀ x ∈ most, x = 0 ∨ x = 1 := h2
  have c : Cf K H H (L2.start N_all_powers vs) H [.d (.lst (dI most)), .no, .no, .no, .no, .no] [] := Cf.start hv rfl
  refine ⟨_, PSs.nox (pss_cons (ps_set (i := 1) nd rfl (Or.inl rfl) (pe_fz (pe_lst (pa_cons (pe_tupP pa_nil) pa_nil))))
    (pss_cons (ps_for PassesOwn.never rfl (pi_list (pv 0)) (pg_name (i := 2) nd rfl (Or.inl rfl))
    (pss_cons (ps_set (i := 3) nd rfl (Or.inl rfl) (pe_lst pa_nil))
    (pss_cons (ps_for PassesOwn.never rfl (pi_list (pv 1)) (pg_name (i := 4) nd rfl (Or.inr rfl))
    (pss_one (ps_expr (pe_bm PySem.F.plainAttrs_list PySem.F.slot_list_extend PySem.F.type_list_extend mt_extend (pv 3) (pa_cons (pe_lc (own := [("power", 5)]) (g := (gName 5)) (tt := tYes) (te := (tOp (rCatP K) (tVar 4) (tTupP (tCons (tVar 5) tNil)))) (by rfl) nd (pi_range1 (by rfl) B.range (pa_cons (pe_op op_add (pv 2) pe_int) pa_nil)) (blkOk_by (own := [("power", 5)]) (N := N_all_powers) (sc := defScope st_all_powers) (by decide +kernel)) (fun _ _ _ _ _ => (pg_name (i := 5) nd rfl (Or.inl rfl))) (fun _ _ _ _ _ => pts_nil) (fun _ _ _ _ _ => (pe_op op_catP (pv 4) (pe_tupP (pa_cons (pv 5) pa_nil))))) pa_nil)))))
    (pss_one (ps_set (i := 1) nd rfl (Or.inl rfl) (pe_fz (pv 3)))))))
    (pss_one (ps_ret (pv 1))))), ?_⟩
  refine q_seq (r_set c (d := .lst (dK [[]])) (ev_fz (em_lst (ea_cons (ev_tupP ea_nil) ea_nil))) fun σ2 H2 e2 c2 => ?_)
  refine q_seq (r_forM c2 (xs := most) (enc := .int) (ei_list (ev_var c2 rfl)) (fun i => [.d (.lst (dI most)), .d (.lst (dK (allP (most.take i)))), .no, .no, .no, .no]) (fun _ => []) (Le.refl _) rfl _
    (fun e _ => eg_name) (fun Hs i hi σ3 H3 c3 => ?_) fun σ3 H3 c3 => ?_)
  · have hmi := h2 _ (List.getElem_mem hi)
    have hal := allP_len most h2 i (by omega)
    have h8 : 2 ^ i ≤ 2 ^ 3 := Nat.pow_le_pow_right (by decide) (by omega)
    refine q_seq (r_setM c3 (em_lst ea_nil) fun p σ4 H4 e4 c4 => ?_)
    refine q_seq (r_forM c4 (xs := allP (most.take i)) (enc := D.key) (ei_list (ev_var c4 rfl)) (fun _ => [.d (.lst (dI most)), .d (.lst (dK (allP (most.take i)))), .d (.int most[i]), .at p, .no, .no]) (fun j => [(p, .lst (dK (longer ((allP (most.take i)).take j) most[i])))]) (Le.refl _) rfl _
      (fun e _ => eg_name) (fun Hs' j hj σ5 H5 c5 => ?_) fun σ5 H5 c5 => ?_)
    · obtain ⟨n, hn, hn1⟩ : ∃ n : Nat, most[i] = (n : Int) ∧ n ≤ 1 := ⟨most[i].toNat, by omega, by omega⟩
      have hkl := allP_klen most i (by omega) _ (List.getElem_mem hj)
      have hll := longer_len (fs := (allP (most.take i)).take j) hmi
      have htl : ((allP (most.take i)).take j).length ≤ 8 := Nat.le_trans (List.length_take_le' _ _) (by omega)
      refine r_ext (k := 0) (es := (List.range (n + 1)).map fun q : Nat => D.key ((allP (most.take i))[j] ++ [(q : Int)])) c5 rfl rfl ((em_map c5 (xs := List.range (n + 1)) (enc := fun q : Nat => .int (q : Nat)) (ei_rng (ea_cons ((ev_iI (f := fun i j => i + j) (ev_var c5 rfl) ev_int).is (by rw [hn]; rfl)) ea_nil) (by omega)) (fun q : Nat => D.key ((allP (most.take i))[j] ++ [(q : Int)])) _ (by decide) (fun e _ => eg_name)
        (fun q hq Hs σ2 H2 c2 => (ev_catP (ev_var c2 rfl) (ev_tupP (ea_cons (ev_var c2 rfl) ea_nil)) (by simp; omega)).is (by rw [D.key, List.map_append]; rfl)) (by rw [List.length_range]; omega))) (by simp; omega) fun H6 c6 => (c6.le (.keep (.keep (.keep (.keep (.drop (.keep .nil))))))).msE ?_
      rw [longer_take _ _ hj, dK, dK, List.map_append, hn, List.map_map]
      rfl
    · rw [List.take_length] at c5
      rw [← allP_take _ hi] at c5
      refine r_setF (k := 0) c5 rfl rfl fun σ6 H6 c6 => (c6 : Cf _ _ _ _ _ [.d (.lst (dI most)), .d (.lst (dK (allP (most.take (i + 1))))), .d (.int most[i]), .at p, .no, .no] []).le (.keep (.keep (.drop (.drop (.keep (.keep .nil))))))
  · rw [List.take_length] at c3
    exact r_ret c3 (ev_var c3 rfl) kq
end
end Lw
/-! Boxes: mixed_letter, box_numbers, is_borne, bears_tree, walked. -/
namespace Lw
open PySem PySem.Spec PyProof.Rows L2
abbrev st_mixed_letter : Stmt := top 38
abbrev N_mixed_letter : List Str := ["table", "most", "letter", "found", "powers", "total", "power", "share", "some"]
theorem sc_mixed_letter : FnScope N_mixed_letter ["table", "most", "letter"] (defScope st_mixed_letter) := ⟨rfl, rfl, rfl, by decide +kernel, rfl, by decide +kernel, by decide +kernel⟩

def setK (k : List Int) (l : Nat) (p : Int) : List Int := k.take l ++ [p] ++ k.drop (l + 1)
def tabF (ks : List (List Int)) (f : List Int → Rat) : Ts := ks.map fun k => (k, f k)
def mixN (f : List Int → Rat) (l : Nat) (k : List Int) (n : Nat) : Rat := (List.range n).foldl (fun acc (p : Nat) => acc + 1 * f (setK k l p)) 0
def mixF (f : List Int → Rat) (l : Nat) (k : List Int) : Rat := mixN f l k ((k.getD l 0).toNat + 1)
structure MixOk (s : Nat) (ks : List (List Int)) (f : List Int → Rat) (most : List Int) (l : Nat) : Prop where
  nd : ks.Nodup
  len : ∀ k ∈ ks, l < k.length ∧ k.length ≤ 60
  bit : ∀ k ∈ ks, (k.getD l 0 = 0 ∨ k.getD l 0 = 1) ∧ k.getD l 0 ≤ most.getD l 0
  mst : l < most.length ∧ (most.getD l 0 = 0 ∨ most.getD l 0 = 1)
  mem : ∀ k ∈ ks, ∀ p : Nat, (p : Int) ≤ k.getD l 0 → setK k l p ∈ ks
  sz : ∀ k ∈ ks, Sz s (f k)
  fit : 1 ≤ s ∧ 2 * (s + 2) + 1 ≤ 4000
  few : ks.length ≤ 100
abbrev sp_mixed_letter (K : PySem.W.Frag) : Sp := pSm K (fun p : List (List Int) × (List Int → Rat) × List Int × Nat => [.dc (tQ (tabF p.1 p.2.1)), .lst (dI p.2.2.1), .int p.2.2.2]) (fun p => ∃ s, MixOk s p.1 p.2.1 p.2.2.1 p.2.2.2) fun p => .dc (tQ (tabF p.1 (mixF p.2.1 p.2.2.2)))
abbrev dBox (box : Bx) : List D := box.map fun p => .tup [dQ p.1, dQ p.2]
def fN (m : Nat) (ts : Ts) (box : Bx) : Nat → List Int → Rat
  | 0 => val (putIn m ts box)
  | l + 1 => mixF (fN m ts box l) l
def keysB (m : Nat) (ts : Ts) : List (List Int) := allP (gpOf m ts)
def boxNums (m : Nat) (ts : Ts) (box : Bx) : List Rat := (keysB m ts).map (fN m ts box m)
structure BoxOk (a b m : Nat) (ts : Ts) (box : Bx) : Prop where
  p : PutOk m 0 a b ts box
  m3 : m ≤ 3
  lk : ∀ e ∈ ts, Lk m e.1
  zh : ∀ k, Sz b (bh box k)
  fit : szP a b m ≤ 480
theorem BoxOk.put {a b m : Nat} {ts : Ts} {box : Bx} (h : BoxOk a b m ts box) : PutInOk m ts box := ⟨⟨a, b, h.p⟩, h.m3, h.lk⟩
abbrev sp_box_numbers (K : PySem.W.Frag) : Sp := pSp K (fun p : Nat × Ts × Bx => [dS p.1 p.2.1, .lst (dBox p.2.2)]) (fun p => ∃ a b, BoxOk a b p.1 p.2.1 p.2.2) fun p => .lst (dQs (boxNums p.1 p.2.1 p.2.2))
section
variable {K : PySem.W.Frag} {σ : L2.St} {H : Hp} {ta tb tc : TE}
theorem em_mixed_letter {s : Nat} {ks : List (List Int)} {f : List Int → Rat} {most : List Int} {l : Nat} (ha : EvD K ta σ H (.dc (tQ (tabF ks f)))) (hb : EvD K tb σ H (.lst (dI most))) (hc : EvD K tc σ H (.int l)) (h : MixOk s ks f most l) :
    EvM K (tCall (sp_mixed_letter K) [] E0 (tCons ta (tCons tb (tCons tc tNil)))) σ H (.dc (tQ (tabF ks (mixF f l)))) :=
  em_call (args := fun p : List (List Int) × (List Int → Rat) × List Int × Nat => [.dc (tQ (tabF p.1 p.2.1)), .lst (dI p.2.2.1), .int p.2.2.2]) (pre := fun p => ∃ s, MixOk s p.1 p.2.1 p.2.2.1 p.2.2.2) (res := fun p => .dc (tQ (tabF p.1 (mixF p.2.1 p.2.2.2)))) (ks, f, most, l) (ea_cons ha (ea_cons hb (ea_cons hc ea_nil))) ⟨s, h⟩
theorem ev_box_numbers {a b m : Nat} {ts : Ts} {box : Bx} (ha : EvD K ta σ H (dS m ts)) (hb : EvD K tb σ H (.lst (dBox box))) (h : BoxOk a b m ts box) : EvD K (tCall (sp_box_numbers K) [] E0 (tCons ta (tCons tb tNil))) σ H (.lst (dQs (boxNums m ts box))) :=
  ev_call (args := fun p : Nat × Ts × Bx => [dS p.1 p.2.1, .lst (dBox p.2.2)]) (pre := fun p => ∃ a b, BoxOk a b p.1 p.2.1 p.2.2) (res := fun p => .lst (dQs (boxNums p.1 p.2.1 p.2.2))) (m, ts, box) (ea_cons ha (ea_cons hb ea_nil)) ⟨a, b, h⟩
end
theorem tabF_keys (ks : List (List Int)) (f : List Int → Rat) : (tabF ks f).map (·.1) = ks := by
  rw [tabF, List.map_map]
  exact (List.map_congr_left fun _ _ => rfl).trans (List.map_id' ks)
theorem tabF_val : ∀ {ks : List (List Int)} {f : List Int → Rat} {k : List Int}, k ∈ ks → val (tabF ks f) k = f k
  | x :: ks, f, k, h => by
    show val ((x, f x) :: tabF ks f) k = f k
    rw [val_cons]
    by_cases hx : x = k
    · rw [if_pos hx, hx]
    · rw [if_neg hx]
      exact tabF_val ((List.mem_cons.mp h).resolve_left fun z => hx z.symm)
theorem pt_new {t : Ts} {k : List Int} {q : Rat} (h : k ∉ t.map (·.1)) : pt t k (fun _ => q) q = t ++ [(k, q)] := by
  unfold pt
  rw [lk_none_of h]
  rfl
theorem tabF_take {ks : List (List Int)} {f : List Int → Rat} (h : ks.Nodup) {i : Nat} (hi : i < ks.length) : pt (tabF (ks.take i) f) ks[i] (fun _ => f ks[i]) (f ks[i]) = tabF (ks.take (i + 1)) f := by
  rw [pt_new, take_succ_get _ hi, tabF, tabF, List.map_append]
  · rfl
  · rw [tabF_keys]
    have h2 : ks = ks.take i ++ ks[i] :: ks.drop (i + 1) := by rw [List.getElem_cons_drop, List.take_append_drop]
    have h1 := h
    rw [h2, List.nodup_append] at h1
    exact fun z => h1.2.2 _ z _ List.mem_cons_self rfl
theorem mixN_succ (f : List Int → Rat) (l : Nat) (k : List Int) (n : Nat) : mixN f l k (n + 1) = mixN f l k n + 1 * f (setK k l n) := by
  rw [mixN, List.range_succ, List.foldl_append]; rfl
theorem mixN_sz {s : Nat} {f : List Int → Rat} {l : Nat} {k : List Int} : ∀ n, (∀ p : Nat, p < n → Sz s (f (setK k l p))) → Sz (n * (s + 2) + 1) (mixN f l k n)
  | 0, _ => Sz.zero.mono (by omega)
  | n + 1, h => by
    rw [mixN_succ, Nat.succ_mul]
    exact ((mixN_sz n fun p hp => h p (by omega)).add (Sz.one.mul (h n (by omega)))).mono (by omega)
theorem cut_drop (xs : List D) (m : Nat) : cutD xs (some ((m : Int) + 1)) none = xs.drop (m + 1) := by
  unfold cutD HT.sIx
  simp only
  rw [if_neg (by omega)]
  have e : ((m : Int) + 1).toNat = m + 1 := by omega
  rw [e]
  by_cases h : m + 1 ≤ xs.length
  · rw [Nat.min_eq_left h, List.take_of_length_le (by rw [List.length_drop]; omega)]
  · rw [Nat.min_eq_right (by omega), List.drop_of_length_le (Nat.le_refl _), List.drop_of_length_le (by omega)]; simp
section
variable {P : Program} {w : World} {K : PySem.W.Frag} {mg : Str → Option Value} {base : Heap} {f : Addr} {fd : FuncData}
theorem ok_mixed_letter (F : FnP K "mixed_letter" st_mixed_letter f fd) (B : Bl mg) (T_NOUGHT_boxes : KtQ K mg "NOUGHT_boxes" 0) (C_added : Fc P w K mg base "added" 3 ["one", "other"] (sp_added K)) (C_multiplied : Fc P w K mg base "multiplied" 3 ["one", "other"] (sp_multiplied K)) (C_divided : Fc P w K mg base "divided" 3 ["one", "other"] (sp_divided K))
    (C_choose : Fc P w K mg base "choose" 1 ["many", "some"] (sp_choose K)) : FnOk P w K mg base CX0 4 f fd ["table", "most", "letter"] (sp_mixed_letter K) := by
  refine F.ok sc_mixed_letter (pSm_len fun _ => rfl) (fun cdv A outer s H vs Q E hr h => ?_)
  obtain ⟨⟨ks, g, most, l⟩, hv, ⟨s, hk⟩, kq⟩ := h
  obtain ⟨a_NOUGHT_boxes, g_NOUGHT_boxes, k0⟩ := T_NOUGHT_boxes
  have nd := sc_mixed_letter.nd
  have hk : MixOk s ks g most l := hk
  obtain ⟨hs1, hs2⟩ := hk.fit
  have hfew := hk.few
  have c : Cf K H H (L2.start N_mixed_letter vs) H [.d (.dc (tQ (tabF ks g))), .d (.lst (dI most)), .d (.int l), .no, .no, .no, .no, .no, .no] [] := Cf.start hv rfl
  refine ⟨_, PSs.nox (pss_cons (ps_set (i := 3) nd rfl (Or.inl rfl) pe_xnew)
    (pss_cons (ps_for PassesOwn.never rfl (pi_keysX (pv 0)) (pg_name (i := 4) nd rfl (Or.inl rfl))
    (pss_cons (ps_set (i := 5) nd rfl (Or.inl rfl) (pe_glob (v := .ref a_NOUGHT_boxes) (by rfl) g_NOUGHT_boxes rfl))
    (pss_cons (ps_for PassesOwn.never rfl (pi_range1 (by rfl) B.range (pa_cons (pe_op op_add (pe_ix ix_tup (pv 4) (pv 2) (fun _ _ => rfl)) pe_int) pa_nil)) (pg_name (i := 6) nd rfl (Or.inl rfl))
    (pss_cons (ps_set (i := 7) nd rfl (Or.inl rfl) (pe_cc C_divided hr (by decide) (by rfl) (pa_cons (pe_tup (pa_cons (pe_cc C_choose hr (by decide) (by rfl) (pa_cons (pe_ix ix_tup (pv 4) (pv 2) (fun _ _ => rfl)) (pa_cons (pv 6) pa_nil))) (pa_cons pe_int pa_nil))) (pa_cons (pe_tup (pa_cons (pe_cc C_choose hr (by decide) (by rfl) (pa_cons (pe_ix ix_list (pv 1) (pv 2) (fun _ _ => rfl)) (pa_cons (pv 6) pa_nil))) (pa_cons pe_int pa_nil))) pa_nil))))
    (pss_cons (ps_set (i := 8) nd rfl (Or.inl rfl) (pe_xget (by exact hu_of hr) (pv 0) (pe_op op_catP (pe_op op_catP (pe_slice sl_tupP (pv 4) po_none (po_some (pv 2))) (pe_tupP (pa_cons (pv 6) pa_nil))) (pe_slice sl_tupP (pv 4) (po_some (pe_op op_add (pv 2) pe_int)) po_none)) (fun _ _ => rfl)))
    (pss_one (ps_set (i := 5) nd rfl (Or.inl rfl) (pe_cc C_added hr (by decide) (by rfl) (pa_cons (pv 5) (pa_cons (pe_cc C_multiplied hr (by decide) (by rfl) (pa_cons (pv 7) (pa_cons (pv 8) pa_nil))) pa_nil))))))))
    (pss_one (ps_xput (by exact hu_of hr) (pv 3) (pv 4) (pv 5) rfl)))))
    (pss_one (ps_ret (pv 3))))), ?_⟩
  refine q_seq (r_setM c em_xnew fun p σ2 H2 e2 c2 => ?_)
  refine q_seq (r_forM c2 (xs := ks) (enc := D.key) ((ei_keysX (t := tQ (tabF ks g)) (ev_var c2 rfl)).is (by rw [tabF, List.map_map, List.map_map]; rfl)) (fun _ => [.d (.dc (tQ (tabF ks g))), .d (.lst (dI most)), .d (.int l), .at p, .no, .no, .no, .no, .no]) (fun i => [(p, .dc (tQ (tabF (ks.take i) (mixF g l))))]) (Le.refl _) rfl _
    (fun e _ => eg_name) (fun Hs i hi σ3 H3 c3 => ?_) fun σ3 H3 c3 => ?_)
  · have hmem := List.getElem_mem hi
    obtain ⟨hlen, hl60⟩ := hk.len _ hmem
    obtain ⟨hbit, hle⟩ := hk.bit _ hmem
    obtain ⟨hml, hmb⟩ := hk.mst
    obtain ⟨n, hn, hn1⟩ : ∃ n : Nat, ks[i].getD l 0 = (n : Int) ∧ n ≤ 1 := ⟨(ks[i].getD l 0).toNat, by omega, by omega⟩
    have hat : atI (ks[i].map D.int) (l : Int) = some (.int n) := by
      refine atI_nat ?_
      rw [List.getElem?_map, List.getElem?_eq_getElem hlen, ← hn]
      simp [List.getD, hlen]
    have hatm : atI (dI most) (l : Int) = some (.int (most.getD l 0)) := by
      refine atI_nat ?_
      rw [List.getElem?_map, List.getElem?_eq_getElem hml]
      simp [List.getD, hml]
    refine q_seq (r_set c3 (ev_cst (d := dQ 0) k0) fun σ4 H4 e4 c4 => ?_)
    refine q_seq (r_forM c4 (xs := List.range (n + 1)) (enc := fun q : Nat => .int (q : Nat)) (ei_rng (ea_cons (ev_succN (ev_ixT (ev_pt (ev_var c4 rfl)) (ev_var c4 rfl) hat)) ea_nil) (by omega)) (fun q => [.d (.dc (tQ (tabF ks g))), .d (.lst (dI most)), .d (.int l), .at p, .d (.key ks[i]), .d (dQ (mixN g l ks[i] q)), .no, .no, .no]) (fun q => [(p, .dc (tQ (tabF (ks.take i) (mixF g l))))]) (Le.refl _) rfl _
      (fun e _ => eg_name) (fun Hs' q hq σ5 H5 c5 => ?_) fun σ5 H5 c5 => ?_)
    · have hq' : q < n + 1 := by simpa using hq
      have hqr : (List.range (n + 1))[q] = q := List.getElem_range hq
      rw [hqr] at c5
      have hsm : setK ks[i] l q ∈ ks := hk.mem _ hmem q (by omega)
      have h01 : ((q : Nat) : Int) = 0 ∨ ((q : Nat) : Int) = 1 := by omega
      refine q_seq (r_set c5 (d := dQ 1) ((ev_div (a := 1) (b := 1) (ev_tup (ea_cons (ev_choose (ev_ixT (ev_pt (ev_var c5 rfl)) (ev_var c5 rfl) hat) (ev_var c5 rfl) h01 (by omega) (by omega)) (ea_cons ev_int ea_nil))) (ev_tup (ea_cons (ev_choose (ev_ixL (ev_var c5 rfl) (ev_var c5 rfl) hatm) (ev_var c5 rfl) h01 hmb (by omega)) (ea_cons ev_int ea_nil))) (big_of Sz.one Sz.one (by decide) (by decide)) (by decide)).is (congrArg dQ (by grind : (1 : Rat) / 1 = 1))) fun σ6 H6 e6 c6 => ?_)
      refine q_seq (r_set c6 (d := dQ (g (setK ks[i] l q))) ((ev_xget (k := setK ks[i] l q) (evx_D (ev_var c6 rfl)) ((ev_catP (ev_catP (ev_slP (ev_var c6 rfl) eo_none (eo_int (ev_var c6 rfl))) (ev_tupP (ea_cons (ev_var c6 rfl) ea_nil)) ?_) (ev_slP (ev_var c6 rfl) (eo_int (ev_iI (f := fun i j => i + j) (ev_var c6 rfl) ev_int)) eo_none) ?_).is ?_) (lk_val (by rw [tabF_keys]; exact hsm))).is (by rw [tabF_val hsm])) fun σ7 H7 e7 c7 => ?_)
      · rw [cut_take]; simp; omega
      · rw [cut_take, cut_drop]; simp; omega
      · rw [cut_take, cut_drop, setK, D.key, List.map_append, List.map_append, List.map_take, List.map_drop]; rfl
      have z1 := mixN_sz (s := s) (f := g) (l := l) (k := ks[i]) q fun p hp => hk.sz _ (hk.mem _ hmem p (by omega))
      have z2 := Sz.one.mul (hk.sz _ hsm)
      have hq2 : q * (s + 2) ≤ 1 * (s + 2) := Nat.mul_le_mul_right _ (by omega)
      refine r_set c7 (d := dQ (mixN g l ks[i] (q + 1))) ((ev_add (ev_var c7 rfl) (ev_mul (ev_var c7 rfl) (ev_var c7 rfl) (big_of Sz.one (hk.sz _ hsm) (by decide) (by omega))) (big_of z1 z2 (by omega) (by omega))).is (by rw [mixN_succ])) fun σ8 H8 e8 c8 => c8.le (.keep (.keep (.keep (.keep (.keep (.keep (.drop (.drop (.drop .nil)))))))))
    · rw [List.length_range] at c5
      refine r_xput (j := 0) c5 rfl rfl (ev_var c5 rfl) (ev_var c5 rfl) (by rw [List.length_map, tabF, List.length_map, List.length_take]; omega) fun H6 c6 => ?_
      refine (c6.le (.keep (.keep (.keep (.keep (.drop (.drop (.keep (.keep (.keep .nil)))))))))).msE ?_
      have hmf : mixN g l ks[i] (n + 1) = mixF g l ks[i] := by rw [mixF, hn]; rfl
      rw [pt_tQ, hmf, tabF_take hk.nd hi]; rfl
  · rw [List.take_length] at c3
    exact r_retM (k := 0) c3 rfl rfl kq
end
end Lw
/-! Boxes: box_numbers, is_borne, bears_tree, walked. -/
namespace Lw
open PySem PySem.Spec PyProof.Rows L2
abbrev st_box_numbers : Stmt := top 39
abbrev N_box_numbers : List Str := ["one", "box", "many", "moved", "letter", "low", "high", "most", "known", "table", "powers"]
theorem sc_box_numbers : FnScope N_box_numbers ["one", "box"] (defScope st_box_numbers) := ⟨rfl, rfl, rfl, by decide +kernel, rfl, by decide +kernel, by decide +kernel⟩

abbrev st_is_borne : Stmt := top 41
abbrev N_is_borne : List Str := ["one", "box", "number"]
theorem sc_is_borne : FnScope N_is_borne ["one", "box"] (defScope st_is_borne) := ⟨rfl, rfl, rfl, by decide +kernel, rfl, by decide +kernel, by decide +kernel⟩

abbrev st_bears_tree : Stmt := top 42
abbrev N_bears_tree : List Str := ["one", "box", "tree", "left", "here", "cuts", "low", "high"]
theorem sc_bears_tree : FnScope N_bears_tree ["one", "box", "tree"] (defScope st_bears_tree) := ⟨rfl, rfl, rfl, by decide +kernel, rfl, by decide +kernel, by decide +kernel⟩

def Bits (f : List Int) : Prop := ∀ i, f.getD i 0 = 0 ∨ f.getD i 0 = 1
theorem bits_zK (m : Nat) : Bits (zK m) := fun i => by
  rw [zK, List.getD_eq_getElem?_getD, List.getElem?_replicate]
  split <;> simp
theorem Lk.bits {m : Nat} {k : List Int} (h : Lk m k) : Bits k := fun i => by
  by_cases hi : i < k.length
  · have := h.mem (List.getElem_mem hi)
    simpa [List.getD, hi] using this
  · left; simp [List.getD, List.getElem?_eq_none (Nat.le_of_not_lt hi)]
theorem bits_mem {f : List Int} (h : Bits f) : ∀ x ∈ f, x = 0 ∨ x = 1 := fun x hx => by
  obtain ⟨i, hi, rfl⟩ := List.mem_iff_getElem.mp hx
  have := h i
  simpa [List.getD, hi] using this
theorem getD_set {f : List Int} {n i : Nat} {x : Int} (hn : n < f.length) : (f.set n x).getD i 0 = if i = n then x else f.getD i 0 := by
  simp only [List.getD_eq_getElem?_getD, List.getElem?_set]
  by_cases h : n = i
  · subst h; simp [hn]
  · rw [if_neg h, if_neg (fun z => h z.symm)]
theorem gpIn_get (f k : List Int) (i : Nat) : ∀ n, n ≤ f.length → (gpIn f k n).getD i 0 = if i < n then mx1 (f.getD i 0) (k.getD i 0) else f.getD i 0
  | 0, _ => rfl
  | n + 1, h => by
    rw [gpIn_succ, getD_set (by rw [gpIn_len]; omega), gpIn_get f k i n (by omega), gpIn_get f k n n (by omega), if_neg (Nat.lt_irrefl n)]
    by_cases hi : i = n
    · subst hi; rw [if_pos rfl, if_pos (Nat.lt_succ_self i)]
    · rw [if_neg hi]
      by_cases h2 : i < n
      · rw [if_pos h2, if_pos (by omega)]
      · rw [if_neg h2, if_neg (by omega)]
theorem mx1_bit {a b : Int} (ha : a = 0 ∨ a = 1) (hb : b = 0 ∨ b = 1) : (mx1 a b = 0 ∨ mx1 a b = 1) ∧ (mx1 a b = 1 ↔ a = 1 ∨ b = 1) := by
  unfold mx1
  rcases ha with rfl | rfl <;> rcases hb with rfl | rfl <;> decide
theorem gpOf_bits {m : Nat} {ts : Ts} (h : ∀ e ∈ ts, Lk m e.1) : Bits (gpOf m ts) ∧ ∀ i, i < m → ((gpOf m ts).getD i 0 = 1 ↔ ∃ e ∈ ts, e.1.getD i 0 = 1) := by
  have : ∀ (ts : Ts) (f : List Int), (∀ e ∈ ts, Lk m e.1) → f.length = m → Bits f → Bits (ts.foldl (fun f e => gpIn f e.1 e.1.length) f) ∧ ∀ i, i < m → ((ts.foldl (fun f e => gpIn f e.1 e.1.length) f).getD i 0 = 1 ↔ f.getD i 0 = 1 ∨ ∃ e ∈ ts, e.1.getD i 0 = 1) := by
    intro ts
    induction ts with
    | nil => intro f _ _ hb; exact ⟨hb, fun i _ => by simp⟩
    | cons e ts ih =>
      intro f h hf hb
      have he := h e List.mem_cons_self
      have hel := he.len
      have hg : ∀ i, (gpIn f e.1 e.1.length).getD i 0 = if i < m then mx1 (f.getD i 0) (e.1.getD i 0) else f.getD i 0 := fun i => by rw [gpIn_get _ _ _ _ (by omega), hel]
      have hb2 : Bits (gpIn f e.1 e.1.length) := fun i => by
        rw [hg]; split
        · exact (mx1_bit (hb i) (he.bits i)).1
        · exact hb i
      obtain ⟨r1, r2⟩ := ih (gpIn f e.1 e.1.length) (fun x hx => h x (List.mem_cons_of_mem _ hx)) (by rw [gpIn_len, hf]) hb2
      refine ⟨r1, fun i hi => ?_⟩
      rw [List.foldl_cons, r2 i hi, hg, if_pos hi, (mx1_bit (hb i) (he.bits i)).2]
      simp [or_assoc]
  obtain ⟨r1, r2⟩ := this ts (zK m) h (zK_len m) (bits_zK m)
  refine ⟨r1, fun i hi => (r2 i hi).trans ⟨fun z => z.resolve_left fun y => ?_, .inr⟩⟩
  rw [zK, List.getD_eq_getElem?_getD, List.getElem?_replicate] at y
  split at y <;> simp at y
theorem getD_snoc_lt {k : List Int} {x : Int} {j : Nat} (h : j < k.length) : (k ++ [x]).getD j 0 = k.getD j 0 := by
  simp [List.getD, List.getElem?_append_left h]
theorem getD_snoc_eq {k : List Int} {x : Int} : (k ++ [x]).getD k.length 0 = x := by simp [List.getD]
theorem allP_mem {most : List Int} (hb : Bits most) : ∀ i, i ≤ most.length → ∀ k, k ∈ allP (most.take i) ↔ k.length = i ∧ ∀ j, j < i → 0 ≤ k.getD j 0 ∧ k.getD j 0 ≤ most.getD j 0
  | 0, _, k => by
    simp [allP]
  | i + 1, hi, k => by
    rw [allP_take _ (by omega), longer, List.mem_flatMap]
    have hmi : most[i] = most.getD i 0 := by simp [List.getD, (by omega : i < most.length)]
    have hbi := hb i
    constructor
    · rintro ⟨x, hx, hk⟩
      obtain ⟨j, hj, rfl⟩ := List.mem_map.mp hk
      obtain ⟨h1, h2⟩ := (allP_mem hb i (by omega) x).mp hx
      have hj' := List.mem_range.mp hj
      rw [hmi] at hj'
      refine ⟨by rw [List.length_append, h1]; rfl, fun q hq => ?_⟩
      by_cases hqi : q < i
      · rw [getD_snoc_lt (by omega)]; exact h2 q hqi
      · have : q = x.length := by omega
        rw [this, getD_snoc_eq, h1]
        omega
    · rintro ⟨h1, h2⟩
      have hk : k = k.take i ++ [k.getD i 0] := by
        have : i < k.length := by omega
        have e : k.getD i 0 = k[i] := by simp [List.getD, this]
        rw [e]
        have e2 : k.take (i + 1) = k := List.take_of_length_le (by omega)
        rw [← List.take_succ_eq_append_getElem this, e2]
      refine ⟨k.take i, (allP_mem hb i (by omega) _).mpr ⟨by rw [List.length_take]; omega, fun j hj => ?_⟩, ?_⟩
      · have e : (k.take i).getD j 0 = k.getD j 0 := by simp [List.getD, List.getElem?_take, hj]
        rw [e]; exact h2 j (by omega)
      · have h3 := h2 i (by omega)
        refine List.mem_map.mpr ⟨(k.getD i 0).toNat, List.mem_range.mpr (by rw [hmi]; omega), ?_⟩
        rw [Int.toNat_of_nonneg h3.1]
        exact hk.symm
theorem allP_nd (most : List Int) : ∀ i, i ≤ most.length → (allP (most.take i)).Nodup
  | 0, _ => by simp [allP]
  | i + 1, hi => by
    rw [allP_take _ (by omega), longer, List.Nodup, List.pairwise_flatMap]
    refine ⟨fun x hx => ?_, ?_⟩
    · rw [List.pairwise_map]
      refine List.Pairwise.imp (fun {a b} h z => h ?_) List.nodup_range
      have := List.append_cancel_left z
      have t : (a : Int) = b := by simpa using this
      omega
    · refine List.Pairwise.imp_of_mem (fun {a b} ha hb hne x hx y hy z => hne ?_) (allP_nd most i (by omega))
      obtain ⟨p, _, rfl⟩ := List.mem_map.mp hx
      obtain ⟨q, _, rfl⟩ := List.mem_map.mp hy
      have l1 := allP_klen most i (by omega) a ha
      have l2 := allP_klen most i (by omega) b hb
      exact (List.append_inj z (by omega)).1
theorem keysB_mem {m : Nat} {ts : Ts} (h : ∀ e ∈ ts, Lk m e.1) {k : List Int} : k ∈ keysB m ts ↔ k.length = m ∧ ∀ j, j < m → 0 ≤ k.getD j 0 ∧ k.getD j 0 ≤ (gpOf m ts).getD j 0 := by
  have := allP_mem (gpOf_bits h).1 (gpOf m ts).length (Nat.le_refl _) k
  rw [List.take_length, gpOf_len] at this
  exact this
theorem keysB_nd (m : Nat) (ts : Ts) : (keysB m ts).Nodup := by
  have := allP_nd (gpOf m ts) _ (Nat.le_refl _)
  rwa [List.take_length] at this
theorem keysB_len {m : Nat} {ts : Ts} (h : ∀ e ∈ ts, Lk m e.1) (hm : m ≤ 3) : (keysB m ts).length ≤ 8 := by
  have := allP_len (gpOf m ts) (bits_mem (gpOf_bits h).1) _ (Nat.le_refl _)
  rw [List.take_length, gpOf_len] at this
  exact Nat.le_trans this (by have := Nat.pow_le_pow_right (by decide : 0 < 2) hm; exact this)
theorem setK_eq {k : List Int} {l : Nat} (h : l < k.length) (p : Int) : setK k l p = k.set l p := by
  rw [setK, List.set_eq_take_append_cons_drop, if_pos h]; simp
def sB (s : Nat) : Nat → Nat
  | 0 => s
  | l + 1 => 2 * (sB s l + 2) + 1
theorem sB_le (s : Nat) : ∀ {l r : Nat}, l ≤ r → sB s l ≤ sB s r
  | l, 0, h => by rw [Nat.le_zero.mp h]; exact Nat.le_refl _
  | l, r + 1, h => by
    by_cases e : l = r + 1
    · rw [e]; exact Nat.le_refl _
    · have := sB_le s (l := l) (r := r) (by omega)
      rw [sB]; omega
section
variable {a b m : Nat} {ts : Ts} {box : Bx}
theorem BoxOk.mix (h : BoxOk a b m ts box) : ∀ l, l ≤ m → (∀ k ∈ keysB m ts, Sz (sB (szP a b m) l) (fN m ts box l k)) ∧ (l < m → MixOk (sB (szP a b m) l) (keysB m ts) (fN m ts box l) (gpOf m ts) l) := by
  intro l
  have hm3 := h.m3
  have hfit := h.fit
  have h1 : 1 ≤ szP a b m := by have := h.p.a1; unfold szP; omega
  have hgb := gpOf_bits h.lk
  have mk : ∀ l, l < m → (∀ k ∈ keysB m ts, Sz (sB (szP a b m) l) (fN m ts box l k)) → MixOk (sB (szP a b m) l) (keysB m ts) (fN m ts box l) (gpOf m ts) l := fun l hl hz => by
    have hs0 := sB_le (szP a b m) (l := 0) (r := l) (by omega)
    have hs2 := sB_le (szP a b m) (l := l) (r := 2) (by omega)
    have e2 : sB (szP a b m) 2 = 2 * (2 * (szP a b m + 2) + 1 + 2) + 1 := rfl
    have e0 : sB (szP a b m) 0 = szP a b m := rfl
    refine ⟨keysB_nd m ts, fun k hk => ?_, fun k hk => ?_, ⟨by rw [gpOf_len]; exact hl, hgb.1 l⟩, fun k hk p hp => ?_, hz, ⟨by omega, by omega⟩, by have := keysB_len h.lk hm3; omega⟩
    · have := ((keysB_mem h.lk).mp hk).1
      omega
    · have := ((keysB_mem h.lk).mp hk).2 l hl
      have := hgb.1 l
      exact ⟨by omega, by omega⟩
    · obtain ⟨k1, k2⟩ := (keysB_mem h.lk).mp hk
      rw [setK_eq (by omega)]
      refine (keysB_mem h.lk).mpr ⟨by rw [List.length_set]; exact k1, fun j hj => ?_⟩
      rw [getD_set (by omega)]
      split
      · rename_i e; subst e
        have := k2 j hj
        omega
      · exact k2 j hj
  induction l with
  | zero =>
    intro _
    have hz : ∀ k ∈ keysB m ts, Sz (sB (szP a b m) 0) (fN m ts box 0 k) := fun k hk => by
      have := (h.put.spec h.p).sz.val (by unfold szP; have := h.p.a1; omega) k
      exact this
    exact ⟨hz, fun hl => mk 0 hl hz⟩
  | succ l ih =>
    intro hl
    obtain ⟨hz, hM⟩ := ih (by omega)
    have M := hM (by omega)
    have hz2 : ∀ k ∈ keysB m ts, Sz (sB (szP a b m) (l + 1)) (fN m ts box (l + 1) k) := fun k hk => by
      obtain ⟨b1, b2⟩ := M.bit k hk
      have := mixN_sz (s := sB (szP a b m) l) (f := fN m ts box l) (l := l) (k := k) ((k.getD l 0).toNat + 1) fun p hp => M.sz _ (M.mem k hk p (by omega))
      have h3 : ((k.getD l 0).toNat + 1) * (sB (szP a b m) l + 2) ≤ 2 * (sB (szP a b m) l + 2) := Nat.mul_le_mul_right _ (by omega)
      refine this.mono ?_
      rw [sB]; omega
    exact ⟨hz2, fun hl => mk (l + 1) hl hz2⟩
theorem BoxOk.numsz (h : BoxOk a b m ts box) : ∀ q ∈ boxNums m ts box, Sz 3875 q := fun q hq => by
  obtain ⟨k, hk, rfl⟩ := List.mem_map.mp hq
  have hm3 := h.m3
  have hfit := h.fit
  have hs3 := sB_le (szP a b m) (l := m) (r := 3) hm3
  have e3 : sB (szP a b m) 3 = 2 * (2 * (2 * (szP a b m + 2) + 1 + 2) + 1 + 2) + 1 := rfl
  exact ((h.mix m (Nat.le_refl _)).1 k hk).mono (by omega)
theorem boxNums_ne (h : BoxOk a b m ts box) : boxNums m ts box ≠ [] := by
  have : zK m ∈ keysB m ts := (keysB_mem h.lk).mpr ⟨zK_len m, fun j hj => by
    have e : (zK m).getD j 0 = 0 := by rw [zK, List.getD_eq_getElem?_getD, List.getElem?_replicate]; split <;> simp
    have := (gpOf_bits h.lk).1 j
    rw [e]; omega⟩
  intro z
  rw [boxNums, List.map_eq_nil_iff] at z
  rw [z] at this; cases this
end
abbrev sp_is_borne (K : PySem.W.Frag) : Sp := pSp K (fun p : Nat × Ts × Bx => [dS p.1 p.2.1, .lst (dBox p.2.2)]) (fun p => (∃ a b, BoxOk a b p.1 p.2.1 p.2.2) ∧ ∀ q ∈ boxNums p.1 p.2.1 p.2.2, 0 ≤ q) fun _ => .bl true
abbrev sp_bears_tree (K : PySem.W.Frag) : Sp := pSp K (fun p : Nat × Ts × Bx => [dS p.1 p.2.1, .lst (dBox p.2.2), .str "all"]) (fun p => (∃ a b, BoxOk a b p.1 p.2.1 p.2.2) ∧ ∀ q ∈ boxNums p.1 p.2.1 p.2.2, 0 ≤ q) fun _ => .bl true
section
variable {K : PySem.W.Frag} {σ : L2.St} {H : Hp} {ta tb tc : TE}
theorem ev_is_borne {a b m : Nat} {ts : Ts} {box : Bx} (ha : EvD K ta σ H (dS m ts)) (hb : EvD K tb σ H (.lst (dBox box))) (h : BoxOk a b m ts box) (h0 : ∀ q ∈ boxNums m ts box, 0 ≤ q) : EvD K (tCall (sp_is_borne K) [] E0 (tCons ta (tCons tb tNil))) σ H (.bl true) :=
  ev_call (args := fun p : Nat × Ts × Bx => [dS p.1 p.2.1, .lst (dBox p.2.2)]) (pre := fun p => (∃ a b, BoxOk a b p.1 p.2.1 p.2.2) ∧ ∀ q ∈ boxNums p.1 p.2.1 p.2.2, 0 ≤ q) (res := fun _ => .bl true) (m, ts, box) (ea_cons ha (ea_cons hb ea_nil)) ⟨⟨a, b, h⟩, h0⟩
theorem ev_bears_tree {a b m : Nat} {ts : Ts} {box : Bx} (ha : EvD K ta σ H (dS m ts)) (hb : EvD K tb σ H (.lst (dBox box))) (hc : EvD K tc σ H (.str "all")) (h : BoxOk a b m ts box) (h0 : ∀ q ∈ boxNums m ts box, 0 ≤ q) : EvD K (tCall (sp_bears_tree K) [] E0 (tCons ta (tCons tb (tCons tc tNil)))) σ H (.bl true) :=
  ev_call (args := fun p : Nat × Ts × Bx => [dS p.1 p.2.1, .lst (dBox p.2.2), .str "all"]) (pre := fun p => (∃ a b, BoxOk a b p.1 p.2.1 p.2.2) ∧ ∀ q ∈ boxNums p.1 p.2.1 p.2.2, 0 ≤ q) (res := fun _ => .bl true) (m, ts, box) (ea_cons ha (ea_cons hb (ea_cons hc ea_nil))) ⟨⟨a, b, h⟩, h0⟩
end
theorem int_min : ∀ (l : List Int), l ≠ [] → ∃ m ∈ l, ∀ y ∈ l, m ≤ y
  | [], h => absurd rfl h
  | [x], _ => ⟨x, List.mem_cons_self, fun y hy => by rw [List.mem_singleton.mp hy]; exact Int.le_refl _⟩
  | x :: z :: l, _ => by
    obtain ⟨m, hm, hb⟩ := int_min (z :: l) (by simp)
    by_cases h : m ≤ x
    · exact ⟨m, List.mem_cons_of_mem _ hm, fun y hy => by
        rcases List.mem_cons.mp hy with rfl | hy
        · exact h
        · exact hb y hy⟩
    · exact ⟨x, List.mem_cons_self, fun y hy => by
        rcases List.mem_cons.mp hy with rfl | hy
        · exact Int.le_refl _
        · have := hb y hy; omega⟩
theorem sgn_nn {q : Rat} (h : 0 ≤ q) : 0 ≤ sgn q 0 := by
  have := sgn_neg (a := q) (b := 0)
  exact Int.not_lt.mp fun z => Rat.not_lt.mpr h (this.mp z)
section
variable {P : Program} {w : World} {K : PySem.W.Frag} {mg : Str → Option Value} {base : Heap} {f : Addr} {fd : FuncData}
theorem ok_box_numbers (F : FnP K "box_numbers" st_box_numbers f fd) (B : Bl mg) (T_NOUGHT_boxes : KtQ K mg "NOUGHT_boxes" 0) (C_put_in : Fc P w K mg base "put_in" 10 ["one", "others"] (sp_put_in K)) (C_moved_letter : Fc P w K mg base "moved_letter" 4 ["many", "letter", "low", "high"] (sp_moved_letter K))
    (C_greatest_powers : Fc P w K mg base "greatest_powers" 1 ["one"] (sp_greatest_powers K)) (C_all_powers : Fc P w K mg base "all_powers" 1 ["most"] (sp_all_powers K)) (C_mixed_letter : Fc P w K mg base "mixed_letter" 4 ["table", "most", "letter"] (sp_mixed_letter K)) : FnOk P w K mg base CX0 11 f fd ["one", "box"] (sp_box_numbers K) := by
  refine F.ok sc_box_numbers (pSp_len fun _ => rfl) (fun cdv A outer s H vs Q E hr h => ?_)
  obtain ⟨⟨m, ts, box⟩, hv, ⟨a, b, hk⟩, kq⟩ := h
  obtain ⟨a_NOUGHT_boxes, g_NOUGHT_boxes, k0⟩ := T_NOUGHT_boxes
  have nd := sc_box_numbers.nd
  have hk : BoxOk a b m ts box := hk
  have hm3 := hk.m3
  have hbl := hk.p.hm
  have hm1 := hk.p.m1
  have hfit := hk.p.fit
  have hb4 : b ≤ 4000 := by unfold szP at hfit; omega
  have hkl := keysB_len hk.lk hm3
  have hgb := gpOf_bits hk.lk
  have hgl := gpOf_len m ts
  have c : Cf K H H (L2.start N_box_numbers vs) H [.d (dS m ts), .d (.lst (dBox box)), .no, .no, .no, .no, .no, .no, .no, .no, .no] [] := Cf.start hv rfl
  refine ⟨_, PSs.nox (pss_cons (ps_set (i := 2) nd rfl (Or.inr rfl) (pe_ix ix_tup (pv 0) pe_int (fun _ _ => rfl)))
    (pss_cons (ps_set (i := 3) nd rfl (Or.inl rfl) (pe_cc C_put_in hr (by decide) (by rfl) (pa_cons (pv 0) (pa_cons (pe_fz (pe_lc (own := [("letter", 4), ("low", 5), ("high", 6)]) (g := (gTup K 2 (gCons (gName 4) (gCons (gTup K 2 (gCons (gName 5) (gCons (gName 6) gNil))) gNil)))) (tt := tYes) (te := (tCall (sp_moved_letter K) [] E0 (tCons (tVar 2) (tCons (tVar 4) (tCons (tVar 5) (tCons (tVar 6) tNil)))))) (by rfl) nd (pi_enum (by rfl) B.enumerate (pa_cons (pv 1) pa_nil)) (blkOk_by (own := [("letter", 4), ("low", 5), ("high", 6)]) (N := N_box_numbers) (sc := defScope st_box_numbers) (by decide +kernel)) (fun _ _ _ _ _ => (pg_tup rfl (pgs_cons (pg_name (i := 4) nd rfl (Or.inl rfl)) (pgs_cons (pg_tup rfl (pgs_cons (pg_name (i := 5) nd rfl (Or.inl rfl)) (pgs_cons (pg_name (i := 6) nd rfl (Or.inl rfl)) pgs_nil))) pgs_nil)))) (fun _ _ _ _ _ => pts_nil) (fun _ _ _ _ _ => (pe_cc C_moved_letter hr (by decide) (by rfl) (pa_cons (pv 2) (pa_cons (pv 4) (pa_cons (pv 5) (pa_cons (pv 6) pa_nil)))))))) pa_nil))))
    (pss_cons (ps_set (i := 7) nd rfl (Or.inl rfl) (pe_cc C_greatest_powers hr (by decide) (by rfl) (pa_cons (pv 0) pa_nil)))
    (pss_cons (ps_set (i := 8) nd rfl (Or.inl rfl) (pe_fz (pe_callTy (call_dictX (by rfl) (by exact hu2_of hr)) (by rfl) B.dict (by decide +kernel) (pa_cons (pe_ix ix_tup (pv 3) pe_int (fun _ _ => rfl)) pa_nil))))
    (pss_cons (ps_set (i := 9) nd rfl (Or.inr rfl) pe_xnew)
    (pss_cons (ps_gz 9 (ps_for PassesOwn.never rfl (pi_list (pe_cc C_all_powers hr (by decide) (by rfl) (pa_cons (pv 7) pa_nil))) (pg_name (i := 10) nd rfl (Or.inl rfl))
    (pss_one (ps_xput (by exact hu_of hr) (pv 9) (pv 10) (pe_xget2 (by exact hu_of hr) (pv 8) (pv 10) (pe_glob (v := .ref a_NOUGHT_boxes) (by rfl) g_NOUGHT_boxes rfl) ⟨rfl, rfl, rfl, rfl⟩) rfl))))
    (pss_cons (ps_for PassesOwn.never rfl (pi_range1 (by rfl) B.range (pa_cons (pv 2) pa_nil)) (pg_name (i := 4) nd rfl (Or.inl rfl))
    (pss_one (ps_set (i := 9) nd rfl (Or.inr rfl) (pe_fz (pe_cc C_mixed_letter hr (by decide) (by rfl) (pa_cons (pv 9) (pa_cons (pv 7) (pa_cons (pv 4) pa_nil))))))))
    (pss_one (ps_ret (pe_fz (pe_lc (own := [("powers", 10)]) (g := (gName 10)) (tt := tYes) (te := (tXGet (tVar 9) (tVar 10))) (by rfl) nd (pi_list (pe_cc C_all_powers hr (by decide) (by rfl) (pa_cons (pv 7) pa_nil))) (blkOk_by (own := [("powers", 10)]) (N := N_box_numbers) (sc := defScope st_box_numbers) (by decide +kernel)) (fun _ _ _ _ _ => (pg_name (i := 10) nd rfl (Or.inl rfl))) (fun _ _ _ _ _ => pts_nil) (fun _ _ _ _ _ => (pe_xget (by exact hu_of hr) (pv 9) (pv 10) (fun _ _ => rfl)))))))))))))), ?_⟩
  refine q_seq (r_set c (ev_ixT (ev_var c rfl) ev_int rfl) fun σ2 H2 e2 c2 => ?_)
  refine q_seq (r_set c2 (ev_put_in (box := box) (ev_var c2 rfl) (ev_fz (em_map c2 (xs := List.range box.length) (enc := fun i : Nat => .tup [.int (i : Nat), .tup [dQ (bl box i), dQ (bh box i)]]) ((ei_enum (ev_var c2 rfl)).is (enD_map _ _ ((0 : Rat), (0 : Rat)))) (fun i : Nat => dS m (mvT m i (bl box i) (bh box i))) _ (by decide) (fun e _ => eg_tup (egs_cons eg_name (egs_cons (eg_tup (egs_cons eg_name (egs_cons eg_name egs_nil)) rfl) egs_nil)) rfl)
    (fun i hi Hs σ3 H3 c3 => ev_moved_letter (ev_var c3 rfl) (ev_var c3 rfl) (ev_var c3 rfl) (ev_var c3 rfl) (by rw [← hbl]; exact List.mem_range.mp hi) (by omega) ((hk.p.zb i).1.mono hb4) ((hk.zh i).mono hb4)) (by rw [List.length_range]; omega))) hk.put) fun σ3 H3 e3 c3 => ?_)
  refine q_seq (r_set c3 (ev_greatest_powers (ev_var c3 rfl) (by omega) hm1 fun e he => (hk.lk e he).len) fun σ4 H4 e4 c4 => ?_)
  refine q_seq (r_set c4 (d := .dc (tQ (trm (putIn m ts box)))) (ev_fzX ((em_dictP (t := tQ (trm (putIn m ts box))) ((ev_ixT (ev_var c4 rfl) ev_int rfl).is (by rw [dT_eq]))).is (by rw [putAll_nd _ _ _ (by rw [List.nil_append, tQ_keys]; exact trm_nd (hk.put.spec hk.p).nd)]; rfl))) fun σ5 H5 e5 c5 => ?_)
  refine q_seq (r_setM c5 em_xnew fun p σ6 H6 e6 c6 => ?_)
  refine q_seq (r_forM c6 (xs := keysB m ts) (enc := D.key) (ei_list (ev_all_powers (ev_var c6 rfl) (by omega) (bits_mem hgb.1))) (fun _ => [.d (dS m ts), .d (.lst (dBox box)), .d (.int m), .d (dS m (trm (putIn m ts box))), .no, .no, .no, .d (.lst (dI (gpOf m ts))), .d (.dc (tQ (trm (putIn m ts box)))), .at p, .no]) (fun i => [(p, .dc (tQ (tabF ((keysB m ts).take i) (val (putIn m ts box)))))]) (Le.refl _) rfl _
    (fun e _ => eg_name) (fun Hs i hi σ7 H7 c7 => ?_) fun σ7 H7 c7 => ?_)
  · refine r_xput (j := 0) (d := dQ (val (putIn m ts box) (keysB m ts)[i])) c7 rfl rfl (ev_var c7 rfl) ((ev_xget2 (evx_D (ev_var c7 rfl)) (ev_var c7 rfl) (ev_cst (d := dQ 0) k0)).is (by rw [getD_tQ, trm_val])) (by rw [List.length_map, tabF, List.length_map, List.length_take]; omega) fun H8 c8 => ?_
    refine (c8.le (.keep (.keep (.keep (.keep (.keep (.keep (.keep (.keep (.keep (.keep (.drop .nil)))))))))))).msE ?_
    rw [pt_tQ, tabF_take (keysB_nd m ts) hi]; rfl
  · rw [List.take_length] at c7
    refine r_gzX (k := 0) c7 rfl rfl fun H8 c8 => ?_
    refine q_seq (r_forM c8 (xs := List.range m) (enc := fun i : Nat => .int (i : Nat)) (ei_rng (ea_cons (ev_var c8 rfl) ea_nil) (by omega)) (fun l => [.d (dS m ts), .d (.lst (dBox box)), .d (.int m), .d (dS m (trm (putIn m ts box))), .no, .no, .no, .d (.lst (dI (gpOf m ts))), .d (.dc (tQ (trm (putIn m ts box)))), .d (.dc (tQ (tabF (keysB m ts) (fN m ts box l)))), .no]) (fun _ => []) (Le.refl _) rfl _
      (fun e _ => eg_name) (fun Hs l hl σ9 H9 c9 => ?_) fun σ9 H9 c9 => ?_)
    · have hl' : l < m := by simpa using hl
      have hlr : (List.range m)[l] = l := List.getElem_range hl
      rw [hlr] at c9
      exact r_set c9 (d := .dc (tQ (tabF (keysB m ts) (fN m ts box (l + 1))))) (ev_fzX (em_mixed_letter (ev_var c9 rfl) (ev_var c9 rfl) (ev_var c9 rfl) ((hk.mix l (by omega)).2 hl'))) fun σ10 H10 e10 c10 => c10.le (.keep (.keep (.keep (.keep (.drop (.keep (.keep (.keep (.keep (.keep (.keep .nil)))))))))))
    · rw [List.length_range] at c9
      refine r_ret c9 (d := .lst (dQs (boxNums m ts box))) ((ev_fz (em_map c9 (xs := keysB m ts) (enc := D.key) (ei_list (ev_all_powers (ev_var c9 rfl) (by omega) (bits_mem hgb.1))) (fun k => dQ (fN m ts box m k)) _ (by decide) (fun e _ => eg_name)
        (fun k hk' Hs σ2 H2 c2 => (ev_xget (evx_D (ev_var c2 rfl)) (ev_var c2 rfl) (lk_val (by rw [tabF_keys]; exact hk'))).is (by rw [tabF_val hk'])) (by omega))).is ?_) kq
      rw [boxNums, dQs, List.map_map]; rfl
theorem ok_is_borne (F : FnP K "is_borne" st_is_borne f fd) (B : Bl mg) (T_NOUGHT_boxes : KtQ K mg "NOUGHT_boxes" 0) (C_box_numbers : Fc P w K mg base "box_numbers" 11 ["one", "box"] (sp_box_numbers K)) (C_beside : Fc P w K mg base "beside" 1 ["one", "other"] (sp_beside K)) : FnOk P w K mg base CX0 12 f fd ["one", "box"] (sp_is_borne K) := by
  refine F.ok sc_is_borne (pSp_len fun _ => rfl) (fun cdv A outer s H vs Q E hr h => ?_)
  obtain ⟨⟨m, ts, box⟩, hv, ⟨⟨a, b, hk⟩, h0⟩, kq⟩ := h
  obtain ⟨a_NOUGHT_boxes, g_NOUGHT_boxes, k0⟩ := T_NOUGHT_boxes
  have nd := sc_is_borne.nd
  have hk : BoxOk a b m ts box := hk
  have h0 : ∀ q ∈ boxNums m ts box, 0 ≤ q := h0
  have hln : (boxNums m ts box).length ≤ 8 := by rw [boxNums, List.length_map]; exact keysB_len hk.lk hk.m3
  have c : Cf K H H (L2.start N_is_borne vs) H [.d (dS m ts), .d (.lst (dBox box)), .no] [] := Cf.start hv rfl
  refine ⟨_, PSs.nox (pss_one (ps_ret (pe_cmpR op_ge (pe_callB (cr_min (by rfl)) (by rfl) B.min (by decide +kernel) (pa_cons (pe_fz (pe_lc (own := [("number", 2)]) (g := (gName 2)) (tt := tYes) (te := (tCall (sp_beside K) [] E0 (tCons (tVar 2) (tCons (tC (.ref a_NOUGHT_boxes)) tNil)))) (by rfl) nd (pi_list (pe_cc C_box_numbers hr (by decide) (by rfl) (pa_cons (pv 0) (pa_cons (pv 1) pa_nil)))) (blkOk_by (own := [("number", 2)]) (N := N_is_borne) (sc := defScope st_is_borne) (by decide +kernel)) (fun _ _ _ _ _ => (pg_name (i := 2) nd rfl (Or.inl rfl))) (fun _ _ _ _ _ => pts_nil) (fun _ _ _ _ _ => (pe_cc C_beside hr (by decide) (by rfl) (pa_cons (pv 2) (pa_cons (pe_glob (v := .ref a_NOUGHT_boxes) (by rfl) g_NOUGHT_boxes rfl) pa_nil)))))) pa_nil)) pe_int (nomark _)))), ?_⟩
  obtain ⟨mn, hmn, hlow⟩ := int_min ((boxNums m ts box).map fun q => sgn q 0) (by simpa using boxNums_ne hk)
  have h00 : 0 ≤ mn := by
    obtain ⟨q, hq, rfl⟩ := List.mem_map.mp hmn
    exact sgn_nn (h0 q hq)
  refine r_ret c (d := .bl true) ((ev_iB (ev_minL (ns := (boxNums m ts box).map fun q => sgn q 0) (m := mn) ((ev_fz (em_map c (xs := boxNums m ts box) (enc := dQ) (ei_list (ev_box_numbers (ev_var c rfl) (ev_var c rfl) hk)) (fun q => .int (sgn q 0)) _ (by decide) (fun e _ => eg_name)
    (fun q hq Hs σ2 H2 c2 => ev_bes (ev_var c2 rfl) (ev_cst (d := dQ 0) k0) (big_of (hk.numsz q hq) Sz.zero (by decide) (by decide))) (by omega))).is (by rw [List.map_map]; rfl)) hmn hlow) ev_int).is ?_) kq
  exact congrArg D.bl (decide_eq_true h00)
theorem ok_bears_tree (F : FnP K "bears_tree" st_bears_tree f fd) (B : Bl mg) (C_is_borne : Fc P w K mg base "is_borne" 12 ["one", "box"] (sp_is_borne K)) : FnOk P w K mg base CX0 13 f fd ["one", "box", "tree"] (sp_bears_tree K) := by
  refine F.ok sc_bears_tree (pSp_len fun _ => rfl) (fun cdv A outer s H vs Q E hr h => ?_)
  obtain ⟨⟨m, ts, box⟩, hv, ⟨⟨a, b, hk⟩, h0⟩, kq⟩ := h
  have nd := sc_bears_tree.nd
  have hk : BoxOk a b m ts box := hk
  have h0 : ∀ q ∈ boxNums m ts box, 0 ≤ q := h0
  have c : Cf K H H (L2.start N_bears_tree vs) H [.d (dS m ts), .d (.lst (dBox box)), .d (.str "all"), .no, .no, .no, .no, .no] [] := Cf.start hv rfl
  refine ⟨_, PSs.nox (pss_cons (ps_set (i := 3) nd rfl (Or.inl rfl) (pe_lst (pa_cons (pe_tup (pa_cons (pe_fz (pe_callTy call_list_of (by rfl) B.list (by decide +kernel) (pa_cons (pv 1) pa_nil))) (pa_cons (pv 2) pa_nil))) pa_nil)))
    (pss_cons (ps_while PassesOwn.never (pt_cmpR op_gt (pe_callB call_len_seq (by rfl) B.len (by decide +kernel) (pa_cons (pv 3) pa_nil)) pe_int (nomark _))
    (pss_cons (ps_asg (pe_bm0 PySem.F.plainAttrs_list PySem.F.slot_list_pop PySem.F.type_list_pop mt_pop (pv 3)) (pg_tup rfl (pgs_cons (pg_name (i := 4) nd rfl (Or.inl rfl)) (pgs_cons (pg_name (i := 5) nd rfl (Or.inl rfl)) pgs_nil))))
    (pss_one (ps_if (pt_cmpR op_eq (pv 5) pe_str (nomark _))
    (pss_one (ps_if (pt_not (pt_val (pe_cc C_is_borne hr (by decide) (by rfl) (pa_cons (pv 0) (pa_cons (pv 4) pa_nil)))))
    (pss_one (ps_ret pe_bl))
    pss_nil))
    (pss_cons ps_never
    (pss_cons (ps_expr (pe_bm PySem.F.plainAttrs_list PySem.F.slot_list_append PySem.F.type_list_append mt_append (pv 3) (pa_cons (pe_tup (pa_cons (pv 7) (pa_cons (pe_ix ix_tup (pv 5) pe_int (fun _ _ => rfl)) pa_nil))) pa_nil)))
    (pss_one (ps_expr (pe_bm PySem.F.plainAttrs_list PySem.F.slot_list_append PySem.F.type_list_append mt_append (pv 3) (pa_cons (pe_tup (pa_cons (pv 6) (pa_cons (pe_ix ix_tup (pv 5) pe_int (fun _ _ => rfl)) pa_nil))) pa_nil))))))))))
    (pss_one (ps_ret pe_bl)))), ?_⟩
  refine q_seq (r_setM c (m := .lst [.tup [.lst (dBox box), .str "all"]]) (em_lst (ea_cons (ev_tup (ea_cons (ev_fz (em_listL (ev_var c rfl))) (ea_cons (ev_var c rfl) ea_nil))) ea_nil)) fun p σ2 H2 e2 c2 => ?_)
  refine q_seq (r_while (fun n σ' H' => Cf K H H σ' H' [.d (dS m ts), .d (.lst (dBox box)), .d (.str "all"), .at p, .no, .no, .no, .no] [(p, .lst (List.replicate n (.tup [.lst (dBox box), .str "all"])))] ∧ n ≤ 1) 1 ⟨c2, Nat.le_refl _⟩ fun n σ' H' hw => ?_)
  obtain ⟨c3, hn⟩ := hw
  refine ⟨_, et_t (ev_iB (ev_lenM (k := 0) c3 rfl rfl) ev_int), fun ht H1 e => ?_, fun ht H1 e => ?_⟩
  · have hn1 : n = 1 := by
      have := of_decide_eq_true ht
      rw [List.length_replicate] at this
      omega
    subst hn1
    refine ⟨fun σ2 H2 => Cf K H H σ2 H2 [.d (dS m ts), .d (.lst (dBox box)), .d (.str "all"), .at p, .no, .no, .no, .no] [(p, .lst [])], fun σ2 H2 cc => ⟨0, by decide, cc, by decide⟩, ?_⟩
    have c4 := c3.ext e
    refine q_seq (r_pop (k := 0) (ds := []) (d := .tup [.lst (dBox box), .str "all"]) c4 rfl rfl (eg_tup (egs_cons eg_name (egs_cons eg_name egs_nil)) rfl) fun σ5 H5 c5 => ?_)
    refine r_if (b := true) c5 (et_t ((ev_eqS (ev_var c5 rfl) ev_str).is (congrArg D.bl (by decide)))) (fun _ H6 e6 c6 => ?_) (fun z => by cases z)
    refine r_if (b := false) c6 (et_not (a := true) (et_t (ev_is_borne (ev_var c6 rfl) (ev_var c6 rfl) hk h0))) (fun z => by cases z) fun _ H7 e7 c7 => c7.le (.keep (.keep (.keep (.keep (.drop (.drop (.keep (.keep .nil))))))))
  · have hn0 : n = 0 := by
      have := of_decide_eq_false ht
      rw [List.length_replicate] at this
      omega
    subst hn0
    have c4 := c3.ext e
    dsimp only
    refine r_ret (d := .bl true) c4 ev_bl ?_
    exact kq
end
end Lw
/-! Layers: corners, least_number, tree_of, raised, is_nearly_in, walked. -/
namespace Lw
open PySem PySem.Spec PyProof.Rows L2
abbrev st_corners : Stmt := top 46
abbrev N_corners : List Str := ["box", "found", "stretch", "longer", "corner", "end"]
theorem sc_corners : FnScope N_corners ["box"] (defScope st_corners) := ⟨rfl, rfl, rfl, by decide +kernel, rfl, by decide +kernel, by decide +kernel⟩

abbrev st_least_number : Stmt := top 47
abbrev N_least_number : List Str := ["some", "found", "number"]
theorem sc_least_number : FnScope N_least_number ["some"] (defScope st_least_number) := ⟨rfl, rfl, rfl, by decide +kernel, rfl, by decide +kernel, by decide +kernel⟩

abbrev st_tree_of : Stmt := top 49
abbrev N_tree_of : List Str := ["ways", "many", "known", "way", "length", "letter"]
theorem sc_tree_of : FnScope N_tree_of ["ways", "many"] (defScope st_tree_of) := ⟨rfl, rfl, rfl, by decide +kernel, rfl, by decide +kernel, by decide +kernel⟩

abbrev st_raised : Stmt := top 52
abbrev N_raised : List Str := ["one", "number"]
theorem sc_raised : FnScope N_raised ["one", "number"] (defScope st_raised) := ⟨rfl, rfl, rfl, by decide +kernel, rfl, by decide +kernel, by decide +kernel⟩

abbrev st_is_nearly_in : Stmt := top 53
abbrev N_is_nearly_in : List Str := ["one", "box", "gap", "told", "number", "spot", "tree", "place", "low", "high"]
theorem sc_is_nearly_in : FnScope N_is_nearly_in ["one", "box", "gap", "told"] (defScope st_is_nearly_in) := ⟨rfl, rfl, rfl, by decide +kernel, rfl, by decide +kernel, by decide +kernel⟩

def crnN (fs : List (List Rat)) (p : Rat × Rat) : List (List Rat) := fs.flatMap fun c => [c ++ [p.1], c ++ [p.2]]
def crn (box : Bx) : List (List Rat) := box.foldl crnN [[]]
abbrev dCs (cs : List (List Rat)) : List D := cs.map fun c => .ptup (dQs c)
abbrev sp_corners (K : PySem.W.Frag) : Sp := pSp K (fun p : Bx => [.lst (dBox p)]) (fun p => p.length ≤ 3) fun p => .lst (dCs (crn p))
def leastQ (qs : List Rat) : Rat := qs.foldl (fun f q => if q < f then q else f) (qs.headD 0)
abbrev sp_least_number (K : PySem.W.Frag) : Sp := pSp K (fun p : List Rat => [.lst (dQs p)]) (fun p => p ≠ [] ∧ SzL 4000 p) fun p => dQ (leastQ p)
abbrev sp_tree_of (K : PySem.W.Frag) : Sp := pSp K (fun m : Nat => [.lst [.ptup []], .int m]) (fun _ => True) fun _ => .str "all"
def raiseT (m : Nat) (ts : Ts) (q : Rat) : Ts := if q = 0 then ts else trm (addAll ts [(zK m, 0 - q)])
abbrev sp_raised (K : PySem.W.Frag) : Sp := pSp K (fun p : Nat × Ts × Rat => [dS p.1 p.2.1, dQ p.2.2]) (fun p => Sz 1400 p.2.2 ∧ 1 ≤ p.1 ∧ p.1 ≤ 60 ∧ PlusOk p.1 p.2.1 [(zK p.1, 0 - p.2.2)]) fun p => dS p.1 (raiseT p.1 p.2.1 p.2.2)
structure NearOk (m : Nat) (ts : Ts) (box : Bx) (gap number : Rat) (spot : List Rat) : Prop where
  zs : SzL 4000 spot
  zb : ∀ p ∈ box, Sz 4000 p.1 ∧ Sz 4000 p.2
  wok : ∃ a b, WorthOk a b ts spot
  zw : Sz 1900 (worthOf ts spot)
  zn : Sz 1400 number
  zg : Sz 4000 gap
  inb : ∀ i, i < (spot.zip box).length → ∀ e, (spot.zip box)[i]? = some e → e.2.1 ≤ e.1 ∧ e.1 ≤ e.2.2
  near : worthOf ts spot - number ≤ gap
  m1 : 1 ≤ m ∧ m ≤ 60
  pl : PlusOk m ts [(zK m, 0 - number)]
  bx : ∃ a b, BoxOk a b m (raiseT m ts number) box
  nn : ∀ q ∈ boxNums m (raiseT m ts number) box, 0 ≤ q
abbrev sp_is_nearly_in (K : PySem.W.Frag) : Sp := pSp K (fun p : Nat × Ts × Bx × Rat × Rat × List Rat => [dS p.1 p.2.1, .lst (dBox p.2.2.1), dQ p.2.2.2.1, .tup [dQ p.2.2.2.2.1, .ptup (dQs p.2.2.2.2.2), .str "all"]]) (fun p => NearOk p.1 p.2.1 p.2.2.1 p.2.2.2.1 p.2.2.2.2.1 p.2.2.2.2.2) fun _ => .bl true
section
variable {K : PySem.W.Frag} {σ : L2.St} {H : Hp} {ta tb tc td : TE}
theorem ev_corners {box : Bx} (ha : EvD K ta σ H (.lst (dBox box))) (h : box.length ≤ 3) : EvD K (tCall (sp_corners K) [] E0 (tCons ta tNil)) σ H (.lst (dCs (crn box))) :=
  ev_call (args := fun p : Bx => [.lst (dBox p)]) (pre := fun p => p.length ≤ 3) (res := fun p => .lst (dCs (crn p))) box (ea_cons ha ea_nil) h
theorem ev_least_number {qs : List Rat} (ha : EvD K ta σ H (.lst (dQs qs))) (h : qs ≠ []) (hz : SzL 4000 qs) : EvD K (tCall (sp_least_number K) [] E0 (tCons ta tNil)) σ H (dQ (leastQ qs)) :=
  ev_call (args := fun p : List Rat => [.lst (dQs p)]) (pre := fun p => p ≠ [] ∧ SzL 4000 p) (res := fun p => dQ (leastQ p)) qs (ea_cons ha ea_nil) ⟨h, hz⟩
theorem ev_tree_of {m : Nat} (ha : EvD K ta σ H (.lst [.ptup []])) (hb : EvD K tb σ H (.int m)) : EvD K (tCall (sp_tree_of K) [] E0 (tCons ta (tCons tb tNil))) σ H (.str "all") :=
  ev_call (args := fun m : Nat => [.lst [.ptup []], .int m]) (pre := fun _ => True) (res := fun _ => .str "all") m (ea_cons ha (ea_cons hb ea_nil)) trivial
theorem ev_raised {m : Nat} {ts : Ts} {q : Rat} (ha : EvD K ta σ H (dS m ts)) (hb : EvD K tb σ H (dQ q)) (h1 : Sz 1400 q) (h2 : 1 ≤ m) (h3 : m ≤ 60) (h4 : PlusOk m ts [(zK m, 0 - q)]) : EvD K (tCall (sp_raised K) [] E0 (tCons ta (tCons tb tNil))) σ H (dS m (raiseT m ts q)) :=
  ev_call (args := fun p : Nat × Ts × Rat => [dS p.1 p.2.1, dQ p.2.2]) (pre := fun p => Sz 1400 p.2.2 ∧ 1 ≤ p.1 ∧ p.1 ≤ 60 ∧ PlusOk p.1 p.2.1 [(zK p.1, 0 - p.2.2)]) (res := fun p => dS p.1 (raiseT p.1 p.2.1 p.2.2)) (m, ts, q) (ea_cons ha (ea_cons hb ea_nil)) ⟨h1, h2, h3, h4⟩
theorem ev_is_nearly_in {m : Nat} {ts : Ts} {box : Bx} {gap number : Rat} {spot : List Rat} (ha : EvD K ta σ H (dS m ts)) (hb : EvD K tb σ H (.lst (dBox box))) (hc : EvD K tc σ H (dQ gap)) (hd : EvD K td σ H (.tup [dQ number, .ptup (dQs spot), .str "all"])) (h : NearOk m ts box gap number spot) :
    EvD K (tCall (sp_is_nearly_in K) [] E0 (tCons ta (tCons tb (tCons tc (tCons td tNil))))) σ H (.bl true) :=
  ev_call (args := fun p : Nat × Ts × Bx × Rat × Rat × List Rat => [dS p.1 p.2.1, .lst (dBox p.2.2.1), dQ p.2.2.2.1, .tup [dQ p.2.2.2.2.1, .ptup (dQs p.2.2.2.2.2), .str "all"]]) (pre := fun p => NearOk p.1 p.2.1 p.2.2.1 p.2.2.2.1 p.2.2.2.2.1 p.2.2.2.2.2) (res := fun _ => .bl true) (m, ts, box, gap, number, spot) (ea_cons ha (ea_cons hb (ea_cons hc (ea_cons hd ea_nil)))) h
end
theorem crnN_len (fs : List (List Rat)) (p : Rat × Rat) : (crnN fs p).length = 2 * fs.length := by
  rw [crnN, List.length_flatMap]
  induction fs with
  | nil => rfl
  | cons x fs ih => rw [List.map_cons, List.sum_cons, ih, List.length_cons, List.length_cons, List.length_cons, List.length_nil]; omega
theorem crn_take (box : Bx) {i : Nat} (hi : i < box.length) : crn (box.take (i + 1)) = crnN (crn (box.take i)) box[i] := by
  rw [take_succ_get _ hi, crn, crn, List.foldl_append]; rfl
theorem crn_len (box : Bx) : ∀ i, i ≤ box.length → (crn (box.take i)).length = 2 ^ i
  | 0, _ => by simp [crn]
  | i + 1, hi => by rw [crn_take _ (by omega), crnN_len, crn_len box i (by omega), Nat.pow_succ]; omega
theorem crn_klen (box : Bx) : ∀ i, i ≤ box.length → ∀ c ∈ crn (box.take i), c.length = i
  | 0, _, c, hc => by simp [crn] at hc; simp [hc]
  | i + 1, hi, c, hc => by
    rw [crn_take _ (by omega)] at hc
    obtain ⟨x, hx, hc⟩ := List.mem_flatMap.mp hc
    have := crn_klen box i (by omega) x hx
    simp only [List.mem_cons, List.not_mem_nil, or_false] at hc
    rcases hc with rfl | rfl <;> rw [List.length_append, this] <;> rfl
theorem crnN_take (fs : List (List Rat)) (p : Rat × Rat) {i : Nat} (hi : i < fs.length) : crnN (fs.take (i + 1)) p = crnN (fs.take i) p ++ [fs[i] ++ [p.1], fs[i] ++ [p.2]] := by
  rw [take_succ_get _ hi, crnN, List.flatMap_append]
  simp [crnN]
theorem q_eq0 (q : Rat) : decide (q.num = (0 : Rat).num ∧ ((q.den : Nat) : Int) = ((0 : Rat).den : Nat)) = decide (q = 0) := by
  have := q_ne0 q
  by_cases h : q = 0
  · rw [decide_eq_true h]; subst h; rfl
  · rw [decide_eq_false h]
    exact decide_eq_false fun z => h (Rat.num_eq_zero.mp z.1)
section
variable {P : Program} {w : World} {K : PySem.W.Frag} {mg : Str → Option Value} {base : Heap} {f : Addr} {fd : FuncData}
theorem ok_corners (F : FnP K "corners" st_corners f fd) : FnOk P w K mg base CX0 1 f fd ["box"] (sp_corners K) := by
  refine F.ok sc_corners (pSp_len fun _ => rfl) (fun cdv A outer s H vs Q E hr h => ?_)
  obtain ⟨box, hv, h1, kq⟩ := h
  have nd := sc_corners.nd
  have h1 : box.length ≤ 3 := h1
  have c : Cf K H H (L2.start N_corners vs) H [.d (.lst (dBox box)), .no, .no, .no, .no, .no] [] := Cf.start hv rfl
  refine ⟨_, PSs.nox (pss_cons (ps_set (i := 1) nd rfl (Or.inl rfl) (pe_fz (pe_lst (pa_cons (pe_tupP pa_nil) pa_nil))))
    (pss_cons (ps_for PassesOwn.never rfl (pi_list (pv 0)) (pg_name (i := 2) nd rfl (Or.inl rfl))
    (pss_cons (ps_set (i := 3) nd rfl (Or.inl rfl) (pe_lst pa_nil))
    (pss_cons (ps_for PassesOwn.never rfl (pi_list (pv 1)) (pg_name (i := 4) nd rfl (Or.inr rfl))
    (pss_one (ps_expr (pe_bm PySem.F.plainAttrs_list PySem.F.slot_list_extend PySem.F.type_list_extend mt_extend (pv 3) (pa_cons (pe_lc (own := [("end", 5)]) (g := (gName 5)) (tt := tYes) (te := (tOp (rCatP K) (tVar 4) (tTupP (tCons (tVar 5) tNil)))) (by rfl) nd (pi_tup (pv 2)) (blkOk_by (own := [("end", 5)]) (N := N_corners) (sc := defScope st_corners) (by decide +kernel)) (fun _ _ _ _ _ => (pg_name (i := 5) nd rfl (Or.inl rfl))) (fun _ _ _ _ _ => pts_nil) (fun _ _ _ _ _ => (pe_op op_catP (pv 4) (pe_tupP (pa_cons (pv 5) pa_nil))))) pa_nil)))))
    (pss_one (ps_set (i := 1) nd rfl (Or.inl rfl) (pe_fz (pv 3)))))))
    (pss_one (ps_ret (pv 1))))), ?_⟩
  refine q_seq (r_set c (d := .lst (dCs [[]])) (ev_fz (em_lst (ea_cons (ev_tupP ea_nil) ea_nil))) fun σ2 H2 e2 c2 => ?_)
  refine q_seq (r_forM c2 (xs := box) (enc := fun p => .tup [dQ p.1, dQ p.2]) (ei_list (ev_var c2 rfl)) (fun i => [.d (.lst (dBox box)), .d (.lst (dCs (crn (box.take i)))), .no, .no, .no, .no]) (fun _ => []) (Le.refl _) rfl _
    (fun e _ => eg_name) (fun Hs i hi σ3 H3 c3 => ?_) fun σ3 H3 c3 => ?_)
  · have hal := crn_len box i (by omega)
    have h8 : 2 ^ i ≤ 2 ^ 3 := Nat.pow_le_pow_right (by decide) (by omega)
    refine q_seq (r_setM c3 (em_lst ea_nil) fun p σ4 H4 e4 c4 => ?_)
    refine q_seq (r_forM c4 (xs := crn (box.take i)) (enc := fun c => .ptup (dQs c)) (ei_list (ev_var c4 rfl)) (fun _ => [.d (.lst (dBox box)), .d (.lst (dCs (crn (box.take i)))), .d (.tup [dQ box[i].1, dQ box[i].2]), .at p, .no, .no]) (fun j => [(p, .lst (dCs (crnN ((crn (box.take i)).take j) box[i])))]) (Le.refl _) rfl _
      (fun e _ => eg_name) (fun Hs' j hj σ5 H5 c5 => ?_) fun σ5 H5 c5 => ?_)
    · have hkl := crn_klen box i (by omega) _ (List.getElem_mem hj)
      have htl : ((crn (box.take i)).take j).length ≤ 8 := Nat.le_trans (List.length_take_le' _ _) (by omega)
      refine r_ext (k := 0) (es := [.ptup (dQs ((crn (box.take i))[j] ++ [box[i].1])), .ptup (dQs ((crn (box.take i))[j] ++ [box[i].2]))]) c5 rfl rfl ((em_map c5 (xs := [box[i].1, box[i].2]) (enc := dQ) (ei_tup (ev_var c5 rfl)) (fun q => .ptup (dQs ((crn (box.take i))[j] ++ [q]))) _ (by decide) (fun e _ => eg_name)
        (fun q hq Hs σ2 H2 c2 => (ev_catP (ev_var c2 rfl) (ev_tupP (ea_cons (ev_var c2 rfl) ea_nil)) (by simp; omega)).is (by rw [dQs, dQs, List.map_append]; rfl)) (by simp))) (by rw [List.length_map, crnN_len]; simp; omega) fun H6 c6 => (c6.le (.keep (.keep (.keep (.keep (.drop (.keep .nil))))))).msE ?_
      rw [crnN_take _ _ hj, dCs, dCs, List.map_append]
      rfl
    · rw [List.take_length, ← crn_take _ hi] at c5
      refine r_setF (k := 0) c5 rfl rfl fun σ6 H6 c6 => (c6 : Cf _ _ _ _ _ [.d (.lst (dBox box)), .d (.lst (dCs (crn (box.take (i + 1))))), .d (.tup [dQ box[i].1, dQ box[i].2]), .at p, .no, .no] []).le (.keep (.keep (.drop (.drop (.keep (.keep .nil))))))
  · rw [List.take_length] at c3
    exact r_ret c3 (ev_var c3 rfl) kq
theorem ok_least_number (F : FnP K "least_number" st_least_number f fd) (C_beside : Fc P w K mg base "beside" 1 ["one", "other"] (sp_beside K)) : FnOk P w K mg base CX0 2 f fd ["some"] (sp_least_number K) := by
  refine F.ok sc_least_number (pSp_len fun _ => rfl) (fun cdv A outer s H vs Q E hr h => ?_)
  obtain ⟨qs, hv, ⟨h1, h2⟩, kq⟩ := h
  have nd := sc_least_number.nd
  have h1 : qs ≠ [] := h1
  have h2 : SzL 4000 qs := h2
  have c : Cf K H H (L2.start N_least_number vs) H [.d (.lst (dQs qs)), .no, .no] [] := Cf.start hv rfl
  refine ⟨_, PSs.nox (pss_cons (ps_set (i := 1) nd rfl (Or.inl rfl) (pe_ix ix_list (pv 0) pe_int (fun _ _ => rfl)))
    (pss_cons (ps_for PassesOwn.never rfl (pi_list (pv 0)) (pg_name (i := 2) nd rfl (Or.inl rfl))
    (pss_one (ps_if (pt_cmpR op_lt (pe_cc C_beside hr (by decide) (by rfl) (pa_cons (pv 2) (pa_cons (pv 1) pa_nil))) pe_int (nomark _))
    (pss_one (ps_set (i := 1) nd rfl (Or.inl rfl) (pv 2)))
    pss_nil)))
    (pss_one (ps_ret (pv 1))))), ?_⟩
  have hpos : 0 < qs.length := List.length_pos_iff.mpr h1
  have hfz : ∀ i, Sz 4000 ((qs.take i).foldl (fun f q => if q < f then q else f) (qs.headD 0)) := by
    have h0 : Sz 4000 (qs.headD 0) := by
      cases qs with
      | nil => exact absurd rfl h1
      | cons q qs => exact h2 q List.mem_cons_self
    have : ∀ (l : List Rat) (f : Rat), Sz 4000 f → (∀ q ∈ l, Sz 4000 q) → Sz 4000 (l.foldl (fun f q => if q < f then q else f) f) := by
      intro l
      induction l with
      | nil => intro f h _; exact h
      | cons x l ih =>
        intro f hf hl
        rw [List.foldl_cons]
        refine ih _ ?_ fun q hq => hl q (List.mem_cons_of_mem _ hq)
        split
        · exact hl x List.mem_cons_self
        · exact hf
    exact fun i => this _ _ h0 fun q hq => h2 q (List.mem_of_mem_take hq)
  refine q_seq (r_set c (ev_ixL (ev_var c rfl) ev_int (d := dQ (qs.headD 0)) ?_) fun σ2 H2 e2 c2 => ?_)
  · refine atI_nat (j := 0) ?_
    cases qs with
    | nil => exact absurd rfl h1
    | cons q qs => rfl
  refine q_seq (r_forM c2 (xs := qs) (enc := dQ) (ei_list (ev_var c2 rfl)) (fun i => [.d (.lst (dQs qs)), .d (dQ ((qs.take i).foldl (fun f q => if q < f then q else f) (qs.headD 0))), .no]) (fun _ => []) (Le.refl _) rfl _
    (fun e _ => eg_name) (fun Hs i hi σ3 H3 c3 => ?_) fun σ3 H3 c3 => ?_)
  · have e1 : (qs.take (i + 1)).foldl (fun f q => if q < f then q else f) (qs.headD 0) = if qs[i] < (qs.take i).foldl (fun f q => if q < f then q else f) (qs.headD 0) then qs[i] else (qs.take i).foldl (fun f q => if q < f then q else f) (qs.headD 0) := by rw [take_succ_get _ hi, List.foldl_append]; rfl
    refine r_if (b := decide (qs[i] < (qs.take i).foldl (fun f q => if q < f then q else f) (qs.headD 0))) c3 ((et_t (ev_iB (ev_bes (ev_var c3 rfl) (ev_var c3 rfl) (big_of (h2 _ (List.getElem_mem hi)) (hfz i) (by decide) (by decide))) ev_int)).is (decide_eq_decide.mpr sgn_neg)) (fun z H4 e4 c4 => ?_) fun z H4 e4 c4 => ?_
    · refine r_set c4 (ev_var c4 rfl) fun σ5 H5 e5 c5 => ?_
      rw [e1, if_pos (of_decide_eq_true z)]
      exact c5.le (.keep (.keep (.drop .nil)))
    · rw [e1, if_neg (of_decide_eq_false z)]
      exact c4.le (.keep (.keep (.drop .nil)))
  · rw [List.take_length] at c3
    exact r_ret c3 (ev_var c3 rfl) kq
theorem ok_tree_of (F : FnP K "tree_of" st_tree_of f fd) (B : Bl mg) : FnOk P w K mg base CX0 1 f fd ["ways", "many"] (sp_tree_of K) := by
  refine F.ok sc_tree_of (pSp_len fun _ => rfl) (fun cdv A outer s H vs Q E hr h => ?_)
  obtain ⟨m, hv, _, kq⟩ := h
  have nd := sc_tree_of.nd
  have c : Cf K H H (L2.start N_tree_of vs) H [.d (.lst [.ptup []]), .d (.int m), .no, .no, .no, .no] [] := Cf.start hv rfl
  refine ⟨_, PSs.nox (pss_cons (ps_set (i := 2) nd rfl (Or.inl rfl) (pe_fz (pe_callTy (call_dictX (by rfl) (by exact hu2_of hr)) (by rfl) B.dict (by decide +kernel) (pa_cons (pe_fz (pe_lc (own := [("way", 3)]) (g := (gName 3)) (tt := tYes) (te := (tTup (tCons (tVar 3) (tCons (tC (.str "all")) tNil)))) (by rfl) nd (pi_list (pv 0)) (blkOk_by (own := [("way", 3)]) (N := N_tree_of) (sc := defScope st_tree_of) (by decide +kernel)) (fun _ _ _ _ _ => (pg_name (i := 3) nd rfl (Or.inl rfl))) (fun _ _ _ _ _ => pts_nil) (fun _ _ _ _ _ => (pe_tup (pa_cons (pv 3) (pa_cons pe_str pa_nil)))))) pa_nil))))
    (pss_cons (ps_for PassesOwn.never rfl (pi_range3 (by rfl) B.range (pa_cons (pe_callB (cr_max (by rfl)) (by rfl) B.max (by decide +kernel) (pa_cons (pe_fz (pe_lc (own := [("way", 3)]) (g := (gName 3)) (tt := tYes) (te := (tCB (rLenQ K) (tCons (tVar 3) tNil))) (by rfl) nd (pi_list (pv 0)) (blkOk_by (own := [("way", 3)]) (N := N_tree_of) (sc := defScope st_tree_of) (by decide +kernel)) (fun _ _ _ _ _ => (pg_name (i := 3) nd rfl (Or.inl rfl))) (fun _ _ _ _ _ => pts_nil) (fun _ _ _ _ _ => (pe_callB call_len_seq (by rfl) B.len (by decide +kernel) (pa_cons (pv 3) pa_nil))))) pa_nil)) (pa_cons pe_int (pa_cons (pe_un un_neg pe_int) pa_nil)))) (pg_name (i := 4) nd rfl (Or.inl rfl))
    (pss_cons (ps_set (i := 5) nd rfl (Or.inl rfl) (pe_op op_mod (pe_op op_sub (pv 4) pe_int) (pv 1)))
    (pss_one ps_never)))
    (pss_one (ps_ret (pe_xget (by exact hu_of hr) (pv 2) (pe_tupP pa_nil) (fun _ _ => rfl)))))), ?_⟩
  refine q_seq (r_set c (d := .dc [(([] : List Int), .str "all")]) (ev_fzX (em_dictL (t := [(([] : List Int), D.str "all")]) (ev_fz (em_map c (xs := [()]) (enc := fun _ => .ptup []) (ei_list (ev_var c rfl)) (fun _ => .tup [.key [], .str "all"]) _ (by decide) (fun e _ => eg_name)
    (fun q hq Hs σ2 H2 c2 => ev_tup (ea_cons (ev_var c2 rfl) (ea_cons ev_str ea_nil))) (by decide))))) fun σ2 H2 e2 c2 => ?_)
  refine q_seq (r_forM c2 (xs := ([] : List Nat)) (enc := fun i => .int (i : Nat)) ((ei_rng3 (m := 0) (n := 0) (ea_cons (ev_maxL (ns := [0]) (m := 0) (ev_fz (em_map c2 (xs := [()]) (enc := fun _ => .ptup []) (ei_list (ev_var c2 rfl)) (fun _ => .int 0) _ (by decide) (fun e _ => eg_name)
    (fun q hq Hs σ2 H2 c2 => (ev_lenT (ds := []) (ev_pt (ev_var c2 rfl))).is rfl) (by decide))) (by decide) (by decide)) (ea_cons ev_int (ea_cons (ev_neg ev_int) ea_nil))) ⟨by decide, by decide, by decide, by decide⟩).is rfl) (fun _ => [.d (.lst [.ptup []]), .d (.int m), .d (.dc [(([] : List Int), .str "all")]), .no, .no, .no]) (fun _ => []) (Le.refl _) rfl _
    (fun e _ => eg_name) (fun Hs i hi σ3 H3 c3 => absurd hi (by simp)) fun σ3 H3 c3 => ?_)
  exact r_ret c3 (d := .str "all") (ev_xget (k := []) (evx_D (ev_var c3 rfl)) (ev_tupP ea_nil) rfl) kq
theorem ok_raised (F : FnP K "raised" st_raised f fd) (B : Bl mg) (T_NOUGHT_layers : KtQ K mg "NOUGHT_layers" 0) (C_less : Fc P w K mg base "less" 3 ["one", "other"] (sp_less K)) (C_plus : Fc P w K mg base "plus" 4 ["one", "other"] (sp_plus K)) : FnOk P w K mg base CX0 5 f fd ["one", "number"] (sp_raised K) := by
  refine F.ok sc_raised (pSp_len fun _ => rfl) (fun cdv A outer s H vs Q E hr h => ?_)
  obtain ⟨⟨m, ts, q⟩, hv, ⟨h1, h2, h3, h4⟩, kq⟩ := h
  obtain ⟨a_NOUGHT_layers, g_NOUGHT_layers, k0⟩ := T_NOUGHT_layers
  have nd := sc_raised.nd
  have h1 : Sz 1400 q := h1
  have h2 : 1 ≤ m := h2
  have h3 : m ≤ 60 := h3
  have h4 : PlusOk m ts [(zK m, 0 - q)] := h4
  have c : Cf K H H (L2.start N_raised vs) H [.d (dS m ts), .d (dQ q)] [] := Cf.start hv rfl
  refine ⟨_, PSs.nox (pss_cons (ps_if (pt_cmpR (op_eqD (by exact hu64_of hr)) (pv 1) (pe_glob (v := .ref a_NOUGHT_layers) (by rfl) g_NOUGHT_layers rfl) (nomark _))
    (pss_one (ps_ret (pv 0)))
    pss_nil)
    (pss_one (ps_ret (pe_cc C_plus hr (by decide) (by rfl) (pa_cons (pv 0) (pa_cons (pe_tup (pa_cons (pe_ix ix_tup (pv 0) pe_int (fun _ _ => rfl)) (pa_cons (pe_tupP (pa_cons (pe_tup (pa_cons (pe_op op_repP (pe_tupP (pa_cons pe_int pa_nil)) (pe_ix ix_tup (pv 0) pe_int (fun _ _ => rfl))) (pa_cons (pe_cc C_less hr (by decide) (by rfl) (pa_cons (pe_glob (v := .ref a_NOUGHT_layers) (by rfl) g_NOUGHT_layers rfl) (pa_cons (pv 1) pa_nil))) pa_nil))) pa_nil)) pa_nil))) pa_nil)))))), ?_⟩
  refine q_seq (r_if (b := decide (q = 0)) c ((et_B (ev_eqII (ev_var c rfl) (ev_cst (d := dQ 0) k0))).is (q_eq0 q)) (fun z H2 e2 c2 => ?_) fun z H2 e2 c2 => ?_)
  · refine r_ret c2 (d := dS m (raiseT m ts q)) ((ev_var c2 rfl).is ?_) kq
    rw [raiseT, if_pos (of_decide_eq_true z)]
  · refine r_ret c2 (d := dS m (raiseT m ts q)) ((ev_plus (ev_var c2 rfl) (b := [(zK m, 0 - q)]) (ev_tup (ea_cons (ev_ixT (ev_var c2 rfl) ev_int rfl) (ea_cons (ev_tupP (ea_cons (ev_tup (ea_cons ((ev_repP (ev_tupP (ea_cons ev_int ea_nil)) (ev_ixT (ev_var c2 rfl) ev_int rfl) (by simp) (by omega) (by omega) (by simp)).is (d2 := .key (zK m)) ?_) (ea_cons (ev_sub (ev_cst (d := dQ 0) k0) (ev_var c2 rfl) (big_of Sz.zero h1 (by decide) (by decide))) ea_nil))) ea_nil)) ea_nil))) h4).is ?_) kq
    · rw [D.key, rep_zero]
    · rw [raiseT, if_neg (of_decide_eq_false z)]
theorem ok_is_nearly_in (F : FnP K "is_nearly_in" st_is_nearly_in f fd) (B : Bl mg) (C_less : Fc P w K mg base "less" 3 ["one", "other"] (sp_less K)) (C_beside : Fc P w K mg base "beside" 1 ["one", "other"] (sp_beside K)) (C_worth : Fc P w K mg base "worth" 5 ["one", "spot"] (sp_worth K)) (C_raised : Fc P w K mg base "raised" 5 ["one", "number"] (sp_raised K))
    (C_bears_tree : Fc P w K mg base "bears_tree" 13 ["one", "box", "tree"] (sp_bears_tree K)) : FnOk P w K mg base CX0 14 f fd ["one", "box", "gap", "told"] (sp_is_nearly_in K) := by
  refine F.ok sc_is_nearly_in (pSp_len fun _ => rfl) (fun cdv A outer s H vs Q E hr h => ?_)
  obtain ⟨⟨m, ts, box, gap, number, spot⟩, hv, hk, kq⟩ := h
  have nd := sc_is_nearly_in.nd
  have hk : NearOk m ts box gap number spot := hk
  have c : Cf K H H (L2.start N_is_nearly_in vs) H [.d (dS m ts), .d (.lst (dBox box)), .d (dQ gap), .d (.tup [dQ number, .ptup (dQs spot), .str "all"]), .no, .no, .no, .no, .no, .no] [] := Cf.start hv rfl
  refine ⟨_, PSs.nox (pss_cons (ps_asg (pv 3) (pg_tup rfl (pgs_cons (pg_name (i := 4) nd rfl (Or.inl rfl)) (pgs_cons (pg_name (i := 5) nd rfl (Or.inl rfl)) (pgs_cons (pg_name (i := 6) nd rfl (Or.inl rfl)) pgs_nil)))))
    (pss_cons (ps_for PassesOwn.never rfl (pi_zipM (by rfl) B.zip (pa_cons (pv 5) (pa_cons (pv 1) pa_nil))) (pg_tup rfl (pgs_cons (pg_name (i := 7) nd rfl (Or.inl rfl)) (pgs_cons (pg_tup rfl (pgs_cons (pg_name (i := 8) nd rfl (Or.inl rfl)) (pgs_cons (pg_name (i := 9) nd rfl (Or.inl rfl)) pgs_nil))) pgs_nil)))
    (pss_one (ps_if (PW.pt (pw_or (pt_cmpR op_lt (pe_cc C_beside hr (by decide) (by rfl) (pa_cons (pv 7) (pa_cons (pv 8) pa_nil))) pe_int (nomark _)) (pw_or1 (pt_cmpR op_lt (pe_cc C_beside hr (by decide) (by rfl) (pa_cons (pv 9) (pa_cons (pv 7) pa_nil))) pe_int (nomark _)))))
    (pss_one (ps_ret pe_bl))
    pss_nil)))
    (pss_cons (ps_if (pt_cmpR op_gt (pe_cc C_beside hr (by decide) (by rfl) (pa_cons (pe_cc C_less hr (by decide) (by rfl) (pa_cons (pe_cc C_worth hr (by decide) (by rfl) (pa_cons (pv 0) (pa_cons (pv 5) pa_nil))) (pa_cons (pv 4) pa_nil))) (pa_cons (pv 2) pa_nil))) pe_int (nomark _))
    (pss_one (ps_ret pe_bl))
    pss_nil)
    (pss_one (ps_ret (pe_cc C_bears_tree hr (by decide) (by rfl) (pa_cons (pe_cc C_raised hr (by decide) (by rfl) (pa_cons (pv 0) (pa_cons (pv 4) pa_nil))) (pa_cons (pv 1) (pa_cons (pv 6) pa_nil))))))))), ?_⟩
  obtain ⟨wa, wb, hw⟩ := hk.wok
  obtain ⟨ba, bb, hb⟩ := hk.bx
  refine q_seq (r_asg c (ev_var c rfl) (eg_tup (egs_cons eg_name (egs_cons eg_name (egs_cons eg_name egs_nil))) rfl) fun σ2 H2 e2 c2 => ?_)
  refine q_seq (r_forM c2 (xs := spot.zip box) (enc := fun e => .tup [dQ e.1, .tup [dQ e.2.1, dQ e.2.2]]) ((ei_zipTL (ev_pt (ev_var c2 rfl)) (ev_var c2 rfl)).is (zipD_zip _ _ _ _)) (fun _ => [.d (dS m ts), .d (.lst (dBox box)), .d (dQ gap), .d (.tup [dQ number, .ptup (dQs spot), .str "all"]), .d (dQ number), .d (.ptup (dQs spot)), .d (.str "all"), .no, .no, .no]) (fun _ => []) (Le.refl _) rfl _
    (fun e _ => eg_tup (egs_cons eg_name (egs_cons (eg_tup (egs_cons eg_name (egs_cons eg_name egs_nil)) rfl) egs_nil)) rfl) (fun Hs i hi σ3 H3 c3 => ?_) fun σ3 H3 c3 => ?_)
  · have hm := List.of_mem_zip (List.getElem_mem hi)
    obtain ⟨z1, z2⟩ := hk.zb _ hm.2
    have zz := hk.zs _ hm.1
    obtain ⟨i1, i2⟩ := hk.inb i hi _ (List.getElem?_eq_getElem hi)
    refine r_if (b := false) c3 ((et_or (et_t (ev_iB (ev_bes (ev_var c3 rfl) (ev_var c3 rfl) (big_of zz z1 (by decide) (by decide))) ev_int)) fun _ => et_t (ev_iB (ev_bes (ev_var c3 rfl) (ev_var c3 rfl) (big_of z2 zz (by decide) (by decide))) ev_int)).is ?_) (fun z => by cases z) fun _ H4 e4 c4 => c4.le (.keep (.keep (.keep (.keep (.keep (.keep (.keep (.drop (.drop (.drop .nil))))))))))
    exact Bool.or_eq_false_iff.mpr ⟨decide_eq_false fun z => Rat.not_lt.mpr i1 (sgn_neg.mp z), decide_eq_false fun z => Rat.not_lt.mpr i2 (sgn_neg.mp z)⟩
  · refine q_seq (r_if (b := false) c3 ((et_t (ev_iB (ev_bes (ev_sub (ev_worth (ev_var c3 rfl) (ev_var c3 rfl) hw) (ev_var c3 rfl) (big_of hk.zw hk.zn (by decide) (by decide))) (ev_var c3 rfl) (big_of (hk.zw.sub hk.zn) hk.zg (by decide) (by decide))) ev_int)).is ?_) (fun z => by cases z) fun _ H4 e4 c4 => ?_)
    · exact decide_eq_false fun z => Rat.not_lt.mpr hk.near (sgn_pos.mp z)
    · exact r_ret (d := .bl true) c4 (ev_bears_tree (ev_raised (ev_var c4 rfl) (ev_var c4 rfl) hk.zn hk.m1.1 hk.m1.2 hk.pl) (ev_var c4 rfl) (ev_var c4 rfl) hb hk.nn) kq
end
end Lw
/-! The class Layers: __init__, lowest (no spot told), keep (all boxes done), walked. -/
namespace Lw
open PySem PySem.Spec PyProof.Rows L2
abbrev st_Layers___init__ : Stmt := inClass (top 48) 0
abbrev N_Layers___init__ : List Str := ["self", "one", "box", "limit"]
theorem sc_Layers___init__ : FnScope N_Layers___init__ ["self", "one", "box", "limit"] (defScope st_Layers___init__) := ⟨rfl, rfl, rfl, by decide +kernel, rfl, by decide +kernel, by decide +kernel⟩

abbrev st_Layers_lowest : Stmt := inClass (top 48) 1
abbrev N_Layers_lowest : List Str := ["self", "spot", "box", "way", "corner"]
theorem sc_Layers_lowest : FnScope N_Layers_lowest ["self", "spot"] (defScope st_Layers_lowest) := ⟨rfl, rfl, rfl, by decide +kernel, rfl, by decide +kernel, by decide +kernel⟩

/-- a statement, some thing known for good behind it -/
def tFzA (t : TS) : TS := fun D σ H => t { D with nx := fun σ' H' => ∃ a u, H' a = some u ∧ Mut (some u) ∧ ∀ o, D.nx σ' (upd H' a (.frz o u)) } σ H
theorem ps_fzA {X : Cx} {st : Stmt} {t : TS} (h : PS X st t) : PS X st (tFzA t) := by
  refine ⟨fun pins s σ H D I hw => ?_⟩
  refine thn (h.run pins s σ H _ I hw) fun f s1 q => ?_
  cases f with
  | next =>
    obtain ⟨σ', H', I', a, u, h1, mu, q⟩ := q
    obtain ⟨od, I2⟩ := I'.lock h1 mu
    exact ⟨σ', _, I2, q od⟩
  | ret v => exact q
  | brk => exact q
  | cont => exact q
theorem n1 : ¬ ("one" : Str) = "limit" := by decide +kernel
theorem n2 : ¬ ("one" : Str) = "left" := by decide +kernel
theorem n3 : ¬ ("one" : Str) = "done" := by decide +kernel
theorem n4 : ¬ ("one" : Str) = "depth" := by decide +kernel
theorem n5 : ¬ ("limit" : Str) = "left" := by decide +kernel
theorem n6 : ¬ ("limit" : Str) = "done" := by decide +kernel
theorem n7 : ¬ ("limit" : Str) = "depth" := by decide +kernel
theorem n8 : ¬ ("left" : Str) = "done" := by decide +kernel
theorem n9 : ¬ ("left" : Str) = "depth" := by decide +kernel
theorem n10 : ¬ ("done" : Str) = "depth" := by decide +kernel
def fsL (a b c d : V) : List (Str × V) := putF "depth" (.int 1) (putF "done" d (putF "left" c (putF "limit" b (putF "one" a []))))
theorem fsL_eq (a b c d : V) : fsL a b c d = ([("one", a), ("limit", b), ("left", c), ("done", d), ("depth", .int 1)] : List (Str × V)) := by
  simp only [fsL, putF, n1, n2, n3, n4, n5, n6, n7, n8, n9, n10, if_false]
theorem fsL_left (a b c d e : V) : putF "left" e (fsL a b c d) = fsL a b e d := by
  rw [fsL_eq, fsL_eq]
  simp only [putF, n2, n5, if_false, if_true]
theorem fsL_len (a b c d : V) : (fsL a b c d).length < 1000 := by rw [fsL_eq]; show 5 < 1000; decide
theorem look_one (a b c d : V) : (fsL a b c d).lookup ("one" : Str) = some a := by
  unfold fsL
  rw [lookup_putF, if_neg n4, lookup_putF, if_neg n3, lookup_putF, if_neg n2, lookup_putF, if_neg n1, lookup_putF, if_pos rfl]
theorem look_left (a b c d : V) : (fsL a b c d).lookup ("left" : Str) = some c := by
  unfold fsL
  rw [lookup_putF, if_neg n9, lookup_putF, if_neg n8, lookup_putF, if_pos rfl]
theorem look_done (a b c d : V) : (fsL a b c d).lookup ("done" : Str) = some d := by
  unfold fsL
  rw [lookup_putF, if_neg n10, lookup_putF, if_pos rfl]
theorem look_no (a b c d : V) {m : Str} (h1 : ¬ m = "depth") (h2 : ¬ m = "done") (h3 : ¬ m = "left") (h4 : ¬ m = "limit") (h5 : ¬ m = "one") : (fsL a b c d).lookup m = none := by
  unfold fsL
  rw [lookup_putF, if_neg h1, lookup_putF, if_neg h2, lookup_putF, if_neg h3, lookup_putF, if_neg h4, lookup_putF, if_neg h5]
  rfl
structure LayC (K : PySem.W.Frag) (C : Addr) : Prop where
  cl : Cls K C
  one : NoAttr K C "one"
  limit : NoAttr K C "limit"
  left : NoAttr K C "left"
  done : NoAttr K C "done"
  depth : NoAttr K C "depth"
abbrev dOne (box : Bx) : D := .tup [.lst (dBox box), .ptup []]
def lowStep (ts : Ts) (o : Option (List Rat)) (c : List Rat) : Option (List Rat) := match o with
  | none => some c
  | some s => if worthOf ts c < worthOf ts s then some c else some s
def lowC (ts : Ts) (cs : List (List Rat)) : Option (List Rat) := cs.foldl (lowStep ts) none
def dSp : Option (List Rat) → D
  | none => .non
  | some s => .ptup (dQs s)
def CrnOk (ts : Ts) (box : Bx) : Prop := box.length ≤ 3 ∧ ∀ c ∈ crn box, (∃ a b, WorthOk a b ts c) ∧ Sz 4000 (worthOf ts c)
def spInit (K : PySem.W.Frag) (C : Addr) : Sp := fun vs H Q _ => ∃ (x dx : Addr) (v1 v2 v3 : V) (m : Nat) (ts : Ts) (box : Bx), vs = [.ref x, v1, v2, v3] ∧ H x = some (.ins C dx []) ∧ Rep K H (dS m ts) v1 ∧ Rep K H (.lst (dBox box)) v2 ∧ Rep K H (.int 20) v3 ∧
  ∀ (H' : Hp) (vl : V) (q : Addr), (∀ a o, a ≠ x → H a = some o → H' a = some o) → H' x = some (.ins C dx (fsL v1 v3 vl (.ref q))) → Rep K H' (.lst [dOne box]) vl → H q = none → H' q = some (.lst []) → Q .non H'
def spLowest (K : PySem.W.Frag) (C : Addr) : Sp := fun vs H Q _ => ∃ (x dx : Addr) (v1 v2 v3 v4 : V) (m : Nat) (ts : Ts) (box : Bx), vs = [.ref x, .non] ∧ H x = some (.ins C dx (fsL v1 v2 v3 v4)) ∧ Rep K H (dS m ts) v1 ∧ Rep K H (.lst [dOne box]) v3 ∧ CrnOk ts box ∧
  ∀ v H', Same H H' → Rep K H' (dSp (lowC ts (crn box))) v → Q v H'
abbrev dDone (q : Rat) : D := .tup [.ptup [], dQ q]
def spKeep (K : PySem.W.Frag) (C : Addr) : Sp := fun vs H Q _ => ∃ (x dx q : Addr) (v1 v2 v3 vb : V) (m a b : Nat) (ts : Ts) (box : Bx) (bar : Rat), vs = [.ref x, vb] ∧ H x = some (.ins C dx (fsL v1 v2 v3 (.ref q))) ∧ H q = some (.lst []) ∧ Rep K H (dS m ts) v1 ∧ Rep K H (.lst [dOne box]) v3 ∧ Rep K H (dQ bar) vb ∧
  BoxOk a b m ts box ∧ Sz 4000 (leastQ (boxNums m ts box)) ∧ Sz 4000 bar ∧ bar ≤ leastQ (boxNums m ts box) ∧
  ∀ (H' : Hp) (vl : V), (∀ a o, a ≠ x → a ≠ q → H a = some o → H' a = some o) → H' x = some (.ins C dx (fsL v1 v2 vl (.ref q))) → Rep K H' (.lst []) vl → Rep K H' (.lst [dDone (leastQ (boxNums m ts box))]) (.ref q) → Q .non H'
section
variable {K : PySem.W.Frag} {σ : L2.St} {H H0 Hb : Hp} {Γ : List G} {ms : List (Addr × Mo)} {Dn : Ends} {te : TE} {d : D}
theorem ev_fld {n : Nat} {x C dx : Addr} {fs : List (Str × V)} {g : Str} {v : V} (c : Cf K H0 Hb σ H Γ ms) (hn : Γ[n]? = some (.at x)) (hx : H x = some (.ins C dx fs)) (cl : Cls K C) (na : NoAttr K C g) (hl : fs.lookup g = some v) (r : Rep K H d v) : EvD K (tFld K (tVar n) g) σ H d :=
  fun H1 e Q q => ⟨.ref x, c.st.ref hn, x, C, dx, fs, v, rfl, e _ _ hx, cl, na, hl, q v H1 (Same.refl H1) (r.mono (imm_same e))⟩
theorem r_sfld {n : Nat} {x C dx : Addr} {fs : List (Str × V)} {g : Str} (c : Cf K H0 Hb σ H Γ ms) (hn : Γ[n]? = some (.at x)) (h : EvD K te σ H d) (hx : H x = some (.ins C dx fs)) (cl : Cls K C) (na : NoAttr K C g) (hl : fs.length < 1000)
    (q : ∀ v H', Same H H' → Rep K H' d v → H' x = some (.ins C dx fs) → Dn.nx σ (upd H' x (.ins C dx (putF g v fs)))) : sFld K (tVar n) te g Dn σ H :=
  h H (Same.refl H) _ fun v H2 e r => ⟨.ref x, c.st.ref hn, x, C, dx, fs, rfl, e _ _ hx, cl, na, hl, q v H2 e r (e _ _ hx)⟩
theorem r_sfldM {n : Nat} {x C dx : Addr} {fs : List (Str × V)} {g : Str} {m : Mo} (c : Cf K H0 Hb σ H Γ ms) (hn : Γ[n]? = some (.at x)) (h : EvM K te σ H m) (hx : H x = some (.ins C dx fs)) (cl : Cls K C) (na : NoAttr K C g) (hl : fs.length < 1000)
    (q : ∀ p H', Same H H' → H p = none → MoOk K H' p m → H' x = some (.ins C dx fs) → Dn.nx σ (upd H' x (.ins C dx (putF g (.ref p) fs)))) : sFld K (tVar n) te g Dn σ H :=
  h H (Same.refl H) _ fun p H2 e hp hm => ⟨.ref x, c.st.ref hn, x, C, dx, fs, rfl, e _ _ hx, cl, na, hl, q p H2 e hp hm (e _ _ hx)⟩
theorem imm_cut {H : Hp} {S : Addr → Prop} [DecidablePred S] (h : ∀ a, S a → ∃ u, H a = some u ∧ Mut (some u)) : Imm H (fun b => if S b then none else H b) := by
  refine ⟨fun a xs e => ?_, fun a o u e => ?_⟩
  · by_cases z : S a
    · obtain ⟨u, h1, h2⟩ := h a z
      rw [e] at h1; cases h1; cases h2
    · simp only [if_neg z]; exact e
  · by_cases z : S a
    · obtain ⟨u, h1, h2⟩ := h a z
      rw [e] at h1; cases h1; cases h2
    · simp only [if_neg z]; exact e
end
section
variable {P : Program} {w : World} {K : PySem.W.Frag} {mg : Str → Option Value} {base : Heap} {f C : Addr} {fd : FuncData}
abbrev FnM (K : PySem.W.Frag) (x q : Str) (st : Stmt) (f : Addr) (fd : FuncData) : Prop := FunD K x q (defArgs st) (defBody st) (defScope st) [] [] f fd
theorem ok_init (F : FnM K "__init__" "Layers.__init__" st_Layers___init__ f fd) (T : LayC K C) (B : Bl mg) : FnOk P w K mg base CX0 1 f fd ["self", "one", "box", "limit"] (spInit K C) := by
  refine F.ok sc_Layers___init__ (fun vs H Q E h => by obtain ⟨_, _, _, _, _, _, _, _, rfl, _⟩ := h; rfl) (fun cdv A outer s H vs Q E hr h => ?_)
  obtain ⟨x, dx, v1, v2, v3, m, ts, box, rfl, hx, r1, r2, r3, kq⟩ := h
  have nd := sc_Layers___init__.nd
  have c : Cf K (fun b => if b = x then none else H b) H (L2.start N_Layers___init__ [.ref x, v1, v2, v3]) H [.at x, .d (dS m ts), .d (.lst (dBox box)), .d (.int 20)] [(x, .raw (.ins C dx []))] := by
    refine ⟨fun b o hb => ?_, Imm.refl H, ?_, fun p hp => ?_, by simp⟩
    · by_cases z : b = x
      · rw [if_pos z] at hb; cases hb
      · rw [if_neg z] at hb; exact hb
    · exact .cons rfl (.cons ⟨v1, rfl, r1⟩ (.cons ⟨v2, rfl, r2⟩ (.cons ⟨v3, rfl, r3⟩ .nil)))
    · rw [List.mem_singleton.mp hp]
      exact ⟨if_pos rfl, hx⟩
  refine ⟨_, PSs.nox (pss_cons (ps_fld (pv 0) (pv 1) rfl)
    (pss_cons (ps_fld (pv 0) (pv 3) rfl)
    (pss_cons (ps_fld (pv 0) (pe_fz (pe_lst (pa_cons (pe_tup (pa_cons (pe_fz (pe_callTy call_list_of (by rfl) B.list (by decide +kernel) (pa_cons (pv 2) pa_nil))) (pa_cons (pe_tupP pa_nil) pa_nil))) pa_nil))) rfl)
    (pss_cons (ps_fld (pv 0) (pe_lst pa_nil) rfl)
    (pss_one (ps_fld (pv 0) pe_int rfl)))))), ?_⟩
  refine ⟨v1, rfl, .ref x, rfl, x, C, dx, [], rfl, hx, T.cl, T.one, (by show 0 < 1000; decide), ?_⟩
  have c1 := c.chg (m' := .raw (.ins C dx (putF "one" v1 []))) (o' := .ins C dx (putF "one" v1 [])) 0 rfl (by rw [hx]; trivial) upd_same
  refine ⟨v3, rfl, .ref x, rfl, x, C, dx, _, rfl, upd_same, T.cl, T.limit, (by show 1 < 1000; decide), ?_⟩
  have c2 := c1.chg (m' := .raw (.ins C dx (putF "limit" v3 (putF "one" v1 [])))) (o' := .ins C dx (putF "limit" v3 (putF "one" v1 []))) 0 rfl (by rw [upd_same]; trivial) upd_same
  refine q_seq (r_sfld (n := 0) c2 rfl (ev_fz (em_lst (ea_cons (ev_tup (ea_cons (ev_fz (em_listL (ev_var (n := 2) c2 rfl))) (ea_cons (ev_tupP ea_nil) ea_nil))) ea_nil))) upd_same T.cl T.left (by simp only [putF, n1, if_false]; simp) fun vl H3 e3 r3' hx3 => ?_)
  have c3 := c2.ext e3
  have c4 := c3.chg (m' := .raw (.ins C dx (putF "left" vl (putF "limit" v3 (putF "one" v1 []))))) (o' := .ins C dx (putF "left" vl (putF "limit" v3 (putF "one" v1 [])))) 0 rfl (by rw [hx3]; trivial) upd_same
  have rl4 := r3'.mono (imm_upd (a := x) (o := .ins C dx (putF "left" vl (putF "limit" v3 (putF "one" v1 [])))) (.inl (by rw [hx3]; trivial)))
  refine q_seq (r_sfldM (n := 0) c4 rfl (em_lst (K := K) ea_nil) upd_same T.cl T.done (by simp only [putF, n1, n2, n5, if_false]; simp) fun q H5 e5 hq hm hx5 => ?_)
  obtain ⟨vs5, hq5, hr5⟩ := hm
  have c5 := (c4.more (m := .lst []) e5 hq ⟨vs5, hq5, hr5⟩)
  have hvs := repL_nil.mp hr5
  subst hvs
  have rl5 := rl4.mono (imm_same e5)
  have c6 := c5.chg (m' := .raw (.ins C dx (putF "done" (.ref q) (putF "left" vl (putF "limit" v3 (putF "one" v1 [])))))) (o' := .ins C dx (putF "done" (.ref q) (putF "left" vl (putF "limit" v3 (putF "one" v1 []))))) 1 rfl (by rw [hx5]; trivial) upd_same
  have rl6 := rl5.mono (imm_upd (a := x) (o := .ins C dx (putF "done" (.ref q) (putF "left" vl (putF "limit" v3 (putF "one" v1 []))))) (.inl (by rw [hx5]; trivial)))
  refine ⟨.ref x, rfl, x, C, dx, _, rfl, upd_same, T.cl, T.depth, (by simp only [putF, n1, n2, n3, n5, n6, n8, if_false]; simp), ?_⟩
  have c7 := c6.chg (m' := .raw (.ins C dx (fsL v1 v3 vl (.ref q)))) (o' := .ins C dx (fsL v1 v3 vl (.ref q))) 1 rfl (by rw [upd_same]; trivial) upd_same
  have rl7 := rl6.mono (imm_upd (a := x) (o := .ins C dx (fsL v1 v3 vl (.ref q))) (.inl (by rw [upd_same]; trivial)))
  have hq7 := c7.mu (q, .lst []) List.mem_cons_self
  obtain ⟨vs7, h7, r7⟩ := hq7.2
  have hvs7 := repL_nil.mp r7
  subst hvs7
  have hqx : q ≠ x := fun z => by rw [z, upd_same] at hq; cases hq
  refine kq _ vl q (fun a o ha ho => c7.same a o (by simp only [if_neg ha]; exact ho)) upd_same rl7 ?_ h7
  have := hq7.1
  simpa [hqx] using this
theorem lowC_take (ts : Ts) (cs : List (List Rat)) {i : Nat} (hi : i < cs.length) : lowC ts (cs.take (i + 1)) = lowStep ts (lowC ts (cs.take i)) cs[i] := by
  rw [take_succ_get _ hi, lowC, lowC, List.foldl_append]; rfl
theorem lowC_mem (ts : Ts) : ∀ (cs : List (List Rat)) {s : List Rat}, lowC ts cs = some s → s ∈ cs := by
  have : ∀ (cs : List (List Rat)) (o : Option (List Rat)) {s : List Rat}, cs.foldl (lowStep ts) o = some s → s ∈ cs ∨ o = some s := by
    intro cs
    induction cs with
    | nil => intro o s h; exact .inr h
    | cons c cs ih =>
      intro o s h
      rw [List.foldl_cons] at h
      rcases ih _ h with h1 | h1
      · exact .inl (List.mem_cons_of_mem _ h1)
      · unfold lowStep at h1
        cases o with
        | none => cases h1; exact .inl List.mem_cons_self
        | some t =>
          simp only at h1
          split at h1
          · cases h1; exact .inl List.mem_cons_self
          · exact .inr h1
  intro cs s h
  rcases this cs none h with h | h
  · exact h
  · cases h
theorem ok_lowest (F : FnM K "lowest" "Layers.lowest" st_Layers_lowest f fd) (T : LayC K C) (B : Bl mg) (C_corners : Fc P w K mg base "corners" 1 ["box"] (sp_corners K)) (C_beside : Fc P w K mg base "beside" 1 ["one", "other"] (sp_beside K)) (C_worth : Fc P w K mg base "worth" 5 ["one", "spot"] (sp_worth K)) : FnOk P w K mg base CX0 6 f fd ["self", "spot"] (spLowest K C) := by
  refine F.ok sc_Layers_lowest (fun vs H Q E h => by obtain ⟨_, _, _, _, _, _, _, _, _, rfl, _⟩ := h; rfl) (fun cdv A outer s H vs Q E hr h => ?_)
  obtain ⟨x, dx, v1, v2, v3, v4, m, ts, box, rfl, hx, r1, r3, ⟨hb3, hc⟩, kq⟩ := h
  have nd := sc_Layers_lowest.nd
  have c : Cf K H H (L2.start N_Layers_lowest [.ref x, .non]) H [.at x, .d .non, .no, .no, .no] [] := by
    refine ⟨Same.refl H, Imm.refl H, ?_, (fun p hp => by cases hp), List.nodup_nil⟩
    exact .cons rfl (.cons ⟨.non, rfl, rep_non.mpr rfl⟩ (.cons trivial (.cons trivial (.cons trivial .nil))))
  refine ⟨_, PSs.nox (pss_cons (ps_for PassesOwn.never rfl (pi_list (pe_fld (pv 0) rfl)) (pg_tup rfl (pgs_cons (pg_name (i := 2) nd rfl (Or.inl rfl)) (pgs_cons (pg_name (i := 3) nd rfl (Or.inl rfl)) pgs_nil)))
    (pss_one (ps_for PassesOwn.never rfl (pi_list (pe_cc C_corners hr (by decide) (by rfl) (pa_cons (pv 2) pa_nil))) (pg_name (i := 4) nd rfl (Or.inl rfl))
    (pss_one (ps_if (PW.pt (pw_or (pt_cmpR op_isN1 (pv 1) pe_non (nomark _)) (pw_or1 (pt_cmpR op_lt (pe_cc C_beside hr (by decide) (by rfl) (pa_cons (pe_cc C_worth hr (by decide) (by rfl) (pa_cons (pe_fld (pv 0) rfl) (pa_cons (pv 4) pa_nil))) (pa_cons (pe_cc C_worth hr (by decide) (by rfl) (pa_cons (pe_fld (pv 0) rfl) (pa_cons (pv 1) pa_nil))) pa_nil))) pe_int (nomark _)))))
    (pss_one (ps_set (i := 1) nd rfl (Or.inl rfl) (pv 4)))
    pss_nil)))))
    (pss_one (ps_ret (pv 1)))), ?_⟩
  refine q_seq (r_forM c (xs := [()]) (enc := fun _ => dOne box) (ei_list (ev_fld c rfl hx T.cl T.left (look_left _ _ _ _) r3)) (fun i => [.at x, .d (dSp (if i = 0 then none else lowC ts (crn box))), .no, .no, .no]) (fun _ => []) (Le.refl _) rfl _
    (fun e _ => eg_tup (egs_cons eg_name (egs_cons eg_name egs_nil)) rfl) (fun Hs i hi σ3 H3 c3 => ?_) fun σ3 H3 c3 => ?_)
  · have hi0 : i = 0 := by simpa using hi
    subst hi0
    refine r_forM c3 (xs := crn box) (enc := fun c => .ptup (dQs c)) (ei_list (ev_corners (ev_var c3 rfl) hb3)) (fun j => [.at x, .d (dSp (lowC ts ((crn box).take j))), .d (.lst (dBox box)), .d (.ptup []), .no]) (fun _ => []) (Le.refl _) rfl _
      (fun e _ => eg_name) (fun Hs' j hj σ4 H4 c4 => ?_) fun σ4 H4 c4 => ?_
    · obtain ⟨⟨wa, wb, hw⟩, hz⟩ := hc _ (List.getElem_mem hj)
      have r14 := r1.mono (imm_same c4.same)
      have hx4 := c4.same _ _ hx
      cases ho : lowC ts ((crn box).take j) with
      | none =>
        rw [ho] at c4
        refine r_if (b := true) c4 (et_or (a := true) (b := true) (et_t (ev_noN (ev_var c4 rfl))) (fun z => by cases z)) (fun _ H5 e5 c5 => ?_) (fun z => by cases z)
        refine r_set c5 (ev_var c5 rfl) fun σ6 H6 e6 c6 => ?_
        rw [lowC_take _ _ hj, ho]
        exact c6.le (.keep (.keep (.keep (.keep (.drop .nil)))))
      | some t =>
        rw [ho] at c4
        obtain ⟨⟨wa', wb', hw'⟩, hz'⟩ := hc t (List.mem_of_mem_take (lowC_mem ts _ ho))
        refine r_if (b := decide (worthOf ts (crn box)[j] < worthOf ts t)) c4 ((et_or (a := false) (et_t (ev_noP (ev_var c4 rfl))) fun _ => et_t (ev_iB (ev_bes (ev_worth (ev_fld c4 rfl hx4 T.cl T.one (look_one _ _ _ _) r14) (ev_var c4 rfl) hw) (ev_worth (ev_fld c4 rfl hx4 T.cl T.one (look_one _ _ _ _) r14) (ev_var c4 rfl) hw') ⟨hz, hz'⟩) ev_int)).is ?_) (fun z H5 e5 c5 => ?_) fun z H5 e5 c5 => ?_
        · exact decide_eq_decide.mpr sgn_neg
        · refine r_set c5 (ev_var c5 rfl) fun σ6 H6 e6 c6 => ?_
          rw [lowC_take _ _ hj, ho, lowStep]
          simp only
          rw [if_pos (of_decide_eq_true z)]
          exact c6.le (.keep (.keep (.keep (.keep (.drop .nil)))))
        · rw [lowC_take _ _ hj, ho, lowStep]
          simp only
          rw [if_neg (of_decide_eq_false z)]
          exact c5.le (.keep (.keep (.keep (.keep (.drop .nil)))))
    · rw [List.take_length] at c4
      exact c4.le (.keep (.keep (.drop (.drop (.keep .nil)))))
  · exact r_ret c3 (d := dSp (lowC ts (crn box))) (ev_var c3 rfl) kq
end
end Lw
/-! Layers.keep, never_in, nearly_in, walked: one layer. -/
namespace Lw
open PySem PySem.Spec PyProof.Rows L2
abbrev st_Layers_keep : Stmt := inClass (top 48) 2
abbrev N_Layers_keep : List Str := ["self", "bar", "again", "box", "way", "some"]
theorem sc_Layers_keep : FnScope N_Layers_keep ["self", "bar"] (defScope st_Layers_keep) := ⟨rfl, rfl, rfl, by decide +kernel, rfl, by decide +kernel, by decide +kernel⟩

section
variable {K : PySem.W.Frag} {σ : L2.St} {H H' H0 Hb : Hp} {Γ : List G} {ms : List (Addr × Mo)} {Dn : Ends} {te ta tb tc : TE} {d : D} {ds : List D}
theorem r_appF {n k : Nat} {x C dx q : Addr} {fs : List (Str × V)} {g : Str} (c : Cf K H0 Hb σ H Γ ms) (hn : Γ[n]? = some (.at x)) (hx : H x = some (.ins C dx fs)) (cl : Cls K C) (na : NoAttr K C g) (hl : fs.lookup g = some (.ref q)) (hk : ms[k]? = some (q, .lst ds)) (h : EvD K te σ H d) (hz : ds.length < 1000000)
    (qq : ∀ H', Cf K H0 Hb σ H' Γ (ms.set k (q, .lst (ds ++ [d]))) → Dn.nx σ H') : tDrop (tBM K "list" rAppend (tFld K (tVar n) g) (tCons te tNil)) Dn σ H := by
  obtain ⟨h0, vs, h1, h2⟩ := c.mu _ (List.mem_of_getElem? hk)
  refine ⟨.ref x, c.st.ref hn, x, C, dx, fs, .ref q, rfl, hx, cl, na, hl, .inl ⟨rfl, vs, .of h1⟩, h H (Same.refl H) _ fun v H2 e r => ?_⟩
  have h1' := e _ _ h1
  refine ⟨q, vs, v, rfl, rfl, h1', sz_lt (by rw [← repL_len h2]; exact hz), qq _ ?_⟩
  have im : Imm H2 (upd H2 q (.lst (vs ++ [v]))) := imm_upd (.inl (by rw [h1']; trivial))
  exact (c.ext e).chg k hk (by rw [h1']; trivial) ⟨_, upd_same, repL_app (h2.mono ((imm_same e).trans im)) (repL_one (r.mono im))⟩
theorem r_fldF {n r : Nat} {x C dx p : Addr} {fs : List (Str × V)} {g : Str} (c : Cf K H0 Hb σ H Γ ((p, .lst ds) :: (x, .raw (.ins C dx fs)) :: ms)) (hn : Γ[n]? = some (.at x)) (hr : Γ[r]? = some (.at p)) (cl : Cls K C) (na : NoAttr K C g) (hl : fs.length < 1000)
    (q : ∀ H', Rep K H' (.lst ds) (.ref p) → Cf K H0 Hb σ H' Γ ((x, .raw (.ins C dx (putF g (.ref p) fs))) :: ms) → Dn.nx σ H') : sFld K (tVar n) (tFz (tVar r)) g Dn σ H := by
  obtain ⟨h0, vs, h1, h2⟩ := c.mu (p, .lst ds) List.mem_cons_self
  have hx : H x = some (.ins C dx fs) := (c.mu (x, .raw (.ins C dx fs)) (by simp)).2
  have hpx : x ≠ p := fun z => by rw [z, h1] at hx; cases hx
  refine ⟨.ref p, c.st.ref hr, p, _, rfl, h1, trivial, fun o => ?_⟩
  have c1 := c.frz (o := o) 0 rfl h1 trivial
  have r1 : Rep K (upd H p (.frz o (.lst vs))) (.lst ds) (.ref p) := rep_lst.mpr ⟨p, vs, o, rfl, upd_same, h2.mono (imm_upd (.inl (by rw [h1]; trivial)))⟩
  have hx1 : upd H p (.frz o (.lst vs)) x = some (.ins C dx fs) := by rw [upd_ne hpx]; exact hx
  refine ⟨.ref x, c.st.ref hn, x, C, dx, fs, rfl, hx1, cl, na, hl, q _ (r1.mono (imm_upd (.inl (by rw [hx1]; trivial)))) ?_⟩
  exact c1.chg (m' := .raw (.ins C dx (putF g (.ref p) fs))) (o' := .ins C dx (putF g (.ref p) fs)) 0 rfl (by rw [hx1]; trivial) upd_same
theorem Cf.more2 {p q : Addr} {m m' : Mo} (c : Cf K H0 Hb σ H Γ ms) (e : Same H H') (hp : H p = none) (hq : H q = none) (hpq : p ≠ q) (h1 : MoOk K H' p m) (h2 : MoOk K H' q m') : Cf K H0 Hb σ H' Γ ((p, m) :: (q, m') :: ms) := by
  have c2 := c.more e hq h2
  refine ⟨c2.same, c2.imm, c2.st, fun z hz => ?_, ?_⟩
  · rcases List.mem_cons.mp hz with rfl | hz
    · exact ⟨c.same.free hp, h1⟩
    · exact c2.mu z hz
  · rw [List.map_cons, List.nodup_cons]
    refine ⟨fun hm => ?_, c2.nd⟩
    rw [List.map_cons] at hm
    rcases List.mem_cons.mp hm with z | z
    · exact hpq z
    · obtain ⟨y, hy, e1⟩ := List.mem_map.mp z
      obtain ⟨o, ho⟩ := (c.mu y hy).2.some
      rw [e1] at ho
      have : H p = some o := ho
      rw [hp] at this; cases this
theorem r_make {n m : Nat} {ts : Ts} {box : Bx} {C : Addr} (c : Cf K H0 Hb σ H Γ ms) (ha : EvD K ta σ H (dS m ts)) (hb : EvD K tb σ H (.lst (dBox box))) (hc : EvD K tc σ H (.int 20))
    (q : ∀ (x q dx : Addr) (v1 v3 vl : V) σ' H', Cf K H0 Hb σ' H' (Γ.set n (.at x)) ((x, .raw (.ins C dx (fsL v1 v3 vl (.ref q)))) :: (q, .lst []) :: ms) → Rep K H' (.lst [dOne box]) vl → Rep K H' (dS m ts) v1 → Dn.nx σ' H') : tAsg (tMake C (spInit K C) [] E0 (tCons ta (tCons tb (tCons tc tNil)))) (gName n) Dn σ H := by
    show tCons ta (tCons tb (tCons tc tNil)) σ H fun vs H1 => ∀ x dx, H1 x = none → H1 dx = none → dx ≠ x → spInit K C (.ref x :: (vs ++ [])) (upd (upd H1 dx (.own x)) x (.ins C dx [])) (fun v H2 => v = .non ∧ Dn.nx (σ.set n (some (.ref x))) H2) E0
    refine (ea_cons ha (ea_cons hb (ea_cons hc ea_nil))) H (Same.refl H) _ fun vs H2 e2 r => ?_
    obtain ⟨v1, s1, rfl, r1, r⟩ := repL_cons.mp r
    obtain ⟨v2, s2, rfl, r2, r⟩ := repL_cons.mp r
    obtain ⟨v3, s3, rfl, r3, r⟩ := repL_cons.mp r
    have := repL_nil.mp r
    subst this
    intro x dx hx hdx hne
    have s23 : Same H2 (upd (upd H2 dx (.own x)) x (.ins C dx [])) := fun a o h => by rw [upd_ne (ne_of_none h hx), upd_ne (ne_of_none h hdx)]; exact h
    refine ⟨x, dx, v1, v2, v3, m, ts, box, rfl, upd_same, r1.mono (imm_same s23), r2.mono (imm_same s23), r3.mono (imm_same s23), fun H' vl p hs hx' rl hp hp' => ⟨rfl, ?_⟩⟩
    have s2' : Same H2 H' := fun a o h => hs a o (ne_of_none h hx) (s23 _ _ h)
    have hpx : p ≠ x := fun z => by rw [z, upd_same] at hp; cases hp
    have hpd : p ≠ dx := fun z => by rw [z, upd_ne hne, upd_same] at hp; cases hp
    have hp2 : H2 p = none := by rw [upd_ne hpx, upd_ne hpd] at hp; exact hp
    have c2 := (c.ext e2).more2 (p := x) (q := p) (m := .raw (.ins C dx (fsL v1 v3 vl (.ref p)))) (m' := .lst []) s2' hx hp2 hpx.symm hx' ⟨[], hp', repL_nil.mpr rfl⟩
    exact q x p dx v1 v3 vl _ _ (c2.setAt n x) rl (r1.mono (imm_same s2'))
theorem nl1 : ¬ ("lowest" : Str) = "depth" := by decide +kernel
theorem nl2 : ¬ ("lowest" : Str) = "done" := by decide +kernel
theorem nl3 : ¬ ("lowest" : Str) = "left" := by decide +kernel
theorem nl4 : ¬ ("lowest" : Str) = "limit" := by decide +kernel
theorem nl5 : ¬ ("lowest" : Str) = "one" := by decide +kernel
theorem nk1 : ¬ ("keep" : Str) = "depth" := by decide +kernel
theorem nk2 : ¬ ("keep" : Str) = "done" := by decide +kernel
theorem nk3 : ¬ ("keep" : Str) = "left" := by decide +kernel
theorem nk4 : ¬ ("keep" : Str) = "limit" := by decide +kernel
theorem nk5 : ¬ ("keep" : Str) = "one" := by decide +kernel
theorem ev_lowest {n m : Nat} {ts : Ts} {box : Bx} {C x dx : Addr} {v1 v2 v3 v4 : V} (c : Cf K H0 Hb σ H Γ ms) (hn : Γ[n]? = some (.at x)) (hx : H x = some (.ins C dx (fsL v1 v2 v3 v4))) (r1 : Rep K H (dS m ts) v1) (r3 : Rep K H (.lst [dOne box]) v3) (hc : CrnOk ts box) (h : EvD K te σ H .non) :
    EvD K (tMeth C "lowest" (spLowest K C) [] E0 (tVar n) (tCons te tNil)) σ H (dSp (lowC ts (crn box))) := fun H1 e Q q =>
  ⟨.ref x, c.st.ref hn, x, dx, _, rfl, e _ _ hx, look_no _ _ _ _ nl1 nl2 nl3 nl4 nl5, h H1 e _ fun v H2 e2 rv => by
    rw [rep_non.mp rv]
    exact ⟨x, dx, v1, v2, v3, v4, m, ts, box, rfl, e2 _ _ (e _ _ hx), r1.mono (imm_same (e.trans e2)), r3.mono (imm_same (e.trans e2)), hc, fun v H3 e3 r => q v H3 (e2.trans e3) r⟩⟩
theorem r_keep {n m a b : Nat} {ts : Ts} {box : Bx} {bar : Rat} {C x dx p : Addr} {v1 v2 v3 : V} (c : Cf K H0 Hb σ H Γ [(x, .raw (.ins C dx (fsL v1 v2 v3 (.ref p)))), (p, .lst [])]) (hn : Γ[n]? = some (.at x)) (r1 : Rep K H (dS m ts) v1) (r3 : Rep K H (.lst [dOne box]) v3) (h : EvD K te σ H (dQ bar))
    (hb : BoxOk a b m ts box) (z1 : Sz 4000 (leastQ (boxNums m ts box))) (z2 : Sz 4000 bar) (hle : bar ≤ leastQ (boxNums m ts box))
    (q : ∀ H' vl, Cf K H0 Hb σ H' Γ [] → H' x = some (.ins C dx (fsL v1 v2 vl (.ref p))) → Rep K H' (.lst []) vl → Rep K H' (.lst [dDone (leastQ (boxNums m ts box))]) (.ref p) → Dn.nx σ H') : tDrop (tMeth C "keep" (spKeep K C) [] E0 (tVar n) (tCons te tNil)) Dn σ H := by
  obtain ⟨hx0, hx⟩ := c.mu (x, .raw (.ins C dx (fsL v1 v2 v3 (.ref p)))) List.mem_cons_self
  obtain ⟨hp0, vs, hp, hvs⟩ := c.mu (p, .lst []) (by simp)
  have := repL_nil.mp hvs
  subst this
  have hx : H x = some (.ins C dx (fsL v1 v2 v3 (.ref p))) := hx
  refine ⟨.ref x, c.st.ref hn, x, dx, _, rfl, hx, look_no _ _ _ _ nk1 nk2 nk3 nk4 nk5, h H (Same.refl H) _ fun v H2 e2 rv => ?_⟩
  refine ⟨x, dx, p, v1, v2, v3, v, m, a, b, ts, box, bar, rfl, e2 _ _ hx, e2 _ _ hp, r1.mono (imm_same e2), r3.mono (imm_same e2), rv, hb, z1, z2, hle, fun H' vl hs hx' rl rd => ?_⟩
  have c2 := c.ext e2
  have im : Imm H2 H' := by
    refine ⟨fun a xs e => hs a _ (fun z => ?_) (fun z => ?_) e, fun a o u e => hs a _ (fun z => ?_) (fun z => ?_) e⟩
    · rw [z, e2 _ _ hx] at e; cases e
    · rw [z, e2 _ _ hp] at e; cases e
    · rw [z, e2 _ _ hx] at e; cases e
    · rw [z, e2 _ _ hp] at e; cases e
  refine q H' vl ⟨fun a o ha => hs a o (fun z => ?_) (fun z => ?_) (c2.same _ _ ha), c2.imm.trans im, c2.st.mono im, (fun y hy => by cases hy), List.nodup_nil⟩ hx' rl rd
  · rw [z] at ha
    have : H0 x = none := hx0
    rw [this] at ha; cases ha
  · rw [z] at ha
    have : H0 p = none := hp0
    rw [this] at ha; cases ha
end
section
variable {P : Program} {w : World} {K : PySem.W.Frag} {mg : Str → Option Value} {base : Heap} {f C : Addr} {fd : FuncData}
theorem ok_keep (F : FnM K "keep" "Layers.keep" st_Layers_keep f fd) (T : LayC K C) (B : Bl mg) (C_least_number : Fc P w K mg base "least_number" 2 ["some"] (sp_least_number K)) (C_beside : Fc P w K mg base "beside" 1 ["one", "other"] (sp_beside K)) (C_box_numbers : Fc P w K mg base "box_numbers" 11 ["one", "box"] (sp_box_numbers K)) : FnOk P w K mg base CX0 12 f fd ["self", "bar"] (spKeep K C) := by
  refine F.ok sc_Layers_keep (fun vs H Q E h => by obtain ⟨_, _, _, _, _, _, _, _, _, _, _, _, _, rfl, _⟩ := h; rfl) (fun cdv A outer s H vs Q E hr h => ?_)
  obtain ⟨x, dx, q, v1, v2, v3, vb, m, a, b, ts, box, bar, rfl, hx, hq, r1, r3, rb, hb, z1, z2, hle, kq⟩ := h
  have nd := sc_Layers_keep.nd
  have hxq : x ≠ q := fun z => by rw [z, hq] at hx; cases hx
  have i0 : Imm H (fun y => if y = x ∨ y = q then none else H y) := imm_cut (S := fun y => y = x ∨ y = q) fun y hy => by
    rcases hy with rfl | rfl
    · exact ⟨_, hx, trivial⟩
    · exact ⟨_, hq, trivial⟩
  have c : Cf K (fun y => if y = x ∨ y = q then none else H y) H (L2.start N_Layers_keep [.ref x, vb]) H [.at x, .d (dQ bar), .no, .no, .no, .no] [(x, .raw (.ins C dx (fsL v1 v2 v3 (.ref q)))), (q, .lst [])] := by
    refine ⟨fun y o hy => ?_, Imm.refl H, ?_, fun p hp => ?_, by simp [hxq]⟩
    · by_cases z : y = x ∨ y = q
      · rw [if_pos z] at hy; cases hy
      · rw [if_neg z] at hy; exact hy
    · exact .cons rfl (.cons ⟨vb, rfl, rb⟩ (.cons trivial (.cons trivial (.cons trivial (.cons trivial .nil)))))
    · rcases List.mem_cons.mp hp with rfl | hp
      · exact ⟨if_pos (.inl rfl), hx⟩
      · rw [List.mem_singleton.mp hp]
        exact ⟨if_pos (.inr rfl), [], hq, repL_nil.mpr rfl⟩
  have r10 := r1.mono i0
  refine ⟨_, PSs.nox (pss_cons (ps_set (i := 2) nd rfl (Or.inl rfl) (pe_lst pa_nil))
    (pss_cons (ps_for PassesOwn.never rfl (pi_list (pe_fld (pv 0) rfl)) (pg_tup rfl (pgs_cons (pg_name (i := 3) nd rfl (Or.inl rfl)) (pgs_cons (pg_name (i := 4) nd rfl (Or.inl rfl)) pgs_nil)))
    (pss_cons (ps_set (i := 5) nd rfl (Or.inl rfl) (pe_cc C_least_number hr (by decide) (by rfl) (pa_cons (pe_cc C_box_numbers hr (by decide) (by rfl) (pa_cons (pe_fld (pv 0) rfl) (pa_cons (pv 3) pa_nil))) pa_nil)))
    (pss_one (ps_if (pt_cmpR op_lt (pe_cc C_beside hr (by decide) (by rfl) (pa_cons (pv 5) (pa_cons (pv 1) pa_nil))) pe_int (nomark _))
    (pss_one (ps_expr (pe_bm PySem.F.plainAttrs_list PySem.F.slot_list_append PySem.F.type_list_append mt_append (pv 2) (pa_cons (pe_tup (pa_cons (pv 3) (pa_cons (pv 4) pa_nil))) pa_nil))))
    (pss_one (ps_expr (pe_bm PySem.F.plainAttrs_list PySem.F.slot_list_append PySem.F.type_list_append mt_append (pe_fld (pv 0) rfl) (pa_cons (pe_tup (pa_cons (pv 4) (pa_cons (pv 5) pa_nil))) pa_nil))))))))
    (pss_one (ps_fzA (ps_fld (pv 0) (pe_fz (pv 2)) rfl))))), ?_⟩
  refine q_seq (r_setM c (em_lst (K := K) ea_nil) fun p σ2 H2 e2 c2 => ?_)
  have hx2 : H2 x = some (.ins C dx (fsL v1 v2 v3 (.ref q))) := (c2.mu (x, .raw (.ins C dx (fsL v1 v2 v3 (.ref q)))) (by simp)).2
  refine q_seq (r_forM c2 (xs := [()]) (enc := fun _ => dOne box) (ei_list (ev_fld c2 rfl hx2 T.cl T.left (look_left _ _ _ _) (r3.mono c2.imm))) (fun _ => [.at x, .d (dQ bar), .at p, .no, .no, .no]) (fun i => [(p, .lst []), (x, .raw (.ins C dx (fsL v1 v2 v3 (.ref q)))), (q, .lst (if i = 0 then [] else [dDone (leastQ (boxNums m ts box))]))]) (Le.refl _) rfl _
    (fun e _ => eg_tup (egs_cons eg_name (egs_cons eg_name egs_nil)) rfl) (fun Hs i hi σ3 H3 c3 => ?_) fun σ3 H3 c3 => ?_)
  · have hi0 : i = 0 := by simpa using hi
    subst hi0
    have hx3 : H3 x = some (.ins C dx (fsL v1 v2 v3 (.ref q))) := (c3.mu (x, .raw (.ins C dx (fsL v1 v2 v3 (.ref q)))) (by simp)).2
    have r13 := r10.mono (imm_same c3.same)
    refine q_seq (r_set c3 (d := dQ (leastQ (boxNums m ts box))) (ev_least_number (ev_box_numbers (ev_fld c3 rfl hx3 T.cl T.one (look_one _ _ _ _) r13) (ev_var c3 rfl) hb) (boxNums_ne hb) fun y hy => (hb.numsz y hy).mono (by decide)) fun σ4 H4 e4 c4 => ?_)
    refine r_if (b := false) c4 ((et_t (ev_iB (ev_bes (ev_var c4 rfl) (ev_var c4 rfl) ⟨z1, z2⟩) ev_int)).is (decide_eq_false fun z => Rat.not_lt.mpr hle (sgn_neg.mp z))) (fun z => by cases z) fun _ H5 e5 c5 => ?_
    have hx5 : H5 x = some (.ins C dx (fsL v1 v2 v3 (.ref q))) := (c5.mu (x, .raw (.ins C dx (fsL v1 v2 v3 (.ref q)))) (by simp)).2
    refine r_appF (k := 2) (ds := []) c5 rfl hx5 T.cl T.done (look_done _ _ _ _) rfl (ev_tup (ea_cons (ev_var c5 rfl) (ea_cons (ev_var c5 rfl) ea_nil))) (by decide) fun H6 c6 => ?_
    exact c6.le (.keep (.keep (.keep (.drop (.drop (.drop .nil))))))
  · refine r_fldF c3 rfl rfl T.cl T.left (fsL_len _ _ _ _) fun H4 rl c4 => ?_
    have hx4 : H4 x = some (.ins C dx (putF "left" (.ref p) (fsL v1 v2 v3 (.ref q)))) := (c4.mu (x, .raw (.ins C dx (putF "left" (.ref p) (fsL v1 v2 v3 (.ref q))))) (by simp)).2
    obtain ⟨hq0, vs4, hq4, rq4⟩ := c4.mu (q, .lst [dDone (leastQ (boxNums m ts box))]) (by simp)
    refine ⟨q, _, hq4, trivial, fun o => ?_⟩
    have im : Imm H4 (upd H4 q (.frz o (.lst vs4))) := imm_upd (.inl (by rw [hq4]; trivial))
    refine kq _ (.ref p) (fun y o' hy1 hy2 hy => ?_) ?_ (rl.mono im) (rep_lst.mpr ⟨q, vs4, o, rfl, upd_same, rq4.mono im⟩)
    · rw [upd_ne hy2]
      exact c4.same _ _ (by simp only [if_neg (not_or.mpr ⟨hy1, hy2⟩)]; exact hy)
    · rw [upd_ne hxq, hx4, fsL_left]
end
end Lw
/-! never_in, nearly_in, walked: one layer. -/
namespace Lw
open PySem PySem.Spec PyProof.Rows L2
abbrev st_never_in : Stmt := top 50
abbrev N_never_in : List Str := ["one", "box", "limit", "layers", "spot", "way", "some"]
theorem sc_never_in : FnScope N_never_in ["one", "box", "limit"] (defScope st_never_in) := ⟨rfl, rfl, rfl, by decide +kernel, rfl, by decide +kernel, by decide +kernel⟩

abbrev st_nearly_in : Stmt := top 51
abbrev N_nearly_in : List Str := ["one", "box", "gap", "limit", "layers", "spot", "number", "way", "some"]
theorem sc_nearly_in : FnScope N_nearly_in ["one", "box", "gap", "limit"] (defScope st_nearly_in) := ⟨rfl, rfl, rfl, by decide +kernel, rfl, by decide +kernel, by decide +kernel⟩

structure LayU (P : Program) (w : World) (K : PySem.W.Frag) (mg : Str → Option Value) (base : Heap) (C : Addr) : Prop where
  T : LayC K C
  g : mg "Layers" = some (.ref C)
  init : ∃ f fd, Mk K C f ∧ FnOk P w K mg base CX0 1 f fd ["self", "one", "box", "limit"] (spInit K C) ∧ Binds K fd ["self", "one", "box", "limit"] []
  low : ∃ f fd, Meth K C "lowest" f ∧ FnOk P w K mg base CX0 6 f fd ["self", "spot"] (spLowest K C) ∧ Binds K fd ["self", "spot"] []
  keep : ∃ f fd, Meth K C "keep" f ∧ FnOk P w K mg base CX0 12 f fd ["self", "bar"] (spKeep K C) ∧ Binds K fd ["self", "bar"] []
structure NevOk (m : Nat) (ts : Ts) (box : Bx) (s : List Rat) : Prop where
  b : ∃ a b, BoxOk a b m ts box
  c : CrnOk ts box
  low : lowC ts (crn box) = some s
  zl : Sz 4000 (leastQ (boxNums m ts box))
  nn : 0 ≤ worthOf ts s → 0 ≤ leastQ (boxNums m ts box)
def neverD (ts : Ts) (s : List Rat) : D := if worthOf ts s < 0 then .tup [.str "below", .ptup (dQs s)] else .tup [.str "so", .str "all"]
abbrev sp_never_in (K : PySem.W.Frag) : Sp := pSp K (fun p : Nat × Ts × Bx × List Rat => [dS p.1 p.2.1, .lst (dBox p.2.2.1), .int 20]) (fun p => NevOk p.1 p.2.1 p.2.2.1 p.2.2.2) fun p => neverD p.2.1 p.2.2.2
structure NeaOk (m : Nat) (ts : Ts) (box : Bx) (gap : Rat) (s : List Rat) : Prop where
  b : ∃ a b, BoxOk a b m ts box
  c : CrnOk ts box
  low : lowC ts (crn box) = some s
  zl : Sz 4000 (leastQ (boxNums m ts box))
  zg : Sz 4000 gap
  zb : Sz 4000 (worthOf ts s - gap)
  le : worthOf ts s - gap ≤ leastQ (boxNums m ts box)
abbrev sp_nearly_in (K : PySem.W.Frag) : Sp := pSp K (fun p : Nat × Ts × Bx × Rat × List Rat => [dS p.1 p.2.1, .lst (dBox p.2.2.1), dQ p.2.2.2.1, .int 20]) (fun p => NeaOk p.1 p.2.1 p.2.2.1 p.2.2.2.1 p.2.2.2.2) fun p => .tup [dQ (leastQ (boxNums p.1 p.2.1 p.2.2.1)), .ptup (dQs p.2.2.2.2), .str "all"]
theorem lowC_spot {m : Nat} {ts : Ts} {box : Bx} {s : List Rat} (h : lowC ts (crn box) = some s) : s ∈ crn box := lowC_mem ts _ h
section
variable {P : Program} {w : World} {K : PySem.W.Frag} {mg : Str → Option Value} {base : Heap} {f C : Addr} {fd : FuncData}
theorem ok_never_in (F : FunD K "never_in" "never_in" (defArgs st_never_in) (defBody st_never_in) (defScope st_never_in) [.int 20] [] f fd) (L : LayU P w K mg base C) (B : Bl mg) (T_NOUGHT_layers : KtQ K mg "NOUGHT_layers" 0) (C_beside : Fc P w K mg base "beside" 1 ["one", "other"] (sp_beside K)) (C_worth : Fc P w K mg base "worth" 5 ["one", "spot"] (sp_worth K))
    (C_tree_of : Fc P w K mg base "tree_of" 1 ["ways", "many"] (sp_tree_of K)) : FnOk P w K mg base CX0 14 f fd ["one", "box", "limit"] (sp_never_in K) := by
  refine F.ok sc_never_in (pSp_len fun _ => rfl) (fun cdv A outer s H vs Q E hr h => ?_)
  obtain ⟨⟨m, ts, box, sp⟩, hv, hk, kq⟩ := h
  obtain ⟨a_NOUGHT_layers, g_NOUGHT_layers, k0⟩ := T_NOUGHT_layers
  obtain ⟨T, g_Layers, ⟨fi, fdi, MkL, GL_init, bL⟩, ⟨fl, fdl, mL_lowest, GL_lowest, bL_lowest⟩, ⟨fk, fdk, mL_keep, GL_keep, bL_keep⟩⟩ := L
  have clL := T.cl
  have nd := sc_never_in.nd
  have hk : NevOk m ts box sp := hk
  obtain ⟨a, b, hb⟩ := hk.b
  have hlow := hk.low
  obtain ⟨⟨wa, wb, hw⟩, hz⟩ := hk.c.2 sp (lowC_mem ts _ hlow)
  have c : Cf K H H (L2.start N_never_in vs) H [.d (dS m ts), .d (.lst (dBox box)), .d (.int 20), .no, .no, .no, .no] [] := Cf.start hv rfl
  refine ⟨_, PSs.nox (pss_cons (ps_set (i := 3) nd rfl (Or.inl rfl) (pe_make MkL GL_init (hr.mono (by decide)) (by rfl) g_Layers bL .nil pass0 (pa_cons (pv 0) (pa_cons (pv 1) (pa_cons (pv 2) pa_nil)))))
    (pss_cons (ps_while PassesOwn.never (pt_cmpR op_gt (pe_callB call_len_seq (by rfl) B.len (by decide +kernel) (pa_cons (pe_fld (pv 3) rfl) pa_nil)) pe_int (nomark _))
    (pss_cons (ps_set (i := 4) nd rfl (Or.inl rfl) (pe_meth (pv 3) clL mL_lowest GL_lowest (hr.mono (by decide)) bL_lowest .nil pass0 (pa_cons pe_non pa_nil)))
    (pss_cons (ps_if (pt_cmpR op_lt (pe_cc C_beside hr (by decide) (by rfl) (pa_cons (pe_cc C_worth hr (by decide) (by rfl) (pa_cons (pv 0) (pa_cons (pv 4) pa_nil))) (pa_cons (pe_glob (v := .ref a_NOUGHT_layers) (by rfl) g_NOUGHT_layers rfl) pa_nil))) pe_int (nomark _))
    (pss_one (ps_ret (pe_tup (pa_cons pe_str (pa_cons (pv 4) pa_nil)))))
    pss_nil)
    (pss_cons (ps_expr (pe_meth (pv 3) clL mL_keep GL_keep (hr.mono (by decide)) bL_keep .nil pass0 (pa_cons (pe_glob (v := .ref a_NOUGHT_layers) (by rfl) g_NOUGHT_layers rfl) pa_nil)))
    (pss_one (ps_if (pt_cmpR op_gt (pe_callB call_len_seq (by rfl) B.len (by decide +kernel) (pa_cons (pe_fld (pv 3) rfl) pa_nil)) pe_int (nomark _))
    (pss_one ps_never)
    pss_nil))))))
    (pss_one (ps_ret (pe_tup (pa_cons pe_str (pa_cons (pe_cc C_tree_of hr (by decide) (by rfl) (pa_cons (pe_fz (pe_lc (own := [("way", 5), ("some", 6)]) (g := (gTup K 2 (gCons (gName 5) (gCons (gName 6) gNil)))) (tt := tYes) (te := (tVar 5)) (by rfl) nd (pi_list (pe_fld (pv 3) rfl)) (blkOk_by (own := [("way", 5), ("some", 6)]) (N := N_never_in) (sc := defScope st_never_in) (by decide +kernel)) (fun _ _ _ _ _ => (pg_tup rfl (pgs_cons (pg_name (i := 5) nd rfl (Or.inl rfl)) (pgs_cons (pg_name (i := 6) nd rfl (Or.inl rfl)) pgs_nil)))) (fun _ _ _ _ _ => pts_nil) (fun _ _ _ _ _ => (pv 5)))) (pa_cons (pe_ix ix_tup (pv 0) pe_int (fun _ _ => rfl)) pa_nil))) pa_nil))))))), ?_⟩
  refine q_seq (r_make c (ev_var c rfl) (ev_var c rfl) (ev_var c rfl) fun x p dx v1 v3 vl σ2 H2 c2 rl r1 => ?_)
  refine q_seq (r_while (fun n σ' H' => (n = 1 ∧ Cf K H H σ' H' [.d (dS m ts), .d (.lst (dBox box)), .d (.int 20), .at x, .no, .no, .no] [(x, .raw (.ins C dx (fsL v1 v3 vl (.ref p)))), (p, .lst [])] ∧ Rep K H' (.lst [dOne box]) vl ∧ Rep K H' (dS m ts) v1) ∨
    (n = 0 ∧ ¬ worthOf ts sp < 0 ∧ Cf K H H σ' H' [.d (dS m ts), .d (.lst (dBox box)), .d (.int 20), .at x, .no, .no, .no] [] ∧ ∃ vl', H' x = some (.ins C dx (fsL v1 v3 vl' (.ref p))) ∧ Rep K H' (.lst []) vl' ∧ Rep K H' (.lst [dDone (leastQ (boxNums m ts box))]) (.ref p))) 1 (.inl ⟨rfl, c2, rl, r1⟩) fun n σ' H' hw' => ?_)
  rcases hw' with ⟨rfl, c3, rl3, r13⟩ | ⟨rfl, hnn, c3, vl', hx3, rl3, rd3⟩
  · have hx3 : H' x = some (.ins C dx (fsL v1 v3 vl (.ref p))) := (c3.mu (x, .raw (.ins C dx (fsL v1 v3 vl (.ref p)))) List.mem_cons_self).2
    refine ⟨true, (et_t (ev_iB (ev_lenL (ev_fld c3 rfl hx3 T.cl T.left (look_left _ _ _ _) rl3)) ev_int)).is rfl, fun _ H1 e => ?_, fun z => by cases z⟩
    refine ⟨fun σ2 H2 => ¬ worthOf ts sp < 0 ∧ Cf K H H σ2 H2 [.d (dS m ts), .d (.lst (dBox box)), .d (.int 20), .at x, .no, .no, .no] [] ∧ ∃ vl', H2 x = some (.ins C dx (fsL v1 v3 vl' (.ref p))) ∧ Rep K H2 (.lst []) vl' ∧ Rep K H2 (.lst [dDone (leastQ (boxNums m ts box))]) (.ref p), fun σ2 H2 hh => ⟨0, by decide, .inr ⟨rfl, hh⟩⟩, ?_⟩
    have c4 := c3.ext e
    refine q_seq (r_set c4 (d := .ptup (dQs sp)) ((ev_lowest c4 rfl (e _ _ hx3) (r13.mono (imm_same e)) (rl3.mono (imm_same e)) hk.c ev_non).is (by rw [hlow]; rfl)) fun σ5 H5 e5 c5 => ?_)
    refine q_seq (r_if (b := decide (worthOf ts sp < 0)) c5 ((et_t (ev_iB (ev_bes (ev_worth (ev_var c5 rfl) (ev_var c5 rfl) hw) (ev_cst (d := dQ 0) k0) (big_of hz Sz.zero (by decide) (by decide))) ev_int)).is (decide_eq_decide.mpr sgn_neg)) (fun z H6 e6 c6 => ?_) fun z H6 e6 c6 => ?_)
    · refine r_ret c6 (d := neverD ts sp) ((ev_tup (ea_cons ev_str (ea_cons (ev_var c6 rfl) ea_nil))).is ?_) kq
      rw [neverD, if_pos (of_decide_eq_true z)]
    · have e36 := e.trans (e5.trans e6)
      refine q_seq (r_keep c6 rfl (r13.mono (imm_same e36)) (rl3.mono (imm_same e36)) (ev_cst (d := dQ 0) k0) hb hk.zl (Sz.zero.mono (by decide)) (hk.nn (Rat.not_lt.mp (of_decide_eq_false z))) fun H7 vl' c7 hx7 rl7 rd7 => ?_)
      refine r_if (b := false) c7 ((et_t (ev_iB (ev_lenL (ev_fld c7 rfl hx7 T.cl T.left (look_left _ _ _ _) rl7)) ev_int)).is rfl) (fun z => by cases z) fun _ H8 e8 c8 => ?_
      exact ⟨of_decide_eq_false z, c8.le (.keep (.keep (.keep (.keep (.drop (.keep (.keep .nil))))))), vl', e8 _ _ hx7, rl7.mono (imm_same e8), rd7.mono (imm_same e8)⟩
  · refine ⟨false, (et_t (ev_iB (ev_lenL (ev_fld c3 rfl hx3 T.cl T.left (look_left _ _ _ _) rl3)) ev_int)).is rfl, (fun z => by cases z), fun _ H1 e => ?_⟩
    have c4 := c3.ext e
    dsimp only
    have rd4 := rd3.mono (imm_same e)
    have hx4 := e _ _ hx3
    refine r_ret c4 (d := neverD ts sp) ((ev_tup (ea_cons ev_str (ea_cons (ev_tree_of (m := m) (ev_fz (em_map c4 (xs := [()]) (enc := fun _ => dDone (leastQ (boxNums m ts box))) (ei_list (ev_fld c4 rfl hx4 T.cl T.done (look_done _ _ _ _) rd4)) (fun _ => .ptup []) _ (by decide) (fun e _ => eg_tup (egs_cons eg_name (egs_cons eg_name egs_nil)) rfl)
      (fun _ _ Hs σ2 H2 c2 => ev_var c2 rfl) (by decide))) (ev_ixT (ev_var c4 rfl) ev_int rfl)) ea_nil))).is ?_) kq
    rw [neverD, if_neg hnn]
theorem ok_nearly_in (F : FunD K "nearly_in" "nearly_in" (defArgs st_nearly_in) (defBody st_nearly_in) (defScope st_nearly_in) [.int 20] [] f fd) (L : LayU P w K mg base C) (B : Bl mg) (C_less : Fc P w K mg base "less" 3 ["one", "other"] (sp_less K)) (C_worth : Fc P w K mg base "worth" 5 ["one", "spot"] (sp_worth K))
    (C_tree_of : Fc P w K mg base "tree_of" 1 ["ways", "many"] (sp_tree_of K)) (C_least_number : Fc P w K mg base "least_number" 2 ["some"] (sp_least_number K)) : FnOk P w K mg base CX0 14 f fd ["one", "box", "gap", "limit"] (sp_nearly_in K) := by
  refine F.ok sc_nearly_in (pSp_len fun _ => rfl) (fun cdv A outer s H vs Q E hr h => ?_)
  obtain ⟨⟨m, ts, box, gap, sp⟩, hv, hk, kq⟩ := h
  obtain ⟨T, g_Layers, ⟨fi, fdi, MkL, GL_init, bL⟩, ⟨fl, fdl, mL_lowest, GL_lowest, bL_lowest⟩, ⟨fk, fdk, mL_keep, GL_keep, bL_keep⟩⟩ := L
  have clL := T.cl
  have nd := sc_nearly_in.nd
  have hk : NeaOk m ts box gap sp := hk
  obtain ⟨a, b, hb⟩ := hk.b
  have hlow := hk.low
  obtain ⟨⟨wa, wb, hw⟩, hz⟩ := hk.c.2 sp (lowC_mem ts _ hlow)
  have c : Cf K H H (L2.start N_nearly_in vs) H [.d (dS m ts), .d (.lst (dBox box)), .d (dQ gap), .d (.int 20), .no, .no, .no, .no, .no] [] := Cf.start hv rfl
  refine ⟨_, PSs.nox (pss_cons (ps_set (i := 4) nd rfl (Or.inl rfl) (pe_make MkL GL_init (hr.mono (by decide)) (by rfl) g_Layers bL .nil pass0 (pa_cons (pv 0) (pa_cons (pv 1) (pa_cons (pv 3) pa_nil)))))
    (pss_cons (ps_set (i := 5) nd rfl (Or.inl rfl) pe_non)
    (pss_cons (ps_while PassesOwn.never (pt_cmpR op_gt (pe_callB call_len_seq (by rfl) B.len (by decide +kernel) (pa_cons (pe_fld (pv 4) rfl) pa_nil)) pe_int (nomark _))
    (pss_cons (ps_set (i := 5) nd rfl (Or.inl rfl) (pe_meth (pv 4) clL mL_lowest GL_lowest (hr.mono (by decide)) bL_lowest .nil pass0 (pa_cons (pv 5) pa_nil)))
    (pss_cons (ps_expr (pe_meth (pv 4) clL mL_keep GL_keep (hr.mono (by decide)) bL_keep .nil pass0 (pa_cons (pe_cc C_less hr (by decide) (by rfl) (pa_cons (pe_cc C_worth hr (by decide) (by rfl) (pa_cons (pv 0) (pa_cons (pv 5) pa_nil))) (pa_cons (pv 2) pa_nil))) pa_nil)))
    (pss_one (ps_if (pt_cmpR op_gt (pe_callB call_len_seq (by rfl) B.len (by decide +kernel) (pa_cons (pe_fld (pv 4) rfl) pa_nil)) pe_int (nomark _))
    (pss_one ps_never)
    pss_nil)))))
    (pss_cons (ps_set (i := 6) nd rfl (Or.inl rfl) (pe_cc C_least_number hr (by decide) (by rfl) (pa_cons (pe_fz (pe_lc (own := [("way", 7), ("some", 8)]) (g := (gTup K 2 (gCons (gName 7) (gCons (gName 8) gNil)))) (tt := tYes) (te := (tVar 8)) (by rfl) nd (pi_list (pe_fld (pv 4) rfl)) (blkOk_by (own := [("way", 7), ("some", 8)]) (N := N_nearly_in) (sc := defScope st_nearly_in) (by decide +kernel)) (fun _ _ _ _ _ => (pg_tup rfl (pgs_cons (pg_name (i := 7) nd rfl (Or.inl rfl)) (pgs_cons (pg_name (i := 8) nd rfl (Or.inl rfl)) pgs_nil)))) (fun _ _ _ _ _ => pts_nil) (fun _ _ _ _ _ => (pv 8)))) pa_nil)))
    (pss_one (ps_ret (pe_tup (pa_cons (pv 6) (pa_cons (pv 5) (pa_cons (pe_cc C_tree_of hr (by decide) (by rfl) (pa_cons (pe_fz (pe_lc (own := [("way", 7), ("some", 8)]) (g := (gTup K 2 (gCons (gName 7) (gCons (gName 8) gNil)))) (tt := tYes) (te := (tVar 7)) (by rfl) nd (pi_list (pe_fld (pv 4) rfl)) (blkOk_by (own := [("way", 7), ("some", 8)]) (N := N_nearly_in) (sc := defScope st_nearly_in) (by decide +kernel)) (fun _ _ _ _ _ => (pg_tup rfl (pgs_cons (pg_name (i := 7) nd rfl (Or.inl rfl)) (pgs_cons (pg_name (i := 8) nd rfl (Or.inl rfl)) pgs_nil)))) (fun _ _ _ _ _ => pts_nil) (fun _ _ _ _ _ => (pv 7)))) (pa_cons (pe_ix ix_tup (pv 0) pe_int (fun _ _ => rfl)) pa_nil))) pa_nil)))))))))), ?_⟩
  refine q_seq (r_make c (ev_var c rfl) (ev_var c rfl) (ev_var c rfl) fun x p dx v1 v3 vl σ2 H2 c2 rl r1 => ?_)
  dsimp only
  refine q_seq (r_set (n := 5) (te := tC .non) (d := .non) c2 ev_non fun σ2' H2' e2' c2' => ?_)
  refine q_seq (r_while (fun n σ' H' => (n = 1 ∧ Cf K H H σ' H' [.d (dS m ts), .d (.lst (dBox box)), .d (dQ gap), .d (.int 20), .at x, .d .non, .no, .no, .no] [(x, .raw (.ins C dx (fsL v1 v3 vl (.ref p)))), (p, .lst [])] ∧ Rep K H' (.lst [dOne box]) vl ∧ Rep K H' (dS m ts) v1) ∨
    (n = 0 ∧ Cf K H H σ' H' [.d (dS m ts), .d (.lst (dBox box)), .d (dQ gap), .d (.int 20), .at x, .d (.ptup (dQs sp)), .no, .no, .no] [] ∧ ∃ vl', H' x = some (.ins C dx (fsL v1 v3 vl' (.ref p))) ∧ Rep K H' (.lst []) vl' ∧ Rep K H' (.lst [dDone (leastQ (boxNums m ts box))]) (.ref p))) 1 (.inl ⟨rfl, c2', rl.mono (imm_same e2'), r1.mono (imm_same e2')⟩) fun n σ' H' hw' => ?_)
  rcases hw' with ⟨rfl, c3, rl3, r13⟩ | ⟨rfl, c3, vl', hx3, rl3, rd3⟩
  · have hx3 : H' x = some (.ins C dx (fsL v1 v3 vl (.ref p))) := (c3.mu (x, .raw (.ins C dx (fsL v1 v3 vl (.ref p)))) List.mem_cons_self).2
    refine ⟨true, (et_t (ev_iB (ev_lenL (ev_fld c3 rfl hx3 T.cl T.left (look_left _ _ _ _) rl3)) ev_int)).is rfl, fun _ H1 e => ?_, fun z => by cases z⟩
    refine ⟨fun σ2 H2 => Cf K H H σ2 H2 [.d (dS m ts), .d (.lst (dBox box)), .d (dQ gap), .d (.int 20), .at x, .d (.ptup (dQs sp)), .no, .no, .no] [] ∧ ∃ vl', H2 x = some (.ins C dx (fsL v1 v3 vl' (.ref p))) ∧ Rep K H2 (.lst []) vl' ∧ Rep K H2 (.lst [dDone (leastQ (boxNums m ts box))]) (.ref p), fun σ2 H2 hh => ⟨0, by decide, .inr ⟨rfl, hh⟩⟩, ?_⟩
    have c4 := c3.ext e
    refine q_seq (r_set c4 (d := .ptup (dQs sp)) ((ev_lowest c4 rfl (e _ _ hx3) (r13.mono (imm_same e)) (rl3.mono (imm_same e)) hk.c (ev_var c4 rfl)).is (by rw [hlow]; rfl)) fun σ5 H5 e5 c5 => ?_)
    have e35 := e.trans e5
    refine q_seq (r_keep c5 rfl (r13.mono (imm_same e35)) (rl3.mono (imm_same e35)) (ev_sub (ev_worth (ev_var c5 rfl) (ev_var c5 rfl) hw) (ev_var c5 rfl) ⟨hz, hk.zg⟩) hb hk.zl hk.zb hk.le fun H7 vl' c7 hx7 rl7 rd7 => ?_)
    refine r_if (b := false) c7 ((et_t (ev_iB (ev_lenL (ev_fld c7 rfl hx7 T.cl T.left (look_left _ _ _ _) rl7)) ev_int)).is rfl) (fun z => by cases z) fun _ H8 e8 c8 => ?_
    exact ⟨c8, vl', e8 _ _ hx7, rl7.mono (imm_same e8), rd7.mono (imm_same e8)⟩
  · refine ⟨false, (et_t (ev_iB (ev_lenL (ev_fld c3 rfl hx3 T.cl T.left (look_left _ _ _ _) rl3)) ev_int)).is rfl, (fun z => by cases z), fun _ H1 e => ?_⟩
    have c4 := c3.ext e
    dsimp only
    have rd4 := rd3.mono (imm_same e)
    have hx4 := e _ _ hx3
    have hl1 : leastQ [leastQ (boxNums m ts box)] = leastQ (boxNums m ts box) := by
      show (if _ < _ then _ else _) = _
      split <;> rfl
    refine q_seq (r_set c4 (d := dQ (leastQ (boxNums m ts box))) ((ev_least_number (ev_fz (em_map c4 (xs := [()]) (enc := fun _ => dDone (leastQ (boxNums m ts box))) (ei_list (ev_fld c4 rfl hx4 T.cl T.done (look_done _ _ _ _) rd4)) (fun _ => dQ (leastQ (boxNums m ts box))) _ (by decide) (fun e _ => eg_tup (egs_cons eg_name (egs_cons eg_name egs_nil)) rfl)
      (fun _ _ Hs σ2 H2 c2 => ev_var c2 rfl) (by decide))) (qs := [leastQ (boxNums m ts box)]) (by simp) (fun y hy => by rw [List.mem_singleton.mp hy]; exact hk.zl)).is (by rw [hl1])) fun σ5 H5 e5 c5 => ?_)
    have rd5 := rd4.mono (imm_same e5)
    have hx5 := e5 _ _ hx4
    exact r_ret c5 (d := .tup [dQ (leastQ (boxNums m ts box)), .ptup (dQs sp), .str "all"]) (ev_tup (ea_cons (ev_var c5 rfl) (ea_cons (ev_var c5 rfl) (ea_cons (ev_tree_of (m := m) (ev_fz (em_map c5 (xs := [()]) (enc := fun _ => dDone (leastQ (boxNums m ts box))) (ei_list (ev_fld c5 rfl hx5 T.cl T.done (look_done _ _ _ _) rd5)) (fun _ => .ptup []) _ (by decide) (fun e _ => eg_tup (egs_cons eg_name (egs_cons eg_name egs_nil)) rfl)
      (fun _ _ Hs σ2 H2 c2 => ev_var c2 rfl) (by decide))) (ev_ixT (ev_var c5 rfl) ev_int rfl)) ea_nil)))) kq
end
end Lw
/-! The law's arithmetic, walked. -/
namespace Lw
open PySem PySem.Spec PyProof.Rows L2
abbrev st__law_low : Stmt := top 80
abbrev N__law_low : List Str := ["top", "bottom", "one", "other"]
theorem sc__law_low : FnScope N__law_low ["top", "bottom"] (defScope st__law_low) := ⟨rfl, rfl, rfl, by decide +kernel, rfl, by decide +kernel, by decide +kernel⟩

abbrev st__law_plus : Stmt := top 81
abbrev N__law_plus : List Str := ["one", "other", "top"]
theorem sc__law_plus : FnScope N__law_plus ["one", "other"] (defScope st__law_plus) := ⟨rfl, rfl, rfl, by decide +kernel, rfl, by decide +kernel, by decide +kernel⟩

abbrev st__law_mul : Stmt := top 82
abbrev N__law_mul : List Str := ["one", "other"]
theorem sc__law_mul : FnScope N__law_mul ["one", "other"] (defScope st__law_mul) := ⟨rfl, rfl, rfl, by decide +kernel, rfl, by decide +kernel, by decide +kernel⟩

abbrev st__law_more : Stmt := top 91
abbrev N__law_more : List Str := ["one", "other", "some"]
theorem sc__law_more : FnScope N__law_more ["one", "other"] (defScope st__law_more) := ⟨rfl, rfl, rfl, by decide +kernel, rfl, by decide +kernel, by decide +kernel⟩

abbrev st__law_under : Stmt := top 95
abbrev N__law_under : List Str := ["one", "other"]
theorem sc__law_under : FnScope N__law_under ["one", "other"] (defScope st__law_under) := ⟨rfl, rfl, rfl, by decide +kernel, rfl, by decide +kernel, by decide +kernel⟩

abbrev Pr : Type := Int × Int
abbrev dP (p : Pr) : D := .tup [.int p.1, .int p.2]
/-- a pair: what it is worth -/
def pv1 (p : Pr) : Rat := Rat.divInt p.1 p.2
structure PrOk (n : Nat) (p : Pr) : Prop where
  pos : 0 < p.2
  a : p.1.natAbs < 2 ^ n
  b : p.2.natAbs < 2 ^ n
def lp (p q : Pr) : Pr := if p.2 % q.2 = 0 then (p.1 + q.1 * (p.2 / q.2), p.2) else if q.2 % p.2 = 0 then (q.1 + p.1 * (q.2 / p.2), q.2) else (p.1 * q.2 + q.1 * p.2, p.2 * q.2)
def lm (p q : Pr) : Pr := (p.1 * q.1, p.2 * q.2)
def ofQ (q : Rat) : Pr := (q.num, (q.den : Int))
theorem PrOk.mono {n m : Nat} {p : Pr} (h : PrOk n p) (hn : n ≤ m) : PrOk m p := ⟨h.pos, Nat.lt_of_lt_of_le h.a (pow_mono hn), Nat.lt_of_lt_of_le h.b (pow_mono hn)⟩
theorem ofQ_ok {n : Nat} {q : Rat} (h : Sz n q) : PrOk n (ofQ q) := ⟨by have := q.den_pos; show (0 : Int) < (q.den : Int); omega, szN h, szD h⟩
theorem ofQ_val (q : Rat) : pv1 (ofQ q) = q := Rat.num_divInt_den q
abbrev sp__law_low (K : PySem.W.Frag) : Sp := pSp K (fun p : Int × Int => [.int p.1, .int p.2]) (fun p => p.2 ≠ 0 ∧ p.2.natAbs < 2 ^ 9000) fun p => dQ (Rat.divInt p.1 p.2)
abbrev sp__law_plus (K : PySem.W.Frag) : Sp := pSp K (fun p : Pr × Pr => [dP p.1, dP p.2]) (fun p => PrOk 4000 p.1 ∧ PrOk 4000 p.2) fun p => dP (lp p.1 p.2)
abbrev sp__law_mul (K : PySem.W.Frag) : Sp := pSp K (fun p : Pr × Pr => [dP p.1, dP p.2]) (fun p => PrOk 4000 p.1 ∧ PrOk 4000 p.2) fun p => dP (lm p.1 p.2)
abbrev sp__law_more (K : PySem.W.Frag) : Sp := pSp K (fun p : Pr × Pr => [dP p.1, dP p.2]) (fun p => PrOk 4000 p.1 ∧ PrOk 4000 p.2) fun p => dQ (pv1 p.1 + pv1 p.2)
abbrev sp__law_under (K : PySem.W.Frag) : Sp := pSp K (fun p : Pr × Pr => [dP p.1, dP p.2]) (fun p => PrOk 4000 p.1 ∧ PrOk 4000 p.2) fun p => .bl (decide (pv1 p.1 < pv1 p.2))
section
variable {K : PySem.W.Frag} {σ : L2.St} {H : Hp} {ta tb : TE}
theorem ev_llow {a b : Int} (ha : EvD K ta σ H (.int a)) (hb : EvD K tb σ H (.int b)) (h0 : b ≠ 0) (h1 : b.natAbs < 2 ^ 9000) : EvD K (tCall (sp__law_low K) [] E0 (tCons ta (tCons tb tNil))) σ H (dQ (Rat.divInt a b)) :=
  ev_call (args := fun p : Int × Int => [.int p.1, .int p.2]) (pre := fun p => p.2 ≠ 0 ∧ p.2.natAbs < 2 ^ 9000) (res := fun p => dQ (Rat.divInt p.1 p.2)) (a, b) (ea_cons ha (ea_cons hb ea_nil)) ⟨h0, h1⟩
theorem ev_lplus {p q : Pr} (ha : EvD K ta σ H (dP p)) (hb : EvD K tb σ H (dP q)) (h0 : PrOk 4000 p) (h1 : PrOk 4000 q) : EvD K (tCall (sp__law_plus K) [] E0 (tCons ta (tCons tb tNil))) σ H (dP (lp p q)) :=
  ev_call (args := fun p : Pr × Pr => [dP p.1, dP p.2]) (pre := fun p => PrOk 4000 p.1 ∧ PrOk 4000 p.2) (res := fun p => dP (lp p.1 p.2)) (p, q) (ea_cons ha (ea_cons hb ea_nil)) ⟨h0, h1⟩
theorem ev_lmul {p q : Pr} (ha : EvD K ta σ H (dP p)) (hb : EvD K tb σ H (dP q)) (h0 : PrOk 4000 p) (h1 : PrOk 4000 q) : EvD K (tCall (sp__law_mul K) [] E0 (tCons ta (tCons tb tNil))) σ H (dP (lm p q)) :=
  ev_call (args := fun p : Pr × Pr => [dP p.1, dP p.2]) (pre := fun p => PrOk 4000 p.1 ∧ PrOk 4000 p.2) (res := fun p => dP (lm p.1 p.2)) (p, q) (ea_cons ha (ea_cons hb ea_nil)) ⟨h0, h1⟩
theorem ev_lmore {p q : Pr} (ha : EvD K ta σ H (dP p)) (hb : EvD K tb σ H (dP q)) (h0 : PrOk 4000 p) (h1 : PrOk 4000 q) : EvD K (tCall (sp__law_more K) [] E0 (tCons ta (tCons tb tNil))) σ H (dQ (pv1 p + pv1 q)) :=
  ev_call (args := fun p : Pr × Pr => [dP p.1, dP p.2]) (pre := fun p => PrOk 4000 p.1 ∧ PrOk 4000 p.2) (res := fun p => dQ (pv1 p.1 + pv1 p.2)) (p, q) (ea_cons ha (ea_cons hb ea_nil)) ⟨h0, h1⟩
theorem ev_lunder {p q : Pr} (ha : EvD K ta σ H (dP p)) (hb : EvD K tb σ H (dP q)) (h0 : PrOk 4000 p) (h1 : PrOk 4000 q) : EvD K (tCall (sp__law_under K) [] E0 (tCons ta (tCons tb tNil))) σ H (.bl (decide (pv1 p < pv1 q))) :=
  ev_call (args := fun p : Pr × Pr => [dP p.1, dP p.2]) (pre := fun p => PrOk 4000 p.1 ∧ PrOk 4000 p.2) (res := fun p => .bl (decide (pv1 p.1 < pv1 p.2))) (p, q) (ea_cons ha (ea_cons hb ea_nil)) ⟨h0, h1⟩
end
theorem pv1_div {a b : Int} (h : 0 < b) : pv1 (a, b) = (a : Rat) / (b : Rat) := Rat.divInt_eq_div a b
theorem edvd_mul {a b : Int} (h : b % a = 0) : a * (b / a) = b := Int.mul_ediv_cancel' (Int.dvd_of_emod_eq_zero h)
theorem abs_add {x y : Int} {n m k : Nat} (hx : x.natAbs < 2 ^ n) (hy : y.natAbs < 2 ^ m) (h1 : n ≤ k) (h2 : m ≤ k) : (x + y).natAbs < 2 ^ (k + 1) := by
  have a := Nat.lt_of_lt_of_le hx (pow_mono h1)
  have b := Nat.lt_of_lt_of_le hy (pow_mono h2)
  rw [Nat.pow_succ]
  omega
theorem abs_ediv {x y : Int} {n : Nat} (hx : x.natAbs < 2 ^ n) (h0 : 0 < x) (hy : 0 < y) : (x / y).natAbs < 2 ^ n := by
  have h1 : x / y ≤ x := Int.ediv_le_self y (by omega)
  have h2 : 0 ≤ x / y := Int.ediv_nonneg (by omega) (by omega)
  omega
theorem lp_val {n m : Nat} {p q : Pr} (hp : PrOk n p) (hq : PrOk m q) : PrOk (n + m + 1) (lp p q) ∧ pv1 (lp p q) = pv1 p + pv1 q := by
  obtain ⟨a, b⟩ := p
  obtain ⟨c, d⟩ := q
  have hb : 0 < b := hp.pos
  have hd : 0 < d := hq.pos
  have ha2 : a.natAbs < 2 ^ n := hp.a
  have hb2 : b.natAbs < 2 ^ n := hp.b
  have hc2 : c.natAbs < 2 ^ m := hq.a
  have hd2 : d.natAbs < 2 ^ m := hq.b
  have hb0 : b ≠ 0 := by omega
  have hd0 : d ≠ 0 := by omega
  have hsum : pv1 (a, b) + pv1 (c, d) = Rat.divInt (a * d + c * b) (b * d) := Rat.divInt_add_divInt a c hb0 hd0
  rw [hsum]
  unfold lp
  simp only
  by_cases h1 : b % d = 0
  · rw [if_pos h1]
    have e := edvd_mul h1
    refine ⟨⟨hb, abs_add (k := n + m) ha2 (wide_lt hc2 (abs_ediv hb2 hb hd)) (by omega) (by omega), Nat.lt_of_lt_of_le hb2 (pow_mono (by omega))⟩, ?_⟩
    show Rat.divInt (a + c * (b / d)) b = _
    rw [Rat.divInt_eq_divInt_iff hb0 (Int.mul_ne_zero hb0 hd0)]
    generalize b / d = e' at e ⊢
    subst e
    grind
  · rw [if_neg h1]
    by_cases h2 : d % b = 0
    · rw [if_pos h2]
      have e := edvd_mul h2
      refine ⟨⟨hd, abs_add (k := n + m) hc2 (wide_lt ha2 (abs_ediv hd2 hd hb)) (by omega) (by omega), Nat.lt_of_lt_of_le hd2 (pow_mono (by omega))⟩, ?_⟩
      show Rat.divInt (c + a * (d / b)) d = _
      rw [Rat.divInt_eq_divInt_iff hd0 (Int.mul_ne_zero hb0 hd0)]
      generalize d / b = e' at e ⊢
      subst e
      grind
    · rw [if_neg h2]
      refine ⟨⟨Int.mul_pos hb hd, abs_add (k := n + m) (wide_lt ha2 hd2) (wide_lt hc2 hb2) (by omega) (by omega), Nat.lt_of_lt_of_le (wide_lt hb2 hd2) (pow_mono (by omega))⟩, rfl⟩
theorem lm_val {n m : Nat} {p q : Pr} (hp : PrOk n p) (hq : PrOk m q) : PrOk (n + m) (lm p q) ∧ pv1 (lm p q) = pv1 p * pv1 q :=
  ⟨⟨Int.mul_pos hp.pos hq.pos, wide_lt hp.a hq.a, wide_lt hp.b hq.b⟩, (Rat.divInt_mul_divInt _ _).symm⟩
section
variable {P : Program} {w : World} {K : PySem.W.Frag} {mg : Str → Option Value} {base : Heap} {f : Addr} {fd : FuncData}
theorem ok__law_mul (F : FnP K "_law_mul" st__law_mul f fd) : FnOk P w K mg base CX0 1 f fd ["one", "other"] (sp__law_mul K) := by
  refine F.ok sc__law_mul (pSp_len fun _ => rfl) (fun cdv A outer s H vs Q E hr h => ?_)
  obtain ⟨⟨p, q⟩, hv, ⟨h1, h2⟩, kq⟩ := h
  have nd := sc__law_mul.nd
  have h1 : PrOk 4000 p := h1
  have h2 : PrOk 4000 q := h2
  have c : Cf K H H (L2.start N__law_mul vs) H [.d (dP p), .d (dP q)] [] := Cf.start hv rfl
  refine ⟨_, PSs.nox (pss_one (ps_ret (pe_tup (pa_cons (pe_op op_mulW (pe_ix ix_tup (pv 0) pe_int (fun _ _ => rfl)) (pe_ix ix_tup (pv 1) pe_int (fun _ _ => rfl))) (pa_cons (pe_op op_mulW (pe_ix ix_tup (pv 0) pe_int (fun _ _ => rfl)) (pe_ix ix_tup (pv 1) pe_int (fun _ _ => rfl))) pa_nil))))), ?_⟩
  exact r_ret c (d := dP (lm p q)) (ev_tup (ea_cons (ev_iC (ev_ixT (ev_var c rfl) ev_int rfl) (ev_ixT (ev_var c rfl) ev_int rfl) (wm h1.a h2.a)) (ea_cons (ev_iC (ev_ixT (ev_var c rfl) ev_int rfl) (ev_ixT (ev_var c rfl) ev_int rfl) (wm h1.b h2.b)) ea_nil))) kq
theorem ok__law_plus (F : FnP K "_law_plus" st__law_plus f fd) : FnOk P w K mg base CX0 1 f fd ["one", "other"] (sp__law_plus K) := by
  refine F.ok sc__law_plus (pSp_len fun _ => rfl) (fun cdv A outer s H vs Q E hr h => ?_)
  obtain ⟨⟨p, q⟩, hv, ⟨h1, h2⟩, kq⟩ := h
  have nd := sc__law_plus.nd
  have h1 : PrOk 4000 p := h1
  have h2 : PrOk 4000 q := h2
  have hp := h1.pos
  have hq := h2.pos
  have c : Cf K H H (L2.start N__law_plus vs) H [.d (dP p), .d (dP q), .no] [] := Cf.start hv rfl
  refine ⟨_, PSs.nox (pss_cons (ps_if (pt_cmpR op_eq (pe_op op_mod (pe_ix ix_tup (pv 0) pe_int (fun _ _ => rfl)) (pe_ix ix_tup (pv 1) pe_int (fun _ _ => rfl))) pe_int (nomark _))
    (pss_one (ps_ret (pe_tup (pa_cons (pe_op op_add (pe_ix ix_tup (pv 0) pe_int (fun _ _ => rfl)) (pe_op op_mulW (pe_ix ix_tup (pv 1) pe_int (fun _ _ => rfl)) (pe_op op_fdivW (pe_ix ix_tup (pv 0) pe_int (fun _ _ => rfl)) (pe_ix ix_tup (pv 1) pe_int (fun _ _ => rfl))))) (pa_cons (pe_ix ix_tup (pv 0) pe_int (fun _ _ => rfl)) pa_nil)))))
    pss_nil)
    (pss_cons (ps_if (pt_cmpR op_eq (pe_op op_mod (pe_ix ix_tup (pv 1) pe_int (fun _ _ => rfl)) (pe_ix ix_tup (pv 0) pe_int (fun _ _ => rfl))) pe_int (nomark _))
    (pss_one (ps_ret (pe_tup (pa_cons (pe_op op_add (pe_ix ix_tup (pv 1) pe_int (fun _ _ => rfl)) (pe_op op_mulW (pe_ix ix_tup (pv 0) pe_int (fun _ _ => rfl)) (pe_op op_fdivW (pe_ix ix_tup (pv 1) pe_int (fun _ _ => rfl)) (pe_ix ix_tup (pv 0) pe_int (fun _ _ => rfl))))) (pa_cons (pe_ix ix_tup (pv 1) pe_int (fun _ _ => rfl)) pa_nil)))))
    pss_nil)
    (pss_cons (ps_set (i := 2) nd rfl (Or.inl rfl) (pe_op op_add (pe_op op_mulW (pe_ix ix_tup (pv 0) pe_int (fun _ _ => rfl)) (pe_ix ix_tup (pv 1) pe_int (fun _ _ => rfl))) (pe_op op_mulW (pe_ix ix_tup (pv 1) pe_int (fun _ _ => rfl)) (pe_ix ix_tup (pv 0) pe_int (fun _ _ => rfl)))))
    (pss_one (ps_ret (pe_tup (pa_cons (pv 2) (pa_cons (pe_op op_mulW (pe_ix ix_tup (pv 0) pe_int (fun _ _ => rfl)) (pe_ix ix_tup (pv 1) pe_int (fun _ _ => rfl))) pa_nil)))))))), ?_⟩
  have b9 : ∀ {i : Int}, i.natAbs < 2 ^ 4000 → i.natAbs < 2 ^ 9000 := fun h => Nat.lt_of_lt_of_le h (pow_mono (by decide))
  refine q_seq (r_if (b := decide (p.2 % q.2 = 0)) c (et_t (ev_eqI (ev_iC (ev_ixT (ev_var c rfl) ev_int rfl) (ev_ixT (ev_var c rfl) ev_int rfl) hq) ev_int)) (fun z H2 e2 c2 => ?_) fun z H2 e2 c2 => ?_)
  · refine r_ret c2 (d := dP (lp p q)) ((ev_tup (ea_cons (ev_iI (ev_ixT (ev_var c2 rfl) ev_int rfl) (ev_iC (ev_ixT (ev_var c2 rfl) ev_int rfl) (ev_iC (ev_ixT (ev_var c2 rfl) ev_int rfl) (ev_ixT (ev_var c2 rfl) ev_int rfl) (wide_div hq (b9 h2.b) (by decide) (Nat.le_refl _))) (wm h2.a (abs_ediv h1.b hp hq)))) (ea_cons (ev_ixT (ev_var c2 rfl) ev_int rfl) ea_nil))).is ?_) kq
    rw [lp, if_pos (of_decide_eq_true z)]
  · refine q_seq (r_if (b := decide (q.2 % p.2 = 0)) c2 (et_t (ev_eqI (ev_iC (ev_ixT (ev_var c2 rfl) ev_int rfl) (ev_ixT (ev_var c2 rfl) ev_int rfl) hp) ev_int)) (fun y H3 e3 c3 => ?_) fun y H3 e3 c3 => ?_)
    · refine r_ret c3 (d := dP (lp p q)) ((ev_tup (ea_cons (ev_iI (ev_ixT (ev_var c3 rfl) ev_int rfl) (ev_iC (ev_ixT (ev_var c3 rfl) ev_int rfl) (ev_iC (ev_ixT (ev_var c3 rfl) ev_int rfl) (ev_ixT (ev_var c3 rfl) ev_int rfl) (wide_div hp (b9 h1.b) (by decide) (Nat.le_refl _))) (wm h1.a (abs_ediv h2.b hq hp)))) (ea_cons (ev_ixT (ev_var c3 rfl) ev_int rfl) ea_nil))).is ?_) kq
      rw [lp, if_neg (of_decide_eq_false z), if_pos (of_decide_eq_true y)]
    · refine q_seq (r_set c3 (ev_iI (ev_iC (ev_ixT (ev_var c3 rfl) ev_int rfl) (ev_ixT (ev_var c3 rfl) ev_int rfl) (wm h1.a h2.b)) (ev_iC (ev_ixT (ev_var c3 rfl) ev_int rfl) (ev_ixT (ev_var c3 rfl) ev_int rfl) (wm h2.a h1.b))) fun σ4 H4 e4 c4 => ?_)
      refine r_ret c4 (d := dP (lp p q)) ((ev_tup (ea_cons (ev_var c4 rfl) (ea_cons (ev_iC (ev_ixT (ev_var c4 rfl) ev_int rfl) (ev_ixT (ev_var c4 rfl) ev_int rfl) (wm h1.b h2.b)) ea_nil))).is ?_) kq
      rw [lp, if_neg (of_decide_eq_false z), if_neg (of_decide_eq_false y)]
end
end Lw
/-! The law's _law_low, _law_more, _law_under, walked. -/
namespace Lw
open PySem PySem.Spec PyProof.Rows L2
theorem pv1_eq (p : Pr) : pv1 p = (p.1 : Rat) / (p.2 : Rat) := Rat.divInt_eq_div p.1 p.2
theorem pv1_lt {p q : Pr} (hp : 0 < p.2) (hq : 0 < q.2) : pv1 p < pv1 q ↔ p.1 * q.2 < q.1 * p.2 := by
  rw [pv1_eq, pv1_eq]
  have hb : (0 : Rat) < (p.2 : Rat) := by exact_mod_cast hp
  have hd : (0 : Rat) < (q.2 : Rat) := by exact_mod_cast hq
  rw [Rat.div_lt_iff hb]
  have e : (q.1 : Rat) / (q.2 : Rat) * (p.2 : Rat) = (q.1 : Rat) * (p.2 : Rat) / (q.2 : Rat) := by grind
  rw [e, Rat.lt_div_iff hd]
  exact_mod_cast Iff.rfl
section
variable {P : Program} {w : World} {K : PySem.W.Frag} {mg : Str → Option Value} {base : Heap} {f : Addr} {fd : FuncData}
theorem ok__law_under (F : FnP K "_law_under" st__law_under f fd) : FnOk P w K mg base CX0 1 f fd ["one", "other"] (sp__law_under K) := by
  refine F.ok sc__law_under (pSp_len fun _ => rfl) (fun cdv A outer s H vs Q E hr h => ?_)
  obtain ⟨⟨p, q⟩, hv, ⟨h1, h2⟩, kq⟩ := h
  have nd := sc__law_under.nd
  have h1 : PrOk 4000 p := h1
  have h2 : PrOk 4000 q := h2
  have c : Cf K H H (L2.start N__law_under vs) H [.d (dP p), .d (dP q)] [] := Cf.start hv rfl
  refine ⟨_, PSs.nox (pss_one (ps_ret (pe_cmpR op_lt (pe_op op_mulW (pe_ix ix_tup (pv 0) pe_int (fun _ _ => rfl)) (pe_ix ix_tup (pv 1) pe_int (fun _ _ => rfl))) (pe_op op_mulW (pe_ix ix_tup (pv 1) pe_int (fun _ _ => rfl)) (pe_ix ix_tup (pv 0) pe_int (fun _ _ => rfl))) (nomark _)))), ?_⟩
  refine r_ret c (d := .bl (decide (pv1 p < pv1 q))) ((ev_iB (ev_iC (ev_ixT (ev_var c rfl) ev_int rfl) (ev_ixT (ev_var c rfl) ev_int rfl) (wm h1.a h2.b)) (ev_iC (ev_ixT (ev_var c rfl) ev_int rfl) (ev_ixT (ev_var c rfl) ev_int rfl) (wm h2.a h1.b))).is ?_) kq
  exact congrArg D.bl (decide_eq_decide.mpr (pv1_lt h1.pos h2.pos).symm)
theorem ok__law_more (F : FnP K "_law_more" st__law_more f fd) (C__law_plus : Fc P w K mg base "_law_plus" 1 ["one", "other"] (sp__law_plus K)) (C__law_low : Fc P w K mg base "_law_low" 1 ["top", "bottom"] (sp__law_low K)) : FnOk P w K mg base CX0 2 f fd ["one", "other"] (sp__law_more K) := by
  refine F.ok sc__law_more (pSp_len fun _ => rfl) (fun cdv A outer s H vs Q E hr h => ?_)
  obtain ⟨⟨p, q⟩, hv, ⟨h1, h2⟩, kq⟩ := h
  have nd := sc__law_more.nd
  have h1 : PrOk 4000 p := h1
  have h2 : PrOk 4000 q := h2
  have c : Cf K H H (L2.start N__law_more vs) H [.d (dP p), .d (dP q), .no] [] := Cf.start hv rfl
  refine ⟨_, PSs.nox (pss_cons (ps_set (i := 2) nd rfl (Or.inl rfl) (pe_cc C__law_plus hr (by decide) (by rfl) (pa_cons (pv 0) (pa_cons (pv 1) pa_nil))))
    (pss_one (ps_ret (pe_cc C__law_low hr (by decide) (by rfl) (pa_cons (pe_ix ix_tup (pv 2) pe_int (fun _ _ => rfl)) (pa_cons (pe_ix ix_tup (pv 2) pe_int (fun _ _ => rfl)) pa_nil)))))), ?_⟩
  obtain ⟨ho, hval⟩ := lp_val h1 h2
  have hpos := ho.pos
  refine q_seq (r_set c (ev_lplus (ev_var c rfl) (ev_var c rfl) h1 h2) fun σ2 H2 e2 c2 => ?_)
  exact r_ret c2 (d := dQ (pv1 p + pv1 q)) ((ev_llow (ev_ixT (ev_var c2 rfl) ev_int rfl) (ev_ixT (ev_var c2 rfl) ev_int rfl) (by omega) (Nat.lt_of_lt_of_le ho.b (pow_mono (by decide)))).is (by rw [← hval]; rfl)) kq
theorem ok__law_low (F : FnP K "_law_low" st__law_low f fd) (B : Bl mg) : FnOk P w K mg base CX0 1 f fd ["top", "bottom"] (sp__law_low K) := by
  refine F.ok sc__law_low (pSp_len fun _ => rfl) (fun cdv A outer s H vs Q E hr h => ?_)
  obtain ⟨⟨x, y⟩, hv, ⟨hy0, hy⟩, kq⟩ := h
  have nd := sc__law_low.nd
  have c : Cf K H H (L2.start N__law_low vs) H [.d (.int x), .d (.int y), .no, .no] [] := Cf.start hv rfl
  refine ⟨_, PSs.nox (pss_cons (ps_if (pt_cmpR op_lt (pv 1) pe_int (nomark _))
    (pss_one (ps_par (i := 0) (j := 1) (by rfl) nd rfl rfl (by decide) rfl rfl (pa_cons (pe_op op_sub pe_int (pv 0)) (pa_cons (pe_op op_sub pe_int (pv 1)) pa_nil)) (by rfl)))
    pss_nil)
    (pss_cons (ps_set (i := 2) nd rfl (Or.inl rfl) (pe_callB call_abs (by rfl) B.abs (by decide +kernel) (pa_cons (pv 0) pa_nil)))
    (pss_cons (ps_set (i := 3) nd rfl (Or.inl rfl) (pv 1))
    (pss_cons (ps_while PassesOwn.never (pt_cmpR op_gt (pv 2) pe_int (nomark _))
    (pss_one (ps_par (i := 2) (j := 3) (by rfl) nd rfl rfl (by decide) rfl rfl (pa_cons (pe_op op_mod (pv 3) (pv 2)) (pa_cons (pv 2) pa_nil)) (by rfl))))
    (pss_one (ps_ret (pe_tup (pa_cons (pe_op op_fdivW (pv 0) (pv 3)) (pa_cons (pe_op op_fdivW (pv 1) (pv 3)) pa_nil))))))))), ?_⟩
  refine q_split (β := Int × Int) (fun p σ H1 => 0 < p.2 ∧ p.2.natAbs < 2 ^ 9000 ∧ Cf K H H σ H1 [.d (.int p.1), .d (.int p.2), .no, .no] [] ∧ Rat.divInt p.1 p.2 = Rat.divInt x y) ?_ fun fin => ?_
  rotate_left
  · refine r_if c (et_t (ev_iB (ev_var c rfl) ev_int)) (fun ht H1 e c1 => ?_) (fun ht H1 e c1 => ?_)
    · refine r_par c1 (ev_iI ev_int (ev_var c1 rfl)) (ev_iI ev_int (ev_var c1 rfl)) fun σ2 H2 e2 c2 => fin (0 - x, 0 - y) σ2 H2 ⟨?_, ?_, c2, ?_⟩
      · have : y < 0 := by simpa using ht
        show 0 < 0 - y
        omega
      · show (0 - y).natAbs < 2 ^ 9000
        rw [Int.zero_sub, Int.natAbs_neg]; exact hy
      · show Rat.divInt (0 - x) (0 - y) = Rat.divInt x y
        rw [Int.zero_sub, Int.zero_sub, Rat.neg_divInt_neg]
    · refine r_next (fin (x, y) _ H1 ⟨?_, hy, c1, rfl⟩)
      have : ¬ y < 0 := by simpa using ht
      have : y ≠ 0 := hy0
      show 0 < y
      omega
  · rintro ⟨x', y'⟩ σ H1 ⟨hy0', hy', c, heq⟩
    have hy0 : 0 < y' := hy0'
    have hy : y'.natAbs < 2 ^ 9000 := hy'
    have c : Cf K H H σ H1 [.d (.int x'), .d (.int y'), .no, .no] [] := c
    have heq' : Rat.divInt x' y' = Rat.divInt x y := heq
    have hg0 : 0 < x'.natAbs.gcd y'.natAbs := Nat.gcd_pos_of_pos_right _ (by omega)
    have hml : ((x'.natAbs.gcd y'.natAbs : Nat) : Int).natAbs < 2 ^ 9000 := by
      rw [Int.natAbs_natCast]
      exact Nat.lt_of_le_of_lt (Nat.gcd_le_right _ (by omega)) hy
    refine q_seq (r_set c (ev_abs (ev_var c rfl)) fun σ2 H2 e2 c2 => ?_)
    refine q_seq (r_set c2 (ev_var c2 rfl) fun σ3 H3 e3 c3 => ?_)
    have ea : (if x' < 0 then -x' else x') = (x'.natAbs : Int) := by split <;> omega
    refine q_seq (r_while (fun n σ' H' => ∃ a b : Int, Cf K H H σ' H' [.d (.int x'), .d (.int y'), .d (.int a), .d (.int b)] [] ∧ 0 ≤ a ∧ 0 < b ∧ a.natAbs.gcd b.natAbs = x'.natAbs.gcd y'.natAbs ∧ n = a.toNat) (if x' < 0 then -x' else x').toNat ⟨_, _, c3, by split <;> omega, hy0, by rw [ea]; rfl, rfl⟩ fun n σ' H' hw => ?_)
    obtain ⟨a, b, c', ha, hb, hg, rfl⟩ := hw
    refine ⟨_, et_t (ev_iB (ev_var c' rfl) ev_int), fun ht H4 e => ?_, fun ht H4 e => ?_⟩
    · have ha0 : 0 < a := of_decide_eq_true ht
      refine ⟨fun σ2 H2 => Cf K H H σ2 H2 [.d (.int x'), .d (.int y'), .d (.int (b % a)), .d (.int a)] [], fun σ2 H2 c2 => ⟨(b % a).toNat, ?_, b % a, a, c2, Int.emod_nonneg _ (by omega), ha0, ?_, rfl⟩, ?_⟩
      · have := Int.emod_lt_of_pos b ha0
        have := Int.emod_nonneg b (show a ≠ 0 by omega)
        omega
      · rw [← hg]
        have e1 : (b % a).natAbs = b.natAbs % a.natAbs := Int.natAbs_emod_of_nonneg (by omega) a
        rw [e1, ← Nat.gcd_rec]
      · exact r_par (c'.ext e) (ev_iC (ev_var (c'.ext e) rfl) (ev_var (c'.ext e) rfl) ha0) (ev_var (c'.ext e) rfl) fun σ2 H2 e2 c2 => c2
    · have ha0 : a = 0 := by
        have := of_decide_eq_false ht
        omega
      have hbg : b = ((x'.natAbs.gcd y'.natAbs : Nat) : Int) := by
        rw [← hg, ha0]
        simp; omega
      have c5 := c'.ext e
      rw [hbg] at c5
      have hd : CDivW x' ((x'.natAbs.gcd y'.natAbs : Nat) : Int) := wide_div (by omega) hml (by decide) (Nat.le_refl _)
      have hd' : CDivW y' ((x'.natAbs.gcd y'.natAbs : Nat) : Int) := wide_div (by omega) hml (by decide) (Nat.le_refl _)
      dsimp only
      refine r_ret c5 (d := dQ (Rat.divInt x y)) ((ev_tup (ea_cons (ev_iC (ev_var c5 rfl) (ev_var c5 rfl) hd) (ea_cons (ev_iC (ev_var c5 rfl) (ev_var c5 rfl) hd') ea_nil))).is ?_) kq
      rw [← heq']
      show _ = D.tup [.int (Rat.divInt x' y').num, .int ((Rat.divInt x' y').den : Int)]
      rw [low_num hy0, low_den hy0]
end
end Lw
/-! The law's _law_put, _law_sum, walked. -/
namespace Lw
open PySem PySem.Spec PyProof.Rows L2
abbrev st__law_put : Stmt := top 84
abbrev N__law_put : List Str := ["found", "powers", "number", "some"]
theorem sc__law_put : FnScope N__law_put ["found", "powers", "number"] (defScope st__law_put) := ⟨rfl, rfl, rfl, by decide +kernel, rfl, by decide +kernel, by decide +kernel⟩

abbrev st__law_sum : Stmt := top 90
abbrev N__law_sum : List Str := ["many", "one", "terms", "powers", "number"]
theorem sc__law_sum : FnScope N__law_sum ["many", "one"] (defScope st__law_sum) := ⟨rfl, rfl, rfl, by decide +kernel, rfl, by decide +kernel, by decide +kernel⟩

def putQ (t : Ts) (k : List Int) (q : Rat) : Ts := if q = 0 then t else t ++ [(k, q)]
theorem lp01 (q : Rat) : lp (0, 1) (ofQ q) = ofQ q := by
  unfold lp ofQ
  simp only
  by_cases h : (1 : Int) % (q.den : Int) = 0
  · rw [if_pos h]
    have h1 : q.den = 1 := by
      have hd := Int.dvd_of_emod_eq_zero h
      have : (q.den : Int) ≤ 1 := Int.le_of_dvd (by decide) hd
      have := q.den_pos
      omega
    rw [h1]; simp
  · rw [if_neg h, if_pos (Int.emod_one _)]
    simp
def spLput (K : PySem.W.Frag) : Sp := fun vs H Q _ => ∃ (l : Addr) (x y : V) (t : Ts) (k : List Int) (q : Rat), vs = [.ref l, x, y] ∧ MoOk K H l (.dc (tQ t)) ∧ Rep K H (.key k) x ∧ Rep K H (dQ q) y ∧ k ∉ t.map (·.1) ∧ t.length < 1000 ∧ Sz 4000 q ∧
  ∀ H', (∀ a o, a ≠ l → H a = some o → H' a = some o) → MoOk K H' l (.dc (tQ (putQ t k q))) → Q .non H'
abbrev sp__law_put (K : PySem.W.Frag) : Sp := spLput K
abbrev sp__law_sum (K : PySem.W.Frag) : Sp := pSp K (fun p : Nat × Ts => [.int p.1, .dc (tQ p.2)]) (fun p => TbOk p.1 p.2 ∧ SzT 4000 p.2) fun p => dS p.1 (trm p.2)
section
variable {K : PySem.W.Frag} {σ : L2.St} {H : Hp} {ta tb : TE}
theorem ev_lsum {m : Nat} {t : Ts} (ha : EvD K ta σ H (.int m)) (hb : EvD K tb σ H (.dc (tQ t))) (h : TbOk m t) (hz : SzT 4000 t) : EvD K (tCall (sp__law_sum K) [] E0 (tCons ta (tCons tb tNil))) σ H (dS m (trm t)) :=
  ev_call (args := fun p : Nat × Ts => [.int p.1, .dc (tQ p.2)]) (pre := fun p => TbOk p.1 p.2 ∧ SzT 4000 p.2) (res := fun p => dS p.1 (trm p.2)) (m, t) (ea_cons ha (ea_cons hb ea_nil)) ⟨h, hz⟩
end
section
variable {P : Program} {w : World} {K : PySem.W.Frag} {mg : Str → Option Value} {base : Heap} {f : Addr} {fd : FuncData}
theorem ok__law_put (F : FnP K "_law_put" st__law_put f fd) (B : Bl mg) (C__law_plus : Fc P w K mg base "_law_plus" 1 ["one", "other"] (sp__law_plus K)) : FnOk P w K mg base CX0 2 f fd ["found", "powers", "number"] (sp__law_put K) := by
  refine F.ok sc__law_put (fun vs H Q E h => by obtain ⟨_, _, _, _, _, _, rfl, _⟩ := h; rfl) (fun cdv A outer s H vs Q E hr h => ?_)
  obtain ⟨l, x, y, t, k, q, rfl, hl, hx, hy, hk, hfew, hz, kq⟩ := h
  have nd := sc__law_put.nd
  have c : Cf K (fun b => if b = l then none else H b) H (L2.start N__law_put [.ref l, x, y]) H [.at l, .d (.key k), .d (dQ q), .no] [(l, .dc (tQ t))] := by
    refine ⟨fun b o hb => ?_, Imm.refl H, ?_, fun p hp => ?_, by simp⟩
    · by_cases z : b = l
      · rw [if_pos z] at hb; cases hb
      · rw [if_neg z] at hb; exact hb
    · exact .cons rfl (.cons ⟨x, rfl, hx⟩ (.cons ⟨y, rfl, hy⟩ (.cons trivial .nil)))
    · rw [List.mem_singleton.mp hp]
      exact ⟨if_pos rfl, hl⟩
  refine ⟨_, PSs.nox (pss_cons (ps_set (i := 3) nd rfl (Or.inl rfl) (pe_cc C__law_plus hr (by decide) (by rfl) (pa_cons (pe_xget2 (by exact hu_of hr) (pv 0) (pv 1) (pe_tup (pa_cons pe_int (pa_cons pe_int pa_nil))) ⟨rfl, rfl, rfl, rfl⟩) (pa_cons (pv 2) pa_nil))))
    (pss_one (ps_if (pt_cmpR op_ne (pe_ix ix_tup (pv 3) pe_int (fun _ _ => rfl)) pe_int (nomark _))
    (pss_one (ps_xput (by exact hu_of hr) (pv 0) (pv 1) (pv 3) rfl))
    (pss_one (ps_if (pt_cmp (pc_xin (by exact hu_of hr) (pv 1) (pv 0)) rfl)
    (pss_one (ps_expr (pe_xpop (by exact hu_of hr) (pv 0) (pv 1) ⟨rfl, rfl, rfl, rfl⟩)))
    pss_nil))))), ?_⟩
  have hv0 : val t k = 0 := val_none hk
  have hlk : lk (tQ t) k = none := lk_none_of (by rw [tQ_keys]; exact hk)
  refine q_seq (r_set c (d := dQ q) ((ev_lplus (p := (0, 1)) (q := ofQ q) ((ev_xget2 (d := dP (0, 1)) (evx_M (j := 0) c rfl rfl) (ev_var c rfl) (ev_tup (ea_cons ev_int (ea_cons ev_int ea_nil)))).is (by rw [hlk]; rfl)) (ev_var c rfl) ⟨by decide, by decide +kernel, by decide +kernel⟩ (ofQ_ok hz)).is (by rw [lp01]; rfl)) fun σ2 H2 e2 c2 => ?_)
  have fin : ∀ H3 t', Cf K (fun b => if b = l then none else H b) H σ2 H3 [.at l, .d (.key k), .d (dQ q), .d (dQ q)] [(l, .dc (tQ t'))] → t' = putQ t k q → Q .non H3 := fun H3 t' c3 e => by
    subst e
    refine kq H3 (fun a o ha ho => c3.same a o (by simp only [if_neg ha]; exact ho)) (c3.mu _ List.mem_cons_self).2
  refine r_if (b := decide (q ≠ 0)) c2 ((et_t (ev_neI (ev_ixT (ev_var c2 rfl) ev_int rfl) ev_int)).is (num0 q)) (fun z H3 e3 c3 => ?_) fun z H3 e3 c3 => ?_
  · refine r_xput (j := 0) (d := dQ q) c3 rfl rfl (ev_var c3 rfl) (ev_var c3 rfl) (by rw [List.length_map]; omega) fun H4 c4 => ?_
    refine fin H4 (t ++ [(k, q)]) (c4.msE ?_) (by rw [putQ, if_neg (of_decide_eq_true z)])
    rw [pt_tQ, pt_new hk]; rfl
  · have hq0 : q = 0 := Classical.byContradiction fun y => of_decide_eq_false z y
    refine r_if (b := false) c3 (et_t ((ev_xin (ev_var c3 rfl) (evx_M (j := 0) c3 rfl rfl)).is (by rw [hlk]; rfl))) (fun z => by cases z) fun _ H4 e4 c4 => ?_
    exact fin H4 t c4 (by rw [putQ, if_pos hq0])
theorem ok__law_sum (F : FnP K "_law_sum" st__law_sum f fd) (B : Bl mg) (C__law_low : Fc P w K mg base "_law_low" 1 ["top", "bottom"] (sp__law_low K)) : FnOk P w K mg base CX0 2 f fd ["many", "one"] (sp__law_sum K) := by
  refine F.ok sc__law_sum (pSp_len fun _ => rfl) (fun cdv A outer s H vs Q E hr h => ?_)
  obtain ⟨⟨m, t⟩, hv, ⟨ht, hz⟩, kq⟩ := h
  have nd := sc__law_sum.nd
  have ht : TbOk m t := ht
  have hz : SzT 4000 t := hz
  have hfew := ht.few
  have c : Cf K H H (L2.start N__law_sum vs) H [.d (.int m), .d (.dc (tQ t)), .no, .no, .no] [] := Cf.start hv rfl
  refine ⟨_, PSs.nox (pss_cons (ps_set (i := 2) nd rfl (Or.inl rfl) (pe_lst pa_nil))
    (pss_cons (ps_for PassesOwn.never rfl (pi_list (pe_fz (pe_callB (cr_sortX (by rfl)) (by rfl) B.sorted (by decide +kernel) (pa_cons (pv 1) pa_nil)))) (pg_name (i := 3) nd rfl (Or.inl rfl))
    (pss_one (ps_if (pt_cmpR op_ne (pe_ix ix_tup (pe_xget (by exact hu_of hr) (pv 1) (pv 3) (fun _ _ => rfl)) pe_int (fun _ _ => rfl)) pe_int (nomark _))
    (pss_cons (ps_set (i := 4) nd rfl (Or.inl rfl) (pe_cc C__law_low hr (by decide) (by rfl) (pa_cons (pe_ix ix_tup (pe_xget (by exact hu_of hr) (pv 1) (pv 3) (fun _ _ => rfl)) pe_int (fun _ _ => rfl)) (pa_cons (pe_ix ix_tup (pe_xget (by exact hu_of hr) (pv 1) (pv 3) (fun _ _ => rfl)) pe_int (fun _ _ => rfl)) pa_nil))))
    (pss_one (ps_expr (pe_bm PySem.F.plainAttrs_list PySem.F.slot_list_append PySem.F.type_list_append mt_append (pv 2) (pa_cons (pe_tup (pa_cons (pv 3) (pa_cons (pv 4) pa_nil))) pa_nil)))))
    pss_nil)))
    (pss_one (ps_ret (pe_tup (pa_cons (pv 0) (pa_cons (pe_callTy call_tupleP (by rfl) B.tuple (by decide +kernel) (pa_cons (pv 2) pa_nil)) pa_nil))))))), ?_⟩
  refine q_seq (r_setM c (em_lst ea_nil) fun p σ2 H2 e2 c2 => ?_)
  have hkey : ∀ e ∈ tQ t, KOk m e.1 := fun e he => by
    obtain ⟨x, hx, rfl⟩ := List.mem_map.mp he
    exact ht.key x hx
  have hsl : (srtK (t.map (·.1))).length < 64 := by rw [(srtK_perm _).length_eq, List.length_map]; exact hfew
  refine q_seq (r_forM c2 (xs := srtK (t.map (·.1))) (enc := D.key) (ei_list ((ev_fz (em_sortX (evx_D (ev_var c2 rfl)) ht.m1 hkey (by rw [List.length_map]; exact hfew))).is (by rw [tQ_keys]))) (fun _ => [.d (.int m), .d (.dc (tQ t)), .at p, .no, .no]) (fun i => [(p, .lst (dT ((((srtK (t.map (·.1))).take i).filter fun k => decide (val t k ≠ 0)).map fun k => (k, val t k))))]) (Le.refl _) rfl _
    (fun e _ => eg_name) (fun Hs i hi σ3 H3 c3 => ?_) fun σ3 H3 c3 => ?_)
  · have hmem : (srtK (t.map (·.1)))[i] ∈ t.map (·.1) := (srtK_perm _).mem_iff.mp (List.getElem_mem hi)
    have hg : ∀ {σ : L2.St} {H H0 Hb : Hp} {ms : List (Addr × Mo)}, (c : Cf K H0 Hb σ H [.d (.int m), .d (.dc (tQ t)), .at p, .d (.key (srtK (t.map (·.1)))[i]), .no] ms) → EvD K (tXGet (tVar 1) (tVar 3)) σ H (dQ (val t (srtK (t.map (·.1)))[i])) := fun c => ev_xget (evx_D (ev_var c rfl)) (ev_var c rfl) (lk_val hmem)
    have hstep : ((srtK (t.map (·.1))).take (i + 1)).filter (fun k => decide (val t k ≠ 0)) = ((srtK (t.map (·.1))).take i).filter (fun k => decide (val t k ≠ 0)) ++ (if val t (srtK (t.map (·.1)))[i] ≠ 0 then [(srtK (t.map (·.1)))[i]] else []) := by
      rw [take_succ_get _ hi, List.filter_append]
      congr 1
      by_cases h : val t (srtK (t.map (·.1)))[i] ≠ 0
      · rw [if_pos h, List.filter_cons_of_pos (by exact decide_eq_true h)]; rfl
      · rw [if_neg h, List.filter_cons_of_neg (by rw [decide_eq_false h]; decide)]; rfl
    have zv := hz.val (by decide) (srtK (t.map (·.1)))[i]
    refine r_if (b := decide (val t (srtK (t.map (·.1)))[i] ≠ 0)) c3 ((et_t (ev_neI (ev_ixT (hg c3) ev_int rfl) ev_int)).is (num0 _)) (fun z H4 e4 c4 => ?_) fun z H4 e4 c4 => ?_
    · have hdp := (val t (srtK (t.map (·.1)))[i]).den_pos
      refine q_seq (r_set c4 (d := dQ (val t (srtK (t.map (·.1)))[i])) ((ev_llow (ev_ixT (hg c4) ev_int rfl) (ev_ixT (hg c4) ev_int rfl) (by omega) (Nat.lt_of_lt_of_le (szD zv) (pow_mono (by decide)))).is (by rw [Rat.num_divInt_den])) fun σ5 H5 e5 c5 => ?_)
      refine r_app (k := 0) c5 rfl rfl (d := eT ((srtK (t.map (·.1)))[i], val t (srtK (t.map (·.1)))[i])) (ev_tup (ea_cons (ev_var c5 rfl) (ea_cons (ev_var c5 rfl) ea_nil))) ?_ fun H6 c6 => (c6.le (.keep (.keep (.keep (.drop (.drop .nil)))))).msE ?_
      · rw [List.length_map, List.length_map]
        have := List.length_filter_le (fun k => decide (val t k ≠ 0)) ((srtK (t.map (·.1))).take i)
        rw [List.length_take] at this
        omega
      · rw [hstep, if_pos (of_decide_eq_true z), List.map_append, dT, dT, List.map_append]; rfl
    · refine (c4.le (.keep (.keep (.keep (.drop (.keep .nil)))))).msE ?_
      rw [hstep, if_neg (of_decide_eq_false z), List.append_nil]
  · rw [List.take_length] at c3
    exact r_ret c3 (d := dS m (trm t)) (ev_tup (ea_cons (ev_var c3 rfl) (ea_cons (ev_tupleV (k := 0) c3 rfl rfl) ea_nil))) kq
end
end Lw
/-! The law's draws, walked. -/
namespace Lw
open PySem PySem.Spec PyProof.Rows L2
abbrev st__law_draw : Stmt := top 79
abbrev N__law_draw : List Str := ["tape", "many", "spot", "cell", "some", "rest"]
theorem sc__law_draw : FnScope N__law_draw ["tape", "many"] (defScope st__law_draw) := ⟨rfl, rfl, rfl, by decide +kernel, rfl, by decide +kernel, by decide +kernel⟩

abbrev TapeD (sc : List Int) (a b c : Int) : List D := [.lst (dI sc), .int a, .int b, .int c]
def spDraw (K : PySem.W.Frag) : Sp := fun vs H Q _ => ∃ (l : Addr) (y : V) (sc : List Int) (a b c : Int) (many : Int), vs = [.ref l, y] ∧ MoOk K H l (.lst (TapeD sc a b c)) ∧ Rep K H (.int many) y ∧ sc.length ≤ 63 ∧ 0 ≤ a ∧ a ≤ 100000 ∧ 0 < many ∧ many < 1000 ∧
  ∀ (r a' b' c' : Int) H', 0 ≤ r → r < many → 0 ≤ a' → a' ≤ a + 1 → (∀ x o, x ≠ l → H x = some o → H' x = some o) → MoOk K H' l (.lst (TapeD sc a' b' c')) → Q (.int r) H'
abbrev sp__law_draw (K : PySem.W.Frag) : Sp := spDraw K
theorem r_retS {K : PySem.W.Frag} {σ : L2.St} {H : Hp} {te : TE} {d : D} {Dn : Ends} (h : EvD K te σ H d) (k : ∀ v H', Same H H' → Rep K H' d v → Dn.rt v H') : tRet te Dn σ H := h H (Same.refl H) _ fun v H2 e r => k v H2 e r
theorem natAbs_lt_of {i : Int} {n : Nat} (h0 : 0 ≤ i) (h : i < n) (hn : n ≤ 2 ^ 64) : i.natAbs < 2 ^ 4000 := by
  have : i.natAbs < 2 ^ 64 := by omega
  exact Nat.lt_of_lt_of_le this (pow_mono (by decide))
section
variable {P : Program} {w : World} {K : PySem.W.Frag} {mg : Str → Option Value} {base : Heap} {f : Addr} {fd : FuncData}
theorem ok__law_draw (F : FnP K "_law_draw" st__law_draw f fd) (B : Bl mg) : FnOk P w K mg base CX0 1 f fd ["tape", "many"] (sp__law_draw K) := by
  refine F.ok sc__law_draw (fun vs H Q E h => by obtain ⟨_, _, _, _, _, _, _, rfl, _⟩ := h; rfl) (fun cdv A outer s H vs Q E hr h => ?_)
  obtain ⟨l, y, sc, a, b, c0, many, rfl, hl, hy, hsc, ha0, ha1, hm0, hm1, kq⟩ := h
  have nd := sc__law_draw.nd
  have c : Cf K (fun b => if b = l then none else H b) H (L2.start N__law_draw [.ref l, y]) H [.at l, .d (.int many), .no, .no, .no, .no] [(l, .lst (TapeD sc a b c0))] := by
    refine ⟨fun b o hb => ?_, Imm.refl H, ?_, fun p hp => ?_, by simp⟩
    · by_cases z : b = l
      · rw [if_pos z] at hb; cases hb
      · rw [if_neg z] at hb; exact hb
    · exact .cons rfl (.cons ⟨y, rfl, hy⟩ (.cons trivial (.cons trivial (.cons trivial (.cons trivial .nil)))))
    · rw [List.mem_singleton.mp hp]
      exact ⟨if_pos rfl, hl⟩
  refine ⟨_, PSs.nox (pss_cons (ps_if (pt_cmpR op_eq (pe_ix ix_list (pv 0) pe_int (fun _ _ => rfl)) pe_int (nomark _))
    (pss_cons (ps_set (i := 2) nd rfl (Or.inl rfl) (pe_ix ix_list (pv 0) pe_int (fun _ _ => rfl)))
    (pss_cons (ps_asg (pe_op op_add (pv 2) pe_int) (pg_sub (pv 0) pe_int set_list))
    (pss_cons (ps_set (i := 3) nd rfl (Or.inl rfl) pe_int)
    (pss_cons (ps_if (pt_cmpR op_gt (pe_callB call_len_seq (by rfl) B.len (by decide +kernel) (pa_cons (pe_ix ix_list (pv 0) pe_int (fun _ _ => rfl)) pa_nil)) pe_int (nomark _))
    (pss_one (ps_set (i := 3) nd rfl (Or.inl rfl) (pe_ix ix_list (pe_ix ix_list (pv 0) pe_int (fun _ _ => rfl)) (pe_op op_mod (pv 2) (pe_callB call_len_seq (by rfl) B.len (by decide +kernel) (pa_cons (pe_ix ix_list (pv 0) pe_int (fun _ _ => rfl)) pa_nil))) (fun _ _ => rfl))))
    pss_nil)
    (pss_cons (ps_if (PW.pt (pw_or (pt_cmpR op_ge (pv 2) (pe_callB call_len_seq (by rfl) B.len (by decide +kernel) (pa_cons (pe_ix ix_list (pv 0) pe_int (fun _ _ => rfl)) pa_nil)) (nomark _)) (pw_or1 (pt_cmpR op_lt (pv 3) (pe_op op_pow pe_int pe_int) (nomark _)))))
    (pss_cons (ps_set (i := 4) nd rfl (Or.inl rfl) (pe_op op_add (pe_op op_add (pe_op op_mod (pe_op op_mulW (pv 2) (pv 2)) pe_int) (pe_op op_mulW pe_int (pv 2))) pe_int))
    (pss_cons (ps_set (i := 4) nd rfl (Or.inl rfl) (pe_op op_mod (pe_op op_mulW (pe_op op_add (pe_op op_mod (pv 3) pe_int) pe_int) (pv 4)) pe_int))
    (pss_one (ps_ret (pe_op op_mod (pe_op op_mod (pe_op op_add (pe_op op_fdivW (pe_op op_mod (pe_op op_mulW (pv 4) (pv 4)) pe_int) pe_int) (pe_op op_mulW pe_int (pv 2))) pe_int) (pv 1))))))
    pss_nil)
    (pss_cons (ps_asg (pe_op op_sub (pv 3) (pe_op op_pow pe_int pe_int)) (pg_sub (pv 0) pe_int set_list))
    (pss_one (ps_asg pe_int (pg_sub (pv 0) pe_int set_list)))))))))
    pss_nil)
    (pss_cons (ps_asg (pe_op op_sub (pe_ix ix_list (pv 0) pe_int (fun _ _ => rfl)) pe_int) (pg_sub (pv 0) pe_int set_list))
    (pss_cons (ps_set (i := 5) nd rfl (Or.inl rfl) (pe_ix ix_list (pv 0) pe_int (fun _ _ => rfl)))
    (pss_cons (ps_asg (pe_op op_fdivW (pv 5) (pv 1)) (pg_sub (pv 0) pe_int set_list))
    (pss_one (ps_ret (pe_op op_mod (pv 5) (pv 1)))))))), ?_⟩
  have fin : ∀ (r a' b' c' : Int) σ' H' Γ', Cf K (fun b => if b = l then none else H b) H σ' H' Γ' [(l, .lst (TapeD sc a' b' c'))] → 0 ≤ r → r < many → 0 ≤ a' → a' ≤ a + 1 → Q (.int r) H' := fun r a' b' c' σ' H' Γ' cc h1 h2 h3 h4 =>
    kq r a' b' c' H' h1 h2 h3 h4 (fun x o hx ho => cc.same x o (by simp only [if_neg hx]; exact ho)) (cc.mu _ List.mem_cons_self).2
  refine q_split (β := Int × Int × Int) (fun p σ H1 => 0 ≤ p.1 ∧ p.1 ≤ a + 1 ∧ Cf K (fun b => if b = l then none else H b) H σ H1 [.at l, .d (.int many), .no, .no, .no, .no] [(l, .lst (TapeD sc p.1 p.2.1 p.2.2))]) ?_ fun fin2 => ?_
  · rintro ⟨a', b', c'⟩ σ' H' ⟨h1, h2, c2⟩
    have h1 : 0 ≤ a' := h1
    have h2 : a' ≤ a + 1 := h2
    have c2 : Cf K (fun b => if b = l then none else H b) H σ' H' [.at l, .d (.int many), .no, .no, .no, .no] [(l, .lst (TapeD sc a' b' c'))] := c2
    refine q_seq (r_setL (k := 0) (j := 3) c2 rfl rfl (ev_iI (ev_ixM (k := 0) c2 rfl rfl ev_int rfl) ev_int) ev_int rfl fun H3 c3 => ?_)
    refine q_seq (r_set c3 (ev_ixM (k := 0) c3 rfl rfl ev_int rfl) fun σ4 H4 e4 c4 => ?_)
    refine q_seq (r_setL (k := 0) (j := 2) c4 rfl rfl (ev_iC (ev_var c4 rfl) (ev_var c4 rfl) (wide_div hm0 (b := 4000) (natAbs_lt_of (n := 1000) (by omega) hm1 (by decide)) (by decide) (by decide))) ev_int rfl fun H5 c5 => ?_)
    refine r_retS (d := .int (b' % many)) (ev_iC (ev_var c5 rfl) (ev_var c5 rfl) hm0) fun v H6 sm r => ?_
    rw [rep_int.mp r]
    exact fin _ _ _ _ _ _ _ (c5.ext sm) (Int.emod_nonneg _ (by omega)) (Int.emod_lt_of_pos _ hm0) h1 h2
  · refine r_if (b := decide (c0 = 0)) c (et_t (ev_eqI (ev_ixM (k := 0) c rfl rfl ev_int rfl) ev_int)) (fun z H2 e2 c2 => ?_) (fun z H2 e2 c2 => r_next (fin2 (a, b, c0) _ _ ⟨ha0, by show a ≤ a + 1; omega, c2⟩))
    refine q_seq (r_set c2 (d := .int a) (ev_ixM (k := 0) c2 rfl rfl ev_int rfl) fun σ3 H3 e3 c3 => ?_)
    refine q_seq (r_setL (k := 0) (j := 1) c3 rfl rfl (ev_iI (ev_var c3 rfl) ev_int) ev_int rfl fun H4 c4 => ?_)
    dsimp only
    refine q_seq (r_set (n := 3) (te := tC (.int 0)) (d := .int 0) c4 ev_int fun σ5 H5 e5 c5 => ?_)
    dsimp only
    with_reducible refine q_split (β := Int) (fun cell σ1 H1 => Cf K (fun b => if b = l then none else H b) H σ1 H1 [.at l, .d (.int many), .d (.int a), .d (.int cell), .no, .no] [(l, .lst (TapeD sc (a + 1) b c0))]) ?_ fun fin3 => ?_
    rotate_left
    · refine r_if (b := decide (sc.length > 0)) c5 ((et_t (ev_iB (ev_lenL (ev_ixM (k := 0) c5 rfl rfl ev_int rfl)) ev_int)).is ?_) (fun z H6 e6 c6 => ?_) (fun z H6 e6 c6 => fin3 0 _ _ c6)
      · rw [List.length_map]
        exact decide_eq_decide.mpr (by omega)
      · have hpos : 0 < sc.length := of_decide_eq_true z
        have hlt : (a % (sc.length : Int)).toNat < sc.length := by
          have := Int.emod_nonneg a (show (sc.length : Int) ≠ 0 by omega)
          have := Int.emod_lt_of_pos a (show (0 : Int) < (sc.length : Int) by omega)
          omega
        have hat : atI (dI sc) (a % ((dI sc).length : Int)) = some (.int (sc.getD (a % (sc.length : Int)).toNat 0)) := by
          rw [List.length_map]
          have h0 := Int.emod_nonneg a (show (sc.length : Int) ≠ 0 by omega)
          have e : a % (sc.length : Int) = (((a % (sc.length : Int)).toNat : Nat) : Int) := by omega
          conv => lhs; rw [e]
          refine atI_nat ?_
          rw [List.getElem?_map, List.getElem?_eq_getElem hlt]
          simp [List.getD, hlt]
        refine r_set c6 (ev_ixL (ev_ixM (k := 0) c6 rfl rfl ev_int rfl) (ev_iC (ev_var c6 rfl) (ev_lenL (ev_ixM (k := 0) c6 rfl rfl ev_int rfl)) (by show (0 : Int) < ((dI sc).length : Int); rw [List.length_map]; omega)) hat) fun σ7 H7 e7 c7 => fin3 _ _ _ c7
    · intro cell σ6 H6 c6
      have p18 : CPow 10 18 := by
        unfold CPow; decide
      refine q_seq (r_if c6 (et_or (et_t (ev_iB (ev_var c6 rfl) (ev_lenL (ev_ixM (k := 0) c6 rfl rfl ev_int rfl)))) fun _ => et_t (ev_iB (ev_var c6 rfl) (ev_iC ev_int ev_int p18))) (fun z H7 e7 c7 => ?_) (fun z H7 e7 c7 => ?_))
      · have u1 : (a * a % 10007 + 61 * a + 7).natAbs < 2 ^ 4000 := natAbs_lt_of (n := 2 ^ 40) (by have := Int.emod_nonneg (a * a) (show (10007 : Int) ≠ 0 by decide); omega) (by have := Int.emod_lt_of_pos (a * a) (show (0 : Int) < 10007 by decide); omega) (by decide)
        have b1 : a.natAbs < 2 ^ 4000 := natAbs_lt_of (n := 200000) ha0 (by omega) (by decide)
        have sm : ∀ i : Int, 0 ≤ i → i < 1000000 → i.natAbs < 2 ^ 4000 := fun i h0 h1 => natAbs_lt_of (n := 1000000) h0 h1 (by decide)
        have u2 : (cell % 999983 + 3).natAbs < 2 ^ 4000 := natAbs_lt_of (n := 2 ^ 40) (by have := Int.emod_nonneg cell (show (999983 : Int) ≠ 0 by decide); omega) (by have := Int.emod_lt_of_pos cell (show (0 : Int) < 999983 by decide); omega) (by decide)
        refine q_seq (r_set c7 (ev_iI (ev_iI (ev_iC (ev_iC (ev_var c7 rfl) (ev_var c7 rfl) (wm b1 b1)) ev_int (by show (0 : Int) < 10007; decide)) (ev_iC ev_int (ev_var c7 rfl) (wm (sm 61 (by decide) (by decide)) b1))) ev_int) fun σ8 H8 e8 c8 => ?_)
        refine q_seq (r_set c8 (ev_iC (ev_iC (ev_iI (ev_iC (ev_var c8 rfl) ev_int (by show (0 : Int) < 999983; decide)) ev_int) (ev_var c8 rfl) (wm u2 u1)) ev_int (by show (0 : Int) < 1000003; decide)) fun σ9 H9 e9 c9 => ?_)
        have u3 : ∀ i : Int, (i % 1000003).natAbs < 2 ^ 4000 := fun i => natAbs_lt_of (n := 2 ^ 40) (Int.emod_nonneg _ (by decide)) (by have := Int.emod_lt_of_pos i (show (0 : Int) < 1000003 by decide); omega) (by decide)
        refine r_retS (ev_iC (ev_iC (ev_iI (ev_iC (ev_iC (ev_iC (ev_var c9 rfl) (ev_var c9 rfl) (wm (u3 _) (u3 _))) ev_int (by show (0 : Int) < 999979; decide)) ev_int (wide_div (by decide) (b := 4000) (sm 3 (by decide) (by decide)) (by decide) (by decide))) (ev_iC ev_int (ev_var c9 rfl) (wm (sm 131 (by decide) (by decide)) b1))) ev_int (by show (0 : Int) < 99991; decide)) (ev_var c9 rfl) hm0) fun v H10 sm' r => ?_
        rw [rep_int.mp r]
        exact fin _ _ _ _ _ _ _ (c9.ext sm') (Int.emod_nonneg _ (by omega)) (Int.emod_lt_of_pos _ hm0) (by omega) (Int.le_refl _)
      · refine q_seq (r_setL (k := 0) (j := 2) c7 rfl rfl (ev_iI (ev_var c7 rfl) (ev_iC ev_int ev_int p18)) ev_int rfl fun H8 c8 => ?_)
        refine r_setL (k := 0) (j := 3) c8 rfl rfl ev_int ev_int rfl fun H9 c9 => ?_
        exact fin2 (a + 1, _, 40) _ _ ⟨by show 0 ≤ a + 1; omega, Int.le_refl _, c9.le (.keep (.keep (.drop (.drop (.keep (.keep .nil))))))⟩
end
end Lw
/-! The law's _law_number, _law_box, walked. -/
namespace Lw
open PySem PySem.Spec PyProof.Rows L2
abbrev st__law_number : Stmt := top 93
abbrev N__law_number : List Str := ["tape", "top"]
theorem sc__law_number : FnScope N__law_number ["tape"] (defScope st__law_number) := ⟨rfl, rfl, rfl, by decide +kernel, rfl, by decide +kernel, by decide +kernel⟩

section
variable {K : PySem.W.Frag} {σ : L2.St} {H H' H0 Hb : Hp} {Γ : List G} {ms : List (Addr × Mo)} {te : TE}
theorem Cf.chgS {l : Addr} {m m' : Mo} (c : Cf K H0 Hb σ H Γ ms) (k : Nat) (hk : ms[k]? = some (l, m)) (mu : Mut (H l)) (hs : ∀ x o, x ≠ l → H x = some o → H' x = some o) (h : MoOk K H' l m') : Cf K H0 Hb σ H' Γ (ms.set k (l, m')) := by
  have hm : (l, m) ∈ ms := List.mem_of_getElem? hk
  have i : Imm H H' := by
    refine ⟨fun a xs e => hs a _ (fun z => ?_) e, fun a o u e => hs a _ (fun z => ?_) e⟩
    · rw [z] at e; rw [e] at mu; cases mu
    · rw [z] at e; rw [e] at mu; cases mu
  have hl0 : H0 l = none := (c.mu _ hm).1
  refine ⟨fun a o ha => hs a o (fun z => by rw [z, hl0] at ha; cases ha) (c.same _ _ ha), c.imm.trans i, c.st.mono i, fun p hp => ?_, ?_⟩
  · rcases List.mem_or_eq_of_mem_set hp with hp' | rfl
    · by_cases e : p.1 = l
      · obtain ⟨j, hj, ej⟩ := List.mem_iff_getElem.mp hp
        have hj' : j < ms.length := by simpa using hj
        by_cases ejk : j = k
        · subst ejk
          rw [List.getElem_set_self] at ej
          subst ej
          exact ⟨hl0, h⟩
        · rw [List.getElem_set_ne (fun q => ejk q.symm)] at ej
          exfalso
          have a1 : (ms.map (·.1))[j]? = some l := by rw [List.getElem?_map, List.getElem?_eq_getElem hj', ej, Option.map_some, e]
          have a2 : (ms.map (·.1))[k]? = some l := by rw [List.getElem?_map, hk]; rfl
          exact ejk (nd_ix c.nd a1 a2)
      · obtain ⟨o, ho⟩ := (c.mu p hp').2.some
        exact ⟨(c.mu p hp').1, (c.mu p hp').2.keep i (by rw [hs _ _ e ho, ho])⟩
    · exact ⟨hl0, h⟩
  · have e : (ms.set k (l, m')).map (·.1) = ms.map (·.1) := by
      rw [List.map_set]
      apply List.ext_getElem?
      intro j
      by_cases ej : j = k
      · subst ej
        rw [List.getElem?_set_self (by rw [List.length_map]; exact (List.getElem?_eq_some_iff.mp hk).1), List.getElem?_map, hk]
        rfl
      · rw [List.getElem?_set_ne (fun q => ej q.symm)]
    rw [e]; exact c.nd
theorem r_draw {n k : Nat} {l : Addr} {sc : List Int} {a b c0 many : Int} {R : VK} (c : Cf K H0 Hb σ H Γ ms) (hn : Γ[n]? = some (.at l)) (hk : ms[k]? = some (l, .lst (TapeD sc a b c0))) (h : EvD K te σ H (.int many)) (h1 : sc.length ≤ 63) (h2 : 0 ≤ a) (h3 : a ≤ 100000) (h4 : 0 < many) (h5 : many < 1000)
    (q : ∀ (r a' b' c' : Int) H', 0 ≤ r → r < many → 0 ≤ a' → a' ≤ a + 1 → Cf K H0 Hb σ H' Γ (ms.set k (l, .lst (TapeD sc a' b' c'))) → R (.int r) H') : tCall (spDraw K) [] E0 (tCons (tVar n) (tCons te tNil)) σ H R := by
  refine ⟨.ref l, c.st.ref hn, h H (Same.refl H) _ fun v H2 e2 r => ?_⟩
  have c2 := c.ext e2
  have hm := (c2.mu _ (List.mem_of_getElem? hk)).2
  refine ⟨l, v, sc, a, b, c0, many, rfl, hm, r, h1, h2, h3, h4, h5, fun r' a' b' c' H' g1 g2 g3 g4 hs hm' => q r' a' b' c' H' g1 g2 g3 g4 (c2.chgS k hk ?_ hs hm')⟩
  obtain ⟨vs, e, _⟩ := hm
  rw [e]; trivial
end
def spNum (K : PySem.W.Frag) : Sp := fun vs H Q _ => ∃ (l : Addr) (sc : List Int) (a b c : Int), vs = [.ref l] ∧ MoOk K H l (.lst (TapeD sc a b c)) ∧ sc.length ≤ 63 ∧ 0 ≤ a ∧ a ≤ 90000 ∧
  ∀ (q : Rat) (a' b' c' : Int) v H', Sz 4 q → 0 ≤ a' → a' ≤ a + 3 → (∀ x o, x ≠ l → H x = some o → H' x = some o) → MoOk K H' l (.lst (TapeD sc a' b' c')) → Rep K H' (dQ q) v → Q v H'
abbrev sp__law_number (K : PySem.W.Frag) : Sp := spNum K
section
variable {K : PySem.W.Frag} {σ : L2.St} {H H' H0 Hb : Hp} {Γ : List G} {ms : List (Addr × Mo)} {te : TE}
theorem r_num {n k : Nat} {l : Addr} {sc : List Int} {a b c0 : Int} {R : VK} (c : Cf K H0 Hb σ H Γ ms) (hn : Γ[n]? = some (.at l)) (hk : ms[k]? = some (l, .lst (TapeD sc a b c0))) (h1 : sc.length ≤ 63) (h2 : 0 ≤ a) (h3 : a ≤ 90000)
    (q : ∀ (r : Rat) (a' b' c' : Int) v H', Sz 4 r → 0 ≤ a' → a' ≤ a + 3 → Cf K H0 Hb σ H' Γ (ms.set k (l, .lst (TapeD sc a' b' c'))) → Rep K H' (dQ r) v → R v H') : tCall (spNum K) [] E0 (tCons (tVar n) tNil) σ H R := by
  have hm := (c.mu _ (List.mem_of_getElem? hk)).2
  refine ⟨.ref l, c.st.ref hn, l, sc, a, b, c0, rfl, hm, h1, h2, h3, fun r a' b' c' v H' g1 g2 g3 hs hm' rv => q r a' b' c' v H' g1 g2 g3 (c.chgS k hk ?_ hs hm') rv⟩
  obtain ⟨vs, e, _⟩ := hm
  rw [e]; trivial
end
theorem op_first {r : R2} {t1 tb : TE} {n : Nat} {Dn : Ends} {σ : L2.St} {H : Hp} (h : t1 σ H fun v H' => tAsg (tOp r (tC v) tb) (gName n) Dn σ H') : tAsg (tOp r t1 tb) (gName n) Dn σ H := h
theorem if_first {r : R2} {t1 tb : TE} {tu tw : TS} {Dn : Ends} {σ : L2.St} {H : Hp} (h : t1 σ H fun v H' => tIfS (tTest (tOp r (tC v) tb)) tu tw Dn σ H') : tIfS (tTest (tOp r t1 tb)) tu tw Dn σ H := h
theorem sz4 {x y : Int} (h1 : -6 ≤ x) (h2 : x ≤ 6) (h3 : 1 ≤ y) (h4 : y ≤ 9) : Sz 4 (Rat.divInt x y) := by
  have hg : 0 < x.natAbs.gcd y.natAbs := Nat.gcd_pos_of_pos_right _ (by omega)
  have e1 := low_num (t := x) (b := y) (by omega)
  have e2 := low_den (t := x) (b := y) (by omega)
  refine ⟨?_, ?_⟩
  · rw [e1]
    have : (x / ((x.natAbs.gcd y.natAbs : Nat) : Int)).natAbs ≤ x.natAbs := Int.natAbs_ediv_le_natAbs x _
    show _ < 16
    omega
  · have : y / ((x.natAbs.gcd y.natAbs : Nat) : Int) ≤ y := Int.ediv_le_self _ (by omega)
    rw [← e2] at this
    show _ < 16
    omega
section
variable {P : Program} {w : World} {K : PySem.W.Frag} {mg : Str → Option Value} {base : Heap} {f : Addr} {fd : FuncData}
theorem ok__law_number (F : FnP K "_law_number" st__law_number f fd) (B : Bl mg) (C__law_draw : Fc P w K mg base "_law_draw" 1 ["tape", "many"] (sp__law_draw K)) (C__law_low : Fc P w K mg base "_law_low" 1 ["top", "bottom"] (sp__law_low K)) : FnOk P w K mg base CX0 2 f fd ["tape"] (sp__law_number K) := by
  refine F.ok sc__law_number (fun vs H Q E h => by obtain ⟨_, _, _, _, _, rfl, _⟩ := h; rfl) (fun cdv A outer s H vs Q E hr h => ?_)
  obtain ⟨l, sc, a, b, c0, rfl, hl, hsc, ha0, ha1, kq⟩ := h
  have nd := sc__law_number.nd
  have c : Cf K (fun b => if b = l then none else H b) H (L2.start N__law_number [.ref l]) H [.at l, .no] [(l, .lst (TapeD sc a b c0))] := by
    refine ⟨fun b o hb => ?_, Imm.refl H, ?_, fun p hp => ?_, by simp⟩
    · by_cases z : b = l
      · rw [if_pos z] at hb; cases hb
      · rw [if_neg z] at hb; exact hb
    · exact .cons rfl (.cons trivial .nil)
    · rw [List.mem_singleton.mp hp]
      exact ⟨if_pos rfl, hl⟩
  refine ⟨_, PSs.nox (pss_cons (ps_set (i := 1) nd rfl (Or.inl rfl) (pe_op op_sub (pe_cc C__law_draw hr (by decide) (by rfl) (pa_cons (pv 0) (pa_cons pe_int pa_nil))) pe_int))
    (pss_cons (ps_if (pt_cmpR op_lt (pe_cc C__law_draw hr (by decide) (by rfl) (pa_cons (pv 0) (pa_cons pe_int pa_nil))) pe_int (nomark _))
    (pss_one (ps_ret (pe_tup (pa_cons (pv 1) (pa_cons pe_int pa_nil)))))
    pss_nil)
    (pss_one (ps_ret (pe_cc C__law_low hr (by decide) (by rfl) (pa_cons (pv 1) (pa_cons (pe_op op_add pe_int (pe_cc C__law_draw hr (by decide) (by rfl) (pa_cons (pv 0) (pa_cons pe_int pa_nil)))) pa_nil))))))), ?_⟩
  have fin : ∀ (r : Rat) (a' b' c' : Int) v σ' H' Γ', Cf K (fun b => if b = l then none else H b) H σ' H' Γ' [(l, .lst (TapeD sc a' b' c'))] → Sz 4 r → 0 ≤ a' → a' ≤ a + 3 → Rep K H' (dQ r) v → Q v H' := fun r a' b' c' v σ' H' Γ' cc h1 h3 h4 rv =>
    kq r a' b' c' v H' h1 h3 h4 (fun x o hx ho => cc.same x o (by simp only [if_neg hx]; exact ho)) (cc.mu _ List.mem_cons_self).2 rv
  refine q_seq (op_first (r_draw (k := 0) c rfl rfl ev_int hsc ha0 (by omega) (by decide) (by decide) fun r1 a1 b1 c1 H1 g1 g2 g3 g4 d1 => ?_))
  refine r_set d1 (d := .int (r1 - 6)) (ev_iI (i := r1) (j := 6) (f := fun i j => i - j) ev_int ev_int) fun σ2 H2 e2 d2 => ?_
  refine q_seq (if_first (r_draw (k := 0) d2 rfl rfl ev_int hsc g3 (by omega) (by decide) (by decide) fun r2 a2 b2 c2 H3 k1 k2 k3 k4 d3 => ?_))
  refine r_if (b := decide (r2 < 5)) d3 (et_t (K := K) (ev_iB (i := r2) (j := 5) (f := fun i j => decide (i < j)) ev_int ev_int)) (fun z H4 e4 d4 => ?_) (fun z H4 e4 d4 => ?_)
  · refine r_retS (d := dQ ((r1 - 6 : Int) : Rat)) ((ev_tup (ea_cons (ev_var d4 rfl) (ea_cons ev_int ea_nil))).is (by rw [dQ, Rat.num_intCast, Rat.den_intCast]; rfl)) fun v H5 sm rv => ?_
    refine fin _ _ _ _ _ _ _ _ (d4.ext sm) ?_ k3 (by omega) rv
    exact Sz.int (show (r1 - 6).natAbs < 16 by omega)
  · obtain ⟨v1, hv1, rv1⟩ := d4.st.get (i := 1) (d := .int (r1 - 6)) rfl
    refine ⟨v1, hv1, ?_⟩
    refine r_draw (k := 0) d4 rfl rfl ev_int hsc k3 (by omega) (by decide) (by decide) fun r3 a3 b3 c3 H5 j1 j2 j3 j4 d5 => ?_
    refine ⟨1, r3, rfl, rfl, ?_⟩
    refine ⟨(r1 - 6, 1 + r3), ?_, ⟨by show 1 + r3 ≠ 0; omega, ?_⟩, fun v H6 sm rv => ?_⟩
    · rw [rep_int.mp rv1]
      exact repL_cons.mpr ⟨_, _, rfl, rep_int.mpr rfl, repL_cons.mpr ⟨_, _, rfl, rep_int.mpr rfl, repL_nil.mpr rfl⟩⟩
    · exact Nat.lt_of_lt_of_le (show (1 + r3).natAbs < 2 ^ 64 by omega) (pow_mono (by decide))
    · exact fin _ _ _ _ _ _ _ _ (d5.ext sm) (sz4 (by omega) (by omega) (by omega) (by omega)) j3 (by omega) rv
end
end Lw
/-! The law's _law_box, walked. -/
namespace Lw
open PySem PySem.Spec PyProof.Rows L2
abbrev st__law_box : Stmt := top 94
abbrev N__law_box : List Str := ["tape", "many", "box", "k", "low", "width"]
theorem sc__law_box : FnScope N__law_box ["tape", "many"] (defScope st__law_box) := ⟨rfl, rfl, rfl, by decide +kernel, rfl, by decide +kernel, by decide +kernel⟩

theorem sz_divInt {x y : Int} {n : Nat} (h1 : x.natAbs < 2 ^ n) (h0 : 0 < y) (h2 : y.natAbs < 2 ^ n) : Sz n (Rat.divInt x y) := by
  have hg : 0 < x.natAbs.gcd y.natAbs := Nat.gcd_pos_of_pos_right _ (by omega)
  have e1 := low_num (t := x) (b := y) h0
  have e2 := low_den (t := x) (b := y) h0
  refine ⟨?_, ?_⟩
  · rw [e1]
    have : (x / ((x.natAbs.gcd y.natAbs : Nat) : Int)).natAbs ≤ x.natAbs := Int.natAbs_ediv_le_natAbs x _
    omega
  · have : y / ((x.natAbs.gcd y.natAbs : Nat) : Int) ≤ y := Int.ediv_le_self _ (by omega)
    rw [← e2] at this
    omega
structure StrOk (p : Rat × Rat) : Prop where
  lo : Sz 4 p.1
  hi : Sz 10 p.2
  wd : Sz 5 (p.2 - p.1)
  lt : p.1 < p.2
structure BoxGood (m : Nat) (box : Bx) : Prop where
  len : box.length = m
  str : ∀ p ∈ box, StrOk p
def spLbox (K : PySem.W.Frag) : Sp := fun vs H Q _ => ∃ (l : Addr) (y : V) (sc : List Int) (a b c : Int) (m : Nat), vs = [.ref l, y] ∧ MoOk K H l (.lst (TapeD sc a b c)) ∧ Rep K H (.int m) y ∧ sc.length ≤ 63 ∧ 0 ≤ a ∧ a ≤ 50000 ∧ m ≤ 3 ∧
  ∀ (box : Bx) (a' b' c' : Int) v H', BoxGood m box → 0 ≤ a' → a' ≤ a + 6 * m → (∀ x o, x ≠ l → H x = some o → H' x = some o) → MoOk K H' l (.lst (TapeD sc a' b' c')) → Rep K H' (.lst (dBox box)) v → Q v H'
abbrev sp__law_box (K : PySem.W.Frag) : Sp := spLbox K
section
variable {P : Program} {w : World} {K : PySem.W.Frag} {mg : Str → Option Value} {base : Heap} {f : Addr} {fd : FuncData}
theorem pos_num {q : Rat} (h : 0 < q.num) : 0 < q := by
  rw [Rat.lt_iff]; simpa using h
theorem asg_cps {t1 : TE} {n : Nat} {Dn : Ends} {σ : L2.St} {H : Hp} (h : t1 σ H fun v H' => Dn.nx (σ.set n (some v)) H') : tAsg t1 (gName n) Dn σ H := h
theorem ok__law_box (F : FnP K "_law_box" st__law_box f fd) (B : Bl mg) (C__law_number : Fc P w K mg base "_law_number" 2 ["tape"] (sp__law_number K)) (C__law_low : Fc P w K mg base "_law_low" 1 ["top", "bottom"] (sp__law_low K)) (C__law_more : Fc P w K mg base "_law_more" 2 ["one", "other"] (sp__law_more K)) : FnOk P w K mg base CX0 3 f fd ["tape", "many"] (sp__law_box K) := by
  refine F.ok sc__law_box (fun vs H Q E h => by obtain ⟨_, _, _, _, _, _, _, rfl, _⟩ := h; rfl) (fun cdv A outer s H vs Q E hr h => ?_)
  obtain ⟨l, y, sc, a, b, c0, m, rfl, hl, hy, hsc, ha0, ha1, hm3, kq⟩ := h
  have nd := sc__law_box.nd
  have c : Cf K (fun b => if b = l then none else H b) H (L2.start N__law_box [.ref l, y]) H [.at l, .d (.int m), .no, .no, .no, .no] [(l, .lst (TapeD sc a b c0))] := by
    refine ⟨fun b o hb => ?_, Imm.refl H, ?_, fun p hp => ?_, by simp⟩
    · by_cases z : b = l
      · rw [if_pos z] at hb; cases hb
      · rw [if_neg z] at hb; exact hb
    · exact .cons rfl (.cons ⟨y, rfl, hy⟩ (.cons trivial (.cons trivial (.cons trivial (.cons trivial .nil)))))
    · rw [List.mem_singleton.mp hp]
      exact ⟨if_pos rfl, hl⟩
  refine ⟨_, PSs.nox (pss_cons (ps_set (i := 2) nd rfl (Or.inl rfl) (pe_lst pa_nil))
    (pss_cons (ps_for PassesOwn.never rfl (pi_range1 (by rfl) B.range (pa_cons (pv 1) pa_nil)) (pg_name (i := 3) nd rfl (Or.inl rfl))
    (pss_cons (ps_set (i := 4) nd rfl (Or.inl rfl) (pe_cc C__law_number hr (by decide) (by rfl) (pa_cons (pv 0) pa_nil)))
    (pss_cons (ps_set (i := 5) nd rfl (Or.inl rfl) (pe_cc C__law_number hr (by decide) (by rfl) (pa_cons (pv 0) pa_nil)))
    (pss_cons (ps_if (pt_cmpR op_le (pe_ix ix_tup (pv 5) pe_int (fun _ _ => rfl)) pe_int (nomark _))
    (pss_one (ps_set (i := 5) nd rfl (Or.inl rfl) (pe_cc C__law_low hr (by decide) (by rfl) (pa_cons (pe_op op_sub pe_int (pe_ix ix_tup (pv 5) pe_int (fun _ _ => rfl))) (pa_cons (pe_ix ix_tup (pv 5) pe_int (fun _ _ => rfl)) pa_nil)))))
    pss_nil)
    (pss_one (ps_expr (pe_bm PySem.F.plainAttrs_list PySem.F.slot_list_append PySem.F.type_list_append mt_append (pv 2) (pa_cons (pe_tup (pa_cons (pv 4) (pa_cons (pe_cc C__law_more hr (by decide) (by rfl) (pa_cons (pv 4) (pa_cons (pv 5) pa_nil))) pa_nil))) pa_nil))))))))
    (pss_one (ps_ret (pe_fz (pv 2)))))), ?_⟩
  refine q_seq (r_setM c (em_lst ea_nil) fun p σ2 H2 e2 c2 => ?_)
  refine q_seq (r_forS c2 (xs := List.range m) (enc := fun i : Nat => .int (i : Nat)) (ei_rng (ea_cons (ev_var c2 rfl) ea_nil) (by omega)) (([], a, b, c0) : Bx × Int × Int × Int) (fun i st => BoxGood i st.1 ∧ 0 ≤ st.2.1 ∧ st.2.1 ≤ a + 6 * (i : Nat)) (fun _ _ => [.at l, .d (.int m), .at p, .no, .no, .no]) (fun _ st => [(p, .lst (dBox st.1)), (l, .lst (TapeD sc st.2.1 st.2.2.1 st.2.2.2))]) ⟨⟨rfl, fun x hx => by cases hx⟩, ha0, by show a ≤ a + 6 * ((0 : Nat) : Int); omega⟩ (Le.refl _) rfl _
    (fun e _ => eg_name) (fun Hs i hi st σ3 H3 hst c3 => ?_) fun st σ3 H3 hst c3 => ?_)
  · have hi' : i < m := by simpa using hi
    have hir : (List.range m)[i] = i := List.getElem_range hi
    obtain ⟨bx, a', b', c'⟩ := st
    obtain ⟨g1, g2, g3⟩ := hst
    have g2 : 0 ≤ a' := g2
    have g3 : a' ≤ a + 6 * (i : Nat) := g3
    refine q_seq (asg_cps (r_num (k := 1) c3 rfl rfl hsc g2 (by omega) fun q1 a1 b1 c1 v H4 z1 j1 j2 c4 rv => ?_))
    have c5 := c4.setD 4 rv
    refine q_seq (asg_cps (r_num (k := 1) c5 rfl rfl hsc j1 (by omega) fun q2 a2 b2 c2' v2 H6 z2 k1 k2 c6 rv2 => ?_))
    have c7 := c6.setD 5 rv2
    have z25 : Sz 5 q2 := z2.mono (by decide)
    dsimp only
    with_reducible refine q_split (β := Rat) (fun wd σ1 H1 => 0 < wd ∧ Sz 5 wd ∧ Cf K (fun b => if b = l then none else H b) Hs σ1 H1 [.at l, .d (.int m), .at p, .no, .d (dQ q1), .d (dQ wd)] [(p, .lst (dBox bx)), (l, .lst (TapeD sc a2 b2 c2'))]) (fun wd σ8 H8 hw => ?_) fun fin => ?_
    rotate_left
    · have hd := q2.den_pos
      refine r_if (b := decide (q2.num ≤ 0)) c7 (et_t (ev_iB (ev_ixT (ev_var c7 rfl) ev_int rfl) ev_int)) (fun z H8 e8 c8 => ?_) (fun z H8 e8 c8 => ?_)
      · have hz := of_decide_eq_true z
        have h1 := z2.1
        have h2 := z2.2
        refine r_set c8 (ev_llow (ev_iI (f := fun i j => i - j) ev_int (ev_ixT (ev_var c8 rfl) ev_int rfl)) (ev_ixT (ev_var c8 rfl) ev_int rfl) (by omega) (Nat.lt_of_lt_of_le (szD z2) (pow_mono (by decide)))) fun σ9 H9 e9 c9 => fin (Rat.divInt (1 - q2.num) q2.den) _ _ ⟨?_, sz_divInt (n := 5) (by show (1 - q2.num).natAbs < 32; have : q2.num.natAbs < 16 := h1; omega) (by omega) (by show ((q2.den : Nat) : Int).natAbs < 32; have : q2.den < 16 := h2; omega), c9.le (.keep (.keep (.keep (.drop (.keep (.keep .nil))))))⟩
        have := (pv1_lt (p := (0, 1)) (q := (1 - q2.num, (q2.den : Int))) (by decide) (by show (0 : Int) < q2.den; omega)).mpr (by show 0 * (q2.den : Int) < (1 - q2.num) * 1; omega)
        have e0 : pv1 (0, 1) = 0 := by unfold pv1; rfl
        rw [e0] at this
        exact this
      · have hz := of_decide_eq_false z
        exact fin q2 _ _ ⟨pos_num (by omega), z25, c8.le (.keep (.keep (.keep (.drop (.keep (.keep .nil))))))⟩
    · obtain ⟨w1, w2, c8⟩ := hw
      have hv : pv1 (ofQ q1) + pv1 (ofQ wd) = q1 + wd := by rw [ofQ_val, ofQ_val]
      have e1 : q1 + wd - q1 = wd := by grind
      refine r_app (k := 0) (d := .tup [dQ q1, dQ (q1 + wd)]) c8 rfl rfl (ev_tup (ea_cons (ev_var c8 rfl) (ea_cons ((ev_lmore (p := ofQ q1) (q := ofQ wd) (ev_var c8 rfl) (ev_var c8 rfl) (ofQ_ok (z1.mono (by decide))) (ofQ_ok (w2.mono (by decide)))).is (by rw [hv])) ea_nil))) (by rw [List.length_map, g1.len]; omega) fun H9 c9 => ⟨(bx ++ [(q1, q1 + wd)], a2, b2, c2'), ⟨⟨by rw [List.length_append, g1.len]; rfl, fun x hx => ?_⟩, k1, ?_⟩, (c9.le (.keep (.keep (.keep (.keep (.drop (.drop .nil))))))).msE ?_⟩
      · rcases List.mem_append.mp hx with hx | hx
        · exact g1.str x hx
        · rw [List.mem_singleton.mp hx]
          refine ⟨z1, z1.add w2, ?_, ?_⟩
          · show Sz 5 (q1 + wd - q1)
            rw [e1]; exact w2
          · show q1 < q1 + wd
            grind
      · show a2 ≤ a + 6 * ((i + 1 : Nat) : Int)
        omega
      · rw [dBox, dBox, List.map_append]; rfl
  · rw [List.length_range] at hst
    obtain ⟨bx, a', b', c'⟩ := st
    obtain ⟨g1, g2, g3⟩ := hst
    obtain ⟨h0, vs, h1, h2⟩ := c3.mu (p, .lst (dBox bx)) List.mem_cons_self
    refine ⟨.ref p, c3.st.ref rfl, p, _, rfl, h1, trivial, fun o => ?_⟩
    have c4 := c3.frz (o := o) 0 rfl h1 trivial
    exact kq bx a' b' c' (.ref p) _ g1 g2 g3 (fun x o' hx ho => c4.same x o' (by simp only [if_neg hx]; exact ho)) (c4.mu _ List.mem_cons_self).2 (rep_lst.mpr ⟨p, vs, o, rfl, upd_same, h2.mono (imm_upd (.inl (by rw [h1]; trivial)))⟩)
end
end Lw
/-! The law's _law_at, of a constant alone, walked. -/
namespace Lw
open PySem PySem.Spec PyProof.Rows L2
abbrev st__law_at : Stmt := top 89
abbrev N__law_at : List Str := ["one", "spot", "total", "powers", "number", "power", "place", "turn"]
theorem sc__law_at : FnScope N__law_at ["one", "spot"] (defScope st__law_at) := ⟨rfl, rfl, rfl, by decide +kernel, rfl, by decide +kernel, by decide +kernel⟩

abbrev sp__law_at (K : PySem.W.Frag) : Sp := pSp K (fun p : Nat × Rat × List Rat => [.dc (tQ (putQ [] (zK p.1) p.2.1)), .lst (dQs p.2.2)]) (fun p => p.1 ≤ 60 ∧ Sz 4000 p.2.1) fun p => dQ p.2.1
section
variable {K : PySem.W.Frag} {σ : L2.St} {H : Hp} {ta tb : TE}
theorem ev_lat {m : Nat} {q : Rat} {spot : List Rat} (ha : EvD K ta σ H (.dc (tQ (putQ [] (zK m) q)))) (hb : EvD K tb σ H (.lst (dQs spot))) (h : m ≤ 60) (hz : Sz 4000 q) : EvD K (tCall (sp__law_at K) [] E0 (tCons ta (tCons tb tNil))) σ H (dQ q) :=
  ev_call (args := fun p : Nat × Rat × List Rat => [.dc (tQ (putQ [] (zK p.1) p.2.1)), .lst (dQs p.2.2)]) (pre := fun p => p.1 ≤ 60 ∧ Sz 4000 p.2.1) (res := fun p => dQ p.2.1) (m, q, spot) (ea_cons ha (ea_cons hb ea_nil)) ⟨h, hz⟩
end
section
variable {P : Program} {w : World} {K : PySem.W.Frag} {mg : Str → Option Value} {base : Heap} {f : Addr} {fd : FuncData}
theorem ok__law_at (F : FnP K "_law_at" st__law_at f fd) (B : Bl mg) (C__law_plus : Fc P w K mg base "_law_plus" 1 ["one", "other"] (sp__law_plus K)) (C__law_mul : Fc P w K mg base "_law_mul" 1 ["one", "other"] (sp__law_mul K)) : FnOk P w K mg base CX0 2 f fd ["one", "spot"] (sp__law_at K) := by
  refine F.ok sc__law_at (pSp_len fun _ => rfl) (fun cdv A outer s H vs Q E hr h => ?_)
  obtain ⟨⟨m, q, spot⟩, hv, ⟨h1, hz⟩, kq⟩ := h
  have nd := sc__law_at.nd
  have h1 : m ≤ 60 := h1
  have hz : Sz 4000 q := hz
  have c : Cf K H H (L2.start N__law_at vs) H [.d (.dc (tQ (putQ [] (zK m) q))), .d (.lst (dQs spot)), .no, .no, .no, .no, .no, .no] [] := Cf.start hv rfl
  refine ⟨_, PSs.nox (pss_cons (ps_set (i := 2) nd rfl (Or.inl rfl) (pe_tup (pa_cons pe_int (pa_cons pe_int pa_nil))))
    (pss_cons (ps_for PassesOwn.never rfl (pi_keysX (pv 0)) (pg_name (i := 3) nd rfl (Or.inl rfl))
    (pss_cons (ps_set (i := 4) nd rfl (Or.inl rfl) (pe_xget (by exact hu_of hr) (pv 0) (pv 3) (fun _ _ => rfl)))
    (pss_cons (ps_for PassesOwn.never rfl (pi_zipM (by rfl) B.zip (pa_cons (pv 3) (pa_cons (pv 1) pa_nil))) (pg_tup rfl (pgs_cons (pg_name (i := 5) nd rfl (Or.inl rfl)) (pgs_cons (pg_name (i := 6) nd rfl (Or.inl rfl)) pgs_nil)))
    (pss_one (ps_for PassesOwn.never rfl (pi_range1 (by rfl) B.range (pa_cons (pv 5) pa_nil)) (pg_name (i := 7) nd rfl (Or.inl rfl))
    (pss_one (ps_set (i := 4) nd rfl (Or.inl rfl) (pe_cc C__law_mul hr (by decide) (by rfl) (pa_cons (pv 4) (pa_cons (pv 6) pa_nil))))))))
    (pss_one (ps_set (i := 2) nd rfl (Or.inl rfl) (pe_cc C__law_plus hr (by decide) (by rfl) (pa_cons (pv 2) (pa_cons (pv 4) pa_nil))))))))
    (pss_one (ps_ret (pv 2))))), ?_⟩
  have hlen : (putQ [] (zK m) q).length ≤ 1 := by unfold putQ; split <;> simp
  have hq0 : (putQ [] (zK m) q).length = 0 → q = 0 := fun z => by
    unfold putQ at z
    split at z
    · assumption
    · simp at z
  refine q_seq (r_set c (d := dQ 0) (ev_tup (ea_cons ev_int (ea_cons ev_int ea_nil))) fun σ2 H2 e2 c2 => ?_)
  refine q_seq (r_forM c2 (xs := putQ [] (zK m) q) (enc := fun e => D.key e.1) ((ei_keysX (t := tQ (putQ [] (zK m) q)) (ev_var c2 rfl)).is (by rw [List.map_map]; rfl)) (fun i => [.d (.dc (tQ (putQ [] (zK m) q))), .d (.lst (dQs spot)), .d (dQ (if i = 0 then 0 else q)), .no, .no, .no, .no, .no]) (fun _ => []) (Le.refl _) rfl _
    (fun e _ => eg_name) (fun Hs i hi σ3 H3 c3 => ?_) fun σ3 H3 c3 => ?_)
  · have hi0 : i = 0 := by omega
    subst hi0
    have hq : q ≠ 0 := fun z => by rw [putQ, if_pos z] at hi; simp at hi
    have he : putQ [] (zK m) q = [(zK m, q)] := by rw [putQ, if_neg hq]; rfl
    have hg : (putQ [] (zK m) q)[0] = (zK m, q) := by simp [he]
    rw [hg] at c3
    refine q_seq (r_set c3 (d := dQ q) (ev_xget (evx_D (ev_var c3 rfl)) (ev_var c3 rfl) (by rw [he]; exact lk_pos (x := (zK m, dQ q)) rfl)) fun σ4 H4 e4 c4 => ?_)
    refine q_seq (r_forM c4 (xs := (zK m).zip spot) (enc := fun p => .tup [.int p.1, dQ p.2]) ((ei_zipTL (ev_pt (ev_var c4 rfl)) (ev_var c4 rfl)).is (zipD_zip _ _ _ _)) (fun _ => [.d (.dc (tQ (putQ [] (zK m) q))), .d (.lst (dQs spot)), .d (dQ 0), .d (.key (zK m)), .d (dQ q), .no, .no, .no]) (fun _ => []) (Le.refl _) rfl _
      (fun e _ => eg_tup (egs_cons eg_name (egs_cons eg_name egs_nil)) rfl) (fun Hs' j hj σ5 H5 c5 => ?_) fun σ5 H5 c5 => ?_)
    · have hp0 : ((zK m).zip spot)[j].1 = 0 := zK_mem (List.of_mem_zip (List.getElem_mem hj)).1
      refine r_forM c5 (xs := ([] : List Nat)) (enc := fun i => .int (i : Nat)) ((ei_rng (n := 0) (ea_cons ((ev_var c5 rfl).is (by rw [hp0]; rfl)) ea_nil) (by decide)).is rfl) (fun _ => [.d (.dc (tQ (putQ [] (zK m) q))), .d (.lst (dQs spot)), .d (dQ 0), .d (.key (zK m)), .d (dQ q), .no, .no, .no]) (fun _ => []) (.keep (.keep (.keep (.keep (.keep (.drop (.drop (.keep .nil)))))))) rfl _ (fun e _ => eg_name) (fun Hs'' r hr' σ6 H6 c6 => absurd hr' (by simp)) fun σ6 H6 c6 => c6
    · refine r_set c5 (d := dQ q) ((ev_lplus (p := (0, 1)) (q := ofQ q) (ev_var c5 rfl) (ev_var c5 rfl) ⟨by decide, by decide +kernel, by decide +kernel⟩ (ofQ_ok hz)).is (by rw [lp01]; rfl)) fun σ6 H6 e6 c6 => c6.le (.keep (.keep (.keep (.drop (.drop (.keep (.keep (.keep .nil))))))))
  · refine r_ret c3 (d := dQ q) ((ev_var c3 rfl).is ?_) kq
    by_cases hl : (putQ [] (zK m) q).length = 0
    · rw [if_pos hl, hq0 hl]
    · rw [if_neg hl]
end
end Lw
/-! The plain law: straight sums by their constant and their letters' numbers. No program here. -/
namespace Lw
open PySem PySem.Spec PyProof.Rows L2
/-- column j's key: the letters', then the constant's -/
def kJ (m j : Nat) : List Int := if j < m then uK m j else zK m
theorem idx_uK : ∀ {m i : Nat}, i < m → (1 : Int) ∈ uK m i ∧ (uK m i).idxOf 1 = i
  | 0, _, h => absurd h (Nat.not_lt_zero _)
  | m + 1, 0, _ => by rw [uK_zero]; exact ⟨List.mem_cons_self, List.idxOf_cons_self⟩
  | m + 1, i + 1, h => by
    obtain ⟨h1, h2⟩ := idx_uK (m := m) (i := i) (by omega)
    rw [uK_succ]
    exact ⟨List.mem_cons_of_mem _ h1, by rw [List.idxOf_cons, h2]; rfl⟩
theorem ltr_uK {m i : Nat} (h : i < m) : ltr m (uK m i) = i := by
  obtain ⟨h1, h2⟩ := idx_uK h
  rw [ltr, if_pos h1, h2]
theorem ltr_zK (m : Nat) : ltr m (zK m) = m := by
  rw [ltr, if_neg fun h => by have := zK_mem h; omega]
theorem ltr_kJ {m j : Nat} (h : j ≤ m) : ltr m (kJ m j) = j := by
  unfold kJ
  split
  · exact ltr_uK (by assumption)
  · rw [ltr_zK]; omega
theorem kJ_ltr {m : Nat} {k : List Int} (h : Lk m k) : kJ m (ltr m k) = k ∧ ltr m k ≤ m := by
  rcases h with rfl | ⟨i, hi, rfl⟩
  · rw [ltr_zK, kJ, if_neg (Nat.lt_irrefl m)]; exact ⟨rfl, Nat.le_refl _⟩
  · rw [ltr_uK hi, kJ, if_pos hi]; exact ⟨rfl, Nat.le_of_lt hi⟩
theorem getD_setR {f : List Rat} {n i : Nat} {x : Rat} (hn : n < f.length) : (f.set n x).getD i 0 = if i = n then x else f.getD i 0 := by
  simp only [List.getD_eq_getElem?_getD, List.getElem?_set]
  by_cases h : n = i
  · subst h; simp [hn]
  · rw [if_neg h, if_neg (fun z => h z.symm)]
theorem nums_fold {m j : Nat} (hj : j ≤ m) : ∀ (ts : Ts) (acc : List Rat), (ts.map (·.1)).Nodup → (∀ e ∈ ts, Lk m e.1) → acc.length = m + 1 →
    (ts.foldl (fun acc e => acc.set (ltr m e.1) e.2) acc).getD j 0 = if kJ m j ∈ ts.map (·.1) then val ts (kJ m j) else acc.getD j 0
  | [], acc, _, _, _ => by simp
  | e :: ts, acc, nd, lk, ha => by
    rw [List.map_cons, List.nodup_cons] at nd
    have le := lk e List.mem_cons_self
    have h1 := kJ_ltr le
    rw [List.foldl_cons, nums_fold hj ts _ nd.2 (fun x hx => lk x (List.mem_cons_of_mem _ hx)) (by rw [List.length_set]; exact ha), getD_setR (by omega), val_cons, List.map_cons]
    by_cases hk : e.1 = kJ m j
    · rw [if_neg (by rw [← hk]; exact nd.1), if_pos (by rw [hk, ltr_kJ hj]), if_pos (by rw [hk]; exact List.mem_cons_self), if_pos hk]
    · have h2 : ¬ j = ltr m e.1 := fun z => hk (by rw [z]; exact h1.1.symm)
      rw [if_neg h2, if_neg hk]
      by_cases h3 : kJ m j ∈ ts.map (·.1)
      · rw [if_pos h3, if_pos (List.mem_cons_of_mem _ h3)]
      · rw [if_neg h3, if_neg fun z => (List.mem_cons.mp z).elim (fun z => hk z.symm) h3]
/-- a straight sum -/
structure Lin (m : Nat) (ts : Ts) (q : Rat) (c : Nat → Rat) : Prop where
  nd : (ts.map (·.1)).Nodup
  lk : ∀ e ∈ ts, Lk m e.1
  v0 : val ts (zK m) = q
  vi : ∀ i, i < m → val ts (uK m i) = c i
  few : ts.length ≤ m + 2
section
variable {m s : Nat} {ts : Ts} {q : Rat} {c : Nat → Rat} {spot : List Rat}
theorem Lin.trm (h : Lin m ts q c) : Lin m (trm ts) q c := by
  refine ⟨trm_nd h.nd, fun e he => ?_, by rw [trm_val]; exact h.v0, fun i hi => by rw [trm_val]; exact h.vi i hi, Nat.le_trans (trm_len ts) h.few⟩
  obtain ⟨x, hx, e1⟩ := List.mem_map.mp (trm_keyM he)
  rw [← e1]; exact h.lk x hx
theorem Lin.sz (h : Lin m ts q c) (hq : Sz s q) (hc : ∀ i, i < m → Sz s (c i)) : SzT s ts := fun e he => by
  have e1 := val_mem h.nd he
  rcases h.lk e he with z | ⟨i, hi, z⟩
  · rw [z, h.v0] at e1; rw [← e1]; exact hq
  · rw [z, h.vi i hi] at e1; rw [← e1]; exact hc i hi
theorem Lin.num (h : Lin m ts q c) {j : Nat} (hj : j ≤ m) : (numsOf m ts).getD j 0 = if j < m then c j else q := by
  have e : val ts (kJ m j) = if j < m then c j else q := by
    unfold kJ
    by_cases z : j < m
    · rw [if_pos z, if_pos z]; exact h.vi j z
    · rw [if_neg z, if_neg z]; exact h.v0
  rw [numsOf, nums_fold hj ts _ h.nd h.lk (by simp)]
  by_cases hk : kJ m j ∈ ts.map (·.1)
  · rw [if_pos hk]; exact e
  · rw [if_neg hk, ← e, val_none hk]
    simp only [List.getD_eq_getElem?_getD, List.getElem?_replicate]
    split <;> rfl
theorem Lin.nil (m : Nat) : Lin m [] 0 (fun _ => 0) := ⟨List.nodup_nil, (fun e he => by cases he), rfl, fun _ _ => rfl, by simp⟩
theorem putQ_val {t : Ts} {k j : List Int} {q : Rat} (h : k ∉ t.map (·.1)) : val (putQ t k q) j = if j = k then q else val t j := by
  unfold putQ
  by_cases hq : q = 0
  · rw [if_pos hq]
    by_cases hj : j = k
    · rw [if_pos hj, hq, hj]; exact val_none h
    · rw [if_neg hj]
  · rw [if_neg hq, val, lk_snoc t k j q (lk_none_of h)]
    by_cases hj : j = k
    · rw [if_pos hj, if_pos hj]; rfl
    · rw [if_neg hj, if_neg hj]; rfl
theorem putQ_keys {t : Ts} {k x : List Int} {q : Rat} (h : x ∈ (putQ t k q).map (·.1)) : x = k ∨ x ∈ t.map (·.1) := by
  unfold putQ at h
  split at h
  · exact .inr h
  · rw [List.map_append] at h
    rcases List.mem_append.mp h with z | z
    · exact .inr z
    · exact .inl (by simpa using z)
theorem putQ_len (t : Ts) (k : List Int) (q : Rat) : (putQ t k q).length ≤ t.length + 1 := by
  unfold putQ; split <;> simp
theorem putQ_nd {t : Ts} {k : List Int} {q : Rat} (h : (t.map (·.1)).Nodup) (hk : k ∉ t.map (·.1)) : ((putQ t k q).map (·.1)).Nodup := by
  unfold putQ
  split
  · exact h
  · rw [List.map_append, List.nodup_append]
    refine ⟨h, by simp, fun x hx y hy e => ?_⟩
    have : y = k := by simpa using hy
    rw [e, this] at hx; exact hk hx
/-- the table of the whole, the letters ahead of n told -/
def wTab (m : Nat) (q : Rat) (c : Nat → Rat) : Nat → Ts
  | 0 => putQ [] (zK m) q
  | n + 1 => putQ (wTab m q c n) (uK m n) (c n)
theorem wTab_keys {m : Nat} {q : Rat} {c : Nat → Rat} : ∀ {n : Nat} {x : List Int}, x ∈ (wTab m q c n).map (·.1) → x = zK m ∨ ∃ i, i < n ∧ x = uK m i
  | 0, x, h => by
    rcases putQ_keys h with z | z
    · exact .inl z
    · cases z
  | n + 1, x, h => by
    rcases putQ_keys h with z | z
    · exact .inr ⟨n, by omega, z⟩
    · rcases wTab_keys z with z | ⟨i, hi, z⟩
      · exact .inl z
      · exact .inr ⟨i, by omega, z⟩
theorem wTab_new {m n : Nat} {q : Rat} {c : Nat → Rat} (h : n < m) : uK m n ∉ (wTab m q c n).map (·.1) := fun z => by
  rcases wTab_keys z with z | ⟨i, hi, z⟩
  · exact uK_ne h z
  · have := uK_inj h z; omega
theorem wTab_len (m : Nat) (q : Rat) (c : Nat → Rat) : ∀ n, (wTab m q c n).length ≤ n + 1
  | 0 => putQ_len _ _ _
  | n + 1 => by
    have := putQ_len (wTab m q c n) (uK m n) (c n)
    have := wTab_len m q c n
    rw [wTab]; omega
theorem wTab_nd (m : Nat) (q : Rat) (c : Nat → Rat) : ∀ n, n ≤ m → ((wTab m q c n).map (·.1)).Nodup
  | 0, _ => putQ_nd List.nodup_nil (by simp)
  | n + 1, h => putQ_nd (wTab_nd m q c n (by omega)) (wTab_new (by omega))
theorem wTab_val {m : Nat} {q : Rat} {c : Nat → Rat} : ∀ n, n ≤ m → val (wTab m q c n) (zK m) = q ∧ ∀ i, i < n → val (wTab m q c n) (uK m i) = c i
  | 0, _ => ⟨by rw [wTab, putQ_val (by simp), if_pos rfl], fun i hi => absurd hi (Nat.not_lt_zero _)⟩
  | n + 1, h => by
    obtain ⟨h1, h2⟩ := wTab_val (m := m) (q := q) (c := c) n (by omega)
    refine ⟨?_, fun i hi => ?_⟩
    · rw [wTab, putQ_val (wTab_new (show n < m by omega)), if_neg (fun z => uK_ne (show n < m by omega) z.symm), h1]
    · rw [wTab, putQ_val (wTab_new (show n < m by omega))]
      by_cases e : i = n
      · rw [if_pos (by rw [e]), e]
      · rw [if_neg fun z => e (uK_inj (by omega) z)]
        exact h2 i (by omega)
theorem wTab_lin (m : Nat) (q : Rat) (c : Nat → Rat) : Lin m (wTab m q c m) q c := by
  refine ⟨wTab_nd m q c m (Nat.le_refl _), fun e he => ?_, (wTab_val m (Nat.le_refl _)).1, (wTab_val m (Nat.le_refl _)).2, Nat.le_succ_of_le (wTab_len m q c m)⟩
  rcases wTab_keys (List.mem_map_of_mem he) with z | ⟨i, hi, z⟩
  · exact .inl z
  · exact .inr ⟨i, hi, z⟩
/-- a side: a letter's number s, the constant q -/
def rimTab (m k : Nat) (s q : Rat) : Ts := putQ [(uK m k, s)] (zK m) q
theorem rim_lin {m k : Nat} {s q : Rat} (h : k < m) : Lin m (rimTab m k s q) q (fun i => if i = k then s else 0) := by
  have hn : zK m ∉ ([(uK m k, s)] : Ts).map (·.1) := fun z => uK_ne h (List.mem_singleton.mp z).symm
  refine ⟨putQ_nd (by simp) hn, fun e he => ?_, by rw [rimTab, putQ_val hn, if_pos rfl], fun i hi => ?_, Nat.le_trans (putQ_len _ _ _) (by show 2 ≤ m + 2; omega)⟩
  · rcases putQ_keys (List.mem_map_of_mem he) with z | z
    · exact .inl z
    · exact .inr ⟨k, h, List.mem_singleton.mp z⟩
  · rw [rimTab, putQ_val hn, if_neg (uK_ne hi), val_cons]
    by_cases e : i = k
    · rw [if_pos (by rw [e]), if_pos e]
    · rw [if_neg fun z => e (uK_inj h z).symm, if_neg e]; rfl
/-! ### worths -/
theorem prod_z : ∀ (m : Nat) (q : Rat) (spot : List Rat), prodOf q (zK m) spot = q
  | 0, _, _ => rfl
  | m + 1, q, [] => by rw [zK_succ]; rfl
  | m + 1, q, x :: spot => by
    rw [zK_succ]
    show prodOf (q * pw x 0) (zK m) spot = q
    rw [prod_z m]
    show q * 1 = q
    rw [Rat.mul_one]
theorem prod_u : ∀ {m i : Nat} (q : Rat) (spot : List Rat), i < m → spot.length = m → prodOf q (uK m i) spot = q * spot.getD i 0
  | 0, _, _, _, h, _ => absurd h (Nat.not_lt_zero _)
  | m + 1, i, q, [], _, hl => by simp at hl
  | m + 1, 0, q, x :: spot, _, _ => by
    rw [uK_zero]
    show prodOf (q * pw x 1) (zK m) spot = q * x
    rw [prod_z]
    show q * (1 * x) = q * x
    rw [Rat.one_mul]
  | m + 1, i + 1, q, x :: spot, h, hl => by
    rw [uK_succ]
    show prodOf (q * pw x 0) (uK m i) spot = q * spot.getD i 0
    rw [prod_u _ _ (by omega) (by simpa using hl)]
    show q * 1 * _ = _
    rw [Rat.mul_one]
theorem sumF_upd {f g : Nat → Rat} : ∀ {n i : Nat}, i < n → (∀ j, j < n → j ≠ i → f j = g j) → sumF f n = sumF g n + (f i - g i)
  | 0, _, h, _ => absurd h (Nat.not_lt_zero _)
  | n + 1, 0, _, h => by
    rw [sumF, sumF, sumF_congr (f := fun i => f (i + 1)) (g := fun i => g (i + 1)) fun j hj => h (j + 1) (by omega) (by omega)]
    grind
  | n + 1, i + 1, hi, h => by
    rw [sumF, sumF, sumF_upd (f := fun i => f (i + 1)) (g := fun i => g (i + 1)) (i := i) (by omega) fun j hj hne => h (j + 1) (by omega) (by omega), h 0 (by omega) (by omega)]
    grind
theorem worth_fold {m : Nat} {spot : List Rat} (hl : spot.length = m) : ∀ (ts : Ts) (t : Rat), (ts.map (·.1)).Nodup → (∀ e ∈ ts, Lk m e.1) →
    ts.foldl (fun t e => t + prodOf e.2 e.1 spot) t = t + val ts (zK m) + sumF (fun i => val ts (uK m i) * spot.getD i 0) m
  | [], t, _, _ => by
    rw [sumF_zero fun i _ => by rw [val_nil, Rat.zero_mul]]
    show t = t + 0 + 0
    grind
  | e :: ts, t, nd, lk => by
    rw [List.map_cons, List.nodup_cons] at nd
    rw [List.foldl_cons, worth_fold hl ts _ nd.2 fun x hx => lk x (List.mem_cons_of_mem _ hx)]
    rcases lk e List.mem_cons_self with z | ⟨i, hi, z⟩
    · have h1 : val ts (zK m) = 0 := by rw [← z]; exact val_none nd.1
      rw [z, prod_z, h1, val_cons, if_pos z, sumF_congr (f := fun i => val (e :: ts) (uK m i) * spot.getD i 0) (g := fun i => val ts (uK m i) * spot.getD i 0) fun i hi => by rw [val_cons, if_neg (by rw [z]; exact fun y => uK_ne hi y.symm)]]
      grind
    · have h1 : val ts (uK m i) = 0 := by rw [← z]; exact val_none nd.1
      rw [z, prod_u _ _ hi hl, val_cons, if_neg (by rw [z]; exact uK_ne hi), sumF_upd (f := fun i => val (e :: ts) (uK m i) * spot.getD i 0) (g := fun i => val ts (uK m i) * spot.getD i 0) hi fun j hj hne => by rw [val_cons, if_neg (by rw [z]; exact fun y => hne (uK_inj hi y).symm)]]
      rw [h1, val_cons, if_pos z]
      grind
theorem Lin.worth (h : Lin m ts q c) (hl : spot.length = m) : worthOf ts spot = q + sumF (fun i => c i * spot.getD i 0) m := by
  rw [worthOf, worth_fold hl ts 0 h.nd h.lk, h.v0, sumF_congr (g := fun i => c i * spot.getD i 0) fun i hi => by rw [h.vi i hi], Rat.zero_add]
end
end Lw
/-! The plain law: what the rows of a box's sides become, letter by letter. No program here. -/
namespace Lw
open PySem PySem.Spec PyProof.Rows L2
/-- a corner's place where the least is -/
def eC (box : Bx) (c : Nat → Rat) (i : Nat) : Rat := if c i < 0 then bh box i else bl box i
/-- the least, the first k letters told -/
def dU (q : Rat) (box : Bx) (c : Nat → Rat) : Nat → Rat
  | 0 => q
  | k + 1 => dU q box c k + c k * eC box c k
/-- what is at hand: letters, columns, the box, the sum, whether its row is there, strict -/
structure Cn where
  m : Nat
  N : Nat
  L : Nat
  box : Bx
  q : Rat
  c : Nat → Rat
  ow : Bool
  st : Bool
structure CnOk (x : Cn) : Prop where
  m3 : x.m ≤ 3
  hN : x.m + 1 ≤ x.N ∧ x.N ≤ x.m + 2
  bx : BoxGood x.m x.box
  zq : Sz 4 x.q
  zc : ∀ i, i < x.m → Sz 4 (x.c i)
  L1 : 1 ≤ x.L ∧ x.L < 100
inductive Kd (x : Cn) (k : Nat) (r : Rw) : Prop where
  | con (i : Nat) (hi : i < x.m) (h : ∀ j, j < x.N - 1 → coef j r = 0) (hl : lastN r = bh x.box i - bl x.box i) (s : r.s = false) (w : lastL r.w = 0)
  | lo (i : Nat) (h1 : k ≤ i) (hi : i < x.m) (h : ∀ j, j < x.N - 1 → coef j r = if j = i then 1 else 0) (hl : lastN r = -bl x.box i) (s : r.s = false) (w : lastL r.w = 0)
  | hi (i : Nat) (h1 : k ≤ i) (hi : i < x.m) (h : ∀ j, j < x.N - 1 → coef j r = if j = i then -1 else 0) (hl : lastN r = bh x.box i) (s : r.s = false) (w : lastL r.w = 0)
  | own (o : x.ow = true) (h : ∀ j, j < x.m → coef j r = if j < k then 0 else -x.c j) (h1 : ∀ j, x.m ≤ j → j < x.N - 1 → coef j r = 1) (hl : lastN r = -dU x.q x.box x.c k) (s : r.s = x.st) (w : lastL r.w = 1)
def sW : Nat → Nat
  | 0 => 4
  | k + 1 => 2 * sW k + 11
structure RwK (x : Cn) (k : Nat) (r : Rw) : Prop where
  n : r.n.length = x.N
  w : r.w.length = x.L
  z : SzL (sW k) r.w
  kd : Kd x k r
structure Stage (x : Cn) (k : Nat) (rows : List Rw) : Prop where
  all : ∀ r ∈ rows, RwK x k r
  lo : ∀ i, k ≤ i → i < x.m → ∃ r ∈ rows, (∀ j, j < x.N - 1 → coef j r = if j = i then 1 else 0) ∧ lastN r = -bl x.box i
  hi : ∀ i, k ≤ i → i < x.m → ∃ r ∈ rows, (∀ j, j < x.N - 1 → coef j r = if j = i then -1 else 0) ∧ lastN r = bh x.box i
  ow : x.ow = true → ∃ r ∈ rows, (∀ j, j < x.m → coef j r = if j < k then 0 else -x.c j) ∧ (∀ j, x.m ≤ j → j < x.N - 1 → coef j r = 1) ∧ lastN r = -dU x.q x.box x.c k
theorem blend_get {a b : List Rat} {f g : Rat} {j : Nat} (ha : j < a.length) (hb : j < b.length) : (blend a b f g).getD j 0 = a.getD j 0 * f + b.getD j 0 * g := by
  simp only [blend, List.getD_eq_getElem?_getD, List.getElem?_map, List.getElem?_zip_eq_some, List.getElem?_eq_getElem ha, List.getElem?_eq_getElem hb]
  have : (a.zip b)[j]? = some (a[j], b[j]) := by rw [List.getElem?_zip_eq_some]; exact ⟨List.getElem?_eq_getElem ha, List.getElem?_eq_getElem hb⟩
  rw [this]; rfl
theorem blend_len {a b : List Rat} {f g : Rat} (h : a.length = b.length) : (blend a b f g).length = a.length := by
  simp [blend, h]
section
variable {x : Cn} {k : Nat} {a b : Rw}
theorem joinR_n (ha : RwK x k a) (hb : RwK x k b) : (joinR a b k).n.length = x.N := by
  show (blend _ _ _ _).length = _
  rw [blend_len (by rw [ha.n, hb.n]), ha.n]
theorem joinR_w (ha : RwK x k a) (hb : RwK x k b) : (joinR a b k).w.length = x.L := by
  show (blend _ _ _ _).length = _
  rw [blend_len (by rw [ha.w, hb.w]), ha.w]
theorem joinR_coef (ha : RwK x k a) (hb : RwK x k b) {j : Nat} (hj : j < x.N) : coef j (joinR a b k) = coef j a * -(coef k b) + coef j b * coef k a :=
  blend_get (by rw [ha.n]; exact hj) (by rw [hb.n]; exact hj)
theorem joinR_last (hx : CnOk x) (ha : RwK x k a) (hb : RwK x k b) : lastN (joinR a b k) = lastN a * -(coef k b) + lastN b * coef k a := by
  have h := hx.hN
  have h1 := joinR_coef ha hb (j := x.N - 1) (by omega)
  unfold lastN
  rw [joinR_n ha hb, ha.n, hb.n]
  exact h1
theorem joinR_lastw (hx : CnOk x) (ha : RwK x k a) (hb : RwK x k b) : lastL (joinR a b k).w = lastL a.w * -(coef k b) + lastL b.w * coef k a := by
  have h := hx.L1
  unfold lastL
  rw [joinR_w ha hb, ha.w, hb.w]
  exact blend_get (by rw [ha.w]; omega) (by rw [hb.w]; omega)
theorem sz_c {i : Nat} (hx : CnOk x) (hi : i < x.m) : Sz 4 (x.c i) := hx.zc i hi
theorem Kd.szc (hx : CnOk x) {r : Rw} (h : Kd x k r) (hk : k < x.m) : Sz 4 (coef k r) := by
  have hN := hx.hN
  cases h with
  | con i hi h hl s w => rw [h k (by omega)]; exact Sz.zero.mono (by decide)
  | lo i h1 hi h hl s w =>
    rw [h k (by omega)]; split
    · exact Sz.one.mono (by decide)
    · exact Sz.zero.mono (by decide)
  | hi i h1 hi h hl s w =>
    rw [h k (by omega)]; split
    · exact Sz.one.neg.mono (by decide)
    · exact Sz.zero.mono (by decide)
  | own o h h1 hl s w => rw [h k hk, if_neg (Nat.lt_irrefl k)]; exact (hx.zc k hk).neg
theorem blend_sz {a b : List Rat} {f g : Rat} {s : Nat} (ha : SzL s a) (hb : SzL s b) (hf : Sz 4 f) (hg : Sz 4 g) : SzL (2 * s + 11) (blend a b f g) := fun y hy => by
  obtain ⟨p, hp, rfl⟩ := List.mem_map.mp hy
  have h1 := List.of_mem_zip hp
  exact (((ha _ h1.1).mul hf).add ((hb _ h1.2).mul hg)).mono (by omega)
/-- one row above, one below -/
theorem join_ok (hx : CnOk x) (hk : k < x.m) (ha : RwK x k a) (hb : RwK x k b) (pa : 0 < coef k a) (pb : coef k b < 0) : RwK x (k + 1) (joinR a b k) := by
  have hN := hx.hN
  refine ⟨joinR_n ha hb, joinR_w ha hb, blend_sz ha.z hb.z (hb.kd.szc hx hk).neg (ha.kd.szc hx hk), ?_⟩
  have hc := fun j (hj : j < x.N) => joinR_coef ha hb hj
  have hl := joinR_last hx ha hb
  have hw := joinR_lastw hx ha hb
  have hs : (joinR a b k).s = (a.s || b.s) := rfl
  have neg1 : ¬ (0 : Rat) < -1 := by decide
  cases ha.kd with
  | con i hi h al s w => rw [h k (by omega)] at pa; exact absurd pa Rat.lt_irrefl
  | hi i h1 hi h al s w =>
    rw [h k (by omega)] at pa
    split at pa
    · exact absurd pa neg1
    · exact absurd pa Rat.lt_irrefl
  | lo i h1 hi h al s w =>
    have hik : i = k := by
      rw [h k (by omega)] at pa
      split at pa
      · omega
      · exact absurd pa Rat.lt_irrefl
    subst hik
    have ca : coef i a = 1 := by rw [h i (by omega), if_pos rfl]
    cases hb.kd with
    | con i' hi' h' al' s' w' => rw [h' i (by omega)] at pb; exact absurd pb Rat.lt_irrefl
    | lo i' h1' hi' h' al' s' w' =>
      rw [h' i (by omega)] at pb
      split at pb
      · exact absurd pb (by decide)
      · exact absurd pb Rat.lt_irrefl
    | hi i' h1' hi' h' al' s' w' =>
      have e : i' = i := by
        rw [h' i (by omega)] at pb
        split at pb
        · omega
        · exact absurd pb Rat.lt_irrefl
      subst e
      have cb : coef i' b = -1 := by rw [h' i' (by omega), if_pos rfl]
      refine .con i' hi' (fun j hj => ?_) ?_ (by rw [hs, s, s']; rfl) ?_
      · rw [hc j (by omega), ca, cb, h j hj, h' j hj]
        split <;> grind
      · rw [hl, ca, cb, al, al']; grind
      · rw [hw, w, w']; grind
    | own o h' h1' al' s' w' =>
      refine .own o (fun j hj => ?_) (fun j j1 j2 => ?_) ?_ (by rw [hs, s, s']; rfl) ?_
      · rw [hc j (by omega), ca, h j (by omega), h' j hj, h' i hk, if_neg (Nat.lt_irrefl i)]
        by_cases e : j = i
        · rw [if_pos e, e, if_neg (Nat.lt_irrefl i), if_pos (Nat.lt_succ_self i)]; grind
        · rw [if_neg e]
          by_cases e2 : j < i
          · rw [if_pos e2, if_pos (by omega)]; grind
          · rw [if_neg e2, if_neg (by omega)]; grind
      · rw [hc j (by omega), ca, h j j2, if_neg (by omega), h1' j j1 j2]; grind
      · rw [hl, ca, al, al', h' i hk, if_neg (Nat.lt_irrefl i), dU]
        have hneg : ¬ x.c i < 0 := by
          rw [h' i hk, if_neg (Nat.lt_irrefl i)] at pb
          grind
        rw [eC, if_neg hneg]; grind
      · rw [hw, w, w', ca]; grind
  | own o h h1 al s w =>
    have ca : coef k a = -x.c k := by rw [h k hk, if_neg (Nat.lt_irrefl k)]
    cases hb.kd with
    | con i' hi' h' al' s' w' => rw [h' k (by omega)] at pb; exact absurd pb Rat.lt_irrefl
    | lo i' h1' hi' h' al' s' w' =>
      rw [h' k (by omega)] at pb
      split at pb
      · exact absurd pb (by decide)
      · exact absurd pb Rat.lt_irrefl
    | own o' h' h1' al' s' w' =>
      rw [h' k hk, if_neg (Nat.lt_irrefl k)] at pb
      rw [ca] at pa
      grind
    | hi i' h1' hi' h' al' s' w' =>
      have e : i' = k := by
        rw [h' k (by omega)] at pb
        split at pb
        · omega
        · exact absurd pb Rat.lt_irrefl
      subst e
      have cb : coef i' b = -1 := by rw [h' i' (by omega), if_pos rfl]
      have hneg : x.c i' < 0 := by rw [ca] at pa; grind
      refine .own o (fun j hj => ?_) (fun j j1 j2 => ?_) ?_ (by rw [hs, s, s']; simp) ?_
      · rw [hc j (by omega), ca, cb, h j hj, h' j (by omega)]
        by_cases e : j = i'
        · rw [if_pos e, e, if_neg (Nat.lt_irrefl i'), if_pos (Nat.lt_succ_self i')]; grind
        · rw [if_neg e]
          by_cases e2 : j < i'
          · rw [if_pos e2, if_pos (by omega)]; grind
          · rw [if_neg e2, if_neg (by omega)]; grind
      · rw [hc j (by omega), ca, cb, h1 j j1 j2, h' j j2, if_neg (by omega)]; grind
      · rw [hl, ca, cb, al, al', dU, eC, if_pos hneg]; grind
      · rw [hw, w, w', cb]; grind
theorem keep_ok (hx : CnOk x) (hk : k < x.m) (ha : RwK x k a) (h0 : coef k a = 0) : RwK x (k + 1) a := by
  have hN := hx.hN
  refine ⟨ha.n, ha.w, fun y hy => (ha.z y hy).mono (by rw [sW]; omega), ?_⟩
  cases ha.kd with
  | con i hi h al s w => exact .con i hi h al s w
  | lo i h1 hi h al s w =>
    have : k ≠ i := fun e => by rw [h k (by omega), if_pos e] at h0; exact absurd h0 (by decide)
    exact .lo i (by omega) hi h al s w
  | hi i h1 hi h al s w =>
    have : k ≠ i := fun e => by rw [h k (by omega), if_pos e] at h0; exact absurd h0 (by decide)
    exact .hi i (by omega) hi h al s w
  | own o h h1 al s w =>
    have hc : x.c k = 0 := by
      rw [h k hk, if_neg (Nat.lt_irrefl k)] at h0
      grind
    refine .own o (fun j hj => ?_) h1 ?_ s w
    · rw [h j hj]
      by_cases e : j < k
      · rw [if_pos e, if_pos (by omega)]
      · rw [if_neg e]
        by_cases e2 : j = k
        · rw [e2, hc, if_pos (by omega)]; rfl
        · rw [if_neg (by omega)]
    · rw [al, dU, hc]; grind
theorem putOut_mem {rows : List Rw} {k : Nat} {r : Rw} : r ∈ putOut rows k ↔ (r ∈ rows ∧ coef k r = 0) ∨ ∃ a ∈ rows, 0 < coef k a ∧ ∃ b ∈ rows, coef k b < 0 ∧ r = joinR a b k := by
  unfold putOut
  rw [List.mem_append, List.mem_filter, List.mem_flatMap]
  constructor
  · rintro (⟨h1, h2⟩ | ⟨a, ha, h⟩)
    · exact .inl ⟨h1, of_decide_eq_true h2⟩
    · obtain ⟨b, hb, rfl⟩ := List.mem_map.mp h
      obtain ⟨a1, a2⟩ := List.mem_filter.mp ha
      obtain ⟨b1, b2⟩ := List.mem_filter.mp hb
      exact .inr ⟨a, a1, of_decide_eq_true a2, b, b1, of_decide_eq_true b2, rfl⟩
  · rintro (⟨h1, h2⟩ | ⟨a, a1, a2, b, b1, b2, rfl⟩)
    · exact .inl ⟨h1, decide_eq_true h2⟩
    · exact .inr ⟨a, List.mem_filter.mpr ⟨a1, decide_eq_true a2⟩, List.mem_map.mpr ⟨b, List.mem_filter.mpr ⟨b1, decide_eq_true b2⟩, rfl⟩⟩
theorem Stage.step {rows : List Rw} (hx : CnOk x) (hk : k < x.m) (h : Stage x k rows) : Stage x (k + 1) (putOut rows k) := by
  have hN := hx.hN
  refine ⟨fun r hr => ?_, fun i h1 h2 => ?_, fun i h1 h2 => ?_, fun o => ?_⟩
  · rcases putOut_mem.mp hr with ⟨h1, h2⟩ | ⟨a, a1, a2, b, b1, b2, rfl⟩
    · exact keep_ok hx hk (h.all r h1) h2
    · exact join_ok hx hk (h.all a a1) (h.all b b1) a2 b2
  · obtain ⟨r, hr, h3, h4⟩ := h.lo i (by omega) h2
    exact ⟨r, putOut_mem.mpr (.inl ⟨hr, by rw [h3 k (by omega), if_neg (by omega)]⟩), h3, h4⟩
  · obtain ⟨r, hr, h3, h4⟩ := h.hi i (by omega) h2
    exact ⟨r, putOut_mem.mpr (.inl ⟨hr, by rw [h3 k (by omega), if_neg (by omega)]⟩), h3, h4⟩
  · obtain ⟨r, hr, h3, h4, h5⟩ := h.ow o
    have ck : coef k r = -x.c k := by rw [h3 k hk, if_neg (Nat.lt_irrefl k)]
    obtain ⟨l, hl, l1, l2⟩ := h.lo k (Nat.le_refl _) hk
    obtain ⟨g, hg, g1, g2⟩ := h.hi k (Nat.le_refl _) hk
    have cl : coef k l = 1 := by rw [l1 k (by omega), if_pos rfl]
    have cg : coef k g = -1 := by rw [g1 k (by omega), if_pos rfl]
    -- the row that comes of it is told by its kind again
    have fin : ∀ y ∈ putOut rows k, lastN y = -dU x.q x.box x.c (k + 1) → (∀ j, j < x.m → coef j y = if j < k + 1 then 0 else -x.c j) → (∀ j, x.m ≤ j → j < x.N - 1 → coef j y = 1) → ∃ r ∈ putOut rows k, (∀ j, j < x.m → coef j r = if j < k + 1 then 0 else -x.c j) ∧ (∀ j, x.m ≤ j → j < x.N - 1 → coef j r = 1) ∧ lastN r = -dU x.q x.box x.c (k + 1) :=
      fun y hy e1 e2 e3 => ⟨y, hy, e2, e3, e1⟩
    by_cases z : x.c k = 0
    · refine fin r (putOut_mem.mpr (.inl ⟨hr, by rw [ck, z]; rfl⟩)) (by rw [h5, dU, z]; grind) (fun j hj => ?_) h4
      rw [h3 j hj]
      by_cases e : j < k
      · rw [if_pos e, if_pos (by omega)]
      · rw [if_neg e]
        by_cases e2 : j = k
        · rw [e2, z, if_pos (by omega)]; rfl
        · rw [if_neg (by omega)]
    · by_cases hn : x.c k < 0
      · refine fin (joinR r g k) (putOut_mem.mpr (.inr ⟨r, hr, by rw [ck]; grind, g, hg, by rw [cg]; decide, rfl⟩)) ?_ (fun j hj => ?_) fun j j1 j2 => ?_
        · rw [joinR_last hx (h.all r hr) (h.all g hg), ck, cg, h5, g2, dU, eC, if_pos hn]; grind
        · rw [joinR_coef (h.all r hr) (h.all g hg) (by omega), ck, cg, h3 j hj, g1 j (by omega)]
          by_cases e : j = k
          · rw [if_pos e, e, if_neg (Nat.lt_irrefl k), if_pos (Nat.lt_succ_self k)]; grind
          · rw [if_neg e]
            by_cases e2 : j < k
            · rw [if_pos e2, if_pos (by omega)]; grind
            · rw [if_neg e2, if_neg (by omega)]; grind
        · rw [joinR_coef (h.all r hr) (h.all g hg) (by omega), ck, cg, h4 j j1 j2, g1 j j2, if_neg (by omega)]; grind
      · refine fin (joinR l r k) (putOut_mem.mpr (.inr ⟨l, hl, by rw [cl]; decide, r, hr, by rw [ck]; grind, rfl⟩)) ?_ (fun j hj => ?_) fun j j1 j2 => ?_
        · rw [joinR_last hx (h.all l hl) (h.all r hr), ck, cl, h5, l2, dU, eC, if_neg hn]; grind
        · rw [joinR_coef (h.all l hl) (h.all r hr) (by omega), ck, cl, h3 j hj, l1 j (by omega)]
          by_cases e : j = k
          · rw [if_pos e, e, if_neg (Nat.lt_irrefl k), if_pos (Nat.lt_succ_self k)]; grind
          · rw [if_neg e]
            by_cases e2 : j < k
            · rw [if_pos e2, if_pos (by omega)]; grind
            · rw [if_neg e2, if_neg (by omega)]; grind
        · rw [joinR_coef (h.all l hl) (h.all r hr) (by omega), ck, cl, h4 j j1 j2, l1 j j2, if_neg (by omega)]; grind
theorem Stage.at {rows : List Rw} (hx : CnOk x) (h : Stage x 0 rows) : ∀ k, k ≤ x.m → Stage x k (sysAt rows k)
  | 0, _ => h
  | k + 1, hk => (Stage.at hx h k (by omega)).step hx (by omega)
end
end Lw
/-! The plain law: how many rows, how great; where they begin. No program here. -/
namespace Lw
open PySem PySem.Spec PyProof.Rows L2
theorem filt3 (k : Nat) : ∀ rows : List Rw, (rows.filter fun r => decide (coef k r = 0)).length + (rows.filter fun r => decide (0 < coef k r)).length + (rows.filter fun r => decide (coef k r < 0)).length ≤ rows.length
  | [] => by simp
  | r :: rows => by
    have ih := filt3 k rows
    simp only [List.filter_cons, List.length_cons]
    by_cases h0 : coef k r = 0
    · have h1 : ¬ 0 < coef k r := by rw [h0]; exact Rat.lt_irrefl
      have h2 : ¬ coef k r < 0 := by rw [h0]; exact Rat.lt_irrefl
      simp only [h0, h1, h2, decide_true, decide_false, if_true]
      simp only [Rat.lt_irrefl, decide_false, List.length_cons, if_true, Bool.false_eq_true, if_false]
      omega
    · by_cases h1 : 0 < coef k r
      · have h2 : ¬ coef k r < 0 := by grind
        simp only [h0, h1, h2, decide_true, decide_false, if_true, List.length_cons, Bool.false_eq_true, if_false]
        omega
      · simp only [h0, h1, decide_true, decide_false, Bool.false_eq_true, if_false]
        split
        · rw [List.length_cons]; omega
        · omega
theorem len_sq {z a b n : Nat} (h : z + a + b ≤ n) (hn : 4 ≤ n) : 4 * (z + a * b) ≤ n * n := by
  have h1 : 4 * (a * b) ≤ (a + b) * (a + b) := by
    rcases Nat.le_total a b with e | e
    · obtain ⟨d, rfl⟩ := Nat.exists_eq_add_of_le e
      have : (a + (a + d)) * (a + (a + d)) = 4 * (a * (a + d)) + d * d := by grind
      omega
    · obtain ⟨d, rfl⟩ := Nat.exists_eq_add_of_le e
      have : (b + d + b) * (b + d + b) = 4 * ((b + d) * b) + d * d := by grind
      omega
  have h2 : (z + (a + b)) * (z + (a + b)) ≤ n * n := Nat.mul_le_mul (by omega) (by omega)
  have h3 : (z + (a + b)) * (z + (a + b)) = z * z + 2 * (z * (a + b)) + (a + b) * (a + b) := by grind
  by_cases h4 : 2 ≤ a + b
  · have h5 : z * 2 ≤ z * (a + b) := Nat.mul_le_mul_left z h4
    omega
  · have h5 : a * b = 0 := by
      by_cases e : a = 0
      · rw [e]; simp
      · have : b = 0 := by omega
        rw [this]; simp
    have h6 : 4 * n ≤ n * n := Nat.mul_le_mul_right n hn
    omega
theorem putOut_len (rows : List Rw) (k : Nat) {n : Nat} (h : rows.length ≤ n) (hn : 4 ≤ n) : 4 * (putOut rows k).length ≤ n * n := by
  have h1 := filt3 k rows
  have h2 : (putOut rows k).length ≤ (rows.filter fun r => decide (coef k r = 0)).length + (rows.filter fun r => decide (0 < coef k r)).length * (rows.filter fun r => decide (coef k r < 0)).length := by
    unfold putOut
    rw [List.length_append]
    exact Nat.add_le_add_left (flatMap_len fun r _ => by rw [List.length_map]; exact Nat.le_refl _) _
  have h3 := len_sq (n := n) (Nat.le_trans h1 h) hn
  omega
theorem sys_len {rows : List Rw} (h : rows.length ≤ 7) : ∀ k, k ≤ 3 → (sysAt rows k).length ≤ 324 := by
  have h1 := putOut_len rows 0 h (by decide)
  have h2 := putOut_len (putOut rows 0) 1 (n := 12) (by omega) (by decide)
  have h3 := putOut_len (putOut (putOut rows 0) 1) 2 (n := 36) (by omega) (by decide)
  intro k hk
  match k, hk with
  | 0, _ => show rows.length ≤ 324; omega
  | 1, _ => show (putOut rows 0).length ≤ 324; omega
  | 2, _ => show (putOut (putOut rows 0) 1).length ≤ 324; omega
  | 3, _ => show (putOut (putOut (putOut rows 0) 1) 2).length ≤ 324; omega
section
variable {x : Cn} {k : Nat} {a b : Rw}
theorem box_at {m : Nat} {box : Bx} (h : BoxGood m box) {i : Nat} (hi : i < m) : StrOk (bl box i, bh box i) := by
  have hi' : i < box.length := by rw [h.len]; exact hi
  have e : box.getD i (0, 0) = box[i] := by simp [List.getD, hi']
  show StrOk ((box.getD i (0, 0)).1, (box.getD i (0, 0)).2)
  rw [e]
  exact h.str _ (List.getElem_mem hi')
theorem eC_sz (hx : CnOk x) {i : Nat} (hi : i < x.m) : Sz 10 (eC x.box x.c i) := by
  have h := box_at hx.bx hi
  unfold eC
  split
  · exact h.hi
  · exact h.lo.mono (by decide)
theorem dU_sz (hx : CnOk x) : ∀ k, k ≤ x.m → Sz (4 + 15 * k) (dU x.q x.box x.c k)
  | 0, _ => hx.zq.mono (by omega)
  | k + 1, h => by
    rw [dU]
    exact ((dU_sz hx k (by omega)).add ((hx.zc k (by omega)).mul (eC_sz hx (by omega)))).mono (by omega)
theorem dU_sz49 (hx : CnOk x) {k : Nat} (h : k ≤ x.m) : Sz 49 (dU x.q x.box x.c k) := (dU_sz hx k h).mono (by have := hx.m3; omega)
theorem Kd.lastz (hx : CnOk x) (h : Kd x k a) (hk : k ≤ x.m) : Sz 49 (lastN a) := by
  cases h with
  | con i hi h hl s w => rw [hl]; exact (box_at hx.bx hi).wd.mono (by decide)
  | lo i h1 hi h hl s w => rw [hl]; exact (box_at hx.bx hi).lo.neg.mono (by decide)
  | hi i h1 hi h hl s w => rw [hl]; exact (box_at hx.bx hi).hi.mono (by decide)
  | own o h h1 hl s w => rw [hl]; exact (dU_sz49 hx hk).neg
theorem Kd.cz (hx : CnOk x) (h : Kd x k a) {j : Nat} (hj : j < x.N - 1) : Sz 4 (coef j a) := by
  cases h with
  | con i hi h hl s w => rw [h j hj]; exact Sz.zero.mono (by decide)
  | lo i h1 hi h hl s w =>
    rw [h j hj]; split
    · exact Sz.one.mono (by decide)
    · exact Sz.zero.mono (by decide)
  | hi i h1 hi h hl s w =>
    rw [h j hj]; split
    · exact Sz.one.neg.mono (by decide)
    · exact Sz.zero.mono (by decide)
  | own o h h1 hl s w =>
    by_cases e : j < x.m
    · rw [h j e]; split
      · exact Sz.zero.mono (by decide)
      · exact (hx.zc j e).neg
    · rw [h1 j (by omega) hj]; exact Sz.one.mono (by decide)
theorem RwK.szn (hx : CnOk x) (h : RwK x k a) (hk : k ≤ x.m) : SzL 49 a.n := fun y hy => by
  obtain ⟨j, hj, rfl⟩ := List.mem_iff_getElem.mp hy
  have hN := hx.hN
  have e : a.n[j] = coef j a := by simp [coef, List.getD, hj]
  rw [h.n] at hj
  by_cases z : j < x.N - 1
  · rw [e]; exact (h.kd.cz hx z).mono (by decide)
  · have : a.n[j] = lastN a := by
      rw [e]
      have : j = a.n.length - 1 := by rw [h.n]; omega
      rw [this]; rfl
    rw [this]; exact h.kd.lastz hx hk
theorem sW_le : ∀ {k : Nat}, k ≤ 3 → sW k ≤ 109
  | 0, _ => by decide
  | 1, _ => by decide
  | 2, _ => by decide
  | 3, _ => by decide
theorem RwK.ok (hx : CnOk x) (h : RwK x k a) (hk : k ≤ x.m) : RwOk 600 a := by
  have hN := hx.hN
  have hL := hx.L1
  have h3 := hx.m3
  refine ⟨by rw [h.n]; omega, by rw [h.w]; omega, fun y hy => (h.szn hx hk y hy).mono (by decide), fun y hy => (h.z y hy).mono ?_⟩
  have := sW_le (k := k) (by omega)
  omega
theorem Stage.sys {rows : List Rw} (hx : CnOk x) (h : Stage x 0 rows) (hl : rows.length ≤ 7) : SysOk rows x.m x.N := fun k hk => by
  have h3 := hx.m3
  have := sys_len hl k (by omega)
  exact ⟨by omega, fun r hr => ⟨((h.at hx k hk).all r hr).ok hx hk, ((h.at hx k hk).all r hr).n⟩⟩
end
/-! ### where the rows begin -/
/-- the box's sides -/
def rimsOf (m : Nat) (box : Bx) : List Ts := (List.range m).flatMap fun k => [trm (rimTab m k 1 (-(bl box k))), trm (rimTab m k (-1) (bh box k))]
theorem flat2_len {α β : Type} (f g : α → β) : ∀ l : List α, (l.flatMap fun k => [f k, g k]).length = 2 * l.length
  | [] => rfl
  | y :: l => by rw [List.flatMap_cons, List.length_append, flat2_len f g l]; simp only [List.length_cons, List.length_nil]; omega
theorem rimsOf_len (m : Nat) (box : Bx) : (rimsOf m box).length = 2 * m := by
  rw [rimsOf, flat2_len, List.length_range]
theorem rimsOf_mem {m : Nat} {box : Bx} {ts : Ts} : ts ∈ rimsOf m box ↔ ∃ k, k < m ∧ (ts = trm (rimTab m k 1 (-(bl box k))) ∨ ts = trm (rimTab m k (-1) (bh box k))) := by
  unfold rimsOf
  rw [List.mem_flatMap]
  constructor
  · rintro ⟨k, hk, h⟩
    exact ⟨k, List.mem_range.mp hk, by simpa using h⟩
  · rintro ⟨k, hk, h⟩
    exact ⟨k, List.mem_range.mpr hk, by simpa using h⟩
theorem rimsOf_lin {m : Nat} {box : Bx} {ts : Ts} (h : ts ∈ rimsOf m box) : ∃ q c, Lin m ts q c := by
  obtain ⟨k, hk, rfl | rfl⟩ := rimsOf_mem.mp h
  · exact ⟨_, _, (rim_lin hk).trm⟩
  · exact ⟨_, _, (rim_lin hk).trm⟩
theorem unitW_len (n j : Nat) : (unitW n j).length = n := by simp [unitW]
theorem unitW_sz (n j : Nat) : SzL 4 (unitW n j) := fun y hy => by
  rcases List.mem_or_eq_of_mem_set hy with h | h
  · rw [List.eq_of_mem_replicate h]; exact Sz.zero.mono (by decide)
  · rw [h]; exact Sz.one.mono (by decide)
theorem unitW_last {n i : Nat} (h : i < n) : lastL (unitW (n + 1) i) = 0 := by
  unfold lastL
  rw [unitW_len, unitW, getD_setR (by simp; omega), if_neg (by omega)]
  simp [List.getD]
theorem unitW_own (n : Nat) : lastL (unitW (n + 1) n) = 1 := by
  unfold lastL
  rw [unitW_len, unitW, getD_setR (by simp), if_pos (by omega)]
/-- a row of a straight sum -/
theorem lin_row {m : Nat} {ts : Ts} {q : Rat} {c : Nat → Rat} (h : Lin m ts q c) (w : List Rat) (s : Bool) : (∀ j, j < m → coef j ⟨numsOf m ts, w, s⟩ = c j) ∧ lastN ⟨numsOf m ts, w, s⟩ = q := by
  refine ⟨fun j hj => ?_, ?_⟩
  · show (numsOf m ts).getD j 0 = c j
    rw [h.num (by omega), if_pos hj]
  · show (numsOf m ts).getD ((numsOf m ts).length - 1) 0 = q
    rw [numsOf_len, Nat.add_sub_cancel, h.num (Nat.le_refl m), if_neg (Nat.lt_irrefl m)]
theorem neg_getD (l : List Rat) (j : Nat) : (l.map (-·)).getD j 0 = -(l.getD j 0) := by
  simp only [List.getD_eq_getElem?_getD, List.getElem?_map]
  cases l[j]? with
  | none => rfl
  | some y => rfl
theorem lin_rowN {m : Nat} {ts : Ts} {q : Rat} {c : Nat → Rat} (h : Lin m ts q c) (w : List Rat) (s : Bool) : (∀ j, j < m → coef j ⟨(numsOf m ts).map (-·), w, s⟩ = -c j) ∧ lastN ⟨(numsOf m ts).map (-·), w, s⟩ = -q := by
  obtain ⟨h1, h2⟩ := lin_row h w s
  refine ⟨fun j hj => ?_, ?_⟩
  · show ((numsOf m ts).map (-·)).getD j 0 = _
    rw [neg_getD]
    exact congrArg _ (h1 j hj)
  · show ((numsOf m ts).map (-·)).getD (((numsOf m ts).map (-·)).length - 1) 0 = _
    rw [neg_getD, List.length_map]
    exact congrArg _ h2
theorem rimRows_mem {m : Nat} {rims : List Ts} {r : Rw} (h : r ∈ rimRows m rims) : ∃ i, i < rims.length ∧ ∃ ts ∈ rims, r = ⟨numsOf m ts, unitW (rims.length + 1) i, false⟩ := by
  obtain ⟨i, hi, rfl⟩ := List.mem_map.mp h
  have hi := List.mem_range.mp hi
  refine ⟨i, hi, rims.getD i [], ?_, rfl⟩
  have : rims.getD i [] = rims[i] := by simp [List.getD, hi]
  rw [this]; exact List.getElem_mem hi
theorem rimRows_of {m : Nat} {rims : List Ts} {ts : Ts} (h : ts ∈ rims) : ∃ r ∈ rimRows m rims, r.n = numsOf m ts := by
  obtain ⟨i, hi, rfl⟩ := List.mem_iff_getElem.mp h
  refine ⟨_, List.mem_map.mpr ⟨i, List.mem_range.mpr hi, rfl⟩, ?_⟩
  show numsOf m (rims.getD i []) = _
  have : rims.getD i [] = rims[i] := by simp [List.getD, hi]
  rw [this]
/-- the worth's column -/
theorem worthR_row {m : Nat} {r : Rw} {y : Rat} (h : r.n.length = m + 1) : (worthR r y).n.length = m + 2 ∧ (∀ j, j < m → coef j (worthR r y) = coef j r) ∧ coef m (worthR r y) = y ∧ lastN (worthR r y) = lastN r := by
  have hn : (worthR r y).n = r.n.take m ++ [y, lastN r] := by
    show r.n.take (r.n.length - 1) ++ [y] ++ [lastN r] = _
    rw [h]; simp
  have hl : (r.n.take m).length = m := by rw [List.length_take]; omega
  have hl2 : (worthR r y).n.length = m + 2 := by rw [hn, List.length_append, hl]; rfl
  refine ⟨hl2, fun j hj => ?_, ?_, ?_⟩
  · show (worthR r y).n.getD j 0 = r.n.getD j 0
    rw [hn]
    simp only [List.getD_eq_getElem?_getD]
    rw [List.getElem?_append_left (by omega), List.getElem?_take, if_pos hj]
  · show (worthR r y).n.getD m 0 = y
    rw [hn]
    simp only [List.getD_eq_getElem?_getD]
    rw [List.getElem?_append_right (by omega), hl]; simp
  · show (worthR r y).n.getD ((worthR r y).n.length - 1) 0 = _
    rw [hl2, hn]
    simp only [List.getD_eq_getElem?_getD]
    rw [List.getElem?_append_right (by omega), hl]
    have : m + 2 - 1 - m = 1 := by omega
    rw [this]; simp
/-- the sides' rows -/
structure SideRows (m : Nat) (box : Bx) (N L : Nat) (rows : List Rw) : Prop where
  all : ∀ r ∈ rows, r.n.length = N ∧ r.w.length = L ∧ SzL 4 r.w ∧ r.s = false ∧ lastL r.w = 0 ∧ ∃ i, i < m ∧ (((∀ j, j < N - 1 → coef j r = if j = i then 1 else 0) ∧ lastN r = -bl box i) ∨ ((∀ j, j < N - 1 → coef j r = if j = i then -1 else 0) ∧ lastN r = bh box i))
  lo : ∀ i, i < m → ∃ r ∈ rows, (∀ j, j < N - 1 → coef j r = if j = i then 1 else 0) ∧ lastN r = -bl box i
  hi : ∀ i, i < m → ∃ r ∈ rows, (∀ j, j < N - 1 → coef j r = if j = i then -1 else 0) ∧ lastN r = bh box i
theorem side_rim (m : Nat) (box : Bx) : SideRows m box (m + 1) (2 * m + 1) (rimRows m (rimsOf m box)) := by
  have hl := rimsOf_len m box
  refine ⟨fun r hr => ?_, fun i hi => ?_, fun i hi => ?_⟩
  · obtain ⟨i, hi, ts, ht, rfl⟩ := rimRows_mem hr
    rw [hl] at hi
    obtain ⟨k, hk, e⟩ := rimsOf_mem.mp ht
    refine ⟨numsOf_len _ _, by rw [hl]; exact unitW_len _ _, unitW_sz _ _, rfl, by rw [hl]; exact unitW_last hi, k, hk, ?_⟩
    rcases e with rfl | rfl
    · obtain ⟨h1, h2⟩ := lin_row (rim_lin (s := 1) (q := -(bl box k)) hk).trm (unitW ((rimsOf m box).length + 1) i) false
      exact .inl ⟨fun j hj => h1 j (by omega), h2⟩
    · obtain ⟨h1, h2⟩ := lin_row (rim_lin (s := -1) (q := bh box k) hk).trm (unitW ((rimsOf m box).length + 1) i) false
      exact .inr ⟨fun j hj => h1 j (by omega), h2⟩
  · obtain ⟨⟨n, w, s⟩, hr, e⟩ := rimRows_of (m := m) (rimsOf_mem (box := box).mpr ⟨i, hi, .inl rfl⟩)
    have e : n = _ := e
    subst e
    obtain ⟨h1, h2⟩ := lin_row (rim_lin (s := 1) (q := -(bl box i)) hi).trm w s
    exact ⟨_, hr, fun j hj => h1 j (by omega), h2⟩
  · obtain ⟨⟨n, w, s⟩, hr, e⟩ := rimRows_of (m := m) (rimsOf_mem (box := box).mpr ⟨i, hi, .inr rfl⟩)
    have e : n = _ := e
    subst e
    obtain ⟨h1, h2⟩ := lin_row (rim_lin (s := -1) (q := bh box i) hi).trm w s
    exact ⟨_, hr, fun j hj => h1 j (by omega), h2⟩
theorem side_worth {m : Nat} {box : Bx} {L : Nat} {rows : List Rw} (h : SideRows m box (m + 1) L rows) : SideRows m box (m + 2) L (rows.map fun r => worthR r 0) := by
  have up : ∀ (r : Rw) (i : Nat) (y : Rat), r.n.length = m + 1 → i < m → (∀ j, j < m + 1 - 1 → coef j r = if j = i then y else 0) → ∀ j, j < m + 2 - 1 → coef j (worthR r 0) = if j = i then y else 0 := fun r i y hn hi hc j hj => by
    obtain ⟨_, w2, w3, _⟩ := worthR_row (y := 0) hn
    by_cases e : j < m
    · rw [w2 j e]; exact hc j (by omega)
    · have : j = m := by omega
      rw [this, w3, if_neg (by omega)]
  refine ⟨fun r' hr' => ?_, fun i hi => ?_, fun i hi => ?_⟩
  · obtain ⟨r, hr, rfl⟩ := List.mem_map.mp hr'
    obtain ⟨h1, h2, h3, h4, h5, i, hi, h6⟩ := h.all r hr
    obtain ⟨w1, w2, w3, w4⟩ := worthR_row (y := 0) h1
    refine ⟨w1, h2, h3, h4, h5, i, hi, ?_⟩
    rcases h6 with ⟨a, b⟩ | ⟨a, b⟩
    · exact .inl ⟨up r i 1 h1 hi a, by rw [w4, b]⟩
    · exact .inr ⟨up r i (-1) h1 hi a, by rw [w4, b]⟩
  · obtain ⟨r, hr, a, b⟩ := h.lo i hi
    have h1 := (h.all r hr).1
    exact ⟨_, List.mem_map_of_mem hr, up r i 1 h1 hi a, by rw [(worthR_row (y := 0) h1).2.2.2, b]⟩
  · obtain ⟨r, hr, a, b⟩ := h.hi i hi
    have h1 := (h.all r hr).1
    exact ⟨_, List.mem_map_of_mem hr, up r i (-1) h1 hi a, by rw [(worthR_row (y := 0) h1).2.2.2, b]⟩
theorem SideRows.kd {x : Cn} {rows : List Rw} (h : SideRows x.m x.box x.N x.L rows) : ∀ r ∈ rows, RwK x 0 r := fun r hr => by
  obtain ⟨h1, h2, h3, h4, h5, i, hi, h6⟩ := h.all r hr
  refine ⟨h1, h2, h3, ?_⟩
  rcases h6 with ⟨a, b⟩ | ⟨a, b⟩
  · exact .lo i (Nat.zero_le _) hi a b h4 h5
  · exact .hi i (Nat.zero_le _) hi a b h4 h5
theorem SideRows.stage {x : Cn} {rows : List Rw} (h : SideRows x.m x.box x.N x.L rows) (ho : x.ow = false) : Stage x 0 rows :=
  ⟨h.kd, fun i _ hi => h.lo i hi, fun i _ hi => h.hi i hi, fun o => by rw [ho] at o; cases o⟩
theorem SideRows.stageO {x : Cn} {rows : List Rw} (h : SideRows x.m x.box x.N x.L rows) (ho : x.ow = true) {r : Rw} (hn : r.n.length = x.N) (hw : r.w.length = x.L) (hz : SzL 4 r.w) (hs : r.s = x.st) (hl : lastL r.w = 1)
    (h1 : ∀ j, j < x.m → coef j r = -x.c j) (h2 : ∀ j, x.m ≤ j → j < x.N - 1 → coef j r = 1) (h3 : lastN r = -x.q) : Stage x 0 (rows ++ [r]) := by
  refine ⟨fun r' hr => ?_, fun i _ hi => ?_, fun i _ hi => ?_, fun _ => ?_⟩
  · rcases List.mem_append.mp hr with z | z
    · exact h.kd r' z
    · rw [List.mem_singleton.mp z]
      exact ⟨hn, hw, hz, .own ho (fun j hj => by rw [h1 j hj, if_neg (Nat.not_lt_zero j)]) h2 h3 hs hl⟩
  · obtain ⟨r', a, b⟩ := h.lo i hi
    exact ⟨r', List.mem_append_left _ a, b⟩
  · obtain ⟨r', a, b⟩ := h.hi i hi
    exact ⟨r', List.mem_append_left _ a, b⟩
  · exact ⟨r, List.mem_append_right _ List.mem_cons_self, fun j hj => by rw [h1 j hj, if_neg (Nat.not_lt_zero j)], h2, h3⟩
end Lw
/-! The plain law: spots. No program here. -/
namespace Lw
open PySem PySem.Spec PyProof.Rows L2
theorem greatest_fold : ∀ (l : List Rat) (a : Rat), a ≤ l.foldl (fun a y => if a < y then y else a) a ∧ ∀ y ∈ l, y ≤ l.foldl (fun a y => if a < y then y else a) a
  | [], a => ⟨Rat.le_refl, fun y hy => by cases hy⟩
  | z :: l, a => by
    rw [List.foldl_cons]
    obtain ⟨h1, h2⟩ := greatest_fold l (if a < z then z else a)
    have h3 : a ≤ (if a < z then z else a) ∧ z ≤ (if a < z then z else a) := by split <;> constructor <;> grind
    refine ⟨by grind, fun y hy => ?_⟩
    rcases List.mem_cons.mp hy with rfl | hy
    · grind
    · exact h2 y hy
theorem greatest_ub : ∀ {l : List Rat} {g : Rat}, greatest l = some g → ∀ y ∈ l, y ≤ g
  | [], _, h => by cases h
  | z :: l, g, h => by
    obtain ⟨h1, h2⟩ := greatest_fold l z
    have e : l.foldl (fun a y => if a < y then y else a) z = g := by simpa [greatest] using h
    rw [e] at h1 h2
    intro y hy
    rcases List.mem_cons.mp hy with rfl | hy
    · exact h1
    · exact h2 y hy
theorem greatest_eq {l : List Rat} {v : Rat} (hv : v ∈ l) (hb : ∀ y ∈ l, y ≤ v) : greatest l = some v := by
  cases h : greatest l with
  | none =>
    cases l with
    | nil => cases hv
    | cons z l => simp [greatest] at h
  | some g =>
    have h1 := greatest_ub h v hv
    have h2 := hb g (greatest_mem h)
    have : g = v := by grind
    rw [this]
theorem restSum_none {ns spot : List Rat} {j : Nat} {acc : Rat} : ∀ n, (∀ i, i < n → ns.getD (j + i) 0 = 0) → restSum ns spot j n acc = acc
  | 0, _ => rfl
  | n + 1, h => by rw [restSum_succ, restSum_none n fun i hi => h i (by omega), h n (by omega)]; grind
theorem numberFor_eq {rows : List Rw} {k : Nat} {spot : List Rat} {l h : Rat} (h1 : greatest ((rows.filter fun r => decide (0 < coef k r)).map fun r => boundOf r k spot) = some l)
    (h2 : greatest (((rows.filter fun r => decide (coef k r < 0)).map fun r => boundOf r k spot).map fun q => -q) = some h) : numberFor rows k spot = (l - h) / 2 := by
  unfold numberFor
  rw [h1, h2]
theorem greatest_sz {l : List Rat} {g : Rat} {s : Nat} (h : greatest l = some g) (hs : ∀ y ∈ l, Sz s y) : Sz s g := hs g (greatest_mem h)
theorem numberFor_sz {a b n k : Nat} {rows : List Rw} {spot : List Rat} (h : NumOk a b n rows k spot) : Sz (2 * (szB a b n + a) + 5) (numberFor rows k spot) := by
  have hb : ∀ r ∈ rows, Sz (szB a b n + a) (boundOf r k spot) := fun r hr => boundOf_sz (h.one hr)
  have h1 : ∀ y ∈ (rows.filter fun r => decide (0 < coef k r)).map fun r => boundOf r k spot, Sz (szB a b n + a) y := fun y hy => by
    obtain ⟨r, hr, rfl⟩ := List.mem_map.mp hy
    exact hb r (List.mem_filter.mp hr).1
  have h2 : ∀ y ∈ ((rows.filter fun r => decide (coef k r < 0)).map fun r => boundOf r k spot).map fun q => -q, Sz (szB a b n + a) y := fun y hy => by
    obtain ⟨z, hz, rfl⟩ := List.mem_map.mp hy
    obtain ⟨r, hr, rfl⟩ := List.mem_map.mp hz
    exact (hb r (List.mem_filter.mp hr).1).neg
  have two : Sz 2 (2 : Rat) := ⟨by decide, by decide⟩
  unfold numberFor
  split
  · exact Sz.zero.mono (by omega)
  · rename_i e1 e2
    exact ((greatest_sz e2 h2).neg.sub Sz.one).mono (by omega)
  · rename_i e1 e2
    exact ((greatest_sz e1 h1).add Sz.one).mono (by omega)
  · rename_i e1 e2
    exact (((greatest_sz e1 h1).sub (greatest_sz e2 h2)).div two).mono (by omega)
theorem set_sz {l : List Rat} {s : Nat} {i : Nat} {v : Rat} (h : SzL s l) (hv : Sz s v) : SzL s (l.set i v) := fun y hy => by
  rcases List.mem_or_eq_of_mem_set hy with h1 | h1
  · exact h y h1
  · rw [h1]; exact hv
def bb : Nat → Nat
  | 0 => 1
  | i + 1 => 2 * (szB 49 (bb i) i + 49) + 5
theorem bb_le : ∀ {i : Nat}, i ≤ 2 → 1 ≤ bb i ∧ 2 * (szB 49 (bb i) i + 49) + 10 ≤ 4000
  | 0, _ => by decide
  | 1, _ => by decide
  | 2, _ => by decide
theorem bb_up {i : Nat} : bb i ≤ bb (i + 1) ∨ 2 < i := by
  match i with
  | 0 => exact .inl (by decide)
  | 1 => exact .inl (by decide)
  | 2 => exact .inl (by decide)
  | i + 3 => exact .inr (by omega)
theorem spot_gen {rows : List Rw} {m : Nat} (hm : m ≤ 3) (hr : ∀ k, k < m → (sysAt rows k).length < 1000 ∧ ∀ r ∈ sysAt rows k, SzL 49 r.n ∧ r.n.length = m + 1) : SpotOk rows m (List.replicate m 0) := by
  have hz : ∀ i, i ≤ m → SzL (bb i) (spotAft rows m (List.replicate m 0) i) ∧ (i < m → NumOk 49 (bb i) i (sysAt rows (m - 1 - i)) (m - 1 - i) (spotAft rows m (List.replicate m 0) i)) := by
    intro i
    have mk : ∀ i, i < m → SzL (bb i) (spotAft rows m (List.replicate m 0) i) → NumOk 49 (bb i) i (sysAt rows (m - 1 - i)) (m - 1 - i) (spotAft rows m (List.replicate m 0) i) := fun i hi hs => by
      obtain ⟨h1, h2⟩ := hr (m - 1 - i) (by omega)
      obtain ⟨b1, b2⟩ := bb_le (i := i) (by omega)
      refine ⟨by decide, b1, b2, h1, fun r hr' => ?_, hs⟩
      obtain ⟨h3, h4⟩ := h2 r hr'
      exact ⟨h3, by omega, by omega, by rw [spotAft_len, List.length_replicate]; omega, by omega⟩
    induction i with
    | zero =>
      intro _
      have : SzL (bb 0) (spotAft rows m (List.replicate m 0) 0) := fun y hy => by
        have hy : y ∈ List.replicate m (0 : Rat) := hy
        rw [List.eq_of_mem_replicate hy]; exact Sz.zero
      exact ⟨this, fun h => mk 0 h this⟩
    | succ i ih =>
      intro hi
      obtain ⟨h1, h2⟩ := ih (by omega)
      have hN := h2 (by omega)
      have h3 : SzL (bb (i + 1)) (spotAft rows m (List.replicate m 0) (i + 1)) := by
        rw [spotAft]
        refine set_sz (fun y hy => (h1 y hy).mono ?_) ((numberFor_sz hN).mono (by rw [bb]; omega))
        rcases bb_up (i := i) with h | h <;> omega
      exact ⟨h3, fun h => mk (i + 1) h h3⟩
  exact ⟨by rw [List.length_replicate]; omega, fun i hi => ⟨49, bb i, i, (hz i (by omega)).2 hi⟩⟩
/-! ### the spot of the least -/
structure XOk (x : Cn) (t : Nat) (v : Rat) : Prop where
  lo : bl x.box t ≤ v
  hi : v ≤ bh x.box t
  e : x.c t ≠ 0 → v = eC x.box x.c t
  z : Sz 49 v
section
variable {x : Cn} {k : Nat} {r : Rw} {rows : List Rw} {spot : List Rat}
theorem eC_in (hx : CnOk x) {t : Nat} (ht : t < x.m) : bl x.box t ≤ eC x.box x.c t ∧ eC x.box x.c t ≤ bh x.box t := by
  have h := (box_at hx.bx ht).lt
  have h : bl x.box t < bh x.box t := h
  unfold eC
  split <;> constructor <;> grind
theorem bound_flat {v : Rat} (hn : r.n.length = x.N) (h : ∀ j, j < x.N - 1 → coef j r = if j = k then v else 0) (hk : k < x.N - 1) : boundOf r k spot = -(lastN r) / v := by
  unfold boundOf
  rw [restSum_none _ fun i hi => ?_, h k hk, if_pos rfl]
  have := h (k + 1 + i) (by omega)
  rw [if_neg (by omega)] at this
  exact this
theorem own_rest (hx : CnOk x) (hk : k < x.m) (h : ∀ j, j < x.m → coef j r = if j < k then 0 else -x.c j) (hl : lastN r = -dU x.q x.box x.c k) (hs : ∀ t, k < t → t < x.m → XOk x t (spot.getD t 0)) :
    ∀ n, k + 1 + n ≤ x.m → restSum r.n spot (k + 1) n (lastN r) = -dU x.q x.box x.c k - (dU x.q x.box x.c (k + 1 + n) - dU x.q x.box x.c (k + 1))
  | 0, _ => by
    show lastN r = _
    rw [hl]; grind
  | n + 1, hn => by
    rw [restSum_succ, own_rest hx hk h hl hs n (by omega)]
    have h1 : r.n.getD (k + 1 + n) 0 = -x.c (k + 1 + n) := by
      have := h (k + 1 + n) (by omega)
      rw [if_neg (by omega)] at this
      exact this
    have e1 : k + 1 + (n + 1) = k + 1 + n + 1 := by omega
    have e3 : dU x.q x.box x.c (k + 1 + n + 1) = dU x.q x.box x.c (k + 1 + n) + x.c (k + 1 + n) * eC x.box x.c (k + 1 + n) := rfl
    rw [h1, e1, e3]
    have h2 := (hs (k + 1 + n) (by omega) (by omega)).e
    have h3 : x.c (k + 1 + n) * spot.getD (k + 1 + n) 0 = x.c (k + 1 + n) * eC x.box x.c (k + 1 + n) := by
      by_cases hc : x.c (k + 1 + n) = 0
      · rw [hc, Rat.zero_mul, Rat.zero_mul]
      · rw [h2 hc]
    rw [Rat.neg_mul, h3]
    clear h2 h3 h1 hs h
    generalize dU x.q x.box x.c k = d0
    generalize dU x.q x.box x.c (k + 1 + n) = d1
    generalize dU x.q x.box x.c (k + 1) = d2
    generalize x.c (k + 1 + n) * eC x.box x.c (k + 1 + n) = d3
    grind
theorem own_bound (hx : CnOk x) (hN : x.N = x.m + 2) (hk : k < x.m) (hn : r.n.length = x.N) (h : ∀ j, j < x.m → coef j r = if j < k then 0 else -x.c j) (h1 : ∀ j, x.m ≤ j → j < x.N - 1 → coef j r = 1) (hl : lastN r = -dU x.q x.box x.c k)
    (hs : ∀ t, k < t → t < x.m → XOk x t (spot.getD t 0)) (hw : spot.getD x.m 0 = dU x.q x.box x.c x.m) (hc : x.c k ≠ 0) : boundOf r k spot = eC x.box x.c k := by
  unfold boundOf
  have e1 : r.n.length - 1 - (k + 1) = (x.m - (k + 1)) + 1 := by rw [hn, hN]; omega
  have e2 : k + 1 + (x.m - (k + 1)) = x.m := by omega
  have h2 : r.n.getD (k + 1 + (x.m - (k + 1))) 0 = 1 := by rw [e2]; exact h1 x.m (Nat.le_refl _) (by omega)
  have h3 : coef k r = -x.c k := by rw [h k hk, if_neg (Nat.lt_irrefl k)]
  have e3 : dU x.q x.box x.c (k + 1) = dU x.q x.box x.c k + x.c k * eC x.box x.c k := rfl
  rw [e1, restSum_succ, own_rest hx hk h hl hs _ (by omega), h2, e2, hw, h3, e3]
  clear h2 h3 h1 hs h
  generalize dU x.q x.box x.c k = d0
  generalize dU x.q x.box x.c x.m = d1
  generalize eC x.box x.c k = d3
  generalize x.c k = d4 at hc ⊢
  have e4 : -(-d0 - (d1 - (d0 + d4 * d3)) + 1 * d1) = d3 * -d4 := by grind
  rw [e4]
  grind
theorem number_at (hx : CnOk x) (hN : x.N = x.m + 2) (ho : x.ow = true) (hk : k < x.m) (hS : Stage x k rows) (hs : ∀ t, k < t → t < x.m → XOk x t (spot.getD t 0)) (hw : spot.getD x.m 0 = dU x.q x.box x.c x.m) : XOk x k (numberFor rows k spot) := by
  have hb := box_at hx.bx hk
  have hlt : bl x.box k < bh x.box k := hb.lt
  obtain ⟨l, hl, l1, l2⟩ := hS.lo k (Nat.le_refl _) hk
  obtain ⟨g, hg, g1, g2⟩ := hS.hi k (Nat.le_refl _) hk
  have cl : coef k l = 1 := by rw [l1 k (by omega), if_pos rfl]
  have cg : coef k g = -1 := by rw [g1 k (by omega), if_pos rfl]
  have bL : boundOf l k spot = bl x.box k := by rw [bound_flat (hS.all l hl).n l1 (by omega), l2]; grind
  have bG : boundOf g k spot = bh x.box k := by rw [bound_flat (hS.all g hg).n g1 (by omega), g2]; grind
  obtain ⟨w, hw', w1, w2, w3⟩ := hS.ow ho
  have cw : coef k w = -x.c k := by rw [w1 k hk, if_neg (Nat.lt_irrefl k)]
  have bW : x.c k ≠ 0 → boundOf w k spot = eC x.box x.c k := fun hc => own_bound hx hN hk (hS.all w hw').n w1 w2 w3 hs hw hc
  -- every row's bound
  have above : ∀ r ∈ rows, 0 < coef k r → boundOf r k spot = bl x.box k ∨ (x.c k < 0 ∧ boundOf r k spot = bh x.box k) := fun r hr hp => by
    have hk' := hS.all r hr
    cases hk'.kd with
    | con i hi h al s w => rw [h k (by omega)] at hp; exact absurd hp Rat.lt_irrefl
    | lo i h1 hi h al s w =>
      have : k = i := by
        rw [h k (by omega)] at hp
        split at hp
        · assumption
        · exact absurd hp Rat.lt_irrefl
      subst this
      left; rw [bound_flat hk'.n h (by omega), al]; grind
    | hi i h1 hi h al s w =>
      rw [h k (by omega)] at hp
      split at hp
      · exact absurd hp (by decide)
      · exact absurd hp Rat.lt_irrefl
    | own o h h1 al s w =>
      have hc : x.c k < 0 := by
        rw [h k hk, if_neg (Nat.lt_irrefl k)] at hp; grind
      right
      refine ⟨hc, ?_⟩
      rw [own_bound hx hN hk hk'.n h h1 al hs hw (by grind), eC, if_pos hc]
  have below : ∀ r ∈ rows, coef k r < 0 → boundOf r k spot = bh x.box k ∨ (0 < x.c k ∧ boundOf r k spot = bl x.box k) := fun r hr hp => by
    have hk' := hS.all r hr
    cases hk'.kd with
    | con i hi h al s w => rw [h k (by omega)] at hp; exact absurd hp Rat.lt_irrefl
    | hi i h1 hi h al s w =>
      have : k = i := by
        rw [h k (by omega)] at hp
        split at hp
        · assumption
        · exact absurd hp Rat.lt_irrefl
      subst this
      left; rw [bound_flat hk'.n h (by omega), al]; grind
    | lo i h1 hi h al s w =>
      rw [h k (by omega)] at hp
      split at hp
      · exact absurd hp (by decide)
      · exact absurd hp Rat.lt_irrefl
    | own o h h1 al s w =>
      have hc : 0 < x.c k := by
        rw [h k hk, if_neg (Nat.lt_irrefl k)] at hp; grind
      right
      refine ⟨hc, ?_⟩
      rw [own_bound hx hN hk hk'.n h h1 al hs hw (by grind), eC, if_neg (by grind)]
  have inA : ∀ r ∈ rows, 0 < coef k r → boundOf r k spot ∈ (rows.filter fun r => decide (0 < coef k r)).map fun r => boundOf r k spot := fun r hr hp => List.mem_map_of_mem (List.mem_filter.mpr ⟨hr, decide_eq_true hp⟩)
  have inB : ∀ r ∈ rows, coef k r < 0 → -(boundOf r k spot) ∈ ((rows.filter fun r => decide (coef k r < 0)).map fun r => boundOf r k spot).map fun q => -q := fun r hr hp => List.mem_map_of_mem (List.mem_map_of_mem (List.mem_filter.mpr ⟨hr, decide_eq_true hp⟩))
  have allA : ∀ y ∈ (rows.filter fun r => decide (0 < coef k r)).map fun r => boundOf r k spot, y = bl x.box k ∨ (x.c k < 0 ∧ y = bh x.box k) := fun y hy => by
    obtain ⟨r, hr, rfl⟩ := List.mem_map.mp hy
    obtain ⟨h1, h2⟩ := List.mem_filter.mp hr
    exact above r h1 (of_decide_eq_true h2)
  have allB : ∀ y ∈ ((rows.filter fun r => decide (coef k r < 0)).map fun r => boundOf r k spot).map fun q => -q, y = -(bh x.box k) ∨ (0 < x.c k ∧ y = -(bl x.box k)) := fun y hy => by
    obtain ⟨z, hz, rfl⟩ := List.mem_map.mp hy
    obtain ⟨r, hr, rfl⟩ := List.mem_map.mp hz
    obtain ⟨h1, h2⟩ := List.mem_filter.mp hr
    rcases below r h1 (of_decide_eq_true h2) with e | ⟨e1, e2⟩
    · left; rw [e]
    · right; exact ⟨e1, by rw [e2]⟩
  have iL := inA l hl (by rw [cl]; decide)
  have iG := inB g hg (by rw [cg]; decide)
  rw [bL] at iL
  rw [bG] at iG
  have zl : Sz 10 (bl x.box k) := hb.lo.mono (by decide)
  have zh : Sz 10 (bh x.box k) := hb.hi
  by_cases hn : x.c k < 0
  · have iW := inA w hw' (by rw [cw]; grind)
    rw [bW (by grind), eC, if_pos hn] at iW
    have e1 := greatest_eq iW fun y hy => by
      rcases allA y hy with e | ⟨_, e⟩ <;> rw [e] <;> grind
    have e2 := greatest_eq iG fun y hy => by
      rcases allB y hy with e | ⟨e1, e⟩
      · rw [e]; exact Rat.le_refl
      · grind
    have e3 : numberFor rows k spot = bh x.box k := by rw [numberFor_eq e1 e2]; grind
    rw [e3]
    exact ⟨by grind, Rat.le_refl, fun _ => by rw [eC, if_pos hn], zh.mono (by decide)⟩
  · have e1 := greatest_eq iL fun y hy => by
      rcases allA y hy with e | ⟨e1, e⟩
      · rw [e]; exact Rat.le_refl
      · exact absurd e1 hn
    by_cases hp : 0 < x.c k
    · have iW := inB w hw' (by rw [cw]; grind)
      rw [bW (by grind), eC, if_neg hn] at iW
      have e2 := greatest_eq iW fun y hy => by
        rcases allB y hy with e | ⟨_, e⟩ <;> rw [e] <;> grind
      have e3 : numberFor rows k spot = bl x.box k := by rw [numberFor_eq e1 e2]; grind
      rw [e3]
      exact ⟨Rat.le_refl, by grind, fun _ => by rw [eC, if_neg hn], zl.mono (by decide)⟩
    · have e2 := greatest_eq iG fun y hy => by
        rcases allB y hy with e | ⟨e1, e⟩
        · rw [e]; exact Rat.le_refl
        · exact absurd e1 hp
      have e3 : numberFor rows k spot = (bl x.box k - -(bh x.box k)) / 2 := numberFor_eq e1 e2
      have two : Sz 2 (2 : Rat) := ⟨by decide, by decide⟩
      rw [e3]
      exact ⟨by grind, by grind, fun h => absurd (show x.c k = 0 by grind) h, ((zl.sub zh.neg).div two).mono (by decide)⟩
end
end Lw
/-! The plain law: kept, over, reach. No program here. -/
namespace Lw
open PySem PySem.Spec PyProof.Rows L2
section
variable {x : Cn} {rows : List Rw} {qs : List Rat}
theorem Stage.numok (hx : CnOk x) (hN : x.N = x.m + 2) (h : Stage x 0 rows) (hl : rows.length ≤ 7) {k : Nat} (hk : k < x.m) {spot : List Rat} (hs : SzL 49 spot) (hn : spot.length = x.m + 1) : NumOk 49 49 3 (sysAt rows k) k spot := by
  have h3 := hx.m3
  have hS := h.at hx k (by omega)
  have hlen := sys_len hl k (by omega)
  refine ⟨by decide, by decide, by decide, by omega, fun r hr => ?_, hs⟩
  have hr' := hS.all r hr
  exact ⟨hr'.szn hx (by omega), by rw [hr'.n]; omega, by rw [hr'.n]; omega, by rw [hr'.n]; omega, by rw [hr'.n]; omega⟩
structure SpI (x : Cn) (i : Nat) (spot : List Rat) : Prop where
  n : spot.length = x.m + 1
  z : SzL 49 spot
  w : spot.getD x.m 0 = dU x.q x.box x.c x.m
  ok : ∀ t, x.m - i ≤ t → t < x.m → XOk x t (spot.getD t 0)
theorem SpI.step (hx : CnOk x) (hN : x.N = x.m + 2) (ho : x.ow = true) (h : Stage x 0 rows) {i : Nat} (hi : i < x.m) {spot : List Rat} (s : SpI x i spot) : SpI x (i + 1) (spot.set (x.m - 1 - i) (numberFor (sysAt rows (x.m - 1 - i)) (x.m - 1 - i) spot)) := by
  have hX := number_at hx hN ho (by omega) (h.at hx (x.m - 1 - i) (by omega)) (fun t h1 h2 => s.ok t (by omega) h2) s.w
  have hb : x.m - 1 - i < spot.length := by rw [s.n]; omega
  refine ⟨by rw [List.length_set]; exact s.n, set_sz s.z hX.z, ?_, fun t h1 h2 => ?_⟩
  · rw [getD_setR hb, if_neg (by omega)]; exact s.w
  · rw [getD_setR hb]
    by_cases e : t = x.m - 1 - i
    · rw [if_pos e, e]; exact hX
    · rw [if_neg e]; exact s.ok t (by omega) h2
theorem SpI.start (hx : CnOk x) : SpI x 0 (List.replicate x.m 0 ++ [dU x.q x.box x.c x.m]) := by
  refine ⟨by simp, fun y hy => ?_, ?_, fun t h1 h2 => by omega⟩
  · rcases List.mem_append.mp hy with h | h
    · rw [List.eq_of_mem_replicate h]; exact Sz.zero.mono (by decide)
    · rw [List.mem_singleton.mp h]; exact dU_sz49 hx (Nat.le_refl _)
  · simp only [List.getD_eq_getElem?_getD]
    rw [List.getElem?_append_right (by simp)]; simp
theorem SpI.all (hx : CnOk x) (hN : x.N = x.m + 2) (ho : x.ow = true) (h : Stage x 0 rows) : ∀ i, i ≤ x.m → SpI x i (spotAft rows x.m (List.replicate x.m 0 ++ [dU x.q x.box x.c x.m]) i)
  | 0, _ => SpI.start hx
  | i + 1, hi => by
    rw [spotAft]
    exact (SpI.all hx hN ho h i (by omega)).step hx hN ho h (by omega)
theorem spot_reach (hx : CnOk x) (hN : x.N = x.m + 2) (ho : x.ow = true) (h : Stage x 0 rows) (hl : rows.length ≤ 7) : SpotOk rows x.m (List.replicate x.m 0 ++ [dU x.q x.box x.c x.m]) ∧ (spotOf rows x.m (List.replicate x.m 0 ++ [dU x.q x.box x.c x.m])).length = x.m ∧ ∀ t, t < x.m → XOk x t ((spotOf rows x.m (List.replicate x.m 0 ++ [dU x.q x.box x.c x.m])).getD t 0) := by
  have hS := SpI.all hx hN ho h
  refine ⟨⟨by simp, fun i hi => ⟨49, 49, 3, h.numok hx hN hl (by omega) (hS i (by omega)).z (hS i (by omega)).n⟩⟩, ?_, fun t ht => ?_⟩
  · rw [spotOf, List.length_take, (hS x.m (Nat.le_refl _)).n]; omega
  · have e := (hS x.m (Nat.le_refl _)).ok t (by omega) ht
    have : (spotOf rows x.m (List.replicate x.m 0 ++ [dU x.q x.box x.c x.m])).getD t 0 = (spotAft rows x.m (List.replicate x.m 0 ++ [dU x.q x.box x.c x.m]) x.m).getD t 0 := by
      simp only [spotOf, List.getD_eq_getElem?_getD, List.getElem?_take]
      rw [if_pos ht]
    rw [this]; exact e
theorem Stage.gen (hx : CnOk x) (hN : x.N = x.m + 1) (h : Stage x 0 rows) (hl : rows.length ≤ 7) : SpotOk rows x.m (List.replicate x.m 0) := by
  have h3 := hx.m3
  refine spot_gen hx.m3 fun k hk => ?_
  have hS := h.at hx k (by omega)
  have hlen := sys_len hl k (by omega)
  exact ⟨by omega, fun r hr => ⟨(hS.all r hr).szn hx (by omega), by rw [(hS.all r hr).n, hN]⟩⟩
/-- at the end: constants, or the sum's own row -/
theorem Kd.fin (hx : CnOk x) {r : Rw} (h : Kd x x.m r) : ((∀ j, j < x.N - 1 → coef j r = 0) ∧ 0 < lastN r ∧ r.s = false) ∨ (x.ow = true ∧ (∀ j, x.m ≤ j → j < x.N - 1 → coef j r = 1) ∧ lastN r = -dU x.q x.box x.c x.m ∧ r.s = x.st ∧ lastL r.w = 1) := by
  cases h with
  | con i hi h hl s w =>
    have := (box_at hx.bx hi).lt
    have : bl x.box i < bh x.box i := this
    exact .inl ⟨h, by rw [hl]; grind, s⟩
  | lo i h1 hi h hl s w => omega
  | hi i h1 hi h hl s w => omega
  | own o h h1 hl s w => exact .inr ⟨o, h1, hl, s, w⟩
theorem badRow_none {rows : List Rw} (h : ∀ r ∈ rows, badP r = false) : badRow rows = none := by
  rw [badRow, List.find?_eq_none]
  intro r hr; rw [h r hr]; decide
end
theorem Lin.sum {m : Nat} {ts : Ts} {q : Rat} {c : Nat → Rat} (h : Lin m ts q c) (hm : m ≤ 3) : SumOk m ts := ⟨by have := h.few; omega, (deg_lk h.lk).2, fun e he => (h.lk e he).len⟩
section
variable {m : Nat} {box : Bx} {q : Rat} {c : Nat → Rat} {ts : Ts}
/-- the sum, the box -/
structure Given (m : Nat) (box : Bx) (q : Rat) (c : Nat → Rat) (ts : Ts) : Prop where
  m1 : 1 ≤ m
  m3 : m ≤ 3
  bx : BoxGood m box
  zq : Sz 4 q
  zc : ∀ i, i < m → Sz 4 (c i)
  lin : Lin m ts q c
abbrev cnK (m : Nat) (box : Bx) : Cn := ⟨m, m + 1, 2 * m + 1, box, 0, fun _ => 0, false, false⟩
abbrev cnO (m : Nat) (box : Bx) (q : Rat) (c : Nat → Rat) : Cn := ⟨m, m + 1, 2 * m + 1, box, q, c, true, true⟩
abbrev cnR (m : Nat) (box : Bx) (q : Rat) (c : Nat → Rat) : Cn := ⟨m, m + 2, 2 * m + 1, box, q, c, true, false⟩
theorem Given.xK (g : Given m box q c ts) : CnOk (cnK m box) := ⟨g.m3, ⟨Nat.le_refl _, by show m + 1 ≤ m + 2; omega⟩, g.bx, Sz.zero.mono (by decide), fun i _ => Sz.zero.mono (by decide), ⟨by show 1 ≤ 2 * m + 1; omega, by have := g.m3; show 2 * m + 1 < 100; omega⟩⟩
theorem Given.xO (g : Given m box q c ts) : CnOk (cnO m box q c) := ⟨g.m3, ⟨Nat.le_refl _, by show m + 1 ≤ m + 2; omega⟩, g.bx, g.zq, g.zc, ⟨by show 1 ≤ 2 * m + 1; omega, by have := g.m3; show 2 * m + 1 < 100; omega⟩⟩
theorem Given.xR (g : Given m box q c ts) : CnOk (cnR m box q c) := ⟨g.m3, ⟨by show m + 1 ≤ m + 2; omega, Nat.le_refl _⟩, g.bx, g.zq, g.zc, ⟨by show 1 ≤ 2 * m + 1; omega, by have := g.m3; show 2 * m + 1 < 100; omega⟩⟩
theorem rimRows_few (g : Given m box q c ts) : (rimRows m (rimsOf m box)).length ≤ 6 := by
  have := g.m3
  rw [rimRows_len, rimsOf_len]; omega
theorem Given.kept (g : Given m box q c ts) : KeptOk m (rimsOf m box) := by
  have h1 := g.m1
  have h3 := g.m3
  have hx := g.xK
  have hS : Stage (cnK m box) 0 (rimRows m (rimsOf m box)) := SideRows.stage (x := cnK m box) (side_rim m box) rfl
  have hl := rimRows_few g
  have hlen := rimsOf_len m box
  refine ⟨by omega, fun e => ?_, by omega, fun ts ht => ?_, hS.sys hx (by omega), ?_, hS.gen hx rfl (by omega)⟩
  · rw [e] at hlen; simp at hlen; omega
  · obtain ⟨q', c', hL⟩ := rimsOf_lin ht
    exact hL.sum h3
  · refine badRow_none fun r hr => ?_
    rcases (((hS.at hx m (Nat.le_refl _)).all r hr).kd).fin hx with ⟨_, h4, h5⟩ | ⟨o, _⟩
    · unfold badP
      rw [h5, decide_eq_false (by grind)]; simp
    · cases o
theorem over_stage (g : Given m box q c ts) : Stage (cnO m box q c) 0 (overRows m ts (rimsOf m box)) := by
  have hlen := rimsOf_len m box
  obtain ⟨h1, h2⟩ := lin_rowN g.lin (unitW ((rimsOf m box).length + 1) (rimsOf m box).length) true
  exact SideRows.stageO (x := cnO m box q c) (side_rim m box) rfl (by show ((numsOf m ts).map (-·)).length = m + 1; rw [List.length_map, numsOf_len]) (by show (unitW _ _).length = 2 * m + 1; rw [unitW_len, hlen]) (unitW_sz _ _) rfl (unitW_own _) h1 (fun j j1 j2 => by have j1 : m ≤ j := j1; have j2 : j < m + 1 - 1 := j2; omega) h2
theorem reach_stage (g : Given m box q c ts) : Stage (cnR m box q c) 0 (reachRows m ts (rimsOf m box)) := by
  have hlen := rimsOf_len m box
  obtain ⟨h1, h2⟩ := lin_rowN g.lin (unitW ((rimsOf m box).length + 1) (rimsOf m box).length) false
  have hn : (ownR m ts (rimsOf m box).length).n.length = m + 1 := by show ((numsOf m ts).map (-·)).length = m + 1; rw [List.length_map, numsOf_len]
  obtain ⟨w1, w2, w3, w4⟩ := worthR_row (y := 1) hn
  refine SideRows.stageO (x := cnR m box q c) (side_worth (side_rim m box)) rfl w1 (by show (unitW _ _).length = 2 * m + 1; rw [unitW_len, hlen]) (unitW_sz _ _) rfl (unitW_own _) (fun j hj => ?_) (fun j j1 j2 => ?_) ?_
  · rw [w2 j hj]; exact h1 j hj
  · have j1 : m ≤ j := j1
    have j2 : j < m + 2 - 1 := j2
    have : j = m := by omega
    rw [this]; exact w3
  · rw [w4]; exact h2
theorem Given.over (g : Given m box q c ts) : OverOk m ts (rimsOf m box) ∧ ((badRow (sysAt (overRows m ts (rimsOf m box)) m)).isSome = true ↔ 0 ≤ dU q box c m) := by
  have h3 := g.m3
  have hx := g.xO
  have hS := over_stage g
  have hl : (overRows m ts (rimsOf m box)).length ≤ 7 := by
    have := rimRows_few g
    rw [overRows, List.length_append, List.length_singleton]; omega
  have hM := hS.at hx m (Nat.le_refl _)
  have bad : ∀ r ∈ sysAt (overRows m ts (rimsOf m box)) m, badP r = true → lastN r = -dU q box c m ∧ lastL r.w = 1 := fun r hr hb => by
    rcases ((hM.all r hr).kd).fin hx with ⟨_, h4, h5⟩ | ⟨_, _, h6, _, h7⟩
    · unfold badP at hb
      rw [h5, decide_eq_false (by grind)] at hb
      simp at hb
    · exact ⟨h6, h7⟩
  refine ⟨⟨g.kept, g.lin.sum h3, hS.sys hx hl, fun _ => hS.gen hx rfl hl, fun r hr => ?_⟩, fun h => ?_, fun h => ?_⟩
  · have hr1 := List.mem_of_find?_eq_some hr
    have hr2 := List.find?_some hr
    obtain ⟨_, h5⟩ := bad r hr1 hr2
    have hw : r.w.length = 2 * m + 1 := (hM.all r hr1).w
    exact ⟨fun e => by rw [e] at hw; simp at hw, by rw [h5]; decide⟩
  · obtain ⟨r, hr⟩ := Option.isSome_iff_exists.mp h
    have hr1 := List.mem_of_find?_eq_some hr
    have hr2 := List.find?_some hr
    obtain ⟨h4, _⟩ := bad r hr1 hr2
    unfold badP at hr2
    rw [h4] at hr2
    by_cases z : -dU q box c m < 0
    · grind
    · rw [decide_eq_false z] at hr2
      simp only [Bool.false_or, Bool.and_eq_true, decide_eq_true_eq] at hr2
      grind
  · rw [badRow, List.find?_isSome]
    obtain ⟨r, hr, _, _, h6⟩ := hM.ow rfl
    refine ⟨r, hr, ?_⟩
    have h6 : lastN r = -dU q box c m := h6
    rcases ((hM.all r hr).kd).fin hx with ⟨_, h4, h5⟩ | ⟨_, _, _, h7, _⟩
    · rw [h6] at h4; grind
    · have h7 : r.s = true := h7
      unfold badP
      rw [h6, h7]
      by_cases z : -dU q box c m < 0
      · rw [decide_eq_true z]; rfl
      · rw [decide_eq_true (show -dU q box c m = 0 by grind)]; simp
theorem leastRow_none : ∀ {rows : List Rw}, leastRow rows = none → ∀ r ∈ rows, ¬ 0 < worthN r := by
  have h1 : ∀ (rows : List Rw) (y : Rw), rows.foldl leastStep (some y) ≠ none := by
    intro rows
    induction rows with
    | nil => intro y h; cases h
    | cons r rows ih =>
      intro y h
      rw [List.foldl_cons] at h
      unfold leastStep at h
      split at h
      · simp only at h
        split at h
        · exact ih _ h
        · exact ih _ h
      · exact ih _ h
  have : ∀ (rows : List Rw), rows.foldl leastStep none = none → ∀ r ∈ rows, ¬ 0 < worthN r := by
    intro rows
    induction rows with
    | nil => intro _ r hr; cases hr
    | cons y rows ih =>
      intro h r hr hp
      rw [List.foldl_cons] at h
      by_cases z : 0 < worthN y
      · have : leastStep none y = some y := by unfold leastStep; rw [if_pos z]
        rw [this] at h
        exact h1 _ _ h
      · have : leastStep none y = none := by unfold leastStep; rw [if_neg z]
        rw [this] at h
        rcases List.mem_cons.mp hr with rfl | hr
        · exact z hp
        · exact ih h r hr hp
  intro rows h
  exact this rows h
theorem worthN_at {r : Rw} {m : Nat} (h : r.n.length = m + 2) : worthN r = coef m r := by
  unfold worthN coef
  rw [h, Nat.add_sub_cancel]
theorem Given.reach (g : Given m box q c ts) : ReachOk m ts (rimsOf m box) ∧ ∃ r, leastRow (sysAt (reachRows m ts (rimsOf m box)) m) = some r ∧ numOf r = dU q box c m ∧ (spotOf (reachRows m ts (rimsOf m box)) m (List.replicate m 0 ++ [numOf r])).length = m ∧
    ∀ t, t < m → XOk (cnR m box q c) t ((spotOf (reachRows m ts (rimsOf m box)) m (List.replicate m 0 ++ [numOf r])).getD t 0) := by
  have h3 := g.m3
  have hx := g.xR
  have hS := reach_stage g
  have hl : (reachRows m ts (rimsOf m box)).length ≤ 7 := by
    have := rimRows_few g
    rw [reachRows, List.length_append, List.length_singleton, List.length_map]; omega
  have hM := hS.at hx m (Nat.le_refl _)
  obtain ⟨s1, s2, s3⟩ := spot_reach hx rfl rfl hS hl
  cases hr : leastRow (sysAt (reachRows m ts (rimsOf m box)) m) with
  | none =>
    obtain ⟨r, h4, _, h5, _⟩ := hM.ow rfl
    refine absurd ?_ (leastRow_none hr r h4)
    have hn : r.n.length = m + 2 := (hM.all r h4).n
    rw [worthN_at hn, h5 m (Nat.le_refl m) (by show m < m + 2 - 1; omega)]; decide
  | some r =>
    obtain ⟨h4, h5⟩ := leastRow_mem _ hr
    have hn : r.n.length = m + 2 := (hM.all r h4).n
    have hw : r.w.length = 2 * m + 1 := (hM.all r h4).w
    have hk : numOf r = dU q box c m ∧ lastL r.w = 1 := by
      rcases ((hM.all r h4).kd).fin hx with ⟨a1, _, _⟩ | ⟨_, a1, a2, _, a3⟩
      · rw [worthN_at hn, a1 m (by show m < m + 2 - 1; omega)] at h5
        exact absurd h5 Rat.lt_irrefl
      · have a2 : lastN r = -dU q box c m := a2
        refine ⟨?_, a3⟩
        rw [numOf, worthN_at hn, a1 m (Nat.le_refl m) (by show m < m + 2 - 1; omega), a2]; grind
    obtain ⟨k1, k2⟩ := hk
    refine ⟨⟨g.kept, g.lin.sum h3, hS.sys hx hl, r, hr, fun e => by rw [e] at hw; simp at hw, by rw [k2]; decide, by rw [k1]; exact s1⟩, r, rfl, k1, by rw [k1]; exact s2, by rw [k1]; exact s3⟩
end
end Lw
/-! The plain law: worths at corners, numbers in the box. No program here. -/
namespace Lw
open PySem PySem.Spec PyProof.Rows L2
theorem sumF_succ (f : Nat → Rat) : ∀ n, sumF f (n + 1) = sumF f n + f n
  | 0 => by show f 0 + 0 = 0 + f 0; grind
  | n + 1 => by
    have h := sumF_succ (fun i => f (i + 1)) n
    rw [sumF, h, sumF]; grind
theorem sumF_le {f g : Nat → Rat} : ∀ {n : Nat}, (∀ i, i < n → f i ≤ g i) → sumF f n ≤ sumF g n
  | 0, _ => Rat.le_refl
  | n + 1, h => by
    rw [sumF_succ, sumF_succ]
    have h1 := sumF_le (f := f) (g := g) (n := n) fun i hi => h i (by omega)
    have h2 := h n (by omega)
    grind
theorem sumF_sz {f : Nat → Rat} {s : Nat} : ∀ {n : Nat}, (∀ i, i < n → Sz s (f i)) → Sz (1 + n * (s + 1)) (sumF f n)
  | 0, _ => Sz.zero.mono (by omega)
  | n + 1, h => by
    rw [sumF_succ]
    refine ((sumF_sz (f := f) (n := n) fun i hi => h i (by omega)).add (h n (by omega))).mono ?_
    rw [Nat.succ_mul]; omega
theorem dU_sum (q : Rat) (box : Bx) (c : Nat → Rat) : ∀ k, dU q box c k = q + sumF (fun i => c i * eC box c i) k
  | 0 => by show q = q + 0; grind
  | k + 1 => by rw [dU, dU_sum q box c k, sumF_succ]; grind
/-- each letter at one of its ends, or between -/
def inB (box : Bx) (m : Nat) (s : Nat → Rat) : Prop := ∀ i, i < m → bl box i ≤ s i ∧ s i ≤ bh box i
theorem term_le {box : Bx} {c : Nat → Rat} {i : Nat} {s : Rat} (h : bl box i ≤ s ∧ s ≤ bh box i) : c i * eC box c i ≤ c i * s := by
  obtain ⟨h1, h2⟩ := h
  unfold eC
  by_cases hc : c i < 0
  · rw [if_pos hc]
    have := Rat.mul_nonneg (a := -c i) (b := bh box i - s) (by grind) (by grind)
    grind
  · rw [if_neg hc]
    have := Rat.mul_nonneg (a := c i) (b := s - bl box i) (by grind) (by grind)
    grind
theorem dU_le {box : Bx} {q : Rat} {c s : Nat → Rat} {m : Nat} (h : inB box m s) : dU q box c m ≤ q + sumF (fun i => c i * s i) m := by
  rw [dU_sum]
  have := sumF_le (f := fun i => c i * eC box c i) (g := fun i => c i * s i) (n := m) fun i hi => term_le (h i hi)
  grind
/-! ### corners -/
theorem getD_app_lt {c : List Rat} {y : Rat} {j : Nat} (h : j < c.length) : (c ++ [y]).getD j 0 = c.getD j 0 := by
  simp only [List.getD_eq_getElem?_getD]; rw [List.getElem?_append_left h]
theorem getD_app_eq {c : List Rat} {y : Rat} : (c ++ [y]).getD c.length 0 = y := by
  simp [List.getD_eq_getElem?_getD]
theorem crnN_mem {fs : List (List Rat)} {p : Rat × Rat} {k : List Rat} : k ∈ crnN fs p ↔ ∃ c ∈ fs, k = c ++ [p.1] ∨ k = c ++ [p.2] := by
  unfold crnN
  rw [List.mem_flatMap]
  constructor
  · rintro ⟨c, hc, h⟩; exact ⟨c, hc, by simpa using h⟩
  · rintro ⟨c, hc, h⟩; exact ⟨c, hc, by simpa using h⟩
theorem box_get (box : Bx) {i : Nat} (h : i < box.length) : box[i] = (bl box i, bh box i) := by
  have e : box.getD i (0, 0) = box[i] := by simp [List.getD, h]
  unfold bl bh
  rw [e]
theorem crn_ends (box : Bx) : ∀ i, i ≤ box.length → ∀ k ∈ crn (box.take i), k.length = i ∧ ∀ j, j < i → k.getD j 0 = bl box j ∨ k.getD j 0 = bh box j
  | 0, _, k, hk => by
    have : k = [] := by simpa [crn] using hk
    rw [this]; exact ⟨rfl, fun j hj => absurd hj (Nat.not_lt_zero j)⟩
  | i + 1, h, k, hk => by
    rw [crn_take box (by omega), crnN_mem] at hk
    obtain ⟨c, hc, hk⟩ := hk
    obtain ⟨h1, h2⟩ := crn_ends box i (by omega) c hc
    have e := box_get box (i := i) (by omega)
    rcases hk with rfl | rfl
    · refine ⟨by simp [h1], fun j hj => ?_⟩
      by_cases z : j < i
      · rw [getD_app_lt (by omega)]; exact h2 j z
      · have : j = c.length := by omega
        rw [this, getD_app_eq, e, h1]; exact .inl rfl
    · refine ⟨by simp [h1], fun j hj => ?_⟩
      by_cases z : j < i
      · rw [getD_app_lt (by omega)]; exact h2 j z
      · have : j = c.length := by omega
        rw [this, getD_app_eq, e, h1]; exact .inr rfl
theorem crn_has (box : Bx) (s : Nat → Rat) (hs : ∀ j, j < box.length → s j = bl box j ∨ s j = bh box j) : ∀ i, i ≤ box.length → (List.range i).map s ∈ crn (box.take i)
  | 0, _ => by simp [crn]
  | i + 1, h => by
    rw [crn_take box (by omega), crnN_mem]
    refine ⟨_, crn_has box s hs i (by omega), ?_⟩
    have e := box_get box (i := i) (by omega)
    rw [List.range_succ, List.map_append, e]
    rcases hs i (by omega) with z | z
    · left; simp [z]
    · right; simp [z]
theorem lowC_le (ts : Ts) {cs : List (List Rat)} {s : List Rat} (h : lowC ts cs = some s) : ∀ c ∈ cs, worthOf ts s ≤ worthOf ts c := by
  have : ∀ (cs : List (List Rat)) (o : Option (List Rat)) {s : List Rat}, cs.foldl (lowStep ts) o = some s → (∀ y, o = some y → worthOf ts s ≤ worthOf ts y) ∧ ∀ c ∈ cs, worthOf ts s ≤ worthOf ts c := by
    intro cs
    induction cs with
    | nil =>
      intro o s h
      have h : o = some s := h
      exact ⟨fun y hy => by rw [h] at hy; cases hy; exact Rat.le_refl, fun c hc => by cases hc⟩
    | cons d cs ih =>
      intro o s h
      rw [List.foldl_cons] at h
      obtain ⟨h1, h2⟩ := ih _ h
      have h3 : worthOf ts s ≤ worthOf ts d ∧ ∀ y, o = some y → worthOf ts s ≤ worthOf ts y := by
        cases o with
        | none => exact ⟨h1 d rfl, fun y hy => by cases hy⟩
        | some y =>
          by_cases z : worthOf ts d < worthOf ts y
          · have e : lowStep ts (some y) d = some d := by unfold lowStep; simp only; rw [if_pos z]
            have := h1 d e
            exact ⟨this, fun y' hy => by cases hy; grind⟩
          · have e : lowStep ts (some y) d = some y := by unfold lowStep; simp only; rw [if_neg z]
            have := h1 y e
            exact ⟨by grind, fun y' hy => by cases hy; exact this⟩
      refine ⟨h3.2, fun c hc => ?_⟩
      rcases List.mem_cons.mp hc with rfl | hc
      · exact h3.1
      · exact h2 c hc
  exact (this cs none h).2
theorem lowC_some (ts : Ts) {cs : List (List Rat)} {c : List Rat} (h : c ∈ cs) : ∃ s, lowC ts cs = some s := by
  have : ∀ (cs : List (List Rat)) (y : List Rat), ∃ s, cs.foldl (lowStep ts) (some y) = some s := by
    intro cs
    induction cs with
    | nil => intro y; exact ⟨y, rfl⟩
    | cons d cs ih =>
      intro y
      rw [List.foldl_cons]
      by_cases z : worthOf ts d < worthOf ts y
      · have e : lowStep ts (some y) d = some d := by unfold lowStep; simp only; rw [if_pos z]
        rw [e]; exact ih d
      · have e : lowStep ts (some y) d = some y := by unfold lowStep; simp only; rw [if_neg z]
        rw [e]; exact ih y
  cases cs with
  | nil => cases h
  | cons d cs => exact this cs d
theorem leastQ_fold : ∀ (l : List Rat) (a : Rat), (l.foldl (fun f q => if q < f then q else f) a ∈ a :: l) ∧ l.foldl (fun f q => if q < f then q else f) a ≤ a ∧ ∀ y ∈ l, l.foldl (fun f q => if q < f then q else f) a ≤ y
  | [], a => ⟨List.mem_cons_self, Rat.le_refl, fun y hy => by cases hy⟩
  | z :: l, a => by
    rw [List.foldl_cons]
    by_cases h : z < a
    · rw [if_pos h]
      obtain ⟨h1, h2, h3⟩ := leastQ_fold l z
      refine ⟨List.mem_cons_of_mem _ h1, by grind, fun y hy => ?_⟩
      rcases List.mem_cons.mp hy with rfl | hy
      · exact h2
      · exact h3 y hy
    · rw [if_neg h]
      obtain ⟨h1, h2, h3⟩ := leastQ_fold l a
      refine ⟨?_, h2, fun y hy => ?_⟩
      · rcases List.mem_cons.mp h1 with e | e
        · rw [e]; exact List.mem_cons_self
        · exact List.mem_cons_of_mem _ (List.mem_cons_of_mem _ e)
      · rcases List.mem_cons.mp hy with rfl | hy
        · grind
        · exact h3 y hy
theorem leastQ_eq {l : List Rat} {v : Rat} (hv : v ∈ l) (hb : ∀ y ∈ l, v ≤ y) : leastQ l = v := by
  unfold leastQ
  obtain ⟨h1, _, h3⟩ := leastQ_fold l (l.headD 0)
  have h4 := h3 v hv
  have h5 : l.foldl (fun f q => if q < f then q else f) (l.headD 0) ∈ l := by
    cases l with
    | nil => cases hv
    | cons z l =>
      rcases List.mem_cons.mp h1 with e | e
      · rw [e]; exact List.mem_cons_self
      · exact e
  have h6 := hb _ h5
  grind
/-! ### numbers in the box -/
theorem bit01 {k : List Int} {i : Nat} {most : List Int} (hb : Bits most) (h : 0 ≤ k.getD i 0 ∧ k.getD i 0 ≤ most.getD i 0) : k.getD i 0 = 0 ∨ k.getD i 0 = 1 := by
  have := hb i
  omega
/-- the mixing of a table that is 0 but at straight keys -/
structure TabL (m : Nat) (v : List Int → Rat) (A : Rat) (d : Nat → Rat) : Prop where
  z : v (zK m) = A
  u : ∀ i, i < m → v (uK m i) = d i
  o : ∀ k, ¬ Lk m k → v k = 0
def mixAll (v : List Int → Rat) : Nat → List Int → Rat
  | 0 => v
  | l + 1 => mixF (mixAll v l) l
theorem fN_mix (m : Nat) (ts : Ts) (box : Bx) : ∀ l, fN m ts box l = mixAll (val (putIn m ts box)) l
  | 0 => rfl
  | l + 1 => by rw [fN, mixAll, fN_mix m ts box l]
theorem mixF0 (f : List Int → Rat) {l : Nat} {k : List Int} (h : k.getD l 0 = 0) : mixF f l k = f (setK k l 0) := by
  unfold mixF mixN
  rw [h]
  show 0 + 1 * f (setK k l 0) = _
  grind
theorem mixF1 (f : List Int → Rat) {l : Nat} {k : List Int} (h : k.getD l 0 = 1) : mixF f l k = f (setK k l 0) + f (setK k l 1) := by
  unfold mixF mixN
  rw [h]
  show 0 + 1 * f (setK k l 0) + 1 * f (setK k l 1) = _
  grind
theorem nLk {m : Nat} {k : List Int} {i j : Nat} (h : i ≠ j) (hi : k.getD i 0 = 1) (hj : k.getD j 0 = 1) : ¬ Lk m k := fun z => by
  rcases z with rfl | ⟨l, hl, rfl⟩
  · rw [zK, List.getD_eq_getElem?_getD, List.getElem?_replicate] at hi
    split at hi <;> simp at hi
  · have hz : ∀ t, (zK m).getD t 0 = 0 := fun t => by
      rw [zK, List.getD_eq_getElem?_getD, List.getElem?_replicate]; split <;> simp
    have hl' : l < (zK m).length := by rw [zK_len]; exact hl
    rw [uK, getD_set hl', hz] at hi hj
    split at hi
    · split at hj
      · omega
      · simp at hj
    · simp at hi
def kb (k : List Int) (i : Nat) : Rat := if k.getD i 0 = 1 then 1 else 0
theorem mix1 {v : List Int → Rat} {A : Rat} {d : Nat → Rat} (t : TabL 1 v A d) {a : Int} (ha : a = 0 ∨ a = 1) : mixAll v 1 [a] = A + sumF (fun i => kb [a] i * d i) 1 := by
  have z : v [0] = A := t.z
  have u0 : v [1] = d 0 := t.u 0 (by decide)
  rcases ha with rfl | rfl
  · show mixF v 0 [0] = _
    rw [mixF0 _ rfl]
    show v [0] = A + (0 * d 0 + 0)
    rw [z]; grind
  · show mixF v 0 [1] = _
    rw [mixF1 _ rfl]
    show v [0] + v [1] = A + (1 * d 0 + 0)
    rw [z, u0]; grind
theorem mix2 {v : List Int → Rat} {A : Rat} {d : Nat → Rat} (t : TabL 2 v A d) {a b : Int} (ha : a = 0 ∨ a = 1) (hb : b = 0 ∨ b = 1) : mixAll v 2 [a, b] = A + sumF (fun i => kb [a, b] i * d i) 2 := by
  have z : v [0, 0] = A := t.z
  have u0 : v [1, 0] = d 0 := t.u 0 (by decide)
  have u1 : v [0, 1] = d 1 := t.u 1 (by decide)
  have o : v [1, 1] = 0 := t.o _ (nLk (i := 0) (j := 1) (by decide) rfl rfl)
  have s0 : ∀ b, mixF v 0 [0, b] = v [0, b] := fun b => mixF0 _ rfl
  have s1 : ∀ b, mixF v 0 [1, b] = v [0, b] + v [1, b] := fun b => mixF1 _ rfl
  have t0 : ∀ a, mixF (mixF v 0) 1 [a, 0] = mixF v 0 [a, 0] := fun a => mixF0 _ rfl
  have t1 : ∀ a, mixF (mixF v 0) 1 [a, 1] = mixF v 0 [a, 0] + mixF v 0 [a, 1] := fun a => mixF1 _ rfl
  rcases ha with rfl | rfl <;> rcases hb with rfl | rfl
  · show mixF (mixF v 0) 1 [0, 0] = A + (0 * d 0 + (0 * d 1 + 0))
    rw [t0, s0, z]; grind
  · show mixF (mixF v 0) 1 [0, 1] = A + (0 * d 0 + (1 * d 1 + 0))
    rw [t1, s0, s0, z, u1]; grind
  · show mixF (mixF v 0) 1 [1, 0] = A + (1 * d 0 + (0 * d 1 + 0))
    rw [t0, s1, z, u0]; grind
  · show mixF (mixF v 0) 1 [1, 1] = A + (1 * d 0 + (1 * d 1 + 0))
    rw [t1, s1, s1, z, u0, u1, o]; grind
theorem mix3 {v : List Int → Rat} {A : Rat} {d : Nat → Rat} (t : TabL 3 v A d) {a b e : Int} (ha : a = 0 ∨ a = 1) (hb : b = 0 ∨ b = 1) (he : e = 0 ∨ e = 1) : mixAll v 3 [a, b, e] = A + sumF (fun i => kb [a, b, e] i * d i) 3 := by
  have z : v [0, 0, 0] = A := t.z
  have u0 : v [1, 0, 0] = d 0 := t.u 0 (by decide)
  have u1 : v [0, 1, 0] = d 1 := t.u 1 (by decide)
  have u2 : v [0, 0, 1] = d 2 := t.u 2 (by decide)
  have o1 : v [1, 1, 0] = 0 := t.o _ (nLk (i := 0) (j := 1) (by decide) rfl rfl)
  have o2 : v [1, 0, 1] = 0 := t.o _ (nLk (i := 0) (j := 2) (by decide) rfl rfl)
  have o3 : v [0, 1, 1] = 0 := t.o _ (nLk (i := 1) (j := 2) (by decide) rfl rfl)
  have o4 : v [1, 1, 1] = 0 := t.o _ (nLk (i := 1) (j := 2) (by decide) rfl rfl)
  have s0 : ∀ b e, mixF v 0 [0, b, e] = v [0, b, e] := fun b e => mixF0 _ rfl
  have s1 : ∀ b e, mixF v 0 [1, b, e] = v [0, b, e] + v [1, b, e] := fun b e => mixF1 _ rfl
  have t0 : ∀ a e, mixF (mixF v 0) 1 [a, 0, e] = mixF v 0 [a, 0, e] := fun a e => mixF0 _ rfl
  have t1 : ∀ a e, mixF (mixF v 0) 1 [a, 1, e] = mixF v 0 [a, 0, e] + mixF v 0 [a, 1, e] := fun a e => mixF1 _ rfl
  have r0 : ∀ a b, mixF (mixF (mixF v 0) 1) 2 [a, b, 0] = mixF (mixF v 0) 1 [a, b, 0] := fun a b => mixF0 _ rfl
  have r1 : ∀ a b, mixF (mixF (mixF v 0) 1) 2 [a, b, 1] = mixF (mixF v 0) 1 [a, b, 0] + mixF (mixF v 0) 1 [a, b, 1] := fun a b => mixF1 _ rfl
  rcases ha with rfl | rfl <;> rcases hb with rfl | rfl <;> rcases he with rfl | rfl
  · show mixF (mixF (mixF v 0) 1) 2 [0, 0, 0] = A + (0 * d 0 + (0 * d 1 + (0 * d 2 + 0)))
    rw [r0, t0, s0, z]; grind
  · show mixF (mixF (mixF v 0) 1) 2 [0, 0, 1] = A + (0 * d 0 + (0 * d 1 + (1 * d 2 + 0)))
    rw [r1, t0, t0, s0, s0, z, u2]; grind
  · show mixF (mixF (mixF v 0) 1) 2 [0, 1, 0] = A + (0 * d 0 + (1 * d 1 + (0 * d 2 + 0)))
    rw [r0, t1, s0, s0, z, u1]; grind
  · show mixF (mixF (mixF v 0) 1) 2 [0, 1, 1] = A + (0 * d 0 + (1 * d 1 + (1 * d 2 + 0)))
    rw [r1, t1, t1, s0, s0, s0, s0, z, u1, u2, o3]; grind
  · show mixF (mixF (mixF v 0) 1) 2 [1, 0, 0] = A + (1 * d 0 + (0 * d 1 + (0 * d 2 + 0)))
    rw [r0, t0, s1, z, u0]; grind
  · show mixF (mixF (mixF v 0) 1) 2 [1, 0, 1] = A + (1 * d 0 + (0 * d 1 + (1 * d 2 + 0)))
    rw [r1, t0, t0, s1, s1, z, u0, u2, o2]; grind
  · show mixF (mixF (mixF v 0) 1) 2 [1, 1, 0] = A + (1 * d 0 + (1 * d 1 + (0 * d 2 + 0)))
    rw [r0, t1, s1, s1, z, u0, u1, o1]; grind
  · show mixF (mixF (mixF v 0) 1) 2 [1, 1, 1] = A + (1 * d 0 + (1 * d 1 + (1 * d 2 + 0)))
    rw [r1, t1, t1, s1, s1, s1, s1, z, u0, u1, u2, o1, o2, o3, o4]; grind
theorem mix_all {m : Nat} {v : List Int → Rat} {A : Rat} {d : Nat → Rat} (h1 : 1 ≤ m) (h3 : m ≤ 3) (t : TabL m v A d) {k : List Int} (hl : k.length = m) (hk : ∀ i, i < m → k.getD i 0 = 0 ∨ k.getD i 0 = 1) : mixAll v m k = A + sumF (fun i => kb k i * d i) m := by
  match m, h1, h3, k, hl with
  | 1, _, _, [a], _ => exact mix1 t (hk 0 (by decide))
  | 2, _, _, [a, b], _ => exact mix2 t (hk 0 (by decide)) (hk 1 (by decide))
  | 3, _, _, [a, b, e], _ => exact mix3 t (hk 0 (by decide)) (hk 1 (by decide)) (hk 2 (by decide))
end Lw
/-! The plain law: never_in, nearly_in, is_nearly_in. No program here. -/
namespace Lw
open PySem PySem.Spec PyProof.Rows L2
section
variable {m a : Nat} {box : Bx} {q : Rat} {c : Nat → Rat} {ts : Ts}
structure GivB (m a : Nat) (box : Bx) (q : Rat) (c : Nat → Rat) (ts : Ts) : Prop where
  m1 : 1 ≤ m
  m3 : m ≤ 3
  bx : BoxGood m box
  zq : Sz a q
  a4 : 4 ≤ a ∧ a ≤ 54
  zc : ∀ i, i < m → Sz 4 (c i)
  lin : Lin m ts q c
theorem Given.b (g : Given m box q c ts) : GivB m 4 box q c ts := ⟨g.m1, g.m3, g.bx, g.zq, by decide, g.zc, g.lin⟩
theorem GivB.sz (g : GivB m a box q c ts) : SzT a ts := g.lin.sz g.zq fun i hi => (g.zc i hi).mono g.a4.1
theorem end_sz (h : BoxGood m box) (k : Nat) : Sz 10 (bl box k) ∧ Sz 10 (bh box k - bl box k) ∧ Sz 10 (bh box k) := by
  by_cases hk : k < m
  · have := box_at h hk
    exact ⟨this.lo.mono (by decide), this.wd.mono (by decide), this.hi⟩
  · have e : box.getD k (0, 0) = (0, 0) := by
      rw [List.getD_eq_getElem?_getD, List.getElem?_eq_none (by rw [h.len]; omega)]; rfl
    unfold bl bh
    rw [e]
    exact ⟨Sz.zero.mono (by decide), by show Sz 10 ((0 : Rat) - 0); rw [show (0 : Rat) - 0 = 0 by grind]; exact Sz.zero.mono (by decide), Sz.zero.mono (by decide)⟩
theorem tl_zero (ts : Ts) : tl 0 ts = ts := by
  unfold tl
  exact (List.map_congr_left fun _ _ => rfl).trans (List.map_id' ts)
theorem GivB.ok (g : GivB m a box q c ts) : BoxOk a 10 m ts box := by
  have h1 := g.m1
  have h3 := g.m3
  obtain ⟨a4, a5⟩ := g.a4
  have hf : szP a 10 m ≤ szP a 10 3 := szP_mono h3
  have e3 : szP a 10 3 = a + 10 + 3 * (a + 10 + 1) := rfl
  refine ⟨⟨g.bx.len, Nat.zero_le _, h1, by omega, ⟨fun e he => (g.lin.lk e he).len, fun e he => ?_, by rw [tl_zero]; exact g.lin.nd⟩, g.sz, fun k => ⟨(end_sz g.bx k).1, (end_sz g.bx k).2.1⟩, by omega, by decide, by omega, by have := g.lin.few; omega⟩, h3, g.lin.lk, fun k => (end_sz g.bx k).2.2, by omega⟩
  rcases g.lin.lk e he with z | ⟨i, hi, z⟩
  · exact .inl z
  · exact .inr ⟨i, hi, z⟩
/-- the table of put_in -/
theorem GivB.tab (g : GivB m a box q c ts) : TabL m (val (putIn m ts box)) (q + sumF (fun i => c i * bl box i) m) (fun i => c i * (bh box i - bl box i)) := by
  have hs := g.ok.put.spec g.ok.p
  refine ⟨?_, fun i hi => ?_, fun k hk => val_none fun z => hk ?_⟩
  · have := hs.v0
    rw [tl_zero, Nat.sub_zero, g.lin.v0] at this
    rw [this]
    congr 1
    exact sumF_congr fun i hi => by rw [g.lin.vi i hi, Nat.zero_add]
  · have := hs.vi i hi
    rw [tl_zero, Nat.sub_zero, Nat.zero_add, g.lin.vi i hi] at this
    exact this
  · rcases hs.keys k z with e | ⟨i, hi, e, _⟩
    · exact .inl e
    · exact .inr ⟨i, hi, by rw [e, Nat.zero_add]⟩
/-- a number in the box is a worth at a corner -/
def sE (box : Bx) (k : List Int) (i : Nat) : Rat := if k.getD i 0 = 1 then bh box i else bl box i
theorem GivB.at (g : GivB m a box q c ts) {k : List Int} (hl : k.length = m) (hk : ∀ i, i < m → k.getD i 0 = 0 ∨ k.getD i 0 = 1) : fN m ts box m k = q + sumF (fun i => c i * sE box k i) m := by
  rw [fN_mix, mix_all g.m1 g.m3 g.tab hl hk]
  have : ∀ n, q + sumF (fun i => c i * bl box i) n + sumF (fun i => kb k i * (c i * (bh box i - bl box i))) n = q + sumF (fun i => c i * sE box k i) n := by
    intro n
    induction n with
    | zero => show q + 0 + 0 = q + 0; grind
    | succ n ih =>
      rw [sumF_succ, sumF_succ, sumF_succ]
      unfold kb sE at ih ⊢
      split <;> grind
  exact this m
theorem GivB.keyB (g : GivB m a box q c ts) {k : List Int} (hk : k ∈ keysB m ts) : k.length = m ∧ ∀ i, i < m → k.getD i 0 = 0 ∨ k.getD i 0 = 1 := by
  obtain ⟨h1, h2⟩ := (keysB_mem g.lin.lk).mp hk
  exact ⟨h1, fun i hi => bit01 (gpOf_bits g.lin.lk).1 (h2 i hi)⟩
theorem sE_in (h : BoxGood m box) (k : List Int) : inB box m (sE box k) := fun i hi => by
  have := (box_at h hi).lt
  have : bl box i < bh box i := this
  unfold sE
  split <;> constructor <;> grind
theorem GivB.low (g : GivB m a box q c ts) : ∀ y ∈ boxNums m ts box, dU q box c m ≤ y := fun y hy => by
  obtain ⟨k, hk, rfl⟩ := List.mem_map.mp hy
  obtain ⟨h1, h2⟩ := g.keyB hk
  rw [g.at h1 h2]
  exact dU_le (sE_in g.bx k)
theorem GivB.has (g : GivB m a box q c ts) : dU q box c m ∈ boxNums m ts box := by
  have hget : ∀ i, i < m → ((List.range m).map fun i => if c i < 0 then (1 : Int) else 0).getD i 0 = if c i < 0 then 1 else 0 := fun i hi => by
    rw [List.getD_eq_getElem?_getD, List.getElem?_map, List.getElem?_range hi]; rfl
  refine List.mem_map.mpr ⟨(List.range m).map fun i => if c i < 0 then (1 : Int) else 0, (keysB_mem g.lin.lk).mpr ⟨by simp, fun i hi => ?_⟩, ?_⟩
  · rw [hget i hi]
    obtain ⟨g1, g2⟩ := gpOf_bits g.lin.lk
    have hb := g1 i
    by_cases hc : c i < 0
    · rw [if_pos hc]
      have : (gpOf m ts).getD i 0 = 1 := (g2 i hi).mpr (by
        have hv := g.lin.vi i hi
        have hin : uK m i ∈ ts.map (·.1) := Classical.byContradiction fun z => by
          rw [val_none z] at hv; rw [← hv] at hc; exact absurd hc Rat.lt_irrefl
        obtain ⟨e, he, e1⟩ := List.mem_map.mp hin
        refine ⟨e, he, ?_⟩
        have e1 : e.1 = uK m i := e1
        rw [e1, uK, getD_set (by rw [zK_len]; exact hi), if_pos rfl])
      omega
    · rw [if_neg hc]; omega
  · rw [g.at (by simp) fun i hi => by rw [hget i hi]; split <;> simp, dU_sum]
    congr 1
    refine sumF_congr fun i hi => ?_
    unfold sE eC
    rw [hget i hi]
    by_cases hc : c i < 0
    · rw [if_pos hc, if_pos rfl, if_pos hc]
    · rw [if_neg hc, if_neg (by decide), if_neg hc]
theorem GivB.least (g : GivB m a box q c ts) : leastQ (boxNums m ts box) = dU q box c m := leastQ_eq g.has g.low
theorem end_in (h : BoxGood m box) {k : List Rat} (hk : ∀ j, j < m → k.getD j 0 = bl box j ∨ k.getD j 0 = bh box j) : inB box m (fun i => k.getD i 0) := fun i hi => by
  have := (box_at h hi).lt
  have : bl box i < bh box i := this
  show bl box i ≤ k.getD i 0 ∧ k.getD i 0 ≤ bh box i
  rcases hk i hi with e | e <;> rw [e] <;> constructor <;> grind
theorem end_z (h : BoxGood m box) {k : List Rat} (hl : k.length = m) (hk : ∀ j, j < m → k.getD j 0 = bl box j ∨ k.getD j 0 = bh box j) : SzL 10 k := fun y hy => by
  obtain ⟨i, hi, rfl⟩ := List.mem_iff_getElem.mp hy
  have e : k[i] = k.getD i 0 := by simp [List.getD, hi]
  have hz := end_sz h i
  rw [e]
  rcases hk i (by omega) with z | z <;> rw [z]
  · exact hz.1
  · exact hz.2.2
theorem Given.wok (g : Given m box q c ts) {k : List Rat} (hl : k.length = m) (hz : SzL 10 k) : WorthOk 4 10 ts k ∧ Sz 51 (worthOf ts k) := by
  have h3 := g.m3
  have hf := g.lin.few
  refine ⟨⟨g.lin.sz g.zq g.zc, hz, by decide, fun e he y hy => (g.lin.lk e he).mem hy, ?_, ⟨by omega, by omega, by decide⟩⟩, ?_⟩
  · have h4 : ts.length * (4 + k.length * (10 + 1) + 1) ≤ 5 * (4 + 3 * (10 + 1) + 1) := Nat.mul_le_mul (by omega) (by omega)
    omega
  · rw [g.lin.worth hl]
    refine (g.zq.add (sumF_sz (s := 14) fun i hi => ((g.zc i hi).mul (hz.get (by decide) i)).mono (by decide))).mono ?_
    have : m * (14 + 1) ≤ 3 * (14 + 1) := Nat.mul_le_mul_right _ h3
    omega
theorem Given.crn (g : Given m box q c ts) : CrnOk ts box ∧ ∃ s, lowC ts (crn box) = some s ∧ worthOf ts s = dU q box c m ∧ s.length = m ∧ ∀ j, j < m → s.getD j 0 = bl box j ∨ s.getD j 0 = bh box j := by
  have h3 := g.m3
  have hbl := g.bx.len
  have hend : ∀ k ∈ Lw.crn box, k.length = m ∧ ∀ j, j < m → k.getD j 0 = bl box j ∨ k.getD j 0 = bh box j := fun k hk => by
    have := crn_ends box box.length (Nat.le_refl _) k (by rw [List.take_length]; exact hk)
    rw [hbl] at this; exact this
  refine ⟨⟨by omega, fun k hk => ?_⟩, ?_⟩
  · obtain ⟨h1, h2⟩ := hend k hk
    obtain ⟨w1, w2⟩ := g.wok h1 (end_z g.bx h1 h2)
    exact ⟨⟨4, 10, w1⟩, w2.mono (by decide)⟩
  · have hb : ∀ j, j < box.length → eC box c j = bl box j ∨ eC box c j = bh box j := fun j _ => by
      unfold eC; split
      · exact .inr rfl
      · exact .inl rfl
    have hin := crn_has box (eC box c) hb box.length (Nat.le_refl _)
    rw [List.take_length, hbl] at hin
    obtain ⟨s, hs⟩ := lowC_some ts hin
    have hm := lowC_mem ts _ hs
    obtain ⟨h1, h2⟩ := hend s hm
    refine ⟨s, hs, ?_, h1, h2⟩
    have hle := lowC_le ts hs _ hin
    have e1 : worthOf ts ((List.range m).map (eC box c)) = dU q box c m := by
      rw [g.lin.worth (by simp), dU_sum]
      congr 1
      refine sumF_congr fun i hi => ?_
      rw [List.getD_eq_getElem?_getD, List.getElem?_map, List.getElem?_range hi]; rfl
    rw [e1] at hle
    have h5 := dU_le (q := q) (c := c) (end_in g.bx h2)
    rw [← g.lin.worth h1] at h5
    grind
theorem Given.due_sz (g : Given m box q c ts) : Sz 49 (dU q box c m) := dU_sz49 (x := cnR m box q c) g.xR (Nat.le_refl _)
theorem addQ_lin {d : Rat} (h : Lin m ts q c) (hl : ts.length ≤ m + 1) : Lin m (addQ ts (zK m) d) (q + d) c := by
  refine ⟨addQ_nd h.nd _ _, fun e he => ?_, by rw [val_add, if_pos rfl, h.v0], fun i hi => by rw [val_add, if_neg (uK_ne hi)]; exact h.vi i hi, ?_⟩
  · rcases addQ_keys (List.mem_map_of_mem he) with z | z
    · exact .inl z
    · obtain ⟨x, hx, e1⟩ := List.mem_map.mp z
      rw [← e1]; exact h.lk x hx
  · have := addQ_len ts (zK m) d
    omega
theorem Given.raise (g : Given m box q c ts) (hl : ts.length ≤ m + 1) : PlusOk m ts [(zK m, 0 - dU q box c m)] ∧ GivB m 54 box (q - dU q box c m) c (raiseT m ts (dU q box c m)) := by
  have h1 := g.m1
  have h3 := g.m3
  have hz := g.due_sz
  have hz0 : (0 : Rat) - dU q box c m = -dU q box c m := by grind
  have hA : Lin m (addAll ts [(zK m, 0 - dU q box c m)]) (q + (0 - dU q box c m)) c := addQ_lin g.lin hl
  have e1 : q + (0 - dU q box c m) = q - dU q box c m := by grind
  rw [e1] at hA
  refine ⟨⟨g.lin.nd, by simp, (g.lin.sz g.zq g.zc).mono (by decide), fun e he => ?_, ⟨h1, fun e he => (hA.lk e he).kok, by have := hA.few; omega⟩, ?_, by have := g.lin.few; simp; omega⟩, ⟨h1, h3, g.bx, ((g.zq.sub hz)).mono (by decide), by decide, g.zc, ?_⟩⟩
  · rw [List.mem_singleton.mp he]
    show Sz 1500 (0 - dU q box c m)
    rw [hz0]; exact hz.neg.mono (by decide)
  · have := (deg_lk hA.trm.lk).2
    omega
  · unfold raiseT
    by_cases z : dU q box c m = 0
    · rw [if_pos z, z]
      have : q - 0 = q := by grind
      rw [this]; exact g.lin
    · rw [if_neg z]; exact hA.trm
theorem dU_shift (q d : Rat) (box : Bx) (c : Nat → Rat) : ∀ k, dU (q - d) box c k = dU q box c k - d
  | 0 => rfl
  | k + 1 => by rw [dU, dU, dU_shift q d box c k]; grind
/-- what the layers tell -/
theorem Given.lay (g : Given m box q c ts) (hl : ts.length ≤ m + 1) : ∃ s, worthOf ts s = dU q box c m ∧ leastQ (boxNums m ts box) = dU q box c m ∧ NevOk m ts box s ∧
    ∀ gap, 0 < gap → Sz 100 gap → NeaOk m ts box gap s ∧ NearOk m ts box gap (dU q box c m) s := by
  have h1 := g.m1
  have h3 := g.m3
  obtain ⟨hc, s, hs, hw, hsl, hse⟩ := g.crn
  have hz := g.due_sz
  have hle := g.b.least
  have hb := g.b.ok
  have hzs := end_z g.bx hsl hse
  refine ⟨s, hw, hle, ⟨⟨4, 10, hb⟩, hc, hs, by rw [hle]; exact hz.mono (by decide), fun h => by rw [hle, ← hw]; exact h⟩, fun gap hg zg => ⟨⟨⟨4, 10, hb⟩, hc, hs, by rw [hle]; exact hz.mono (by decide), zg.mono (by decide), by rw [hw]; exact (hz.sub zg).mono (by decide), by rw [hw, hle]; grind⟩, ?_⟩⟩
  obtain ⟨p1, p2⟩ := g.raise hl
  obtain ⟨w1, w2⟩ := g.wok hsl hzs
  refine ⟨fun y hy => (hzs y hy).mono (by decide), fun p hp => ?_, ⟨4, 10, w1⟩, w2.mono (by decide), hz.mono (by decide), zg.mono (by decide), fun i hi e he => ?_, by rw [hw]; grind, ⟨h1, by omega⟩, p1, ⟨54, 10, p2.ok⟩, fun y hy => ?_⟩
  · have := g.bx.str p hp
    exact ⟨this.lo.mono (by decide), this.hi.mono (by decide)⟩
  · rw [List.length_zip] at hi
    have hi1 : i < s.length := by omega
    have hi2 : i < box.length := by omega
    have e1 : e = (s[i], box[i]) := by
      have := List.getElem?_zip_eq_some.mp he
      rw [List.getElem?_eq_getElem hi1, List.getElem?_eq_getElem hi2] at this
      obtain ⟨a1, a2⟩ := this
      injection a1 with a1
      injection a2 with a2
      rw [a1, a2]
    have h5 := end_in g.bx hse i (by omega)
    have h6 : s.getD i 0 = s[i] := by simp [List.getD, hi1]
    rw [e1, box_get box hi2]
    rw [← h6]; exact h5
  · have := p2.low y hy
    rw [dU_shift] at this
    grind
end
end Lw
/-! What the law's own walk wants. -/
namespace Lw
open PySem PySem.Spec PyProof.Rows L2
section
variable {K : PySem.W.Frag} {σ : L2.St} {H H' H0 Hb : Hp} {Γ : List G} {ms : List (Addr × Mo)} {te ta tb tc : TE} {Dn : Ends}
theorem ev_reach {m : Nat} {ts : Ts} {rims : List Ts} (ha : EvD K ta σ H (dS m ts)) (hb : EvD K tb σ H (.lst (dSs m rims))) (h : ReachOk m ts rims) : EvD K (tCall (sp_reach K) [] E0 (tCons ta (tCons tb tNil))) σ H (reachD m ts rims) :=
  ev_call (args := fun p : Nat × Ts × List Ts => [dS p.1 p.2.1, .lst (dSs p.1 p.2.2)]) (pre := fun p => ReachOk p.1 p.2.1 p.2.2) (res := fun p => reachD p.1 p.2.1 p.2.2) (m, ts, rims) (ea_cons ha (ea_cons hb ea_nil)) h
theorem ev_over {m : Nat} {ts : Ts} {rims : List Ts} (ha : EvD K ta σ H (dS m ts)) (hb : EvD K tb σ H (.lst (dSs m rims))) (h : OverOk m ts rims) : EvD K (tCall (sp_over K) [] E0 (tCons ta (tCons tb tNil))) σ H (overD m ts rims) :=
  ev_call (args := fun p : Nat × Ts × List Ts => [dS p.1 p.2.1, .lst (dSs p.1 p.2.2)]) (pre := fun p => OverOk p.1 p.2.1 p.2.2) (res := fun p => overD p.1 p.2.1 p.2.2) (m, ts, rims) (ea_cons ha (ea_cons hb ea_nil)) h
theorem ev_never {m : Nat} {ts : Ts} {box : Bx} {s : List Rat} (ha : EvD K ta σ H (dS m ts)) (hb : EvD K tb σ H (.lst (dBox box))) (h : NevOk m ts box s) : EvD K (tCall (sp_never_in K) [.int 20] E0 (tCons ta (tCons tb tNil))) σ H (neverD ts s) :=
  ev_callD (args := fun p : Nat × Ts × Bx × List Rat => [dS p.1 p.2.1, .lst (dBox p.2.2.1), .int 20]) (pre := fun p => NevOk p.1 p.2.1 p.2.2.1 p.2.2.2) (res := fun p => neverD p.2.1 p.2.2.2) (ds := [dS m ts, .lst (dBox box)]) (ds' := [.int 20]) (m, ts, box, s) (ea_cons ha (ea_cons hb ea_nil)) (fun H => repL_one (rep_int.mpr rfl)) rfl h
theorem ev_nearly {m : Nat} {ts : Ts} {box : Bx} {gap : Rat} {s : List Rat} (ha : EvD K ta σ H (dS m ts)) (hb : EvD K tb σ H (.lst (dBox box))) (hc : EvD K tc σ H (dQ gap)) (h : NeaOk m ts box gap s) :
    EvD K (tCall (sp_nearly_in K) [.int 20] E0 (tCons ta (tCons tb (tCons tc tNil)))) σ H (.tup [dQ (leastQ (boxNums m ts box)), .ptup (dQs s), .str "all"]) :=
  ev_callD (args := fun p : Nat × Ts × Bx × Rat × List Rat => [dS p.1 p.2.1, .lst (dBox p.2.2.1), dQ p.2.2.2.1, .int 20]) (pre := fun p => NeaOk p.1 p.2.1 p.2.2.1 p.2.2.2.1 p.2.2.2.2) (res := fun p => .tup [dQ (leastQ (boxNums p.1 p.2.1 p.2.2.1)), .ptup (dQs p.2.2.2.2), .str "all"]) (ds := [dS m ts, .lst (dBox box), dQ gap]) (ds' := [.int 20]) (m, ts, box, gap, s) (ea_cons ha (ea_cons hb (ea_cons hc ea_nil))) (fun H => repL_one (rep_int.mpr rfl)) rfl h
/-- _law_put's end -/
theorem put_end {k : Nat} {l : Addr} {t : Ts} {key : List Int} {q : Rat} {x y : V} {R : VK} {E : XK} (c : Cf K H0 Hb σ H Γ ms) (hk : ms[k]? = some (l, .dc (tQ t))) (rx : Rep K H (.key key) x) (ry : Rep K H (dQ q) y) (hf : key ∉ t.map (·.1)) (hl : t.length < 1000) (hz : Sz 4000 q)
    (qq : ∀ H', Cf K H0 Hb σ H' Γ (ms.set k (l, .dc (tQ (putQ t key q)))) → R .non H') : spLput K [.ref l, x, y] H R E := by
  have hm := (c.mu _ (List.mem_of_getElem? hk)).2
  refine ⟨l, x, y, t, key, q, rfl, hm, rx, ry, hf, hl, hz, fun H' hs hm' => qq H' (c.chgS k hk ?_ hs hm')⟩
  obtain ⟨xs, e, _⟩ := hm
  rw [e]; trivial
theorem r_put {n k : Nat} {l : Addr} {t : Ts} {key : List Int} {q : Rat} (c : Cf K H0 Hb σ H Γ ms) (hn : Γ[n]? = some (.at l)) (hk : ms[k]? = some (l, .dc (tQ t))) (ha : EvD K ta σ H (.key key)) (hb : EvD K tb σ H (dQ q)) (hf : key ∉ t.map (·.1)) (hl : t.length < 1000) (hz : Sz 4000 q)
    (qq : ∀ H', Cf K H0 Hb σ H' Γ (ms.set k (l, .dc (tQ (putQ t key q)))) → Dn.nx σ H') : tDrop (tCall (spLput K) [] E0 (tCons (tVar n) (tCons ta (tCons tb tNil)))) Dn σ H :=
  ⟨.ref l, c.st.ref hn, ha H (Same.refl H) _ fun x H2 e2 rx => hb H2 e2 _ fun y H3 e3 ry => put_end (R := fun _ H' => Dn.nx σ H') (E := E0) (c.ext (e2.trans e3)) hk (rx.mono (imm_same e3)) ry hf hl hz qq⟩
theorem r_putC {n : Nat} {l : Addr} {key : List Int} (c : Cf K H0 Hb σ H Γ ms) (hn : Γ[n]? = some (.at l)) (ha : EvD K ta σ H (.key key)) (h : ∀ x H2, Same H H2 → Rep K H2 (.key key) x → tb σ H2 fun y H3 => spLput K [.ref l, x, y] H3 (fun _ H' => Dn.nx σ H') E0) :
    tDrop (tCall (spLput K) [] E0 (tCons (tVar n) (tCons ta (tCons tb tNil)))) Dn σ H := ⟨.ref l, c.st.ref hn, ha H (Same.refl H) _ fun x H2 e rx => h x H2 e rx⟩
/-- e read while the dict in slot m is locked -/
theorem r_lockX {n m k : Nat} {l : Addr} {t : List (List Int × D)} {q : Rat} (c : Cf K H0 Hb σ H Γ ms) (hm : Γ[m]? = some (.at l)) (hk : ms[k]? = some (l, .dc t)) (h : ∀ H', Cf K H0 Hb σ H' (Γ.set m (.d (.dc t))) (ms.eraseIdx k) → EvD K te σ H' (dQ q))
    (qq : ∀ σ' H', Cf K H0 Hb σ' H' (Γ.set n (.d (dQ q))) ms → Dn.nx σ' H') : tAsg (tLockE te) (gName n) Dn σ H := by
  obtain ⟨xs, h1, h2⟩ := mo_dc.mp (c.mu _ (List.mem_of_getElem? hk)).2
  have e := c.st.ref hm
  refine ⟨l, _, h1, trivial, fun od => ?_⟩
  have i : Imm H (upd H l (.frz od (DX l xs))) := imm_upd (.inl (by rw [h1]; trivial))
  have hg : Rep K (upd H l (.frz od (DX l xs))) (.dc t) (.ref l) := rep_dc.mpr ⟨l, xs, od, rfl, upd_same, EnR.mono i h2⟩
  have c1 := (c.frz (o := od) k hk h1 trivial).setD (d := .dc t) (v := .ref l) m hg
  have es : σ.set m (some (.ref l)) = σ := by
    apply List.ext_getElem?
    intro j
    by_cases ej : m = j
    · subst ej
      rw [List.getElem?_set_self (List.getElem?_eq_some_iff.mp e).1, e]
    · rw [List.getElem?_set_ne ej]
  rw [es] at c1
  refine h _ c1 _ (Same.refl _) _ fun v H2 e2 r2 => ⟨e2 _ _ upd_same, ?_⟩
  have sm : Same H (upd H2 l (DX l xs)) := fun b o hb => by
    by_cases z : b = l
    · rw [z] at hb ⊢
      rw [h1] at hb; cases hb
      exact upd_same
    · rw [upd_ne z]
      exact e2 b o (by rw [upd_ne z]; exact hb)
  have r3 : Rep K (upd H2 l (DX l xs)) (dQ q) v := by
    obtain ⟨a, ws, rfl, hT, hw⟩ := rep_tup.mp r2
    have hl : H2 l = some (.frz od (DX l xs)) := e2 _ _ upd_same
    have hw' := repL_int_eq (ns := [q.num, (q.den : Int)]) hw
    refine rep_tup.mpr ⟨a, ws, rfl, ?_, by rw [hw']; exact repL_ints [q.num, (q.den : Int)]⟩
    rcases hT with (hT | ⟨o, hT⟩) | hT
    · refine .inl (.inl ?_)
      rw [upd_ne (fun z => by rw [z, hl] at hT; cases hT)]; exact hT
    · refine .inl (.inr ⟨o, ?_⟩)
      rw [upd_ne (fun z => by rw [z, hl] at hT; cases hT)]; exact hT
    · exact .inr hT
  exact qq _ _ ((c.ext sm).setD n r3)
theorem r_box {n k : Nat} {l : Addr} {sc : List Int} {a b c0 : Int} {m : Nat} {R : VK} (c : Cf K H0 Hb σ H Γ ms) (hn : Γ[n]? = some (.at l)) (hk : ms[k]? = some (l, .lst (TapeD sc a b c0))) (h : EvD K te σ H (.int m)) (h1 : sc.length ≤ 63) (h2 : 0 ≤ a) (h3 : a ≤ 50000) (h4 : m ≤ 3)
    (q : ∀ (box : Bx) (a' b' c' : Int) v H', BoxGood m box → 0 ≤ a' → a' ≤ a + 6 * m → Cf K H0 Hb σ H' Γ (ms.set k (l, .lst (TapeD sc a' b' c'))) → Rep K H' (.lst (dBox box)) v → R v H') : tCall (spLbox K) [] E0 (tCons (tVar n) (tCons te tNil)) σ H R := by
  refine ⟨.ref l, c.st.ref hn, h H (Same.refl H) _ fun v H2 e2 r => ?_⟩
  have c2 := c.ext e2
  have hm := (c2.mu _ (List.mem_of_getElem? hk)).2
  refine ⟨l, v, sc, a, b, c0, m, rfl, hm, r, h1, h2, h3, h4, fun box a' b' c' u H' g1 g2 g3 hs hm' rv => q box a' b' c' u H' g1 g2 g3 (c2.chgS k hk ?_ hs hm') rv⟩
  obtain ⟨vs, e, _⟩ := hm
  rw [e]; trivial
theorem op_second {r : R2} {v : V} {n : Nat} (h : tb σ H fun y H' => tAsg (tOp r (tC v) (tC y)) (gName n) Dn σ H') : tAsg (tOp r (tC v) tb) (gName n) Dn σ H := h
theorem low_second {sp : Sp} {E : XK} {r : R2} {u v : V} {n : Nat} (h : tb σ H fun y H' => tAsg (tCall sp [] E (tCons (tC u) (tCons (tOp r (tC v) (tC y)) tNil))) (gName n) Dn σ H') : tAsg (tCall sp [] E (tCons (tC u) (tCons (tOp r (tC v) tb) tNil))) (gName n) Dn σ H := h
theorem ev_isnot {a b : Bool} (ha : EvD K ta σ H (.bl a)) (hb : EvD K tb σ H (.bl b)) : EvD K (tOp (fun x y H Q => ∃ a b, x = V.bl a ∧ y = V.bl b ∧ Q (V.bl !decide (a = b)) H) ta tb) σ H (.bl !decide (a = b)) :=
  ev_opG ha hb fun x y H1 _ rx ry Q q => ⟨a, b, rep_bl.mp rx, rep_bl.mp ry, q _ H1 (Same.refl H1) (rep_bl.mpr rfl)⟩
/-- (0,) * m -/
theorem ev_zK {m : Nat} (h : EvD K ta σ H (.int m)) (h1 : 1 ≤ m) (h3 : m ≤ 60) : EvD K (tOp rRepP (tTupP (tCons (tC (.int 0)) tNil)) ta) σ H (.key (zK m)) :=
  (ev_repP (ev_tupP (ea_cons ev_int ea_nil)) h (by simp) (by omega) (by omega) (by simp)).is (by rw [D.key, rep_zero])
end
theorem uK_range {m i : Nat} (h : i < m) : ((List.range m).map fun k : Nat => if decide ((k : Int) = (i : Int)) then (1 : Int) else 0) = uK m i := by
  apply List.ext_getElem?
  intro j
  by_cases hj : j < m
  · rw [List.getElem?_map, List.getElem?_range hj, uK, zK, List.getElem?_set, List.length_replicate]
    by_cases e : i = j
    · rw [if_pos e, if_pos h]; subst e; simp
    · rw [if_neg e, List.getElem?_replicate, if_pos hj]
      have : ¬ ((j : Int) = (i : Int)) := by omega
      simp [this]
  · rw [List.getElem?_eq_none (by simp; omega), List.getElem?_eq_none (by rw [uK_len]; omega)]
section
variable {K : PySem.W.Frag} {σ : L2.St} {H : Hp} {ta : TE}
/-- script[:63] -/
theorem em_slS {n : Nat} {a : Addr} {sc : List Int} {tl tu : TO} (hv : σ[n]? = some (some (.ref a))) (hS : SqL K H a (sc.map V.int)) (hl : EvO tl σ H none) (hu : EvO tu σ H (some 63)) (h : sc.length ≤ 63) : EvM K (tSl (rSlL K) (tVar n) tl tu) σ H (.lst (dI sc)) := fun H1 e Q q => by
  refine ⟨.ref a, hv, hl H1 e _ fun H3 e3 => hu H3 (e.trans e3) _ fun H4 e4 => ?_⟩
  have e5 := e3.trans e4
  have hS4 : SqL K H4 a (sc.map V.int) := by
    rcases hS with (hS | ⟨o, hS⟩) | hS
    · exact .inl (.inl ((e.trans e5) _ _ hS))
    · exact .inl (.inr ⟨o, (e.trans e5) _ _ hS⟩)
    · exact .inr hS
  refine ⟨a, sc.map V.int, rfl, hS4, fun p hp => q p _ (e5.trans (same_new hp)) (e5.free hp) ⟨_, upd_same, ?_⟩⟩
  have ec : cutV (sc.map V.int) none (some 63) = sc.map V.int := by
    unfold cutV HT.sIx
    simp only [List.drop_zero, Nat.sub_zero, List.length_map]
    rw [if_neg (by decide)]
    exact List.take_of_length_le (by rw [List.length_map]; show sc.length ≤ min 63 sc.length; omega)
  rw [ec]
  exact repL_ints sc
end
/-! ### what the loop over the letters makes -/
theorem dU_congr {q : Rat} {box : Bx} {c d : Nat → Rat} : ∀ n, (∀ j, j < n → c j = d j) → dU q box c n = dU q box d n
  | 0, _ => rfl
  | n + 1, h => by rw [dU, dU, dU_congr n fun j hj => h j (by omega), eC, eC, h n (by omega)]
theorem wTab_congr {m : Nat} {q : Rat} {c d : Nat → Rat} : ∀ n, (∀ j, j < n → c j = d j) → wTab m q c n = wTab m q d n
  | 0, _ => rfl
  | n + 1, h => by rw [wTab, wTab, wTab_congr n fun j hj => h j (by omega), h n (by omega)]
def updC (c : Nat → Rat) (i : Nat) (r : Rat) : Nat → Rat := fun j => if j = i then r else c j
structure LpI (m : Nat) (box : Bx) (q : Rat) (i : Nat) (c : Nat → Rat) (p : Pr) : Prop where
  z : ∀ j, j < i → Sz 4 (c j)
  ok : PrOk (4 + 15 * i) p
  v : pv1 p = dU q box c i
theorem LpI.step {m : Nat} {box : Bx} {q : Rat} {i : Nat} {c : Nat → Rat} {p : Pr} {r e : Rat} (hb : BoxGood m box) (hi : i < m) (h : LpI m box q i c p) (hr : Sz 4 r) (he : e = if r < 0 then bh box i else bl box i) :
    LpI m box q (i + 1) (updC c i r) (lp p (lm (ofQ r) (ofQ e))) ∧ PrOk 14 (lm (ofQ r) (ofQ e)) ∧ Sz 10 e := by
  have hs := box_at hb hi
  have ze : Sz 10 e := by
    rw [he]; split
    · exact hs.hi
    · exact hs.lo.mono (by decide)
  have h1 : ∀ j, j < i → c j = updC c i r j := fun j hj => by rw [updC, if_neg (by omega)]
  have h2 : updC c i r i = r := by rw [updC, if_pos rfl]
  obtain ⟨l1, l2⟩ := lm_val (ofQ_ok hr) (ofQ_ok ze)
  obtain ⟨p1, p2⟩ := lp_val h.ok l1
  refine ⟨⟨fun j hj => ?_, p1.mono (by omega), ?_⟩, l1, ze⟩
  · by_cases z : j = i
    · rw [z, h2]; exact hr
    · rw [← h1 j (by omega)]; exact h.z j (by omega)
  · rw [p2, l2, ofQ_val, ofQ_val, h.v, dU, dU_congr i h1, h2, eC, h2, he]
def rimsTo (m : Nat) (box : Bx) (n : Nat) : List Ts := (List.range n).flatMap fun k => [trm (rimTab m k 1 (-(bl box k))), trm (rimTab m k (-1) (bh box k))]
theorem rimsTo_succ (m : Nat) (box : Bx) (n : Nat) : rimsTo m box (n + 1) = rimsTo m box n ++ [trm (rimTab m n 1 (-(bl box n))), trm (rimTab m n (-1) (bh box n))] := by
  rw [rimsTo, List.range_succ, List.flatMap_append]; rfl
theorem rimsTo_len (m : Nat) (box : Bx) (n : Nat) : (rimsTo m box n).length = 2 * n := by
  rw [rimsTo, flat2_len, List.length_range]
/-- the two sides of a letter: the end, the letter's number, the constant -/
def sides (box : Bx) (i : Nat) : List (Rat × Rat × Rat) := [(bl box i, 1, -(bl box i)), (bh box i, -1, bh box i)]
structure SdOk (p : Rat × Rat × Rat) : Prop where
  d : p.2.1.den = 1
  n : p.2.1.num.natAbs < 2
  a : p.2.2.num = 0 - p.2.1.num * p.1.num
  b : p.2.2.den = p.1.den
  z : Sz 10 p.1
  y : Sz 10 p.2.2
  x : Sz 10 p.2.1
theorem sides_ok {m : Nat} {box : Bx} {i : Nat} (hb : BoxGood m box) (hi : i < m) : ∀ p ∈ sides box i, SdOk p := fun p hp => by
  have hs := box_at hb hi
  have zl : Sz 10 (bl box i) := hs.lo.mono (by decide)
  have zh : Sz 10 (bh box i) := hs.hi
  rcases List.mem_cons.mp hp with rfl | hp
  · refine ⟨rfl, (by decide : (1 : Rat).num.natAbs < 2), ?_, ?_, zl, zl.neg, Sz.one.mono (by decide)⟩
    · show (-(bl box i)).num = 0 - 1 * (bl box i).num
      rw [Rat.neg_num]; omega
    · show (-(bl box i)).den = _
      rw [Rat.neg_den]
  · rw [List.mem_singleton.mp hp]
    refine ⟨rfl, (by decide : (-1 : Rat).num.natAbs < 2), ?_, rfl, zh, zh, Sz.one.neg.mono (by decide)⟩
    show (bh box i).num = 0 - (-1) * (bh box i).num
    omega
def rimX (m i : Nat) (p : Rat × Rat × Rat) : Ts := trm (rimTab m i p.2.1 p.2.2)
theorem Lin.tb {m : Nat} {ts : Ts} {q : Rat} {c : Nat → Rat} (h : Lin m ts q c) (h1 : 1 ≤ m) (h3 : m ≤ 3) : TbOk m ts := ⟨h1, fun e he => (h.lk e he).kok, by have := h.few; omega⟩
end Lw
/-! The law itself, walked. -/
namespace Lw
open PySem PySem.Spec PyProof.Rows L2
abbrev st_law : Stmt := top 96
abbrev N_law : List Str := ["script", "tape", "many", "one", "box", "rims", "due", "low", "high", "letter", "powers", "k", "number", "end", "side", "rim", "whole", "least", "told", "place", "word", "gap", "near", "down"]
theorem sc_law : FnScope N_law ["script"] (defScope st_law) := ⟨rfl, rfl, rfl, by decide +kernel, rfl, by decide +kernel, by decide +kernel⟩

def spLaw (K : PySem.W.Frag) : Sp := fun vs H Q _ => ∃ (a : Addr) (sc : List Int), vs = [.ref a] ∧ sc.length ≤ 63 ∧ SqL K H a (sc.map V.int) ∧ ∀ H', Q (.bl true) H'
section
variable {P : Program} {w : World} {K : PySem.W.Frag} {mg : Str → Option Value} {base : Heap} {f : Addr} {fd : FuncData}
set_option maxHeartbeats 40000000 in
theorem ok_law (F : FnP K "law" st_law f fd) (B : Bl mg) (C__law_draw : Fc P w K mg base "_law_draw" 1 ["tape", "many"] (sp__law_draw K)) (C__law_low : Fc P w K mg base "_law_low" 1 ["top", "bottom"] (sp__law_low K)) (C__law_plus : Fc P w K mg base "_law_plus" 1 ["one", "other"] (sp__law_plus K)) (C__law_mul : Fc P w K mg base "_law_mul" 1 ["one", "other"] (sp__law_mul K))
    (C__law_put : Fc P w K mg base "_law_put" 2 ["found", "powers", "number"] (sp__law_put K)) (C__law_at : Fc P w K mg base "_law_at" 2 ["one", "spot"] (sp__law_at K)) (C__law_sum : Fc P w K mg base "_law_sum" 2 ["many", "one"] (sp__law_sum K)) (C__law_number : Fc P w K mg base "_law_number" 2 ["tape"] (sp__law_number K))
    (C__law_box : Fc P w K mg base "_law_box" 3 ["tape", "many"] (sp__law_box K)) (C__law_under : Fc P w K mg base "_law_under" 1 ["one", "other"] (sp__law_under K)) (C_reach : Fc P w K mg base "reach" 9 ["one", "rims"] (sp_reach K)) (C_over : Fc P w K mg base "over" 9 ["one", "rims"] (sp_over K))
    (C_never_in : FcD P w K mg base "never_in" 14 ["one", "box", "limit"] [.int 20] (sp_never_in K)) (C_nearly_in : FcD P w K mg base "nearly_in" 14 ["one", "box", "gap", "limit"] [.int 20] (sp_nearly_in K)) (C_is_nearly_in : Fc P w K mg base "is_nearly_in" 14 ["one", "box", "gap", "told"] (sp_is_nearly_in K)) : FnOk P w K mg base CX0 15 f fd ["script"] (spLaw K) := by
  refine F.ok sc_law (fun vs H Q E h => by obtain ⟨_, _, rfl, _⟩ := h; rfl) (fun cdv A outer s H vs Q E hr h => ?_)
  obtain ⟨a0, sc, rfl, hsc, hS, kq⟩ := h
  have nd := sc_law.nd
  refine ⟨_, PSs.nox (pss_cons (ps_set (i := 1) nd rfl (Or.inl rfl) (pe_lst (pa_cons (pe_fz (pe_callTy call_list_of (by rfl) B.list (by decide +kernel) (pa_cons (pe_fz (pe_slice sl_list (pv 0) po_none (po_some pe_int))) pa_nil))) (pa_cons pe_int (pa_cons pe_int (pa_cons pe_int pa_nil))))))
    (pss_cons (ps_set (i := 2) nd rfl (Or.inl rfl) (pe_op op_add pe_int (pe_cc C__law_draw hr (by decide) (by rfl) (pa_cons (pv 1) (pa_cons pe_int pa_nil)))))
    (pss_cons (ps_set (i := 3) nd rfl (Or.inl rfl) pe_xnew)
    (pss_cons (ps_expr (pe_cc C__law_put hr (by decide) (by rfl) (pa_cons (pv 3) (pa_cons (pe_op op_repP (pe_tupP (pa_cons pe_int pa_nil)) (pv 2)) (pa_cons (pe_cc C__law_number hr (by decide) (by rfl) (pa_cons (pv 1) pa_nil)) pa_nil)))))
    (pss_cons (ps_set (i := 4) nd rfl (Or.inl rfl) (pe_cc C__law_box hr (by decide) (by rfl) (pa_cons (pv 1) (pa_cons (pv 2) pa_nil))))
    (pss_cons (ps_set (i := 5) nd rfl (Or.inl rfl) (pe_lst pa_nil))
    (pss_cons (ps_set (i := 6) nd rfl (Or.inl rfl) (pe_lock (pe_cc C__law_at hr (by decide) (by rfl) (pa_cons (pv 3) (pa_cons (pe_fz (pe_lc (own := [("low", 7), ("high", 8)]) (g := (gTup K 2 (gCons (gName 7) (gCons (gName 8) gNil)))) (tt := tYes) (te := (tVar 7)) (by rfl) nd (pi_list (pv 4)) (blkOk_by (own := [("low", 7), ("high", 8)]) (N := N_law) (sc := defScope st_law) (by decide +kernel)) (fun _ _ _ _ _ => (pg_tup rfl (pgs_cons (pg_name (i := 7) nd rfl (Or.inl rfl)) (pgs_cons (pg_name (i := 8) nd rfl (Or.inl rfl)) pgs_nil)))) (fun _ _ _ _ _ => pts_nil) (fun _ _ _ _ _ => (pv 7)))) pa_nil)))))
    (pss_cons (ps_gz 5 (ps_gz 3 (ps_for PassesOwn.never rfl (pi_range1 (by rfl) B.range (pa_cons (pv 2) pa_nil)) (pg_name (i := 9) nd rfl (Or.inr rfl))
    (pss_cons (ps_set (i := 10) nd rfl (Or.inl rfl) (pe_callTy call_tupleP (by rfl) B.tuple (by decide +kernel) (pa_cons (pe_fz (pe_lc (own := [("k", 11)]) (g := (gName 11)) (tt := tYes) (te := (tCB rInt1 (tCons (tOp (rEq) (tVar 11) (tVar 9)) tNil))) (by rfl) nd (pi_range1 (by rfl) B.range (pa_cons (pv 2) pa_nil)) (blkOk_by (own := [("k", 11)]) (N := N_law) (sc := defScope st_law) (by decide +kernel)) (fun _ _ _ _ _ => (pg_name (i := 11) nd rfl (Or.inl rfl))) (fun _ _ _ _ _ => pts_nil) (fun _ _ _ _ _ => (pe_callTy call_int1 (by rfl) B.int (by decide +kernel) (pa_cons (pe_cmpR op_eq (pv 11) (pv 9) (nomark _)) pa_nil))))) pa_nil)))
    (pss_cons (ps_set (i := 12) nd rfl (Or.inl rfl) (pe_cc C__law_number hr (by decide) (by rfl) (pa_cons (pv 1) pa_nil)))
    (pss_cons (ps_expr (pe_cc C__law_put hr (by decide) (by rfl) (pa_cons (pv 3) (pa_cons (pv 10) (pa_cons (pv 12) pa_nil)))))
    (pss_cons (ps_asg (pe_ix ix_list (pv 4) (pv 9) (fun _ _ => rfl)) (pg_tup rfl (pgs_cons (pg_name (i := 7) nd rfl (Or.inl rfl)) (pgs_cons (pg_name (i := 8) nd rfl (Or.inl rfl)) pgs_nil))))
    (pss_cons (ps_set (i := 6) nd rfl (Or.inl rfl) (pe_cc C__law_plus hr (by decide) (by rfl) (pa_cons (pv 6) (pa_cons (pe_cc C__law_mul hr (by decide) (by rfl) (pa_cons (pv 12) (pa_cons (pe_ix ix_list (pe_fz (pe_lst (pa_cons (pv 7) (pa_cons (pv 8) pa_nil)))) (pe_callTy call_int1 (by rfl) B.int (by decide +kernel) (pa_cons (pe_cmpR op_lt (pe_ix ix_tup (pv 12) pe_int (fun _ _ => rfl)) pe_int (nomark _)) pa_nil)) (fun _ _ => rfl)) pa_nil))) pa_nil))))
    (pss_one (ps_for PassesOwn.never rfl (pi_list (pe_fz (pe_lst (pa_cons (pe_tup (pa_cons (pv 7) (pa_cons pe_int pa_nil))) (pa_cons (pe_tup (pa_cons (pv 8) (pa_cons (pe_op op_sub pe_int pe_int) pa_nil))) pa_nil))))) (pg_tup rfl (pgs_cons (pg_name (i := 13) nd rfl (Or.inl rfl)) (pgs_cons (pg_name (i := 14) nd rfl (Or.inl rfl)) pgs_nil)))
    (pss_cons (ps_set (i := 15) nd rfl (Or.inl rfl) (pe_xdisp (by exact hu0_of hr) (pv 10) (pe_tup (pa_cons (pv 14) (pa_cons pe_int pa_nil)))))
    (pss_cons (ps_gz 15 (ps_expr (pe_cc C__law_put hr (by decide) (by rfl) (pa_cons (pv 15) (pa_cons (pe_op op_repP (pe_tupP (pa_cons pe_int pa_nil)) (pv 2)) (pa_cons (pe_tup (pa_cons (pe_op op_sub pe_int (pe_op op_mulW (pv 14) (pe_ix ix_tup (pv 13) pe_int (fun _ _ => rfl)))) (pa_cons (pe_ix ix_tup (pv 13) pe_int (fun _ _ => rfl)) pa_nil))) pa_nil))))))
    (pss_one (ps_expr (pe_bm PySem.F.plainAttrs_list PySem.F.slot_list_append PySem.F.type_list_append mt_append (pv 5) (pa_cons (pe_cc C__law_sum hr (by decide) (by rfl) (pa_cons (pv 2) (pa_cons (pv 15) pa_nil))) pa_nil))))))))))))))))
    (pss_cons (ps_set (i := 16) nd rfl (Or.inl rfl) (pe_cc C__law_sum hr (by decide) (by rfl) (pa_cons (pv 2) (pa_cons (pv 3) pa_nil))))
    (pss_cons (ps_set (i := 17) nd rfl (Or.inl rfl) (pe_cc C__law_low hr (by decide) (by rfl) (pa_cons (pe_ix ix_tup (pv 6) pe_int (fun _ _ => rfl)) (pa_cons (pe_ix ix_tup (pv 6) pe_int (fun _ _ => rfl)) pa_nil))))
    (pss_cons (ps_set (i := 18) nd rfl (Or.inl rfl) (pe_cc C_reach hr (by decide) (by rfl) (pa_cons (pv 16) (pa_cons (pv 5) pa_nil))))
    (pss_cons (ps_if (PW.pt (pw_or (pt_cmpR op_ne (pe_ix ix_tup (pv 18) pe_int (fun _ _ => rfl)) pe_str (nomark _)) (pw_or1 (pt_cmpR (op_neD (by exact hu64_of hr)) (pe_ix ix_tup (pv 18) pe_int (fun _ _ => rfl)) (pv 17) (nomark _)))))
    (pss_one (ps_ret pe_bl))
    pss_nil)
    (pss_cons (ps_for PassesOwn.never rfl (pi_zipM (by rfl) B.zip (pa_cons (pe_ix ix_tup (pv 18) pe_int (fun _ _ => rfl)) (pa_cons (pv 4) pa_nil))) (pg_tup rfl (pgs_cons (pg_name (i := 19) nd rfl (Or.inl rfl)) (pgs_cons (pg_tup rfl (pgs_cons (pg_name (i := 7) nd rfl (Or.inl rfl)) (pgs_cons (pg_name (i := 8) nd rfl (Or.inl rfl)) pgs_nil))) pgs_nil)))
    (pss_one (ps_if (PW.pt (pw_or (pt_val (pe_cc C__law_under hr (by decide) (by rfl) (pa_cons (pv 19) (pa_cons (pv 7) pa_nil)))) (pw_or1 (pt_val (pe_cc C__law_under hr (by decide) (by rfl) (pa_cons (pv 8) (pa_cons (pv 19) pa_nil)))))))
    (pss_one (ps_ret pe_bl))
    pss_nil)))
    (pss_cons (ps_set (i := 20) nd rfl (Or.inl rfl) (pe_ix ix_list (pe_fz (pe_lst (pa_cons pe_str (pa_cons pe_str pa_nil)))) (pe_callTy call_int1 (by rfl) B.int (by decide +kernel) (pa_cons (pe_cmpR op_lt (pe_ix ix_tup (pv 17) pe_int (fun _ _ => rfl)) pe_int (nomark _)) pa_nil)) (fun _ _ => rfl)))
    (pss_cons (ps_if (PW.pt (pw_or (pt_cmpR op_ne (pe_ix ix_tup (pe_cc C_over hr (by decide) (by rfl) (pa_cons (pv 16) (pa_cons (pv 5) pa_nil))) pe_int (fun _ _ => rfl)) (pv 20) (nomark _)) (pw_or1 (pt_cmpR op_ne (pe_ix ix_tup (pe_ccD C_never_in hr (by decide) (by rfl) (pa_cons (pv 16) (pa_cons (pv 4) pa_nil))) pe_int (fun _ _ => rfl)) (pv 20) (nomark _)))))
    (pss_one (ps_ret pe_bl))
    pss_nil)
    (pss_cons (ps_set (i := 21) nd rfl (Or.inl rfl) (pe_cc C__law_low hr (by decide) (by rfl) (pa_cons pe_int (pa_cons (pe_op op_add pe_int (pe_cc C__law_draw hr (by decide) (by rfl) (pa_cons (pv 1) (pa_cons pe_int pa_nil)))) pa_nil))))
    (pss_cons (ps_set (i := 22) nd rfl (Or.inl rfl) (pe_ccD C_nearly_in hr (by decide) (by rfl) (pa_cons (pv 16) (pa_cons (pv 4) (pa_cons (pv 21) pa_nil)))))
    (pss_cons (ps_if (pt_cmpR op_isnot_bl (pe_cc C_is_nearly_in hr (by decide) (by rfl) (pa_cons (pv 16) (pa_cons (pv 4) (pa_cons (pv 21) (pa_cons (pv 22) pa_nil))))) pe_bl (nomark _))
    (pss_one (ps_ret pe_bl))
    pss_nil)
    (pss_cons (ps_set (i := 23) nd rfl (Or.inl rfl) (pe_cc C__law_plus hr (by decide) (by rfl) (pa_cons (pv 17) (pa_cons (pe_tup (pa_cons (pe_op op_sub pe_int (pe_ix ix_tup (pe_ix ix_tup (pv 22) pe_int (fun _ _ => rfl)) pe_int (fun _ _ => rfl))) (pa_cons (pe_ix ix_tup (pe_ix ix_tup (pv 22) pe_int (fun _ _ => rfl)) pe_int (fun _ _ => rfl)) pa_nil))) pa_nil))))
    (pss_one (ps_ret (pe_and (pe_cmpR op_ge (pe_ix ix_tup (pv 23) pe_int (fun _ _ => rfl)) pe_int (nomark _)) (pe_one (pe_not (pe_cc C__law_under hr (by decide) (by rfl) (pa_cons (pv 21) (pa_cons (pv 23) pa_nil))))))))))))))))))))))))))), ?_⟩
  have c : Cf K H H (L2.start N_law [.ref a0]) H (List.replicate 24 .no) [] := by
    refine ⟨Same.refl H, Imm.refl H, ?_, (fun p hp => nomatch hp), List.nodup_nil⟩
    exact .cons trivial (.cons trivial (.cons trivial (.cons trivial (.cons trivial (.cons trivial (.cons trivial (.cons trivial (.cons trivial (.cons trivial (.cons trivial (.cons trivial (.cons trivial (.cons trivial (.cons trivial (.cons trivial (.cons trivial (.cons trivial (.cons trivial (.cons trivial (.cons trivial (.cons trivial (.cons trivial (.cons trivial .nil)))))))))))))))))))))))
  -- the tape
  refine q_seq (r_setM c (m := .lst (TapeD sc 0 0 0)) (em_lst (ea_cons (ev_fz (em_listL (ev_fz (em_slS (a := a0) rfl hS eo_none (eo_int (K := K) ev_int) hsc)))) (ea_cons ev_int (ea_cons ev_int (ea_cons ev_int ea_nil))))) fun pt σ1 H1 e1 c1 => ?_)
  -- how many letters
  refine q_seq (op_second (r_draw (k := 0) c1 rfl rfl ev_int hsc (Int.le_refl 0) (by decide) (by decide) (by decide) fun r1 a1 b1 d1 H2 g1 g2 g3 g4 c2 => ?_))
  obtain ⟨m, hm⟩ : ∃ m : Nat, (m : Int) = 1 + r1 := ⟨(1 + r1).toNat, by omega⟩
  have m1 : 1 ≤ m := by omega
  have m3 : m ≤ 3 := by omega
  refine r_set c2 (d := .int (m : Int)) ((ev_iI (i := 1) (j := r1) (f := fun i j => i + j) ev_int ev_int).is (by rw [hm])) fun σ3 H3 e3 c3 => ?_
  -- one
  refine q_seq (r_setM c3 (m := .dc (tQ [])) em_xnew fun po σ4 H4 e4 c4 => ?_)
  refine q_seq (r_putC (l := po) c4 rfl (ev_zK (ev_var c4 rfl) m1 (by omega)) fun x5 H5 e5 rx5 => ?_)
  refine r_num (k := 1) (c4.ext e5).base rfl rfl hsc g3 (by omega) fun q0 a2 b2 d2 y6 H6 zq g5 g6 c6 ry6 => ?_
  refine put_end (t := []) (key := zK m) (q := q0) (k := 0) (c6.back (c4.ext e5).imm) rfl (rx5.mono c6.imm) ry6 (by simp) (by decide) (zq.mono (by decide)) fun H7 c7 => ?_
  -- the box
  refine q_seq (asg_cps (r_box (k := 1) (m := m) c7 rfl rfl (ev_var c7 rfl) hsc g5 (by omega) m3 fun box a3 b3 d3 y8 H8 hbox g7 g8 c8 ry8 => ?_))
  have c9 := c8.setD 4 ry8
  have hbl := hbox.len
  -- rims, due
  refine q_seq (r_setM c9 (m := .lst []) (em_lst ea_nil) fun pr σ10 H10 e10 c10 => ?_)
  refine q_seq (r_lockX (m := 3) (k := 1) (q := q0) c10 rfl rfl (fun H' cc => ?_) fun σ11 H11 c11 => ?_)
  · refine ev_lat (m := m) (q := q0) (spot := box.map (·.1)) (ev_var cc rfl) ((ev_fz (em_map cc (xs := box) (enc := fun p => .tup [dQ p.1, dQ p.2]) (ei_list (ev_var cc rfl)) (fun p => dQ p.1) _ (by decide) (fun e _ => eg_tup (egs_cons eg_name (egs_cons eg_name egs_nil)) rfl) (fun p _ Hs σ2 H2 c2 => ev_var c2 rfl) (by omega))).is (by rw [dQs, List.map_map]; rfl)) (by omega) (zq.mono (by decide))
  -- the letters
  have b3' : a3 ≤ 100 := by omega
  refine q_seq (r_forS c11 (xs := List.range m) (enc := fun i : Nat => .int (i : Nat)) (ei_rng (ea_cons (ev_var c11 rfl) ea_nil) (by omega)) ((fun _ => 0, ofQ q0, a3, b3, d3) : (Nat → Rat) × Pr × Int × Int × Int)
    (fun i st => LpI m box q0 i st.1 st.2.1 ∧ 0 ≤ st.2.2.1 ∧ st.2.2.1 ≤ 100 + 3 * (i : Nat))
    (fun _ st => [.no, .at pt, .d (.int m), .at po, .d (.lst (dBox box)), .at pr, .d (dP st.2.1), .no, .no, .no, .no, .no, .no, .no, .no, .no, .no, .no, .no, .no, .no, .no, .no, .no])
    (fun i st => [(pr, .lst (dSs m (rimsTo m box i))), (po, .dc (tQ (wTab m q0 st.1 i))), (pt, .lst (TapeD sc st.2.2.1 st.2.2.2.1 st.2.2.2.2))])
    ⟨⟨fun j hj => absurd hj (Nat.not_lt_zero j), (ofQ_ok zq).mono (by omega), ofQ_val q0⟩, g7, by show a3 ≤ 100 + 3 * ((0 : Nat) : Int); omega⟩ (Le.refl _) rfl _ (fun e _ => eg_name) (fun Hs i hi st σ12 H12 hst c12 => ?_) fun st σ12 H12 hst c12 => ?_)
  · have hi' : i < m := by simpa using hi
    have hir : (List.range m)[i] = i := List.getElem_range hi
    rw [hir] at c12
    obtain ⟨cc, due, a', b', d'⟩ := st
    obtain ⟨hL, k1, k2⟩ := hst
    have hL : LpI m box q0 i cc due := hL
    have k1 : 0 ≤ a' := k1
    have k2 : a' ≤ 100 + 3 * (i : Nat) := k2
    have hS2 := box_at hbox hi'
    refine q_seq (r_set c12 (d := .key (uK m i)) ((ev_tupleP (ev_fz (em_map c12 (xs := List.range m) (enc := fun k : Nat => .int (k : Nat)) (ei_rng (ea_cons (ev_var c12 rfl) ea_nil) (by omega)) (fun k : Nat => .int (if decide ((k : Int) = (i : Int)) then 1 else 0)) _ (by decide) (fun e _ => eg_name)
      (fun k _ Hs σ2 H2 c2 => ev_int1 (ev_eqI (ev_var c2 rfl) (ev_var c2 rfl))) (by rw [List.length_range]; omega)))).is (by rw [D.key, ← uK_range hi', List.map_map]; rfl)) fun σ13 H13 e13 c13 => ?_)
    refine q_seq (asg_cps (r_num (k := 2) c13 rfl rfl hsc k1 (by omega) fun r a4 b4 d4 y H14 zr k3 k4 c14 ry => ?_))
    have c15 := c14.setD 12 ry
    refine q_seq (r_put (k := 1) (t := wTab m q0 cc i) (key := uK m i) (q := r) c15 rfl rfl (ev_var c15 rfl) (ev_var c15 rfl) (wTab_new hi') (by have := wTab_len m q0 cc i; omega) (zr.mono (by decide)) fun H16 c16 => ?_)
    have hbi : i < box.length := by omega
    refine q_seq (r_asg c16 (d := .tup [dQ (bl box i), dQ (bh box i)]) (ev_ixL (ev_var c16 rfl) (ev_var c16 rfl) (atI_nat (by rw [List.getElem?_map, List.getElem?_eq_getElem hbi, box_get box hbi]; rfl))) (eg_tup (egs_cons eg_name (egs_cons eg_name egs_nil)) rfl) fun σ17 H17 e17 c17 => ?_)
    obtain ⟨hL2, ok14, ze⟩ := hL.step hbox hi' zr rfl
    have hneg : decide (r.num < 0) = decide (r < 0) := decide_eq_decide.mpr (by rw [Rat.lt_iff]; simp)
    refine q_seq (r_set c17 (d := dP (lp due (lm (ofQ r) (ofQ (if r < 0 then bh box i else bl box i))))) (ev_lplus (p := due) (q := lm (ofQ r) (ofQ (if r < 0 then bh box i else bl box i))) (ev_var c17 rfl) (ev_lmul (p := ofQ r) (q := ofQ (if r < 0 then bh box i else bl box i)) (ev_var c17 rfl)
      (ev_ixL (ev_fz (em_lst (ea_cons (ev_var c17 rfl) (ea_cons (ev_var c17 rfl) ea_nil)))) (ev_int1 (ev_iB (ev_ixT (ev_var c17 rfl) ev_int rfl) ev_int)) (by rw [hneg]; by_cases z : r < 0 <;> simp only [z, decide_true, decide_false, if_true, if_false, Bool.false_eq_true] <;> rfl)) ((ofQ_ok zr).mono (by decide)) ((ofQ_ok ze).mono (by decide))) (hL.ok.mono (by omega)) (ok14.mono (by decide))) fun σ18 H18 e18 c18 => ?_)
    refine r_forM c18 (xs := sides box i) (enc := fun p => .tup [dQ p.1, .int p.2.1.num]) ((ei_list (ev_fz (em_lst (ea_cons (ev_tup (ea_cons (ev_var c18 rfl) (ea_cons ev_int ea_nil))) (ea_cons (ev_tup (ea_cons (ev_var c18 rfl) (ea_cons (ev_iI (f := fun i j => i - j) ev_int ev_int) ea_nil))) ea_nil))))).is rfl)
      (fun _ => [.no, .at pt, .d (.int m), .at po, .d (.lst (dBox box)), .at pr, .d (dP (lp due (lm (ofQ r) (ofQ (if r < 0 then bh box i else bl box i))))), .d (dQ (bl box i)), .d (dQ (bh box i)), .d (.int (i : Nat)), .d (.key (uK m i)), .no, .d (dQ r), .no, .no, .no, .no, .no, .no, .no, .no, .no, .no, .no])
      (fun j => [(pr, .lst (dSs m (rimsTo m box i ++ ((sides box i).take j).map (rimX m i)))), (po, .dc (tQ (putQ (wTab m q0 cc i) (uK m i) r))), (pt, .lst (TapeD sc a4 b4 d4))]) (Le.refl _) (by rw [List.take_zero, List.map_nil, List.append_nil]; rfl) _
      (fun e _ => eg_tup (egs_cons eg_name (egs_cons eg_name egs_nil)) rfl) (fun Hs2 j hj σ19 H19 c19 => ?_) fun σ19 H19 c19 => ?_
    · have hp := sides_ok hbox hi' _ (List.getElem_mem hj)
      generalize hpe : (sides box i)[j] = p at c19 hp
      have hlin := rim_lin (s := p.2.1) (q := p.2.2) hi'
      refine q_seq (r_setM c19 (m := .dc (tQ [(uK m i, p.2.1)])) ((em_xdisp (ev_var c19 rfl) (ev_tup (ea_cons (ev_var c19 rfl) (ea_cons ev_int ea_nil)))).is (by show Mo.dc [(uK m i, D.tup [.int p.2.1.num, .int 1])] = Mo.dc [(uK m i, D.tup [.int p.2.1.num, .int (p.2.1.den : Int)])]; rw [hp.d]; rfl)) fun pm σ20 H20 e20 c20 => ?_)
      have hz1 := hp.z
      refine q_seq (r_put (k := 0) (t := [(uK m i, p.2.1)]) (key := zK m) (q := p.2.2) c20 rfl rfl (ev_zK (ev_var c20 rfl) m1 (by omega)) ((ev_tup (ea_cons (ev_iI (f := fun i j => i - j) ev_int (ev_iC (ev_var c20 rfl) (ev_ixT (ev_var c20 rfl) ev_int rfl) (wm (Nat.lt_of_lt_of_le hp.n (by decide)) (Nat.lt_of_lt_of_le (szN hz1) (pow_mono (by decide)))))) (ea_cons (ev_ixT (ev_var c20 rfl) ev_int rfl) ea_nil))).is (by rw [dQ, hp.a, hp.b])) (fun z => uK_ne hi' (List.mem_singleton.mp z).symm) (by show 1 < 1000; decide) (hp.y.mono (by decide)) fun H21 c21 => r_gzX (k := 0) c21 rfl rfl fun H22 c22 => ?_)
      refine r_app (k := 0) (d := dS m (rimX m i p)) c22 rfl rfl (ev_lsum (ev_var c22 rfl) (ev_var c22 rfl) (hlin.tb m1 m3) ((hlin.sz hp.y fun j _ => by split; exact hp.x; exact Sz.zero.mono (by decide)).mono (by decide))) ?_ fun H23 c23 => (c23.le ?_).msE ?_
      · rw [List.length_map, List.length_append, rimsTo_len, List.length_map, List.length_take]
        have : (sides box i).length = 2 := rfl
        omega
      · exact (.keep (.keep (.keep (.keep (.keep (.keep (.keep (.keep (.keep (.keep (.keep (.keep (.keep (.drop (.drop (.drop (.keep (.keep (.keep (.keep (.keep (.keep (.keep (.keep .nil))))))))))))))))))))))))
      · have e1 : dSs m (rimsTo m box i ++ ((sides box i).take (j + 1)).map (rimX m i)) = dSs m (rimsTo m box i ++ ((sides box i).take j).map (rimX m i)) ++ [dS m (rimX m i p)] := by simp [dSs, take_succ_get _ hj, hpe]
        rw [e1]; rfl
    · refine ⟨(updC cc i r, lp due (lm (ofQ r) (ofQ (if r < 0 then bh box i else bl box i))), a4, b4, d4), ⟨hL2, k3, ?_⟩, (c19.le ?_).msE ?_⟩
      · show a4 ≤ 100 + 3 * ((i + 1 : Nat) : Int)
        omega
      · exact (.keep (.keep (.keep (.keep (.keep (.keep (.keep (.drop (.drop (.drop (.drop (.keep (.drop (.keep (.keep (.keep (.keep (.keep (.keep (.keep (.keep (.keep (.keep (.keep .nil))))))))))))))))))))))))
      · have h1 : ∀ j, j < i → cc j = updC cc i r j := fun j hj => by rw [updC, if_neg (by omega)]
        rw [rimsTo_succ, List.take_length]
        have e2 : wTab m q0 (updC cc i r) (i + 1) = putQ (wTab m q0 cc i) (uK m i) r := by rw [wTab, ← wTab_congr i h1, updC, if_pos rfl]
        show _ = [(pr, Mo.lst _), (po, Mo.dc (tQ (wTab m q0 (updC cc i r) (i + 1)))), _]
        rw [e2]; rfl
  · rw [List.length_range] at hst c12
    obtain ⟨cc, due, a', b', d'⟩ := st
    obtain ⟨hL, k1, k2⟩ := hst
    have hL : LpI m box q0 m cc due := hL
    have k1 : 0 ≤ a' := k1
    have k2 : a' ≤ 100 + 3 * (m : Nat) := k2
    refine r_gzX (k := 1) c12 rfl rfl fun H13 c13 => r_gz (k := 0) c13 rfl rfl fun H14 c14 => ?_
    have hWl := wTab_lin m q0 cc
    have G : Given m box q0 cc (trm (wTab m q0 cc m)) := ⟨m1, m3, hbox, zq, hL.z, hWl.trm⟩
    have hfew : (trm (wTab m q0 cc m)).length ≤ m + 1 := Nat.le_trans (trm_len _) (wTab_len m q0 cc m)
    obtain ⟨hReach, rr, hrow, hnum, hspl, hspx⟩ := G.reach
    obtain ⟨hOver, hbad⟩ := G.over
    obtain ⟨sp, hsw, hlq, hNev, hNear⟩ := G.lay hfew
    have hdz := G.due_sz
    generalize hsp : spotOf (reachRows m (trm (wTab m q0 cc m)) (rimsOf m box)) m (List.replicate m 0 ++ [numOf rr]) = spot at hspl hspx
    have hcong : dU q0 box cc m = dU q0 box cc m := rfl
    -- whole, least
    refine q_seq (r_set c14 (ev_lsum (ev_var c14 rfl) (ev_var c14 rfl) (hWl.tb m1 m3) ((hWl.sz zq hL.z).mono (by decide))) fun σ15 H15 e15 c15 => ?_)
    have hpos := hL.ok.pos
    refine q_seq (r_set c15 (d := dQ (dU q0 box cc m)) ((ev_llow (ev_ixT (ev_var c15 rfl) ev_int rfl) (ev_ixT (ev_var c15 rfl) ev_int rfl) (by omega) (Nat.lt_of_lt_of_le hL.ok.b (pow_mono (by omega)))).is (by rw [← hL.v]; rfl)) fun σ16 H16 e16 c16 => ?_)
    -- reach
    have hrD : reachD m (trm (wTab m q0 cc m)) (rimsOf m box) = .tup [.str "least", dQ (dU q0 box cc m), .ptup (dQs spot), .lst (dQs ((rr.w.take (rr.w.length - 1)).map (· / lastL rr.w)))] := by
      rw [reachD, hrow]
      show D.tup [.str "least", dQ (numOf rr), .ptup (dQs (spotOf (reachRows m (trm (wTab m q0 cc m)) (rimsOf m box)) m (List.replicate m 0 ++ [numOf rr]))), _] = _
      rw [hsp, hnum]
    refine q_seq (r_set c16 ((ev_reach (rims := rimsOf m box) (ev_var c16 rfl) (ev_var c16 rfl) hReach).is hrD) fun σ17 H17 e17 c17 => ?_)
    refine q_seq (r_if (b := false) c17 ((et_or (et_t (ev_neS (ev_ixT (ev_var c17 rfl) ev_int rfl) ev_str)) fun _ => et_B (ev_neII (ev_ixT (ev_var c17 rfl) ev_int rfl) (ev_var c17 rfl))).is (by simp)) (fun z => by cases z) fun _ H18 e18 c18 => ?_)
    -- the spot in the box
    have hxs : ∀ (j : Nat) (h1 : j < spot.length) (h2 : j < box.length), bl box j ≤ spot[j] ∧ spot[j] ≤ bh box j ∧ Sz 49 spot[j] := fun j h1 h2 => by
      have hx := hspx j (by omega)
      have e : spot.getD j 0 = spot[j] := by simp [List.getD, h1]
      rw [e] at hx
      exact ⟨hx.lo, hx.hi, hx.z⟩
    refine q_seq (r_forM c18 (xs := spot.zip box) (enc := fun p => .tup [dQ p.1, .tup [dQ p.2.1, dQ p.2.2]]) ((ei_zipTL (ev_pt (ev_ixT (ev_var c18 rfl) ev_int rfl)) (ev_var c18 rfl)).is (zipD_zip spot box dQ fun p => .tup [dQ p.1, dQ p.2]))
      (fun _ => [.no, .at pt, .d (.int m), .no, .d (.lst (dBox box)), .d (.lst (dSs m (rimsOf m box))), .no, .no, .no, .no, .no, .no, .no, .no, .no, .no, .d (dS m (trm (wTab m q0 cc m))), .d (dQ (dU q0 box cc m)), .no, .no, .no, .no, .no, .no])
      (fun _ => [(pt, .lst (TapeD sc a' b' d'))]) (.keep (.keep (.keep (.drop (.keep (.keep (.drop (.keep (.keep (.keep (.keep (.keep (.keep (.keep (.keep (.keep (.keep (.keep (.drop (.keep (.keep (.keep (.keep (.keep .nil)))))))))))))))))))))))) rfl _
      (fun e _ => eg_tup (egs_cons eg_name (egs_cons (eg_tup (egs_cons eg_name (egs_cons eg_name egs_nil)) rfl) egs_nil)) rfl) (fun Hs j hj σ19 H19 c19 => ?_) fun σ19 H19 c19 => ?_)
    · have hj1 : j < spot.length := by rw [List.length_zip] at hj; omega
      have hj2 : j < box.length := by omega
      have hze : (spot.zip box)[j] = (spot[j], (bl box j, bh box j)) := by rw [List.getElem_zip, box_get box hj2]
      rw [hze] at c19
      obtain ⟨x1, x2, x3⟩ := hxs j hj1 hj2
      have hs := box_at hbox (i := j) (by omega)
      have o1 : PrOk 4000 (ofQ spot[j]) := (ofQ_ok x3).mono (by decide)
      have o2 : PrOk 4000 (ofQ (bl box j)) := (ofQ_ok hs.lo).mono (by decide)
      have o3 : PrOk 4000 (ofQ (bh box j)) := (ofQ_ok hs.hi).mono (by decide)
      refine r_if (b := false) c19 ((et_or (et_t (ev_lunder (p := ofQ spot[j]) (q := ofQ (bl box j)) (ev_var c19 rfl) (ev_var c19 rfl) o1 o2)) fun _ => et_t (ev_lunder (p := ofQ (bh box j)) (q := ofQ spot[j]) (ev_var c19 rfl) (ev_var c19 rfl) o3 o1)).is ?_) (fun z => by cases z) fun _ H20 e20 c20 => c20.le
        (.keep (.keep (.keep (.keep (.keep (.keep (.keep (.drop (.drop (.keep (.keep (.keep (.keep (.keep (.keep (.keep (.keep (.keep (.keep (.drop (.keep (.keep (.keep (.keep .nil))))))))))))))))))))))))
      rw [ofQ_val, ofQ_val, ofQ_val, decide_eq_false (show ¬ spot[j] < bl box j by grind), decide_eq_false (show ¬ bh box j < spot[j] by grind)]; rfl
    -- the word
    have hnd : decide ((dU q0 box cc m).num < 0) = decide (dU q0 box cc m < 0) := decide_eq_decide.mpr (by rw [Rat.lt_iff]; simp)
    refine q_seq (r_set c19 (d := .str (if dU q0 box cc m < 0 then "below" else "so")) (ev_ixL (ev_fz (em_lst (ea_cons ev_str (ea_cons ev_str ea_nil)))) (ev_int1 (ev_iB (ev_ixT (ev_var c19 rfl) ev_int rfl) ev_int)) (by rw [hnd]; by_cases z : dU q0 box cc m < 0 <;> simp only [z, decide_true, decide_false, if_true, if_false, Bool.false_eq_true] <;> rfl)) fun σ20 H20 e20 c20 => ?_)
    have hoD : ∃ ds, overD m (trm (wTab m q0 cc m)) (rimsOf m box) = .tup (.str (if dU q0 box cc m < 0 then "below" else "so") :: ds) := by
      unfold overD
      cases hb : badRow (sysAt (overRows m (trm (wTab m q0 cc m)) (rimsOf m box)) m) with
      | none =>
        have : ¬ 0 ≤ dU q0 box cc m := fun z => by have := hbad.mpr z; rw [hb] at this; cases this
        rw [if_pos (by grind)]; exact ⟨_, rfl⟩
      | some r =>
        have : 0 ≤ dU q0 box cc m := hbad.mp (by rw [hb]; rfl)
        rw [if_neg (by grind)]; exact ⟨_, rfl⟩
    obtain ⟨dso, hoD⟩ := hoD
    have hnD : ∃ ds, neverD (trm (wTab m q0 cc m)) sp = .tup (.str (if dU q0 box cc m < 0 then "below" else "so") :: ds) := by
      unfold neverD
      rw [hsw]
      split
      · exact ⟨_, rfl⟩
      · exact ⟨_, rfl⟩
    obtain ⟨dsn, hnD⟩ := hnD
    generalize (if dU q0 box cc m < 0 then ("below" : Str) else "so") = wd at hoD hnD c20
    refine q_seq (r_if (b := false) c20 ((et_or (et_t (ev_neS (x := wd) (y := wd) (ev_ixT ((ev_over (rims := rimsOf m box) (ev_var c20 rfl) (ev_var c20 rfl) hOver).is hoD) ev_int (atI_nat (j := 0) rfl)) (ev_var c20 rfl))) fun _ => et_t (ev_neS (x := wd) (y := wd) (ev_ixT ((ev_never (ev_var c20 rfl) (ev_var c20 rfl) hNev).is hnD) ev_int (atI_nat (j := 0) rfl)) (ev_var c20 rfl))).is (by simp)) (fun z => by cases z) fun _ H21 e21 c21 => ?_)
    -- the gap
    refine q_seq (low_second (r_draw (k := 0) c21 rfl rfl ev_int hsc k1 (by omega) (by decide) (by decide) fun rg a5 b5 d5 H22 y1 y2 y3 y4 c22 => ?_))
    obtain ⟨gn, hgn⟩ : ∃ gn : Nat, (gn : Int) = 1 + rg := ⟨(1 + rg).toNat, by omega⟩
    have hg0 : 0 < Rat.divInt 1 (1 + rg) := by
      rw [Rat.divInt_eq_div]
      have h1 : (0 : Rat) < ((1 + rg : Int) : Rat) := by exact_mod_cast (show (0 : Int) < 1 + rg by omega)
      have : (0 : Rat) < ((1 : Int) : Rat) / ((1 + rg : Int) : Rat) := by rw [Rat.lt_div_iff h1]; rw [Rat.zero_mul]; decide
      exact this
    have hgz : Sz 100 (Rat.divInt 1 (1 + rg)) := sz_divInt (by decide) (by omega) (Nat.lt_of_lt_of_le (show (1 + rg).natAbs < 2 ^ 64 by omega) (pow_mono (by decide)))
    refine r_set c22 (d := dQ (Rat.divInt 1 (1 + rg))) (ev_llow ev_int (ev_iI (f := fun i j => i + j) ev_int ev_int) (by omega) (Nat.lt_of_lt_of_le (show (1 + rg).natAbs < 2 ^ 64 by omega) (pow_mono (by decide)))) fun σ23 H23 e23 c23 => ?_
    obtain ⟨hNea, hNr⟩ := hNear _ hg0 hgz
    generalize Rat.divInt 1 (1 + rg) = gap at hg0 hgz c23 hNea hNr
    -- near
    refine q_seq (r_set c23 ((ev_nearly (ev_var c23 rfl) (ev_var c23 rfl) (ev_var c23 rfl) hNea).is (by rw [hlq])) fun σ24 H24 e24 c24 => ?_)
    refine q_seq (r_if (b := false) c24 ((et_t (ev_isnot (ev_is_nearly_in (ev_var c24 rfl) (ev_var c24 rfl) (ev_var c24 rfl) (ev_var c24 rfl) hNr) ev_bl)).is rfl) (fun z => by cases z) fun _ H25 e25 c25 => ?_)
    -- down
    have oD : PrOk 49 (ofQ (dU q0 box cc m)) := ofQ_ok hdz
    have oN : PrOk 49 (ofQ (-dU q0 box cc m)) := ofQ_ok hdz.neg
    obtain ⟨oL, vL⟩ := lp_val oD oN
    have vL0 : pv1 (lp (ofQ (dU q0 box cc m)) (ofQ (-dU q0 box cc m))) = 0 := by rw [vL, ofQ_val, ofQ_val]; grind
    refine q_seq (r_set c25 (d := dP (lp (ofQ (dU q0 box cc m)) (ofQ (-dU q0 box cc m)))) (ev_lplus (p := ofQ (dU q0 box cc m)) (q := ofQ (-dU q0 box cc m)) (ev_var c25 rfl) ((ev_tup (ea_cons (ev_iI (f := fun i j => i - j) ev_int (ev_ixT (ev_ixT (ev_var c25 rfl) ev_int rfl) ev_int rfl)) (ea_cons (ev_ixT (ev_ixT (ev_var c25 rfl) ev_int rfl) ev_int rfl) ea_nil))).is (by rw [dP, ofQ, Rat.neg_num, Rat.neg_den, Int.zero_sub])) (oD.mono (by decide)) (oN.mono (by decide))) fun σ26 H26 e26 c26 => ?_)
    generalize lp (ofQ (dU q0 box cc m)) (ofQ (-dU q0 box cc m)) = dn at oL vL0 c26
    have hdn : 0 ≤ dn.1 := by
      have h1 := (pv1_lt (p := dn) (q := (0, 1)) oL.pos (by decide)).mpr
      have e0 : pv1 (0, 1) = 0 := by unfold pv1; rfl
      rw [vL0, e0] at h1
      by_cases z : 0 ≤ dn.1
      · exact z
      · exact absurd (h1 (by show dn.1 * 1 < 0 * dn.2; omega)) Rat.lt_irrefl
    refine r_retS (d := .bl true) ((ev_andV (ev_iB (ev_ixT (ev_var c26 rfl) ev_int rfl) ev_int) fun _ => ev_notV (ev_lunder (p := ofQ gap) (q := dn) (ev_var c26 rfl) (ev_var c26 rfl) ((ofQ_ok hgz).mono (by decide)) (oL.mono (by decide)))).is ?_) fun v H27 sm rv => ?_
    · rw [ofQ_val, vL0, decide_eq_false (show ¬ gap < 0 by grind)]
      have : decide (dn.1 ≥ 0) = true := decide_eq_true hdn
      simp [hdn]
    · rw [rep_bl.mp rv]
      exact kq H27
end
end Lw
/-! The head: what the program's top leaves, by one kernel run; each def's data; the join. -/
namespace Lw
open PySem PySem.Spec PyProof.Rows L2
/-- tuples of the top that are known -/
def tupsOk (tp : List (Str × List He.Dv)) (K : PySem.W.Frag) : Bool := tp.all fun p => He.tupB K p.1 p.2
def obsF (fa : List He.Fa) (fn : List He.DefD) (tp : List (Str × List He.Dv)) (K : PySem.W.Frag) : Bool × He.AlD := (tupsOk tp K, He.obsD fa fn K)
/-- addresses, by what refers to what (no list is cleared of what stands in it twice: that costs more than it saves) -/
def nxA (g : Addr → Option Obj) (l : List Addr) : List Addr := l.flatMap fun a => match g a with
  | some o => He.refsD o
  | none => []
def adr (g : Addr → Option Obj) : Nat → List Addr → List Addr
  | 0, l => l
  | n + 1, l => l ++ adr g n (nxA g l)
def obsT (n : Nat) (fa : List He.Fa) (fn : List He.DefD) (tp : List (Str × List He.Dv)) (g : Addr → Option Obj) : Bool × He.AlD := obsF fa fn tp (He.frG g (adr g n [mainGlobals]))
def hookT (n : Nat) (fa : List He.Fa) (fn : List He.DefD) (tp : List (Str × List He.Dv)) : PySem.W.Hook where
  α := Bool × He.AlD
  obs := fun s => obsT n fa fn tp s.heap.get?
  val := fun _ => (true, He.valD fn)
  says := fun _ h => ∃ K : PySem.W.Frag, K.In h ∧ He.SaysD fa fn K ∧ tupsOk tp K = true
  of := fun _ s e => ⟨He.frG s.heap.get? (adr s.heap.get? n [mainGlobals]), He.frG_in, (Prod.mk.inj e).2, (Prod.mk.inj e).1⟩
  keeps := fun _ h h' z hh => let ⟨K, a, b⟩ := z; ⟨K, fun x o e => hh x o (a x o e), b⟩
def fnD0 : List He.DefD := [(⟨("common_measure", none), "common_measure", "common_measure", defArgs st_common_measure, defBody st_common_measure, defScope st_common_measure, [], []⟩ : He.DefD), (⟨("lowest_terms", none), "lowest_terms", "lowest_terms", defArgs st_lowest_terms, defBody st_lowest_terms, defScope st_lowest_terms, [], []⟩ : He.DefD), (⟨("added", none), "added", "added", defArgs st_added, defBody st_added, defScope st_added, [], []⟩ : He.DefD), (⟨("less", none), "less", "less", defArgs st_less, defBody st_less, defScope st_less, [], []⟩ : He.DefD), (⟨("multiplied", none), "multiplied", "multiplied", defArgs st_multiplied, defBody st_multiplied, defScope st_multiplied, [], []⟩ : He.DefD), (⟨("divided", none), "divided", "divided", defArgs st_divided, defBody st_divided, defScope st_divided, [], []⟩ : He.DefD), (⟨("turned", none), "turned", "turned", defArgs st_turned, defBody st_turned, defScope st_turned, [], []⟩ : He.DefD), (⟨("beside", none), "beside", "beside", defArgs st_beside, defBody st_beside, defScope st_beside, [], []⟩ : He.DefD), (⟨("degree", none), "degree", "degree", defArgs st_degree, defBody st_degree, defScope st_degree, [], []⟩ : He.DefD), (⟨("need_straight", none), "need_straight", "need_straight", defArgs st_need_straight, defBody st_need_straight, defScope st_need_straight, [], []⟩ : He.DefD), (⟨("numbers_of", none), "numbers_of", "numbers_of", defArgs st_numbers_of, defBody st_numbers_of, defScope st_numbers_of, [], []⟩ : He.DefD), (⟨("unit_weights", none), "unit_weights", "unit_weights", defArgs st_unit_weights, defBody st_unit_weights, defScope st_unit_weights, [], []⟩ : He.DefD), (⟨("rim_rows", none), "rim_rows", "rim_rows", defArgs st_rim_rows, defBody st_rim_rows, defScope st_rim_rows, [], []⟩ : He.DefD), (⟨("blended", none), "blended", "blended", defArgs st_blended, defBody st_blended, defScope st_blended, [], []⟩ : He.DefD), (⟨("joined", none), "joined", "joined", defArgs st_joined, defBody st_joined, defScope st_joined, [], []⟩ : He.DefD), (⟨("put_out", none), "put_out", "put_out", defArgs st_put_out, defBody st_put_out, defScope st_put_out, [], []⟩ : He.DefD), (⟨("systems_of", none), "systems_of", "systems_of", defArgs st_systems_of, defBody st_systems_of, defScope st_systems_of, [], []⟩ : He.DefD), (⟨("bad_row", none), "bad_row", "bad_row", defArgs st_bad_row, defBody st_bad_row, defScope st_bad_row, [], []⟩ : He.DefD), (⟨("bound_of", none), "bound_of", "bound_of", defArgs st_bound_of, defBody st_bound_of, defScope st_bound_of, [], []⟩ : He.DefD), (⟨("greatest_of", none), "greatest_of", "greatest_of", defArgs st_greatest_of, defBody st_greatest_of, defScope st_greatest_of, [], []⟩ : He.DefD)]
def fnD1 : List He.DefD := [(⟨("number_for", none), "number_for", "number_for", defArgs st_number_for, defBody st_number_for, defScope st_number_for, [], []⟩ : He.DefD), (⟨("shares", none), "shares", "shares", defArgs st_shares, defBody st_shares, defScope st_shares, [], []⟩ : He.DefD), (⟨("spot_by", none), "spot_by", "spot_by", defArgs st_spot_by, defBody st_spot_by, defScope st_spot_by, [], []⟩ : He.DefD), (⟨("kept", none), "kept", "kept", defArgs st_kept, defBody st_kept, defScope st_kept, [], []⟩ : He.DefD), (⟨("over", none), "over", "over", defArgs st_over, defBody st_over, defScope st_over, [], []⟩ : He.DefD), (⟨("with_worth", none), "with_worth", "with_worth", defArgs st_with_worth, defBody st_with_worth, defScope st_with_worth, [], []⟩ : He.DefD), (⟨("number_of", none), "number_of", "number_of", defArgs st_number_of, defBody st_number_of, defScope st_number_of, [], []⟩ : He.DefD), (⟨("least_row", none), "least_row", "least_row", defArgs st_least_row, defBody st_least_row, defScope st_least_row, [], []⟩ : He.DefD), (⟨("reach", none), "reach", "reach", defArgs st_reach, defBody st_reach, defScope st_reach, [], []⟩ : He.DefD), (⟨("sum_of", none), "sum_of", "sum_of", defArgs st_sum_of, defBody st_sum_of, defScope st_sum_of, [], []⟩ : He.DefD), (⟨("bounded", none), "bounded", "bounded", defArgs st_bounded, defBody st_bounded, defScope st_bounded, [], []⟩ : He.DefD), (⟨("plus", none), "plus", "plus", defArgs st_plus, defBody st_plus, defScope st_plus, [], []⟩ : He.DefD), (⟨("multiplied_out", none), "multiplied_out", "multiplied_out", defArgs st_multiplied_out, defBody st_multiplied_out, defScope st_multiplied_out, [], []⟩ : He.DefD), (⟨("put_from", none), "put_from", "put_from", defArgs st_put_from, defBody st_put_from, defScope st_put_from, [], []⟩ : He.DefD), (⟨("power_of", none), "power_of", "power_of", defArgs st_power_of, defBody st_power_of, defScope st_power_of, [], []⟩ : He.DefD), (⟨("worth", none), "worth", "worth", defArgs st_worth, defBody st_worth, defScope st_worth, [], []⟩ : He.DefD), (⟨("put_in", none), "put_in", "put_in", defArgs st_put_in, defBody st_put_in, defScope st_put_in, [], []⟩ : He.DefD), (⟨("choose", none), "choose", "choose", defArgs st_choose, defBody st_choose, defScope st_choose, [], []⟩ : He.DefD), (⟨("moved_letter", none), "moved_letter", "moved_letter", defArgs st_moved_letter, defBody st_moved_letter, defScope st_moved_letter, [], []⟩ : He.DefD), (⟨("greatest_powers", none), "greatest_powers", "greatest_powers", defArgs st_greatest_powers, defBody st_greatest_powers, defScope st_greatest_powers, [], []⟩ : He.DefD)]
def fnD2 : List He.DefD := [(⟨("all_powers", none), "all_powers", "all_powers", defArgs st_all_powers, defBody st_all_powers, defScope st_all_powers, [], []⟩ : He.DefD), (⟨("mixed_letter", none), "mixed_letter", "mixed_letter", defArgs st_mixed_letter, defBody st_mixed_letter, defScope st_mixed_letter, [], []⟩ : He.DefD), (⟨("box_numbers", none), "box_numbers", "box_numbers", defArgs st_box_numbers, defBody st_box_numbers, defScope st_box_numbers, [], []⟩ : He.DefD), (⟨("is_borne", none), "is_borne", "is_borne", defArgs st_is_borne, defBody st_is_borne, defScope st_is_borne, [], []⟩ : He.DefD), (⟨("bears_tree", none), "bears_tree", "bears_tree", defArgs st_bears_tree, defBody st_bears_tree, defScope st_bears_tree, [], []⟩ : He.DefD), (⟨("corners", none), "corners", "corners", defArgs st_corners, defBody st_corners, defScope st_corners, [], []⟩ : He.DefD), (⟨("least_number", none), "least_number", "least_number", defArgs st_least_number, defBody st_least_number, defScope st_least_number, [], []⟩ : He.DefD), (⟨("tree_of", none), "tree_of", "tree_of", defArgs st_tree_of, defBody st_tree_of, defScope st_tree_of, [], []⟩ : He.DefD), (⟨("raised", none), "raised", "raised", defArgs st_raised, defBody st_raised, defScope st_raised, [], []⟩ : He.DefD), (⟨("is_nearly_in", none), "is_nearly_in", "is_nearly_in", defArgs st_is_nearly_in, defBody st_is_nearly_in, defScope st_is_nearly_in, [], []⟩ : He.DefD), (⟨("Layers", some "__init__"), "__init__", "Layers.__init__", defArgs st_Layers___init__, defBody st_Layers___init__, defScope st_Layers___init__, [], []⟩ : He.DefD), (⟨("Layers", some "lowest"), "lowest", "Layers.lowest", defArgs st_Layers_lowest, defBody st_Layers_lowest, defScope st_Layers_lowest, [], []⟩ : He.DefD), (⟨("Layers", some "keep"), "keep", "Layers.keep", defArgs st_Layers_keep, defBody st_Layers_keep, defScope st_Layers_keep, [], []⟩ : He.DefD), (⟨("never_in", none), "never_in", "never_in", defArgs st_never_in, defBody st_never_in, defScope st_never_in, [.int 20], []⟩ : He.DefD), (⟨("nearly_in", none), "nearly_in", "nearly_in", defArgs st_nearly_in, defBody st_nearly_in, defScope st_nearly_in, [.int 20], []⟩ : He.DefD), (⟨("_law_mul", none), "_law_mul", "_law_mul", defArgs st__law_mul, defBody st__law_mul, defScope st__law_mul, [], []⟩ : He.DefD), (⟨("_law_plus", none), "_law_plus", "_law_plus", defArgs st__law_plus, defBody st__law_plus, defScope st__law_plus, [], []⟩ : He.DefD), (⟨("_law_under", none), "_law_under", "_law_under", defArgs st__law_under, defBody st__law_under, defScope st__law_under, [], []⟩ : He.DefD), (⟨("_law_more", none), "_law_more", "_law_more", defArgs st__law_more, defBody st__law_more, defScope st__law_more, [], []⟩ : He.DefD), (⟨("_law_low", none), "_law_low", "_law_low", defArgs st__law_low, defBody st__law_low, defScope st__law_low, [], []⟩ : He.DefD)]
def fnD3 : List He.DefD := [(⟨("_law_put", none), "_law_put", "_law_put", defArgs st__law_put, defBody st__law_put, defScope st__law_put, [], []⟩ : He.DefD), (⟨("_law_sum", none), "_law_sum", "_law_sum", defArgs st__law_sum, defBody st__law_sum, defScope st__law_sum, [], []⟩ : He.DefD), (⟨("_law_draw", none), "_law_draw", "_law_draw", defArgs st__law_draw, defBody st__law_draw, defScope st__law_draw, [], []⟩ : He.DefD), (⟨("_law_number", none), "_law_number", "_law_number", defArgs st__law_number, defBody st__law_number, defScope st__law_number, [], []⟩ : He.DefD), (⟨("_law_box", none), "_law_box", "_law_box", defArgs st__law_box, defBody st__law_box, defScope st__law_box, [], []⟩ : He.DefD), (⟨("_law_at", none), "_law_at", "_law_at", defArgs st__law_at, defBody st__law_at, defScope st__law_at, [], []⟩ : He.DefD), (⟨("law", none), "law", "law", defArgs st_law, defBody st_law, defScope st_law, [], []⟩ : He.DefD)]
def fnD : List He.DefD := fnD0 ++ fnD1 ++ fnD2 ++ fnD3
def faD0 : List He.Fa := [.glo "common_measure", .glo "lowest_terms", .glo "added", .glo "less", .glo "multiplied", .glo "divided", .glo "turned", .glo "beside", .glo "degree", .glo "need_straight", .glo "numbers_of", .glo "unit_weights", .glo "rim_rows", .glo "blended", .glo "joined", .glo "put_out", .glo "systems_of", .glo "bad_row", .glo "bound_of", .glo "greatest_of", .glo "number_for", .glo "shares", .glo "spot_by", .glo "kept", .glo "over", .glo "with_worth", .glo "number_of", .glo "least_row", .glo "reach", .glo "sum_of"]
def faD1 : List He.Fa := [.glo "bounded", .glo "plus", .glo "multiplied_out", .glo "put_from", .glo "power_of", .glo "worth", .glo "put_in", .glo "choose", .glo "moved_letter", .glo "greatest_powers", .glo "all_powers", .glo "mixed_letter", .glo "box_numbers", .glo "is_borne", .glo "bears_tree", .glo "corners", .glo "least_number", .glo "tree_of", .glo "raised", .glo "is_nearly_in", .glo "never_in", .glo "nearly_in", .glo "_law_mul", .glo "_law_plus", .glo "_law_under", .glo "_law_more", .glo "_law_low", .glo "_law_put", .glo "_law_sum", .glo "_law_draw"]
def faD2 : List He.Fa := [.glo "_law_number", .glo "_law_box", .glo "_law_at", .glo "law", .glo "Layers", .glo "NOUGHT_fractions", .glo "UNIT", .glo "NOUGHT_boxes", .glo "NOUGHT_layers", .free "len", .free "abs", .free "max", .free "min", .free "sum", .free "int", .free "tuple", .free "list", .free "dict", .free "sorted", .free "range", .free "zip", .free "enumerate", .int "MOST_DEGREE" 16, .int "MOST_TERMS" 500, .cls "Layers", .mkr "Layers", .meth "Layers" "lowest", .meth "Layers" "keep", .noat "Layers" "one", .noat "Layers" "limit"]
def faD3 : List He.Fa := [.noat "Layers" "left", .noat "Layers" "done", .noat "Layers" "depth"]
def faD : List He.Fa := faD0 ++ faD1 ++ faD2 ++ faD3
def tpD : List (Str × List He.Dv) := [("NOUGHT_fractions", [.int 0, .int 1]), ("UNIT", [.int 1, .int 1]), ("NOUGHT_boxes", [.int 0, .int 1]), ("NOUGHT_layers", [.int 0, .int 1])]
def nmD0 : List PySem.Str := ["LowwaterError", "NoQuotient", "TooGreat", "NotStraight", "TooMany", "NOUGHT_fractions", "UNIT", "common_measure", "lowest_terms", "added", "less", "multiplied", "divided", "turned", "beside", "MOST_DEGREE", "MOST_TERMS", "degree", "sum_of", "bounded", "plus", "multiplied_out", "scaled", "power_of", "worth", "put_from", "put_in", "choose", "NOUGHT_boxes", "HALF"]
def nmD1 : List PySem.Str := ["moved_letter", "greatest_powers", "all_powers", "mixed_letter", "box_numbers", "cut_box", "is_borne", "bears_tree", "NOUGHT_layers", "MOST_LAYERS", "corners", "least_number", "Layers", "tree_of", "never_in", "nearly_in", "raised", "is_nearly_in", "need_straight", "numbers_of", "unit_weights", "rim_rows", "blended", "joined", "put_out", "systems_of", "bad_row", "bound_of", "greatest_of", "number_for"]
def nmD2 : List PySem.Str := ["spot_by", "shares", "kept", "over", "with_worth", "least_row", "number_of", "without_first", "way_down", "reach", "_law_draw", "_law_low", "_law_plus", "_law_mul", "_law_like", "_law_put", "_law_added", "_law_product", "_law_scaled", "_law_same", "_law_at", "_law_sum", "_law_more", "_law_is_number", "_law_number", "_law_box", "_law_under"]
def nmD : List PySem.Str := nmD0 ++ nmD1 ++ nmD2
abbrev RowL : PySem.W.OpenRow := PySem.W.OpenLaw.row PySem.Challenge.rw_lowwater_k76_whole_straight_sums_in_boxe
abbrev hkL : PySem.W.Hook := hookT 4 faD fnD tpD
def obL (s : PySem.W.SharedT) : Bool × He.AlD := obsT 4 faD fnD tpD (HandSHeadRun.getT s)
theorem obL_eq (s : PySem.W.SharedT) : obL s = hkL.obs s.abs := congrArg (obsT 4 faD fnD tpD) (funext (HandSHeadRun.getT_eq s))
set_option maxHeartbeats 0 in
theorem runL (w : World) : HandSHeadRun.RunEq RowL (PySem.W.view RowL.prog [96]) hkL obL 6000 nmD w := by
  intro os
  kernel_rfl
end Lw
namespace Lw
open PySem PySem.Spec PyProof.Rows L2
theorem kt_of {K : PySem.W.Frag} {mg : Str → Option Value} {x : Str} {i j : Int} (g : mg x = some (.ref (He.ga K x))) (h : He.tupB K x [.int i, .int j] = true) : Kt K mg x [.int i, .int j] :=
  ⟨He.ga K x, g, fun H => rep_tup.mpr ⟨_, _, rfl, He.tupB_ok h H, repL_ints [i, j]⟩⟩
set_option maxHeartbeats 0 in
theorem factsL {P : Program} {w : World} {K : PySem.W.Frag} {h : Heap} {mg : Str → Option Value} {f : Addr} (X : K.In h) (G : h.Ns mainGlobals mg) (hfa : mg ("law" : Str) = some (.ref f)) (c : He.SaysD faD fnD K) (ct : tupsOk tpD K = true) :
    ∃ fd : FuncData, (∀ (s : Shared) (v : Value), BindsTo s fd ⟨[v], []⟩ [("script", v)]) ∧ ∀ base : Heap, FnOk P w K mg base CX0 15 f fd ["script"] (spLaw K) := by
  have B : Bl mg := ⟨He.free_ok X G (c.fact 69 (f := .free "len") rfl), He.free_ok X G (c.fact 70 (f := .free "abs") rfl), He.free_ok X G (c.fact 71 (f := .free "max") rfl), He.free_ok X G (c.fact 72 (f := .free "min") rfl), He.free_ok X G (c.fact 73 (f := .free "sum") rfl), He.free_ok X G (c.fact 74 (f := .free "int") rfl), He.free_ok X G (c.fact 75 (f := .free "tuple") rfl), He.free_ok X G (c.fact 76 (f := .free "list") rfl), He.free_ok X G (c.fact 77 (f := .free "dict") rfl), He.free_ok X G (c.fact 78 (f := .free "sorted") rfl), He.free_ok X G (c.fact 79 (f := .free "range") rfl), He.free_ok X G (c.fact 80 (f := .free "zip") rfl), He.free_ok X G (c.fact 81 (f := .free "enumerate") rfl)⟩
  have T_MD := He.int_ok X G (c.fact 82 (f := .int "MOST_DEGREE" 16) rfl)
  have T_MT := He.int_ok X G (c.fact 83 (f := .int "MOST_TERMS" 500) rfl)
  have hts := List.all_eq_true.mp ct
  have T_NOUGHT_fractions : KtQ K mg "NOUGHT_fractions" 0 := kt_of (i := 0) (j := 1) (He.glo_ok X G (c.fact 65 (f := .glo "NOUGHT_fractions") rfl)) (hts ("NOUGHT_fractions", [.int 0, .int 1]) (List.mem_of_getElem? (i := 0) rfl))
  have T_UNIT : KtQ K mg "UNIT" 1 := kt_of (i := 1) (j := 1) (He.glo_ok X G (c.fact 66 (f := .glo "UNIT") rfl)) (hts ("UNIT", [.int 1, .int 1]) (List.mem_of_getElem? (i := 1) rfl))
  have T_NOUGHT_boxes : KtQ K mg "NOUGHT_boxes" 0 := kt_of (i := 0) (j := 1) (He.glo_ok X G (c.fact 67 (f := .glo "NOUGHT_boxes") rfl)) (hts ("NOUGHT_boxes", [.int 0, .int 1]) (List.mem_of_getElem? (i := 2) rfl))
  have T_NOUGHT_layers : KtQ K mg "NOUGHT_layers" 0 := kt_of (i := 0) (j := 1) (He.glo_ok X G (c.fact 68 (f := .glo "NOUGHT_layers") rfl)) (hts ("NOUGHT_layers", [.int 0, .int 1]) (List.mem_of_getElem? (i := 3) rfl))
  have gL := He.glo_ok X G (c.fact 64 (f := .glo "Layers") rfl)
  have T : LayC K (He.ga K "Layers") := ⟨He.cls_ok (c.fact 84 (f := .cls "Layers") rfl), He.noat_ok (c.fact 88 (f := .noat "Layers" "one") rfl), He.noat_ok (c.fact 89 (f := .noat "Layers" "limit") rfl), He.noat_ok (c.fact 90 (f := .noat "Layers" "left") rfl), He.noat_ok (c.fact 91 (f := .noat "Layers" "done") rfl), He.noat_ok (c.fact 92 (f := .noat "Layers" "depth") rfl)⟩
  obtain ⟨fd_common_measure, F_common_measure⟩ := c.def_ 0 (d := (⟨("common_measure", none), "common_measure", "common_measure", defArgs st_common_measure, defBody st_common_measure, defScope st_common_measure, [], []⟩ : He.DefD)) rfl
  obtain ⟨fd_lowest_terms, F_lowest_terms⟩ := c.def_ 1 (d := (⟨("lowest_terms", none), "lowest_terms", "lowest_terms", defArgs st_lowest_terms, defBody st_lowest_terms, defScope st_lowest_terms, [], []⟩ : He.DefD)) rfl
  obtain ⟨fd_added, F_added⟩ := c.def_ 2 (d := (⟨("added", none), "added", "added", defArgs st_added, defBody st_added, defScope st_added, [], []⟩ : He.DefD)) rfl
  obtain ⟨fd_less, F_less⟩ := c.def_ 3 (d := (⟨("less", none), "less", "less", defArgs st_less, defBody st_less, defScope st_less, [], []⟩ : He.DefD)) rfl
  obtain ⟨fd_multiplied, F_multiplied⟩ := c.def_ 4 (d := (⟨("multiplied", none), "multiplied", "multiplied", defArgs st_multiplied, defBody st_multiplied, defScope st_multiplied, [], []⟩ : He.DefD)) rfl
  obtain ⟨fd_divided, F_divided⟩ := c.def_ 5 (d := (⟨("divided", none), "divided", "divided", defArgs st_divided, defBody st_divided, defScope st_divided, [], []⟩ : He.DefD)) rfl
  obtain ⟨fd_turned, F_turned⟩ := c.def_ 6 (d := (⟨("turned", none), "turned", "turned", defArgs st_turned, defBody st_turned, defScope st_turned, [], []⟩ : He.DefD)) rfl
  obtain ⟨fd_beside, F_beside⟩ := c.def_ 7 (d := (⟨("beside", none), "beside", "beside", defArgs st_beside, defBody st_beside, defScope st_beside, [], []⟩ : He.DefD)) rfl
  obtain ⟨fd_degree, F_degree⟩ := c.def_ 8 (d := (⟨("degree", none), "degree", "degree", defArgs st_degree, defBody st_degree, defScope st_degree, [], []⟩ : He.DefD)) rfl
  obtain ⟨fd_need_straight, F_need_straight⟩ := c.def_ 9 (d := (⟨("need_straight", none), "need_straight", "need_straight", defArgs st_need_straight, defBody st_need_straight, defScope st_need_straight, [], []⟩ : He.DefD)) rfl
  obtain ⟨fd_numbers_of, F_numbers_of⟩ := c.def_ 10 (d := (⟨("numbers_of", none), "numbers_of", "numbers_of", defArgs st_numbers_of, defBody st_numbers_of, defScope st_numbers_of, [], []⟩ : He.DefD)) rfl
  obtain ⟨fd_unit_weights, F_unit_weights⟩ := c.def_ 11 (d := (⟨("unit_weights", none), "unit_weights", "unit_weights", defArgs st_unit_weights, defBody st_unit_weights, defScope st_unit_weights, [], []⟩ : He.DefD)) rfl
  obtain ⟨fd_rim_rows, F_rim_rows⟩ := c.def_ 12 (d := (⟨("rim_rows", none), "rim_rows", "rim_rows", defArgs st_rim_rows, defBody st_rim_rows, defScope st_rim_rows, [], []⟩ : He.DefD)) rfl
  obtain ⟨fd_blended, F_blended⟩ := c.def_ 13 (d := (⟨("blended", none), "blended", "blended", defArgs st_blended, defBody st_blended, defScope st_blended, [], []⟩ : He.DefD)) rfl
  obtain ⟨fd_joined, F_joined⟩ := c.def_ 14 (d := (⟨("joined", none), "joined", "joined", defArgs st_joined, defBody st_joined, defScope st_joined, [], []⟩ : He.DefD)) rfl
  obtain ⟨fd_put_out, F_put_out⟩ := c.def_ 15 (d := (⟨("put_out", none), "put_out", "put_out", defArgs st_put_out, defBody st_put_out, defScope st_put_out, [], []⟩ : He.DefD)) rfl
  obtain ⟨fd_systems_of, F_systems_of⟩ := c.def_ 16 (d := (⟨("systems_of", none), "systems_of", "systems_of", defArgs st_systems_of, defBody st_systems_of, defScope st_systems_of, [], []⟩ : He.DefD)) rfl
  obtain ⟨fd_bad_row, F_bad_row⟩ := c.def_ 17 (d := (⟨("bad_row", none), "bad_row", "bad_row", defArgs st_bad_row, defBody st_bad_row, defScope st_bad_row, [], []⟩ : He.DefD)) rfl
  obtain ⟨fd_bound_of, F_bound_of⟩ := c.def_ 18 (d := (⟨("bound_of", none), "bound_of", "bound_of", defArgs st_bound_of, defBody st_bound_of, defScope st_bound_of, [], []⟩ : He.DefD)) rfl
  obtain ⟨fd_greatest_of, F_greatest_of⟩ := c.def_ 19 (d := (⟨("greatest_of", none), "greatest_of", "greatest_of", defArgs st_greatest_of, defBody st_greatest_of, defScope st_greatest_of, [], []⟩ : He.DefD)) rfl
  obtain ⟨fd_number_for, F_number_for⟩ := c.def_ 20 (d := (⟨("number_for", none), "number_for", "number_for", defArgs st_number_for, defBody st_number_for, defScope st_number_for, [], []⟩ : He.DefD)) rfl
  obtain ⟨fd_shares, F_shares⟩ := c.def_ 21 (d := (⟨("shares", none), "shares", "shares", defArgs st_shares, defBody st_shares, defScope st_shares, [], []⟩ : He.DefD)) rfl
  obtain ⟨fd_spot_by, F_spot_by⟩ := c.def_ 22 (d := (⟨("spot_by", none), "spot_by", "spot_by", defArgs st_spot_by, defBody st_spot_by, defScope st_spot_by, [], []⟩ : He.DefD)) rfl
  obtain ⟨fd_kept, F_kept⟩ := c.def_ 23 (d := (⟨("kept", none), "kept", "kept", defArgs st_kept, defBody st_kept, defScope st_kept, [], []⟩ : He.DefD)) rfl
  obtain ⟨fd_over, F_over⟩ := c.def_ 24 (d := (⟨("over", none), "over", "over", defArgs st_over, defBody st_over, defScope st_over, [], []⟩ : He.DefD)) rfl
  obtain ⟨fd_with_worth, F_with_worth⟩ := c.def_ 25 (d := (⟨("with_worth", none), "with_worth", "with_worth", defArgs st_with_worth, defBody st_with_worth, defScope st_with_worth, [], []⟩ : He.DefD)) rfl
  obtain ⟨fd_number_of, F_number_of⟩ := c.def_ 26 (d := (⟨("number_of", none), "number_of", "number_of", defArgs st_number_of, defBody st_number_of, defScope st_number_of, [], []⟩ : He.DefD)) rfl
  obtain ⟨fd_least_row, F_least_row⟩ := c.def_ 27 (d := (⟨("least_row", none), "least_row", "least_row", defArgs st_least_row, defBody st_least_row, defScope st_least_row, [], []⟩ : He.DefD)) rfl
  obtain ⟨fd_reach, F_reach⟩ := c.def_ 28 (d := (⟨("reach", none), "reach", "reach", defArgs st_reach, defBody st_reach, defScope st_reach, [], []⟩ : He.DefD)) rfl
  obtain ⟨fd_sum_of, F_sum_of⟩ := c.def_ 29 (d := (⟨("sum_of", none), "sum_of", "sum_of", defArgs st_sum_of, defBody st_sum_of, defScope st_sum_of, [], []⟩ : He.DefD)) rfl
  obtain ⟨fd_bounded, F_bounded⟩ := c.def_ 30 (d := (⟨("bounded", none), "bounded", "bounded", defArgs st_bounded, defBody st_bounded, defScope st_bounded, [], []⟩ : He.DefD)) rfl
  obtain ⟨fd_plus, F_plus⟩ := c.def_ 31 (d := (⟨("plus", none), "plus", "plus", defArgs st_plus, defBody st_plus, defScope st_plus, [], []⟩ : He.DefD)) rfl
  obtain ⟨fd_multiplied_out, F_multiplied_out⟩ := c.def_ 32 (d := (⟨("multiplied_out", none), "multiplied_out", "multiplied_out", defArgs st_multiplied_out, defBody st_multiplied_out, defScope st_multiplied_out, [], []⟩ : He.DefD)) rfl
  obtain ⟨fd_put_from, F_put_from⟩ := c.def_ 33 (d := (⟨("put_from", none), "put_from", "put_from", defArgs st_put_from, defBody st_put_from, defScope st_put_from, [], []⟩ : He.DefD)) rfl
  obtain ⟨fd_power_of, F_power_of⟩ := c.def_ 34 (d := (⟨("power_of", none), "power_of", "power_of", defArgs st_power_of, defBody st_power_of, defScope st_power_of, [], []⟩ : He.DefD)) rfl
  obtain ⟨fd_worth, F_worth⟩ := c.def_ 35 (d := (⟨("worth", none), "worth", "worth", defArgs st_worth, defBody st_worth, defScope st_worth, [], []⟩ : He.DefD)) rfl
  obtain ⟨fd_put_in, F_put_in⟩ := c.def_ 36 (d := (⟨("put_in", none), "put_in", "put_in", defArgs st_put_in, defBody st_put_in, defScope st_put_in, [], []⟩ : He.DefD)) rfl
  obtain ⟨fd_choose, F_choose⟩ := c.def_ 37 (d := (⟨("choose", none), "choose", "choose", defArgs st_choose, defBody st_choose, defScope st_choose, [], []⟩ : He.DefD)) rfl
  obtain ⟨fd_moved_letter, F_moved_letter⟩ := c.def_ 38 (d := (⟨("moved_letter", none), "moved_letter", "moved_letter", defArgs st_moved_letter, defBody st_moved_letter, defScope st_moved_letter, [], []⟩ : He.DefD)) rfl
  obtain ⟨fd_greatest_powers, F_greatest_powers⟩ := c.def_ 39 (d := (⟨("greatest_powers", none), "greatest_powers", "greatest_powers", defArgs st_greatest_powers, defBody st_greatest_powers, defScope st_greatest_powers, [], []⟩ : He.DefD)) rfl
  obtain ⟨fd_all_powers, F_all_powers⟩ := c.def_ 40 (d := (⟨("all_powers", none), "all_powers", "all_powers", defArgs st_all_powers, defBody st_all_powers, defScope st_all_powers, [], []⟩ : He.DefD)) rfl
  obtain ⟨fd_mixed_letter, F_mixed_letter⟩ := c.def_ 41 (d := (⟨("mixed_letter", none), "mixed_letter", "mixed_letter", defArgs st_mixed_letter, defBody st_mixed_letter, defScope st_mixed_letter, [], []⟩ : He.DefD)) rfl
  obtain ⟨fd_box_numbers, F_box_numbers⟩ := c.def_ 42 (d := (⟨("box_numbers", none), "box_numbers", "box_numbers", defArgs st_box_numbers, defBody st_box_numbers, defScope st_box_numbers, [], []⟩ : He.DefD)) rfl
  obtain ⟨fd_is_borne, F_is_borne⟩ := c.def_ 43 (d := (⟨("is_borne", none), "is_borne", "is_borne", defArgs st_is_borne, defBody st_is_borne, defScope st_is_borne, [], []⟩ : He.DefD)) rfl
  obtain ⟨fd_bears_tree, F_bears_tree⟩ := c.def_ 44 (d := (⟨("bears_tree", none), "bears_tree", "bears_tree", defArgs st_bears_tree, defBody st_bears_tree, defScope st_bears_tree, [], []⟩ : He.DefD)) rfl
  obtain ⟨fd_corners, F_corners⟩ := c.def_ 45 (d := (⟨("corners", none), "corners", "corners", defArgs st_corners, defBody st_corners, defScope st_corners, [], []⟩ : He.DefD)) rfl
  obtain ⟨fd_least_number, F_least_number⟩ := c.def_ 46 (d := (⟨("least_number", none), "least_number", "least_number", defArgs st_least_number, defBody st_least_number, defScope st_least_number, [], []⟩ : He.DefD)) rfl
  obtain ⟨fd_tree_of, F_tree_of⟩ := c.def_ 47 (d := (⟨("tree_of", none), "tree_of", "tree_of", defArgs st_tree_of, defBody st_tree_of, defScope st_tree_of, [], []⟩ : He.DefD)) rfl
  obtain ⟨fd_raised, F_raised⟩ := c.def_ 48 (d := (⟨("raised", none), "raised", "raised", defArgs st_raised, defBody st_raised, defScope st_raised, [], []⟩ : He.DefD)) rfl
  obtain ⟨fd_is_nearly_in, F_is_nearly_in⟩ := c.def_ 49 (d := (⟨("is_nearly_in", none), "is_nearly_in", "is_nearly_in", defArgs st_is_nearly_in, defBody st_is_nearly_in, defScope st_is_nearly_in, [], []⟩ : He.DefD)) rfl
  obtain ⟨fd_init, F_init⟩ := c.def_ 50 (d := (⟨("Layers", some "__init__"), "__init__", "Layers.__init__", defArgs st_Layers___init__, defBody st_Layers___init__, defScope st_Layers___init__, [], []⟩ : He.DefD)) rfl
  obtain ⟨fd_lowest, F_lowest⟩ := c.def_ 51 (d := (⟨("Layers", some "lowest"), "lowest", "Layers.lowest", defArgs st_Layers_lowest, defBody st_Layers_lowest, defScope st_Layers_lowest, [], []⟩ : He.DefD)) rfl
  obtain ⟨fd_keep, F_keep⟩ := c.def_ 52 (d := (⟨("Layers", some "keep"), "keep", "Layers.keep", defArgs st_Layers_keep, defBody st_Layers_keep, defScope st_Layers_keep, [], []⟩ : He.DefD)) rfl
  obtain ⟨fd_never_in, F_never_in⟩ := c.def_ 53 (d := (⟨("never_in", none), "never_in", "never_in", defArgs st_never_in, defBody st_never_in, defScope st_never_in, [.int 20], []⟩ : He.DefD)) rfl
  obtain ⟨fd_nearly_in, F_nearly_in⟩ := c.def_ 54 (d := (⟨("nearly_in", none), "nearly_in", "nearly_in", defArgs st_nearly_in, defBody st_nearly_in, defScope st_nearly_in, [.int 20], []⟩ : He.DefD)) rfl
  obtain ⟨fd__law_mul, F__law_mul⟩ := c.def_ 55 (d := (⟨("_law_mul", none), "_law_mul", "_law_mul", defArgs st__law_mul, defBody st__law_mul, defScope st__law_mul, [], []⟩ : He.DefD)) rfl
  obtain ⟨fd__law_plus, F__law_plus⟩ := c.def_ 56 (d := (⟨("_law_plus", none), "_law_plus", "_law_plus", defArgs st__law_plus, defBody st__law_plus, defScope st__law_plus, [], []⟩ : He.DefD)) rfl
  obtain ⟨fd__law_under, F__law_under⟩ := c.def_ 57 (d := (⟨("_law_under", none), "_law_under", "_law_under", defArgs st__law_under, defBody st__law_under, defScope st__law_under, [], []⟩ : He.DefD)) rfl
  obtain ⟨fd__law_more, F__law_more⟩ := c.def_ 58 (d := (⟨("_law_more", none), "_law_more", "_law_more", defArgs st__law_more, defBody st__law_more, defScope st__law_more, [], []⟩ : He.DefD)) rfl
  obtain ⟨fd__law_low, F__law_low⟩ := c.def_ 59 (d := (⟨("_law_low", none), "_law_low", "_law_low", defArgs st__law_low, defBody st__law_low, defScope st__law_low, [], []⟩ : He.DefD)) rfl
  obtain ⟨fd__law_put, F__law_put⟩ := c.def_ 60 (d := (⟨("_law_put", none), "_law_put", "_law_put", defArgs st__law_put, defBody st__law_put, defScope st__law_put, [], []⟩ : He.DefD)) rfl
  obtain ⟨fd__law_sum, F__law_sum⟩ := c.def_ 61 (d := (⟨("_law_sum", none), "_law_sum", "_law_sum", defArgs st__law_sum, defBody st__law_sum, defScope st__law_sum, [], []⟩ : He.DefD)) rfl
  obtain ⟨fd__law_draw, F__law_draw⟩ := c.def_ 62 (d := (⟨("_law_draw", none), "_law_draw", "_law_draw", defArgs st__law_draw, defBody st__law_draw, defScope st__law_draw, [], []⟩ : He.DefD)) rfl
  obtain ⟨fd__law_number, F__law_number⟩ := c.def_ 63 (d := (⟨("_law_number", none), "_law_number", "_law_number", defArgs st__law_number, defBody st__law_number, defScope st__law_number, [], []⟩ : He.DefD)) rfl
  obtain ⟨fd__law_box, F__law_box⟩ := c.def_ 64 (d := (⟨("_law_box", none), "_law_box", "_law_box", defArgs st__law_box, defBody st__law_box, defScope st__law_box, [], []⟩ : He.DefD)) rfl
  obtain ⟨fd__law_at, F__law_at⟩ := c.def_ 65 (d := (⟨("_law_at", none), "_law_at", "_law_at", defArgs st__law_at, defBody st__law_at, defScope st__law_at, [], []⟩ : He.DefD)) rfl
  obtain ⟨fd_law, F_law⟩ := c.def_ 66 (d := (⟨("law", none), "law", "law", defArgs st_law, defBody st_law, defScope st_law, [], []⟩ : He.DefD)) rfl
  have e := hfa.symm.trans (He.glo_ok X G (c.fact 63 (f := .glo "law") rfl))
  cases e
  have bl := FunD.bindsA (ps := ["script"]) F_law fun _ _ _ _ _ _ us hl => match us, hl with | [_], _ => rfl
  refine ⟨fd_law, fun s v => bl s [v] rfl, fun base => ?_⟩
  have C_common_measure : Fc P w K mg base "common_measure" 1 ["one", "other"] (sp_common_measure K) := ⟨_, _, ok_common_measure F_common_measure, He.glo_ok X G (c.fact 0 (f := .glo "common_measure") rfl), F_common_measure.kp, F_common_measure.bindsN fun _ _ _ _ _ _ us hl => match us, hl with | [_, _], _ => rfl⟩
  have C_turned : Fc P w K mg base "turned" 1 ["one"] (sp_turned K) := ⟨_, _, ok_turned F_turned, He.glo_ok X G (c.fact 6 (f := .glo "turned") rfl), F_turned.kp, F_turned.bindsN fun _ _ _ _ _ _ us hl => match us, hl with | [_], _ => rfl⟩
  have C_beside : Fc P w K mg base "beside" 1 ["one", "other"] (sp_beside K) := ⟨_, _, ok_beside F_beside B, He.glo_ok X G (c.fact 7 (f := .glo "beside") rfl), F_beside.kp, F_beside.bindsN fun _ _ _ _ _ _ us hl => match us, hl with | [_, _], _ => rfl⟩
  have C_degree : Fc P w K mg base "degree" 1 ["one"] (sp_degree K) := ⟨_, _, ok_degree F_degree B, He.glo_ok X G (c.fact 8 (f := .glo "degree") rfl), F_degree.kp, F_degree.bindsN fun _ _ _ _ _ _ us hl => match us, hl with | [_], _ => rfl⟩
  have C_numbers_of : Fc P w K mg base "numbers_of" 1 ["one"] (sp_numbers_of K) := ⟨_, _, ok_numbers_of F_numbers_of T_NOUGHT_fractions, He.glo_ok X G (c.fact 10 (f := .glo "numbers_of") rfl), F_numbers_of.kp, F_numbers_of.bindsN fun _ _ _ _ _ _ us hl => match us, hl with | [_], _ => rfl⟩
  have C_unit_weights : Fc P w K mg base "unit_weights" 1 ["many", "at"] (sp_unit_weights K) := ⟨_, _, ok_unit_weights F_unit_weights T_NOUGHT_fractions T_UNIT, He.glo_ok X G (c.fact 11 (f := .glo "unit_weights") rfl), F_unit_weights.kp, F_unit_weights.bindsN fun _ _ _ _ _ _ us hl => match us, hl with | [_, _], _ => rfl⟩
  have C_with_worth : Fc P w K mg base "with_worth" 1 ["row", "share"] (sp_with_worth K) := ⟨_, _, ok_with_worth F_with_worth, He.glo_ok X G (c.fact 25 (f := .glo "with_worth") rfl), F_with_worth.kp, F_with_worth.bindsN fun _ _ _ _ _ _ us hl => match us, hl with | [_, _], _ => rfl⟩
  have C_sum_of : Fc P w K mg base "sum_of" 1 ["many", "found"] (sp_sum_of K) := ⟨_, _, ok_sum_of F_sum_of B, He.glo_ok X G (c.fact 29 (f := .glo "sum_of") rfl), F_sum_of.kp, F_sum_of.bindsN fun _ _ _ _ _ _ us hl => match us, hl with | [_, _], _ => rfl⟩
  have C_choose : Fc P w K mg base "choose" 1 ["many", "some"] (sp_choose K) := ⟨_, _, ok_choose F_choose B, He.glo_ok X G (c.fact 37 (f := .glo "choose") rfl), F_choose.kp, F_choose.bindsN fun _ _ _ _ _ _ us hl => match us, hl with | [_, _], _ => rfl⟩
  have C_greatest_powers : Fc P w K mg base "greatest_powers" 1 ["one"] (sp_greatest_powers K) := ⟨_, _, ok_greatest_powers F_greatest_powers B, He.glo_ok X G (c.fact 39 (f := .glo "greatest_powers") rfl), F_greatest_powers.kp, F_greatest_powers.bindsN fun _ _ _ _ _ _ us hl => match us, hl with | [_], _ => rfl⟩
  have C_all_powers : Fc P w K mg base "all_powers" 1 ["most"] (sp_all_powers K) := ⟨_, _, ok_all_powers F_all_powers B, He.glo_ok X G (c.fact 40 (f := .glo "all_powers") rfl), F_all_powers.kp, F_all_powers.bindsN fun _ _ _ _ _ _ us hl => match us, hl with | [_], _ => rfl⟩
  have C_corners : Fc P w K mg base "corners" 1 ["box"] (sp_corners K) := ⟨_, _, ok_corners F_corners, He.glo_ok X G (c.fact 45 (f := .glo "corners") rfl), F_corners.kp, F_corners.bindsN fun _ _ _ _ _ _ us hl => match us, hl with | [_], _ => rfl⟩
  have C_tree_of : Fc P w K mg base "tree_of" 1 ["ways", "many"] (sp_tree_of K) := ⟨_, _, ok_tree_of F_tree_of B, He.glo_ok X G (c.fact 47 (f := .glo "tree_of") rfl), F_tree_of.kp, F_tree_of.bindsN fun _ _ _ _ _ _ us hl => match us, hl with | [_, _], _ => rfl⟩
  have C__law_mul : Fc P w K mg base "_law_mul" 1 ["one", "other"] (sp__law_mul K) := ⟨_, _, ok__law_mul F__law_mul, He.glo_ok X G (c.fact 52 (f := .glo "_law_mul") rfl), F__law_mul.kp, F__law_mul.bindsN fun _ _ _ _ _ _ us hl => match us, hl with | [_, _], _ => rfl⟩
  have C__law_plus : Fc P w K mg base "_law_plus" 1 ["one", "other"] (sp__law_plus K) := ⟨_, _, ok__law_plus F__law_plus, He.glo_ok X G (c.fact 53 (f := .glo "_law_plus") rfl), F__law_plus.kp, F__law_plus.bindsN fun _ _ _ _ _ _ us hl => match us, hl with | [_, _], _ => rfl⟩
  have C__law_under : Fc P w K mg base "_law_under" 1 ["one", "other"] (sp__law_under K) := ⟨_, _, ok__law_under F__law_under, He.glo_ok X G (c.fact 54 (f := .glo "_law_under") rfl), F__law_under.kp, F__law_under.bindsN fun _ _ _ _ _ _ us hl => match us, hl with | [_, _], _ => rfl⟩
  have C__law_low : Fc P w K mg base "_law_low" 1 ["top", "bottom"] (sp__law_low K) := ⟨_, _, ok__law_low F__law_low B, He.glo_ok X G (c.fact 56 (f := .glo "_law_low") rfl), F__law_low.kp, F__law_low.bindsN fun _ _ _ _ _ _ us hl => match us, hl with | [_, _], _ => rfl⟩
  have C__law_draw : Fc P w K mg base "_law_draw" 1 ["tape", "many"] (sp__law_draw K) := ⟨_, _, ok__law_draw F__law_draw B, He.glo_ok X G (c.fact 59 (f := .glo "_law_draw") rfl), F__law_draw.kp, F__law_draw.bindsN fun _ _ _ _ _ _ us hl => match us, hl with | [_, _], _ => rfl⟩
  have C_lowest_terms : Fc P w K mg base "lowest_terms" 2 ["top", "bottom"] (sp_lowest_terms K) := ⟨_, _, ok_lowest_terms F_lowest_terms B C_common_measure, He.glo_ok X G (c.fact 1 (f := .glo "lowest_terms") rfl), F_lowest_terms.kp, F_lowest_terms.bindsN fun _ _ _ _ _ _ us hl => match us, hl with | [_, _], _ => rfl⟩
  have C_need_straight : Fc P w K mg base "need_straight" 2 ["some"] (sp_need_straight K) := ⟨_, _, ok_need_straight F_need_straight C_degree, He.glo_ok X G (c.fact 9 (f := .glo "need_straight") rfl), F_need_straight.kp, F_need_straight.bindsN fun _ _ _ _ _ _ us hl => match us, hl with | [_], _ => rfl⟩
  have C_rim_rows : Fc P w K mg base "rim_rows" 2 ["rims"] (sp_rim_rows K) := ⟨_, _, ok_rim_rows F_rim_rows B C_numbers_of C_unit_weights, He.glo_ok X G (c.fact 12 (f := .glo "rim_rows") rfl), F_rim_rows.kp, F_rim_rows.bindsN fun _ _ _ _ _ _ us hl => match us, hl with | [_], _ => rfl⟩
  have C_bad_row : Fc P w K mg base "bad_row" 2 ["rows"] (sp_bad_row K) := ⟨_, _, ok_bad_row F_bad_row B T_NOUGHT_fractions C_beside, He.glo_ok X G (c.fact 17 (f := .glo "bad_row") rfl), F_bad_row.kp, F_bad_row.bindsN fun _ _ _ _ _ _ us hl => match us, hl with | [_], _ => rfl⟩
  have C_greatest_of : Fc P w K mg base "greatest_of" 2 ["numbers"] (sp_greatest_of K) := ⟨_, _, ok_greatest_of F_greatest_of C_beside, He.glo_ok X G (c.fact 19 (f := .glo "greatest_of") rfl), F_greatest_of.kp, F_greatest_of.bindsN fun _ _ _ _ _ _ us hl => match us, hl with | [_], _ => rfl⟩
  have C_bounded : Fc P w K mg base "bounded" 2 ["many", "found"] (sp_bounded K) := ⟨_, _, ok_bounded F_bounded B T_MD T_MT C_sum_of C_degree, He.glo_ok X G (c.fact 30 (f := .glo "bounded") rfl), F_bounded.kp, F_bounded.bindsN fun _ _ _ _ _ _ us hl => match us, hl with | [_, _], _ => rfl⟩
  have C_least_number : Fc P w K mg base "least_number" 2 ["some"] (sp_least_number K) := ⟨_, _, ok_least_number F_least_number C_beside, He.glo_ok X G (c.fact 46 (f := .glo "least_number") rfl), F_least_number.kp, F_least_number.bindsN fun _ _ _ _ _ _ us hl => match us, hl with | [_], _ => rfl⟩
  have C__law_more : Fc P w K mg base "_law_more" 2 ["one", "other"] (sp__law_more K) := ⟨_, _, ok__law_more F__law_more C__law_plus C__law_low, He.glo_ok X G (c.fact 55 (f := .glo "_law_more") rfl), F__law_more.kp, F__law_more.bindsN fun _ _ _ _ _ _ us hl => match us, hl with | [_, _], _ => rfl⟩
  have C__law_put : Fc P w K mg base "_law_put" 2 ["found", "powers", "number"] (sp__law_put K) := ⟨_, _, ok__law_put F__law_put B C__law_plus, He.glo_ok X G (c.fact 57 (f := .glo "_law_put") rfl), F__law_put.kp, F__law_put.bindsN fun _ _ _ _ _ _ us hl => match us, hl with | [_, _, _], _ => rfl⟩
  have C__law_sum : Fc P w K mg base "_law_sum" 2 ["many", "one"] (sp__law_sum K) := ⟨_, _, ok__law_sum F__law_sum B C__law_low, He.glo_ok X G (c.fact 58 (f := .glo "_law_sum") rfl), F__law_sum.kp, F__law_sum.bindsN fun _ _ _ _ _ _ us hl => match us, hl with | [_, _], _ => rfl⟩
  have C__law_number : Fc P w K mg base "_law_number" 2 ["tape"] (sp__law_number K) := ⟨_, _, ok__law_number F__law_number B C__law_draw C__law_low, He.glo_ok X G (c.fact 60 (f := .glo "_law_number") rfl), F__law_number.kp, F__law_number.bindsN fun _ _ _ _ _ _ us hl => match us, hl with | [_], _ => rfl⟩
  have C__law_at : Fc P w K mg base "_law_at" 2 ["one", "spot"] (sp__law_at K) := ⟨_, _, ok__law_at F__law_at B C__law_plus C__law_mul, He.glo_ok X G (c.fact 62 (f := .glo "_law_at") rfl), F__law_at.kp, F__law_at.bindsN fun _ _ _ _ _ _ us hl => match us, hl with | [_, _], _ => rfl⟩
  have C_added : Fc P w K mg base "added" 3 ["one", "other"] (sp_added K) := ⟨_, _, ok_added F_added C_lowest_terms, He.glo_ok X G (c.fact 2 (f := .glo "added") rfl), F_added.kp, F_added.bindsN fun _ _ _ _ _ _ us hl => match us, hl with | [_, _], _ => rfl⟩
  have C_less : Fc P w K mg base "less" 3 ["one", "other"] (sp_less K) := ⟨_, _, ok_less F_less C_lowest_terms, He.glo_ok X G (c.fact 3 (f := .glo "less") rfl), F_less.kp, F_less.bindsN fun _ _ _ _ _ _ us hl => match us, hl with | [_, _], _ => rfl⟩
  have C_multiplied : Fc P w K mg base "multiplied" 3 ["one", "other"] (sp_multiplied K) := ⟨_, _, ok_multiplied F_multiplied C_lowest_terms, He.glo_ok X G (c.fact 4 (f := .glo "multiplied") rfl), F_multiplied.kp, F_multiplied.bindsN fun _ _ _ _ _ _ us hl => match us, hl with | [_, _], _ => rfl⟩
  have C_divided : Fc P w K mg base "divided" 3 ["one", "other"] (sp_divided K) := ⟨_, _, ok_divided F_divided C_lowest_terms, He.glo_ok X G (c.fact 5 (f := .glo "divided") rfl), F_divided.kp, F_divided.bindsN fun _ _ _ _ _ _ us hl => match us, hl with | [_, _], _ => rfl⟩
  have C__law_box : Fc P w K mg base "_law_box" 3 ["tape", "many"] (sp__law_box K) := ⟨_, _, ok__law_box F__law_box B C__law_number C__law_low C__law_more, He.glo_ok X G (c.fact 61 (f := .glo "_law_box") rfl), F__law_box.kp, F__law_box.bindsN fun _ _ _ _ _ _ us hl => match us, hl with | [_, _], _ => rfl⟩
  have C_blended : Fc P w K mg base "blended" 4 ["ones", "others", "factor", "other_factor"] (sp_blended K) := ⟨_, _, ok_blended F_blended B C_added C_multiplied, He.glo_ok X G (c.fact 13 (f := .glo "blended") rfl), F_blended.kp, F_blended.bindsN fun _ _ _ _ _ _ us hl => match us, hl with | [_, _, _, _], _ => rfl⟩
  have C_bound_of : Fc P w K mg base "bound_of" 4 ["row", "letter", "spot"] (sp_bound_of K) := ⟨_, _, ok_bound_of F_bound_of B C_added C_multiplied C_turned C_divided, He.glo_ok X G (c.fact 18 (f := .glo "bound_of") rfl), F_bound_of.kp, F_bound_of.bindsN fun _ _ _ _ _ _ us hl => match us, hl with | [_, _, _], _ => rfl⟩
  have C_shares : Fc P w K mg base "shares" 4 ["weights", "whole"] (sp_shares K) := ⟨_, _, ok_shares F_shares C_divided, He.glo_ok X G (c.fact 21 (f := .glo "shares") rfl), F_shares.kp, F_shares.bindsN fun _ _ _ _ _ _ us hl => match us, hl with | [_, _], _ => rfl⟩
  have C_number_of : Fc P w K mg base "number_of" 4 ["row"] (sp_number_of K) := ⟨_, _, ok_number_of F_number_of C_turned C_divided, He.glo_ok X G (c.fact 26 (f := .glo "number_of") rfl), F_number_of.kp, F_number_of.bindsN fun _ _ _ _ _ _ us hl => match us, hl with | [_], _ => rfl⟩
  have C_plus : Fc P w K mg base "plus" 4 ["one", "other"] (sp_plus K) := ⟨_, _, ok_plus F_plus B T_NOUGHT_fractions C_added C_bounded, He.glo_ok X G (c.fact 31 (f := .glo "plus") rfl), F_plus.kp, F_plus.bindsN fun _ _ _ _ _ _ us hl => match us, hl with | [_, _], _ => rfl⟩
  have C_multiplied_out : Fc P w K mg base "multiplied_out" 4 ["some", "others"] (sp_multiplied_out K) := ⟨_, _, ok_multiplied_out F_multiplied_out B T_NOUGHT_fractions C_added C_multiplied, He.glo_ok X G (c.fact 32 (f := .glo "multiplied_out") rfl), F_multiplied_out.kp, F_multiplied_out.bindsN fun _ _ _ _ _ _ us hl => match us, hl with | [_, _], _ => rfl⟩
  have C_power_of : Fc P w K mg base "power_of" 4 ["number", "power"] (sp_power_of K) := ⟨_, _, ok_power_of F_power_of B T_UNIT C_multiplied, He.glo_ok X G (c.fact 34 (f := .glo "power_of") rfl), F_power_of.kp, F_power_of.bindsN fun _ _ _ _ _ _ us hl => match us, hl with | [_, _], _ => rfl⟩
  have C_moved_letter : Fc P w K mg base "moved_letter" 4 ["many", "letter", "low", "high"] (sp_moved_letter K) := ⟨_, _, ok_moved_letter F_moved_letter B T_NOUGHT_boxes C_less, He.glo_ok X G (c.fact 38 (f := .glo "moved_letter") rfl), F_moved_letter.kp, F_moved_letter.bindsN fun _ _ _ _ _ _ us hl => match us, hl with | [_, _, _, _], _ => rfl⟩
  have C_mixed_letter : Fc P w K mg base "mixed_letter" 4 ["table", "most", "letter"] (sp_mixed_letter K) := ⟨_, _, ok_mixed_letter F_mixed_letter B T_NOUGHT_boxes C_added C_multiplied C_divided C_choose, He.glo_ok X G (c.fact 41 (f := .glo "mixed_letter") rfl), F_mixed_letter.kp, F_mixed_letter.bindsN fun _ _ _ _ _ _ us hl => match us, hl with | [_, _, _], _ => rfl⟩
  have C_joined : Fc P w K mg base "joined" 5 ["one", "other", "letter"] (sp_joined K) := ⟨_, _, ok_joined F_joined C_turned C_blended, He.glo_ok X G (c.fact 14 (f := .glo "joined") rfl), F_joined.kp, F_joined.bindsN fun _ _ _ _ _ _ us hl => match us, hl with | [_, _, _], _ => rfl⟩
  have C_number_for : Fc P w K mg base "number_for" 5 ["rows", "letter", "spot"] (sp_number_for K) := ⟨_, _, ok_number_for F_number_for B T_NOUGHT_fractions T_UNIT C_beside C_bound_of C_greatest_of C_turned C_less C_added C_divided, He.glo_ok X G (c.fact 20 (f := .glo "number_for") rfl), F_number_for.kp, F_number_for.bindsN fun _ _ _ _ _ _ us hl => match us, hl with | [_, _, _], _ => rfl⟩
  have C_least_row : Fc P w K mg base "least_row" 5 ["rows"] (sp_least_row K) := ⟨_, _, ok_least_row F_least_row T_NOUGHT_fractions C_beside C_number_of, He.glo_ok X G (c.fact 27 (f := .glo "least_row") rfl), F_least_row.kp, F_least_row.bindsN fun _ _ _ _ _ _ us hl => match us, hl with | [_], _ => rfl⟩
  have C_worth : Fc P w K mg base "worth" 5 ["one", "spot"] (sp_worth K) := ⟨_, _, ok_worth F_worth B T_NOUGHT_fractions C_added C_multiplied C_power_of, He.glo_ok X G (c.fact 35 (f := .glo "worth") rfl), F_worth.kp, F_worth.bindsN fun _ _ _ _ _ _ us hl => match us, hl with | [_, _], _ => rfl⟩
  have C_raised : Fc P w K mg base "raised" 5 ["one", "number"] (sp_raised K) := ⟨_, _, ok_raised F_raised B T_NOUGHT_layers C_less C_plus, He.glo_ok X G (c.fact 48 (f := .glo "raised") rfl), F_raised.kp, F_raised.bindsN fun _ _ _ _ _ _ us hl => match us, hl with | [_, _], _ => rfl⟩
  have C_put_out : Fc P w K mg base "put_out" 6 ["rows", "letter"] (sp_put_out K) := ⟨_, _, ok_put_out F_put_out B T_NOUGHT_fractions C_beside C_joined, He.glo_ok X G (c.fact 15 (f := .glo "put_out") rfl), F_put_out.kp, F_put_out.bindsN fun _ _ _ _ _ _ us hl => match us, hl with | [_, _], _ => rfl⟩
  have C_spot_by : Fc P w K mg base "spot_by" 6 ["systems", "many", "spot"] (sp_spot_by K) := ⟨_, _, ok_spot_by F_spot_by B C_number_for, He.glo_ok X G (c.fact 22 (f := .glo "spot_by") rfl), F_spot_by.kp, F_spot_by.bindsN fun _ _ _ _ _ _ us hl => match us, hl with | [_, _, _], _ => rfl⟩
  have C_systems_of : Fc P w K mg base "systems_of" 7 ["rows", "many"] (sp_systems_of K) := ⟨_, _, ok_systems_of F_systems_of B C_put_out, He.glo_ok X G (c.fact 16 (f := .glo "systems_of") rfl), F_systems_of.kp, F_systems_of.bindsN fun _ _ _ _ _ _ us hl => match us, hl with | [_, _], _ => rfl⟩
  have C_kept : Fc P w K mg base "kept" 8 ["rims"] (sp_kept K) := ⟨_, _, ok_kept F_kept T_NOUGHT_fractions C_need_straight C_systems_of C_rim_rows C_bad_row C_spot_by, He.glo_ok X G (c.fact 23 (f := .glo "kept") rfl), F_kept.kp, F_kept.bindsN fun _ _ _ _ _ _ us hl => match us, hl with | [_], _ => rfl⟩
  have C_over : Fc P w K mg base "over" 9 ["one", "rims"] (sp_over K) := ⟨_, _, ok_over F_over B T_NOUGHT_fractions C_need_straight C_kept C_turned C_numbers_of C_unit_weights C_systems_of C_rim_rows C_bad_row C_spot_by C_divided C_shares, He.glo_ok X G (c.fact 24 (f := .glo "over") rfl), F_over.kp, F_over.bindsN fun _ _ _ _ _ _ us hl => match us, hl with | [_, _], _ => rfl⟩
  have C_reach : Fc P w K mg base "reach" 9 ["one", "rims"] (sp_reach K) := ⟨_, _, ok_reach F_reach B T_NOUGHT_fractions T_UNIT C_need_straight C_kept C_turned C_numbers_of C_unit_weights C_with_worth C_systems_of C_rim_rows C_least_row C_number_of C_spot_by C_shares, He.glo_ok X G (c.fact 28 (f := .glo "reach") rfl), F_reach.kp, F_reach.bindsN fun _ _ _ _ _ _ us hl => match us, hl with | [_, _], _ => rfl⟩
  have C_put_from : Fc P w K mg base "put_from" 9 ["terms", "others", "letter"] (sp_put_from K 4) := ⟨_, _, ok_put_from F_put_from B (He.glo_ok X G (c.fact 33 (f := .glo "put_from") rfl)) F_put_from.kp (F_put_from.bindsN fun _ _ _ _ _ _ us hl => match us, hl with | [_, _, _], _ => rfl) T_NOUGHT_fractions C_added C_multiplied_out 4, He.glo_ok X G (c.fact 33 (f := .glo "put_from") rfl), F_put_from.kp, F_put_from.bindsN fun _ _ _ _ _ _ us hl => match us, hl with | [_, _, _], _ => rfl⟩
  have C_put_in : Fc P w K mg base "put_in" 10 ["one", "others"] (sp_put_in K) := ⟨_, _, ok_put_in F_put_in B T_MD C_degree C_bounded C_put_from, He.glo_ok X G (c.fact 36 (f := .glo "put_in") rfl), F_put_in.kp, F_put_in.bindsN fun _ _ _ _ _ _ us hl => match us, hl with | [_, _], _ => rfl⟩
  have C_box_numbers : Fc P w K mg base "box_numbers" 11 ["one", "box"] (sp_box_numbers K) := ⟨_, _, ok_box_numbers F_box_numbers B T_NOUGHT_boxes C_put_in C_moved_letter C_greatest_powers C_all_powers C_mixed_letter, He.glo_ok X G (c.fact 42 (f := .glo "box_numbers") rfl), F_box_numbers.kp, F_box_numbers.bindsN fun _ _ _ _ _ _ us hl => match us, hl with | [_, _], _ => rfl⟩
  have C_is_borne : Fc P w K mg base "is_borne" 12 ["one", "box"] (sp_is_borne K) := ⟨_, _, ok_is_borne F_is_borne B T_NOUGHT_boxes C_box_numbers C_beside, He.glo_ok X G (c.fact 43 (f := .glo "is_borne") rfl), F_is_borne.kp, F_is_borne.bindsN fun _ _ _ _ _ _ us hl => match us, hl with | [_, _], _ => rfl⟩
  have C_bears_tree : Fc P w K mg base "bears_tree" 13 ["one", "box", "tree"] (sp_bears_tree K) := ⟨_, _, ok_bears_tree F_bears_tree B C_is_borne, He.glo_ok X G (c.fact 44 (f := .glo "bears_tree") rfl), F_bears_tree.kp, F_bears_tree.bindsN fun _ _ _ _ _ _ us hl => match us, hl with | [_, _, _], _ => rfl⟩
  have C_is_nearly_in : Fc P w K mg base "is_nearly_in" 14 ["one", "box", "gap", "told"] (sp_is_nearly_in K) := ⟨_, _, ok_is_nearly_in F_is_nearly_in B C_less C_beside C_worth C_raised C_bears_tree, He.glo_ok X G (c.fact 49 (f := .glo "is_nearly_in") rfl), F_is_nearly_in.kp, F_is_nearly_in.bindsN fun _ _ _ _ _ _ us hl => match us, hl with | [_, _, _, _], _ => rfl⟩
  have L : LayU P w K mg base (He.ga K "Layers") := ⟨T, gL, ⟨_, _, He.mkr_ok (c.fact 85 (f := .mkr "Layers") rfl), ok_init F_init T B, F_init.bindsN fun _ _ _ _ _ _ us hl => match us, hl with | [_, _, _, _], _ => rfl⟩, ⟨_, _, He.meth_ok (c.fact 86 (f := .meth "Layers" "lowest") rfl), ok_lowest F_lowest T B C_corners C_beside C_worth, F_lowest.bindsN fun _ _ _ _ _ _ us hl => match us, hl with | [_, _], _ => rfl⟩, ⟨_, _, He.meth_ok (c.fact 87 (f := .meth "Layers" "keep") rfl), ok_keep F_keep T B C_least_number C_beside C_box_numbers, F_keep.bindsN fun _ _ _ _ _ _ us hl => match us, hl with | [_, _], _ => rfl⟩⟩
  have C_never_in : FcD P w K mg base "never_in" 14 ["one", "box", "limit"] [.int 20] (sp_never_in K) := by
    obtain ⟨ds, hv, hb⟩ := F_never_in.binds1 (ps := ["one", "box", "limit"]) 2 0 (List.cons_ne_nil _ _) rfl (fun _ _ _ _ _ _ _ us its h1 h2 => match us, its, h1, h2 with | [_, _], [_], _, _ => ⟨_, rfl, rfl⟩)
    exact ⟨_, _, ds, ok_never_in F_never_in L B T_NOUGHT_layers C_beside C_worth C_tree_of, He.glo_ok X G (c.fact 50 (f := .glo "never_in") rfl), F_never_in.kp, hb, hv⟩
  have C_nearly_in : FcD P w K mg base "nearly_in" 14 ["one", "box", "gap", "limit"] [.int 20] (sp_nearly_in K) := by
    obtain ⟨ds, hv, hb⟩ := F_nearly_in.binds1 (ps := ["one", "box", "gap", "limit"]) 3 0 (List.cons_ne_nil _ _) rfl (fun _ _ _ _ _ _ _ us its h1 h2 => match us, its, h1, h2 with | [_, _, _], [_], _, _ => ⟨_, rfl, rfl⟩)
    exact ⟨_, _, ds, ok_nearly_in F_nearly_in L B C_less C_worth C_tree_of C_least_number, He.glo_ok X G (c.fact 51 (f := .glo "nearly_in") rfl), F_nearly_in.kp, hb, hv⟩
  exact ok_law F_law B C__law_draw C__law_low C__law_plus C__law_mul C__law_put C__law_at C__law_sum C__law_number C__law_box C__law_under C_reach C_over C_never_in C_nearly_in C_is_nearly_in
end Lw
open PySem PySem.W PySem.Calls PyProof.Rows
set_option maxHeartbeats 0 in
theorem PySem.Challenge.cw_lowwater_k76_whole_straight_sums_in_boxe_holds : PySem.Challenge.rw_lowwater_k76_whole_straight_sums_in_boxe.Holds := by
  w_on; o_law
  refine HandSHeadRun.head_any (r := OpenLaw.row PySem.Challenge.rw_lowwater_k76_whole_straight_sums_in_boxe) (q := view (OpenLaw.row PySem.Challenge.rw_lowwater_k76_whole_straight_sums_in_boxe).prog [96]) (H := Lw.hkL) (ob := Lw.obL) (M := 6000) (loose := Lw.nmD) (d := HandSHeadRun.topDef (OpenLaw.row PySem.Challenge.rw_lowwater_k76_whole_straight_sums_in_boxe).prog 96) (kwd := []) Lw.obL_eq
    (by kernel_rfl) (fun s => by kernel_rfl) Lw.runL (by kernel_rfl) (by kernel_rfl) (by kernel_rfl) (by rfl) (by first | assumption | decide +kernel) (by decide +kernel) ⟨rfl, rfl, rfl, rfl, rfl, by decide +kernel⟩ ?hw ?hc
  case hw => w_witness2
  case hc =>
    refine L2.walk_ofE (l := PySem.Challenge.rw_lowwater_k76_whole_straight_sums_in_boxe) (n := 63) (k := 15) (x := "script") (CX := L2.CX0) rfl (by decide) (by kernel_rfl) ⟨rfl, by decide, by decide⟩ ?F (fun _ _ _ _ z => z)
    intro w mg fa h Y G hmg0
    obtain ⟨K, KX, c, ct⟩ := Y
    have hmg : mg ("law" : PySem.Str) = some (.ref fa) := by
      have e : (HandSHeadRun.topDef (OpenLaw.row PySem.Challenge.rw_lowwater_k76_whole_straight_sums_in_boxe).prog 96).name = ("law" : PySem.Str) := by kernel_rfl
      rw [← e]
      exact hmg0
    obtain ⟨fd, hb, hF⟩ := Lw.factsL (P := (PySem.Challenge.rw_lowwater_k76_whole_straight_sums_in_boxe).prog) (w := w) KX G hmg c ct
    exact ⟨K, fd, Lw.spLaw K, KX, hb, fun H a ns hl _ hS => ⟨a, ns, rfl, hl, hS, fun _ => rfl⟩, fun base _ _ => hF base⟩
