import PyProof.Rows.All
import Wide.All
import OpenK.AllK
import Wide.FinOn
import HandS.ForExc
import HandS.Comp
import HandS.Iter
import HandS.Dict
import HandS.TupAny
import HandS.Deep
import HandS.SortInts
import HandS.Zip
import HandS.IsInst
import HandS.Defaults
import KE.KTupSum
import KE.GoesEnum
import KE.GoesMore
import HandS.DictTup
import HandS.Ends
import HandS.HeadHook1
import HandS.HeadHook2
import HandS.HeadHook3
import HandS.HeadHook4
import HandS.Set
import HandS.SetKeys
import HandS.SetFor
import HandS.Strs
import HandS.SetBool
import HandS.TupSets
import HandS.Small
import HandS.Style
import HandS.Conv
import KE.KDictDisplayH
import KE.SortData
import HandS.Head0
import HandS.Head1
import HandS.Head2
import HandS.HeadEnd
import PySem.Challenge.RW_tiedranks_k16_possible_ranks_of_people
set_option Elab.async false
set_option linter.all false
set_option maxRecDepth 100000
set_option maxHeartbeats 4000000
/-! GL: a logic of slots with data over the layer: what stands in a def's slots is told as data (PyData), no heap in sight. -/
namespace GL
open PySem PySem.Spec PyProof.Rows L2

/-! ### heaps that grow -/
def Ex (S S' : Hp) : Prop := ∀ a o, S a = some o → S' a = some o
theorem Ex.refl (S : Hp) : Ex S S := fun _ _ h => h
theorem Ex.trans {A B C : Hp} (x : Ex A B) (y : Ex B C) : Ex A C := fun a o h => y a o (x a o h)
theorem Ex.upd {S : Hp} {p : Addr} {o : HO} (h : S p = none) : Ex S (upd S p o) := fun a u e => by
  rw [upd_ne (ne_of_none e h)]; exact e
theorem Ex.none {S S' : Hp} (x : Ex S S') {p : Addr} (h : S' p = none) : S p = none := by
  cases q : S p with
  | none => rfl
  | some o => rw [x p o q] at h; cases h
theorem ex_rd {S S' : Hp} (e : Ex S S') {a : Addr} {u : HO} (h : Rd S a u) : Rd S' a u :=
  h.elim (fun h => .inl (e _ _ h)) fun ⟨o, h⟩ => .inr ⟨o, e _ _ h⟩
theorem ex_t {K : PySem.W.Frag} {S S' : Hp} (e : Ex S S') {a : Addr} {xs : List V} (h : SqT K S a xs) : SqT K S' a xs :=
  h.elim (fun h => .inl (ex_rd e h)) .inr
theorem ex_l {K : PySem.W.Frag} {S S' : Hp} (e : Ex S S') {a : Addr} {xs : List V} (h : SqL K S a xs) : SqL K S' a xs :=
  h.elim (fun h => .inl (ex_rd e h)) .inr

/-! ### data in a heap -/
mutual
inductive Dt (K : PySem.W.Frag) (S : Hp) : V → PyData → Prop
  | non : Dt K S .non .none
  | bl (b : Bool) : Dt K S (.bl b) (.bool b)
  | int (i : Int) : Dt K S (.int i) (.int i)
  | str (x : Str) : Dt K S (.str x) (.str x)
  | lst {a : Addr} {xs : List V} {ds : List PyData} : S a = some (.lst xs) → DtAll K S xs ds → Dt K S (.ref a) (.list ds)
  | tup {a : Addr} {xs : List V} {ds : List PyData} : S a = some (.tup xs) → DtAll K S xs ds → Dt K S (.ref a) (.tuple ds)
inductive DtAll (K : PySem.W.Frag) (S : Hp) : List V → List PyData → Prop
  | nil : DtAll K S [] []
  | cons {v : V} {vs : List V} {d : PyData} {ds : List PyData} : Dt K S v d → DtAll K S vs ds → DtAll K S (v :: vs) (d :: ds)
end
section
variable {K : PySem.W.Frag} {S S' : Hp}
mutual
theorem Dt.mono (e : Ex S S') : ∀ {v : V} {d : PyData}, Dt K S v d → Dt K S' v d
  | _, _, .non => .non
  | _, _, .bl b => .bl b
  | _, _, .int i => .int i
  | _, _, .str x => .str x
  | _, _, .lst h t => .lst (e _ _ h) (DtAll.mono e t)
  | _, _, .tup h t => .tup (e _ _ h) (DtAll.mono e t)
theorem DtAll.mono (e : Ex S S') : ∀ {vs : List V} {ds : List PyData}, DtAll K S vs ds → DtAll K S' vs ds
  | _, _, .nil => .nil
  | _, _, .cons h t => .cons (Dt.mono e h) (DtAll.mono e t)
end
mutual
theorem Dt.dp {H : Hp} (e : Ex S H) : ∀ {v : V} {d : PyData}, Dt K S v d → Dp K H v d
  | _, _, .non => .non
  | _, _, .bl b => .bl b
  | _, _, .int i => .int i
  | _, _, .str x => .str x
  | _, _, .lst h t => .lst (SqL.of (e _ _ h)) (DtAll.dp e t)
  | _, _, .tup h t => .tup (SqT.of (e _ _ h)) (DtAll.dp e t)
theorem DtAll.dp {H : Hp} (e : Ex S H) : ∀ {vs : List V} {ds : List PyData}, DtAll K S vs ds → DpAll K H vs ds
  | _, _, .nil => .nil
  | _, _, .cons h t => .cons (Dt.dp e h) (DtAll.dp e t)
end
theorem DtAll.len : ∀ {vs : List V} {ds : List PyData}, DtAll K S vs ds → vs.length = ds.length
  | _, _, .nil => rfl
  | _, _, .cons _ t => congrArg (· + 1) (DtAll.len t)
theorem DtAll.get : ∀ {vs : List V} {ds : List PyData} {i : Nat} {d : PyData}, DtAll K S vs ds → ds[i]? = some d → ∃ v, vs[i]? = some v ∧ Dt K S v d
  | _, _, _, _, .nil, e => by simp at e
  | _, _, 0, _, .cons h _, e => by simp at e; subst e; exact ⟨_, rfl, h⟩
  | _, _, i + 1, d, .cons _ t, e => by
    obtain ⟨v, h1, h2⟩ := DtAll.get (i := i) (d := d) t (by simpa using e)
    exact ⟨v, by simpa using h1, h2⟩
theorem DtAll.app : ∀ {vs ws : List V} {ds es : List PyData}, DtAll K S vs ds → DtAll K S ws es → DtAll K S (vs ++ ws) (ds ++ es)
  | _, _, _, _, .nil, s => s
  | _, _, _, _, .cons h t, s => .cons h (DtAll.app t s)
theorem DtAll.take : ∀ {vs : List V} {ds : List PyData} (n : Nat), DtAll K S vs ds → DtAll K S (vs.take n) (ds.take n)
  | _, _, 0, _ => .nil
  | _, _, _ + 1, .nil => .nil
  | _, _, n + 1, .cons h t => .cons h (DtAll.take n t)
theorem DtAll.drop : ∀ {vs : List V} {ds : List PyData} (n : Nat), DtAll K S vs ds → DtAll K S (vs.drop n) (ds.drop n)
  | _, _, 0, h => h
  | _, _, _ + 1, .nil => .nil
  | _, _, n + 1, .cons _ t => DtAll.drop n t
theorem DtAll.set {v : V} {d : PyData} (h : Dt K S v d) : ∀ {vs : List V} {ds : List PyData} (i : Nat), DtAll K S vs ds → DtAll K S (vs.set i v) (ds.set i d)
  | _, _, _, .nil => .nil
  | _, _, 0, .cons _ t => .cons h t
  | _, _, i + 1, .cons q t => .cons q (DtAll.set h i t)
theorem DtAll.rev : ∀ {vs : List V} {ds : List PyData}, DtAll K S vs ds → DtAll K S vs.reverse ds.reverse
  | _, _, .nil => .nil
  | _, _, .cons h t => by
    rw [List.reverse_cons, List.reverse_cons]
    exact (DtAll.rev t).app (.cons h .nil)
theorem DtAll.ints : ∀ {vs : List V} {ns : List Int}, DtAll K S vs (ns.map PyData.int) → vs = ns.map V.int
  | _, [], .nil => rfl
  | _, n :: ns, .cons h t => by
    cases h
    rw [DtAll.ints t]; rfl
theorem DtAll.of_ints : ∀ (ns : List Int), DtAll K S (ns.map V.int) (ns.map PyData.int)
  | [] => .nil
  | n :: ns => .cons (.int n) (DtAll.of_ints ns)
theorem DtAll.bls : ∀ {vs : List V} {ns : List Bool}, DtAll K S vs (ns.map PyData.bool) → vs = ns.map V.bl
  | _, [], .nil => rfl
  | _, n :: ns, .cons h t => by
    cases h
    rw [DtAll.bls t]; rfl
theorem DtAll.strs : ∀ {vs : List V} {ns : List Str}, DtAll K S vs (ns.map PyData.str) → vs = ns.map V.str
  | _, [], .nil => rfl
  | _, n :: ns, .cons h t => by
    cases h
    rw [DtAll.strs t]; rfl
theorem DtAll.of_strs : ∀ (ns : List Str), DtAll K S (ns.map V.str) (ns.map PyData.str)
  | [] => .nil
  | n :: ns => .cons (.str n) (DtAll.of_strs ns)
end

/-! ### slots -/
/-- what is known of a slot's (or an expression's) value -/
inductive Sl where
  /-- nothing -/
  | un
  /-- data that nobody changes any more -/
  | d (x : PyData)
  /-- this very value -/
  | raw (v : V)
  /-- a list of our own that nothing else refers to -/
  | lst (ds : List PyData)
  /-- a list that is only looked at -/
  | bor (ds : List PyData)
  /-- the list at this address, handed in to be changed -/
  | src (a : Addr) (ds : List PyData)
  /-- dicts of our own -/
  | dK (kvs : List (Key × PyData))
  | dT (kvs : List (List Key × PyData))
  /-- dicts that are only looked at -/
  | bK (kvs : List (Key × PyData))
  | bT (kvs : List (List Key × PyData))
  /-- dicts that nobody changes any more -/
  | sK (kvs : List (Key × PyData))
  | sT (kvs : List (List Key × PyData))
  /-- a list that is only read, for good (the script) -/
  | sq (ds : List PyData)

def KvD {κ : Type} (K : PySem.W.Frag) (S : Hp) : List (κ × V) → List (κ × PyData) → Prop := Paired fun (p : κ × V) (q : κ × PyData) => p.1 = q.1 ∧ Dt K S p.2 q.2
theorem KvD.mono {κ : Type} {K : PySem.W.Frag} {S S' : Hp} (e : Ex S S') : ∀ {xs : List (κ × V)} {ys : List (κ × PyData)}, KvD K S xs ys → KvD K S' xs ys
  | _, _, .nil => .nil
  | _, _, .cons h t => .cons ⟨h.1, h.2.mono e⟩ (KvD.mono e t)

/-- S: what never changes; H: all; own: the slot that owns a changing object -/
structure Z where
  S : Hp
  H : Hp
  own : Addr → Option Nat
/-- a def's frame: B what it leaves as it is (what its caller tracks), S0 the unchanging part at its entry; E what is wanted of an exception, px the classes that may leave -/
structure Fx where
  K : PySem.W.Frag
  B : Hp
  S0 : Hp
  E : XK
  px : Addr → Prop
structure ZOk (F : Fx) (z : Z) : Prop where
  sub : Ex z.S z.H
  base : Ex F.B z.H
  s0 : Ex F.S0 z.S
  own : ∀ a i, z.own a = some i → z.S a = none ∧ F.B a = none ∧ ∃ o, z.H a = some o
  fresh : ∀ a o, F.B a = some o → z.S a = F.S0 a
/-- the wish of exceptions is served -/
def Fx.Ok (F : Fx) : Prop := ∀ z C, ZOk F z → F.px C → F.E (.ref C) none z.H

/-- o: the slot that owns it (none: a value on its way) -/
def VOk (F : Fx) (z : Z) (o : Option Nat) (v : V) : Sl → Prop
  | .un => True
  | .d x => Dt F.K z.S v x
  | .raw w => v = w
  | .lst ds => ∃ a xs, v = .ref a ∧ z.H a = some (.lst xs) ∧ z.own a = o ∧ z.S a = none ∧ F.B a = none ∧ DtAll F.K z.S xs ds
  | .bor ds => o = none ∧ ∃ a xs, v = .ref a ∧ z.H a = some (.lst xs) ∧ DtAll F.K z.S xs ds
  | .src a ds => ∃ xs, v = .ref a ∧ z.H a = some (.lst xs) ∧ z.own a = o ∧ z.S a = none ∧ F.B a = none ∧ DtAll F.K z.S xs ds
  | .dK kvs => ∃ a xs, v = .ref a ∧ z.H a = some (.dK xs) ∧ z.own a = o ∧ z.S a = none ∧ F.B a = none ∧ KvD F.K z.S xs kvs
  | .dT kvs => ∃ a xs, v = .ref a ∧ z.H a = some (.dT xs) ∧ z.own a = o ∧ z.S a = none ∧ F.B a = none ∧ KvD F.K z.S xs kvs
  | .bK kvs => o = none ∧ ∃ a xs, v = .ref a ∧ z.H a = some (.dK xs) ∧ KvD F.K z.S xs kvs
  | .bT kvs => o = none ∧ ∃ a xs, v = .ref a ∧ z.H a = some (.dT xs) ∧ KvD F.K z.S xs kvs
  | .sK kvs => ∃ a xs, v = .ref a ∧ z.S a = some (.dK xs) ∧ KvD F.K z.S xs kvs
  | .sT kvs => ∃ a xs, v = .ref a ∧ z.S a = some (.dT xs) ∧ KvD F.K z.S xs kvs
  | .sq ds => ∃ a xs, v = .ref a ∧ SqL F.K z.S a xs ∧ DtAll F.K z.S xs ds

/-- the slots are as Γ says -/
structure SOk (F : Fx) (z : Z) (σ : L2.St) (Γ : List Sl) : Prop where
  len : Γ.length = σ.length
  at_ : ∀ i s, Γ[i]? = some s → s = .un ∨ ∃ v, σ[i]? = some (some v) ∧ VOk F z (some i) v s

/-- only new things (pure code) -/
structure Add (z z' : Z) : Prop where
  s : Ex z.S z'.S
  h : ∀ a o, z.H a = some o → z'.H a = some o ∧ z'.S a = z.S a
  own : z'.own = z.own
/-- what is not a slot's stays (code that may change what slots own) -/
structure Ext (z z' : Z) : Prop where
  s : Ex z.S z'.S
  h : ∀ a o, z.H a = some o → z.own a = none → z'.H a = some o ∧ z'.own a = none ∧ z'.S a = z.S a
  dom : ∀ a, z'.H a = none → z.H a = none
/-- a changing object on its way is new -/
def New (z : Z) (v : V) : Sl → Prop
  | .lst _ => ∃ p, v = .ref p ∧ z.H p = none
  | .dK _ => ∃ p, v = .ref p ∧ z.H p = none
  | .dT _ => ∃ p, v = .ref p ∧ z.H p = none
  | _ => True
theorem Add.refl (z : Z) : Add z z := ⟨Ex.refl _, fun _ _ h => ⟨h, rfl⟩, rfl⟩
theorem Add.trans {x y z : Z} (a : Add x y) (b : Add y z) : Add x z :=
  ⟨a.s.trans b.s, fun c o h => ⟨(b.h c o (a.h c o h).1).1, (b.h c o (a.h c o h).1).2.trans (a.h c o h).2⟩, b.own.trans a.own⟩
theorem Add.dom {z z' : Z} (a : Add z z') (p : Addr) (h : z'.H p = none) : z.H p = none := by
  cases q : z.H p with
  | none => rfl
  | some o => rw [(a.h p o q).1] at h; cases h
theorem Add.ext {z z' : Z} (a : Add z z') : Ext z z' := ⟨a.s, fun c o h n => ⟨(a.h c o h).1, by rw [a.own]; exact n, (a.h c o h).2⟩, a.dom⟩
theorem New.back {z z' : Z} {v : V} {s : Sl} (d : ∀ a, z'.H a = none → z.H a = none) (h : New z' v s) : New z v s := by
  cases s with
  | lst ds => obtain ⟨p, e, n⟩ := h; exact ⟨p, e, d p n⟩
  | dK ds => obtain ⟨p, e, n⟩ := h; exact ⟨p, e, d p n⟩
  | dT ds => obtain ⟨p, e, n⟩ := h; exact ⟨p, e, d p n⟩
  | _ => trivial
theorem Ext.refl (z : Z) : Ext z z := (Add.refl z).ext
theorem Ext.trans {x y z : Z} (a : Ext x y) (b : Ext y z) : Ext x z :=
  ⟨a.s.trans b.s, fun c o h n =>
    have q := a.h c o h n
    have r := b.h c o q.1 q.2.1
    ⟨r.1, r.2.1, r.2.2.trans q.2.2⟩, fun c h => a.dom c (b.dom c h)⟩
section
variable {F : Fx} {z z' : Z} {v : V} {s : Sl} {σ : L2.St} {Γ : List Sl}
theorem VOk.add {o : Option Nat} (a : Add z z') (h : VOk F z o v s) : VOk F z' o v s := by
  cases s with
  | un => exact h
  | d x => exact Dt.mono a.s h
  | raw w => exact h
  | lst ds => obtain ⟨p, xs, e, h1, h2, h3, h4, h5⟩ := h; exact ⟨p, xs, e, (a.h _ _ h1).1, by rw [a.own]; exact h2, by rw [(a.h _ _ h1).2]; exact h3, h4, h5.mono a.s⟩
  | bor ds => obtain ⟨h0, p, xs, e, h1, h5⟩ := h; exact ⟨h0, p, xs, e, (a.h _ _ h1).1, h5.mono a.s⟩
  | bK ds => obtain ⟨h0, p, xs, e, h1, h5⟩ := h; exact ⟨h0, p, xs, e, (a.h _ _ h1).1, h5.mono a.s⟩
  | bT ds => obtain ⟨h0, p, xs, e, h1, h5⟩ := h; exact ⟨h0, p, xs, e, (a.h _ _ h1).1, h5.mono a.s⟩
  | src p ds => obtain ⟨xs, e, h1, h2, h3, h4, h5⟩ := h; exact ⟨xs, e, (a.h _ _ h1).1, by rw [a.own]; exact h2, by rw [(a.h _ _ h1).2]; exact h3, h4, h5.mono a.s⟩
  | dK ds => obtain ⟨p, xs, e, h1, h2, h3, h4, h5⟩ := h; exact ⟨p, xs, e, (a.h _ _ h1).1, by rw [a.own]; exact h2, by rw [(a.h _ _ h1).2]; exact h3, h4, h5.mono a.s⟩
  | dT ds => obtain ⟨p, xs, e, h1, h2, h3, h4, h5⟩ := h; exact ⟨p, xs, e, (a.h _ _ h1).1, by rw [a.own]; exact h2, by rw [(a.h _ _ h1).2]; exact h3, h4, h5.mono a.s⟩
  | sK ds => obtain ⟨p, xs, e, h1, h5⟩ := h; exact ⟨p, xs, e, a.s _ _ h1, h5.mono a.s⟩
  | sT ds => obtain ⟨p, xs, e, h1, h5⟩ := h; exact ⟨p, xs, e, a.s _ _ h1, h5.mono a.s⟩
  | sq ds => obtain ⟨p, xs, e, h1, h5⟩ := h; exact ⟨p, xs, e, ex_l a.s h1, h5.mono a.s⟩
theorem SOk.add (a : Add z z') (h : SOk F z σ Γ) : SOk F z' σ Γ :=
  ⟨h.len, fun i s e => (h.at_ i s e).elim .inl fun ⟨v, h1, h2⟩ => .inr ⟨v, h1, h2.add a⟩⟩
/-- values on their way that stay behind impure code -/
def Sl.way : Sl → Bool
  | .bor _ => false
  | .bK _ => false
  | .bT _ => false
  | _ => true
theorem VOk.ext (a : Ext z z') (w : s.way = true) (h : VOk F z none v s) : VOk F z' none v s := by
  cases s with
  | un => exact h
  | d x => exact Dt.mono a.s h
  | raw w => exact h
  | lst ds => obtain ⟨p, xs, e, h1, h2, h3, h4, h5⟩ := h; have q := a.h _ _ h1 h2; exact ⟨p, xs, e, q.1, q.2.1, by rw [q.2.2]; exact h3, h4, h5.mono a.s⟩
  | bor ds => cases w
  | bK ds => cases w
  | bT ds => cases w
  | src p ds => obtain ⟨xs, e, h1, h2, h3, h4, h5⟩ := h; have q := a.h _ _ h1 h2; exact ⟨xs, e, q.1, q.2.1, by rw [q.2.2]; exact h3, h4, h5.mono a.s⟩
  | dK ds => obtain ⟨p, xs, e, h1, h2, h3, h4, h5⟩ := h; have q := a.h _ _ h1 h2; exact ⟨p, xs, e, q.1, q.2.1, by rw [q.2.2]; exact h3, h4, h5.mono a.s⟩
  | dT ds => obtain ⟨p, xs, e, h1, h2, h3, h4, h5⟩ := h; have q := a.h _ _ h1 h2; exact ⟨p, xs, e, q.1, q.2.1, by rw [q.2.2]; exact h3, h4, h5.mono a.s⟩
  | sK ds => obtain ⟨p, xs, e, h1, h5⟩ := h; exact ⟨p, xs, e, a.s _ _ h1, h5.mono a.s⟩
  | sT ds => obtain ⟨p, xs, e, h1, h5⟩ := h; exact ⟨p, xs, e, a.s _ _ h1, h5.mono a.s⟩
  | sq ds => obtain ⟨p, xs, e, h1, h5⟩ := h; exact ⟨p, xs, e, ex_l a.s h1, h5.mono a.s⟩

/-- a new object that nobody will change -/
def Z.sh (z : Z) (p : Addr) (o : HO) : Z := ⟨upd z.S p o, upd z.H p o, z.own⟩
/-- a new object that may be changed -/
def Z.tmp (z : Z) (p : Addr) (o : HO) : Z := ⟨z.S, upd z.H p o, z.own⟩
theorem ZOk.free (h : ZOk F z) {p : Addr} (n : z.H p = none) : z.S p = none ∧ F.B p = none ∧ z.own p = none := by
  refine ⟨h.sub.none n, h.base.none n, ?_⟩
  cases q : z.own p with
  | none => rfl
  | some i => obtain ⟨_, _, o, e⟩ := h.own p i q; rw [n] at e; cases e
theorem ZOk.sh (h : ZOk F z) {p : Addr} {o : HO} (n : z.H p = none) : ZOk F (z.sh p o) := by
  obtain ⟨n1, n2, n3⟩ := h.free n
  refine ⟨fun a u e => ?_, fun a u e => (Ex.upd n) _ _ (h.base a u e), fun a u e => (Ex.upd n1) _ _ (h.s0 a u e), fun a i e => ?_, fun a u e => ?_⟩
  · by_cases ha : a = p
    · subst ha; rw [show (z.sh a o).S a = some o from upd_same] at e; rw [show (z.sh a o).H a = some o from upd_same]; exact e
    · rw [show (z.sh p o).S a = z.S a from upd_ne ha] at e; rw [show (z.sh p o).H a = z.H a from upd_ne ha]; exact h.sub _ _ e
  · have ha : a ≠ p := fun q => by subst q; rw [show (z.sh a o).own a = z.own a from rfl, n3] at e; cases e
    obtain ⟨q1, q2, u, q3⟩ := h.own a i e
    exact ⟨(upd_ne ha).trans q1, q2, u, (upd_ne ha).trans q3⟩
  · have ha : a ≠ p := fun q => by subst q; rw [n2] at e; cases e
    exact (upd_ne ha).trans (h.fresh a u e)
theorem ZOk.tmp (h : ZOk F z) {p : Addr} {o : HO} (n : z.H p = none) : ZOk F (z.tmp p o) := by
  obtain ⟨n1, n2, n3⟩ := h.free n
  refine ⟨fun a u e => ?_, fun a u e => (Ex.upd n) _ _ (h.base a u e), h.s0, fun a i e => ?_, h.fresh⟩
  · have ha : a ≠ p := fun q => by subst q; rw [show (z.tmp a o).S a = z.S a from rfl, n1] at e; cases e
    exact (upd_ne ha).trans (h.sub _ _ e)
  · have ha : a ≠ p := fun q => by subst q; rw [show (z.tmp a o).own a = z.own a from rfl, n3] at e; cases e
    obtain ⟨q1, q2, u, q3⟩ := h.own a i e
    exact ⟨q1, q2, u, (upd_ne ha).trans q3⟩
theorem Add.sh (h : ZOk F z) {p : Addr} {o : HO} (n : z.H p = none) : Add z (z.sh p o) := by
  refine ⟨Ex.upd (h.sub.none n), fun a u e => ?_, rfl⟩
  have ha := ne_of_none e n
  exact ⟨(upd_ne ha).trans e, upd_ne ha⟩
theorem Add.tmp {p : Addr} {o : HO} (n : z.H p = none) : Add z (z.tmp p o) :=
  ⟨Ex.refl _, fun a u e => ⟨(upd_ne (ne_of_none e n)).trans e, rfl⟩, rfl⟩
theorem VOk.sh_lst (h : ZOk F z) {p : Addr} {xs : List V} {ds : List PyData} (n : z.H p = none) (q : DtAll F.K z.S xs ds) : VOk F (z.sh p (.lst xs)) none (.ref p) (.d (.list ds)) :=
  .lst upd_same (q.mono (Add.sh h n).s)
theorem VOk.sh_tup (h : ZOk F z) {p : Addr} {xs : List V} {ds : List PyData} (n : z.H p = none) (q : DtAll F.K z.S xs ds) : VOk F (z.sh p (.tup xs)) none (.ref p) (.d (.tuple ds)) :=
  .tup upd_same (q.mono (Add.sh h n).s)
theorem VOk.tmp_lst (h : ZOk F z) {p : Addr} {xs : List V} {ds : List PyData} (n : z.H p = none) (q : DtAll F.K z.S xs ds) : VOk F (z.tmp p (.lst xs)) none (.ref p) (.lst ds) :=
  have f := h.free n
  ⟨p, xs, rfl, upd_same, f.2.2, f.1, f.2.1, q⟩
end

/-! ### readings -/
section
variable (F : Fx)
/-- an expression gives this, and makes new things at most -/
def EvS (te : TE) (Γ : List Sl) (s : Sl) : Prop := ∀ (z : Z) (σ : L2.St) (Q : VK), ZOk F z → SOk F z σ Γ → (∀ v z', Add z z' → ZOk F z' → VOk F z' none v s → New z v s → Q v z'.H) → te σ z.H Q
def EvT (tt : TT) (Γ : List Sl) (b : Bool) : Prop := ∀ (z : Z) (σ : L2.St) (Q : Bool → Hp → Prop), ZOk F z → SOk F z σ Γ → (∀ z', Add z z' → ZOk F z' → Q b z'.H) → tt σ z.H Q
/-- values in a row -/
def VAll (F : Fx) (z : Z) : List V → List Sl → Prop := Paired fun v s => VOk F z none v s
def EvA (ta : TA) (Γ : List Sl) (ss : List Sl) : Prop := ∀ (z : Z) (σ : L2.St) (Q : List V → Hp → Prop), ZOk F z → SOk F z σ Γ → (∀ vs z', Add z z' → ZOk F z' → VAll F z' vs ss → Q vs z'.H) → ta σ z.H Q
/-- an expression may change what slots own -/
def WpE (te : TE) (Γ : List Sl) (k : Sl → List Sl → Prop) : Prop := ∀ (z : Z) (σ : L2.St) (Q : VK), F.Ok → ZOk F z → SOk F z σ Γ → (∀ v s Γ' z', k s Γ' → Ext z z' → ZOk F z' → SOk F z' σ Γ' → VOk F z' none v s → New z v s → Q v z'.H) → te σ z.H Q
def WpT (tt : TT) (Γ : List Sl) (k : Bool → List Sl → Prop) : Prop := ∀ (z : Z) (σ : L2.St) (Q : Bool → Hp → Prop), F.Ok → ZOk F z → SOk F z σ Γ → (∀ b Γ' z', k b Γ' → Ext z z' → ZOk F z' → SOk F z' σ Γ' → Q b z'.H) → tt σ z.H Q
def WpA (ta : TA) (Γ : List Sl) (k : List Sl → List Sl → Prop) : Prop := ∀ (z : Z) (σ : L2.St) (Q : List V → Hp → Prop), F.Ok → ZOk F z → SOk F z σ Γ → (∀ vs ss Γ' z', k ss Γ' → Ext z z' → ZOk F z' → SOk F z' σ Γ' → VAll F z' vs ss → Q vs z'.H) → ta σ z.H Q
/-- a target takes the value -/
def WpG (g : TG) (s : Sl) (Γ : List Sl) (k : List Sl → Prop) : Prop := ∀ (z : Z) (σ : L2.St) (v : V) (Q : L2.St → Hp → Prop), F.Ok → ZOk F z → SOk F z σ Γ → VOk F z none v s → (∀ Γ' σ' z', k Γ' → Ex z.S z'.S → ZOk F z' → SOk F z' σ' Γ' → Q σ' z'.H) → g v σ z.H Q
structure Real (nx : List Sl → Prop) (rt : Sl → List Sl → Prop) (bk ct : List Sl → Prop) (S : Hp) (D : Ends) : Prop where
  nx : ∀ Γ σ z, nx Γ → Ex S z.S → ZOk F z → SOk F z σ Γ → D.nx σ z.H
  rt : ∀ v s Γ σ z, rt s Γ → Ex S z.S → ZOk F z → SOk F z σ Γ → VOk F z none v s → D.rt v z.H
  bk : ∀ Γ σ z, bk Γ → Ex S z.S → ZOk F z → SOk F z σ Γ → D.bk σ z.H
  ct : ∀ Γ σ z, ct Γ → Ex S z.S → ZOk F z → SOk F z σ Γ → D.ct σ z.H
def Wp (t : TS) (Γ : List Sl) (nx : List Sl → Prop) (rt : Sl → List Sl → Prop) (bk ct : List Sl → Prop) : Prop := ∀ (z : Z) (σ : L2.St) (D : Ends), F.Ok → ZOk F z → SOk F z σ Γ → Real F nx rt bk ct z.S D → t D σ z.H
end

section
variable {F : Fx} {te ta tb tc : TE} {tt tu : TT} {Γ : List Sl} {nx bk ct : List Sl → Prop} {rt : Sl → List Sl → Prop} {t u : TS} {k : Sl → List Sl → Prop}
theorem Real.mono {S S' : Hp} {D : Ends} (r : Real F nx rt bk ct S D) (e : Ex S S') : Real F nx rt bk ct S' D :=
  ⟨fun Γ σ z p q => r.nx Γ σ z p (e.trans q), fun v s Γ σ z p q => r.rt v s Γ σ z p (e.trans q), fun Γ σ z p q => r.bk Γ σ z p (e.trans q), fun Γ σ z p q => r.ct Γ σ z p (e.trans q)⟩
theorem EvS.wp {s : Sl} (h : EvS F te Γ s) (q : k s Γ) : WpE F te Γ k := fun z σ Q hF hz hs c =>
  h z σ Q hz hs fun v z' a hz' hv hn => c v s Γ z' q a.ext hz' (hs.add a) hv hn
theorem EvT.wp {b : Bool} {k : Bool → List Sl → Prop} (h : EvT F tt Γ b) (q : k b Γ) : WpT F tt Γ k := fun z σ Q hF hz hs c =>
  h z σ Q hz hs fun z' a hz' => c b Γ z' q a.ext hz' (hs.add a)
theorem EvA.wp {ta : TA} {ss : List Sl} {k : List Sl → List Sl → Prop} (h : EvA F ta Γ ss) (q : k ss Γ) : WpA F ta Γ k := fun z σ Q hF hz hs c =>
  h z σ Q hz hs fun v z' a hz' hv => c v ss Γ z' q a.ext hz' (hs.add a) hv
theorem WpE.mono {k' : Sl → List Sl → Prop} (h : WpE F te Γ k) (q : ∀ s Γ', k s Γ' → k' s Γ') : WpE F te Γ k' := fun z σ Q hF hz hs c =>
  h z σ Q hF hz hs fun v s Γ' z' hk => c v s Γ' z' (q _ _ hk)

/-! ### statements -/
theorem wp_seq (h : Wp F t Γ (fun Γ' => Wp F u Γ' nx rt bk ct) rt bk ct) : Wp F (tSeq t u) Γ nx rt bk ct := fun z σ D hF hz hs r =>
  h z σ _ hF hz hs ⟨fun Γ' σ' z' p e hz' hs' => p z' σ' D hF hz' hs' (r.mono e), r.rt, r.bk, r.ct⟩
theorem wp_next (h : nx Γ) : Wp F tNext Γ nx rt bk ct := fun z σ D _ hz hs r => r.nx _ _ _ h (Ex.refl _) hz hs
theorem wp_break (h : bk Γ) : Wp F tBreak Γ nx rt bk ct := fun z σ D _ hz hs r => r.bk _ _ _ h (Ex.refl _) hz hs
theorem wp_cont (h : ct Γ) : Wp F tCont Γ nx rt bk ct := fun z σ D _ hz hs r => r.ct _ _ _ h (Ex.refl _) hz hs
theorem wp_never (h : False) : Wp F tNever Γ nx rt bk ct := h.elim
theorem wp_drop (h : WpE F te Γ fun _ Γ' => nx Γ') : Wp F (tDrop te) Γ nx rt bk ct := fun z σ D hF hz hs r =>
  h z σ _ hF hz hs fun v s Γ' z' hk e hz' hs' hv _ => r.nx _ _ _ hk e.s hz' hs'
theorem wp_ret (h : WpE F te Γ rt) : Wp F (tRet te) Γ nx rt bk ct := fun z σ D hF hz hs r =>
  h z σ _ hF hz hs fun v s Γ' z' hk e hz' hs' hv _ => r.rt _ _ _ _ _ hk e.s hz' hs' hv
theorem wp_retN (h : rt (.d .none) Γ) : Wp F tRetN Γ nx rt bk ct := fun z σ D hF hz hs r => r.rt _ _ _ _ _ h (Ex.refl _) hz hs .non
theorem wp_ifW (h : WpT F tt Γ fun b Γ' => (b = true → Wp F t Γ' nx rt bk ct) ∧ (b = false → Wp F u Γ' nx rt bk ct)) : Wp F (tIfS tt t u) Γ nx rt bk ct := fun z σ D hF hz hs r =>
  h z σ _ hF hz hs fun b Γ' z' hk e hz' hs' => by
    cases b with
    | true => rw [if_pos rfl]; exact hk.1 rfl z' σ D hF hz' hs' (r.mono e.s)
    | false => rw [if_neg Bool.false_ne_true]; exact hk.2 rfl z' σ D hF hz' hs' (r.mono e.s)
theorem wp_if {b : Bool} (h : EvT F tt Γ b) (h1 : b = true → Wp F t Γ nx rt bk ct) (h2 : b = false → Wp F u Γ nx rt bk ct) : Wp F (tIfS tt t u) Γ nx rt bk ct := wp_ifW (h.wp ⟨h1, h2⟩)
theorem wp_if1 (h : EvT F tt Γ true) (h1 : Wp F t Γ nx rt bk ct) : Wp F (tIfS tt t u) Γ nx rt bk ct := wp_if h (fun _ => h1) fun e => nomatch e
theorem wp_if0 (h : EvT F tt Γ false) (h1 : Wp F u Γ nx rt bk ct) : Wp F (tIfS tt t u) Γ nx rt bk ct := wp_if h (fun e => nomatch e) fun _ => h1
theorem wp_asgG {g : TG} (h : WpE F te Γ fun s Γ' => WpG F g s Γ' nx) : Wp F (tAsg te g) Γ nx rt bk ct := fun z σ D hF hz hs r =>
  h z σ _ hF hz hs fun v s Γ' z' hk e hz' hs' hv _ => hk z' σ v _ hF hz' hs' hv fun Γ2 σ2 z2 p e2 hz2 hs2 => r.nx _ _ _ p (e.s.trans e2) hz2 hs2

/-- a slot takes a value: what may be kept in a slot -/
def Sl.keep : Sl → Bool
  | .bor _ => false
  | .bK _ => false
  | .bT _ => false
  | .src _ _ => false
  | _ => true
theorem SOk.other {z : Z} {σ : L2.St} {i : Nat} {v : V} {own' : Addr → Option Nat} (hs : SOk F z σ Γ) {s : Sl} (hi : i < Γ.length) (hv : VOk F ⟨z.S, z.H, own'⟩ (some i) v s) (ho : ∀ a j, j ≠ i → z.own a = some j → own' a = some j) : SOk F ⟨z.S, z.H, own'⟩ (σ.set i (some v)) (Γ.set i s) := by
  refine ⟨by rw [List.length_set, List.length_set]; exact hs.len, fun j s' e => ?_⟩
  by_cases hj : j = i
  · subst hj
    rw [List.getElem?_set_self hi] at e
    cases e
    refine .inr ⟨v, ?_, hv⟩
    rw [List.getElem?_set_self (by rw [← hs.len]; exact hi)]
  · rw [List.getElem?_set_ne (Ne.symm hj)] at e
    refine (hs.at_ j s' e).elim .inl fun ⟨w, h1, h2⟩ => .inr ⟨w, ?_, ?_⟩
    · rw [List.getElem?_set_ne (Ne.symm hj)]; exact h1
    · cases s' with
      | un => exact h2
      | d x => exact h2
      | raw u => exact h2
      | lst ds => obtain ⟨p, xs, e, q1, q2, q3, q4, q5⟩ := h2; exact ⟨p, xs, e, q1, ho _ _ hj q2, q3, q4, q5⟩
      | bor ds => exact nomatch h2.1
      | bK ds => exact nomatch h2.1
      | bT ds => exact nomatch h2.1
      | src p ds => obtain ⟨xs, e, q1, q2, q3, q4, q5⟩ := h2; exact ⟨xs, e, q1, ho _ _ hj q2, q3, q4, q5⟩
      | dK ds => obtain ⟨p, xs, e, q1, q2, q3, q4, q5⟩ := h2; exact ⟨p, xs, e, q1, ho _ _ hj q2, q3, q4, q5⟩
      | dT ds => obtain ⟨p, xs, e, q1, q2, q3, q4, q5⟩ := h2; exact ⟨p, xs, e, q1, ho _ _ hj q2, q3, q4, q5⟩
      | sK ds => exact h2
      | sT ds => exact h2
      | sq ds => exact h2
theorem own_step {z : Z} {p : Addr} {i : Nat} {o : HO} (hz : ZOk F z) (h1 : z.H p = some o) (h2 : z.S p = none) (h3 : F.B p = none) : ZOk F ⟨z.S, z.H, fun a => if a = p then some i else z.own a⟩ := by
  refine ⟨hz.sub, hz.base, hz.s0, fun a j e => ?_, hz.fresh⟩
  by_cases ha : a = p
  · subst ha; exact ⟨h2, h3, o, h1⟩
  · exact hz.own a j (by rw [← e]; show z.own a = if a = p then some i else z.own a; rw [if_neg ha])
theorem wpg_name {i : Nat} {s : Sl} {k : List Sl → Prop} (hi : i < Γ.length) (hk : s.keep = true) (h : k (Γ.set i s)) : WpG F (gName i) s Γ k := by
  intro z σ v Q hF hz hs hv c
  have own1 : ∀ {p : Addr} {o : HO}, z.H p = some o → z.own p = none → z.S p = none → F.B p = none → VOk F ⟨z.S, z.H, fun a => if a = p then some i else z.own a⟩ (some i) v s → Q (σ.set i (some v)) z.H := fun {p o} h1 h2 h3 h4 h5 => by
    refine c _ _ ⟨z.S, z.H, fun a => if a = p then some i else z.own a⟩ h (Ex.refl _) (own_step hz h1 h3 h4) (hs.other hi h5 fun a j _ e => ?_)
    show (if a = p then some i else z.own a) = some j
    rw [if_neg (fun q => by subst q; rw [h2] at e; cases e)]; exact e
  have pure1 : VOk F z (some i) v s → Q (σ.set i (some v)) z.H := fun h5 =>
    c _ _ z h (Ex.refl _) hz (hs.other (own' := z.own) hi h5 fun a j _ e => e)
  show Q (σ.set i (some v)) z.H
  cases s with
  | un => exact pure1 trivial
  | d x => exact pure1 hv
  | raw u => exact pure1 hv
  | lst ds => obtain ⟨p, xs, e, q1, q2, q3, q4, q5⟩ := hv; exact own1 q1 q2 q3 q4 ⟨p, xs, e, q1, if_pos rfl, q3, q4, q5⟩
  | bor ds => cases hk
  | bK ds => cases hk
  | bT ds => cases hk
  | src p ds => cases hk
  | dK ds => obtain ⟨p, xs, e, q1, q2, q3, q4, q5⟩ := hv; exact own1 q1 q2 q3 q4 ⟨p, xs, e, q1, if_pos rfl, q3, q4, q5⟩
  | dT ds => obtain ⟨p, xs, e, q1, q2, q3, q4, q5⟩ := hv; exact own1 q1 q2 q3 q4 ⟨p, xs, e, q1, if_pos rfl, q3, q4, q5⟩
  | sK ds => exact pure1 hv
  | sT ds => exact pure1 hv
  | sq ds => exact pure1 hv
theorem wp_asg {i : Nat} {s : Sl} (h : EvS F te Γ s) (hi : i < Γ.length) (hk : s.keep = true) (q : nx (Γ.set i s)) : Wp F (tAsg te (gName i)) Γ nx rt bk ct := wp_asgG (h.wp (wpg_name hi hk q))
theorem wp_asgW {i : Nat} (h : WpE F te Γ fun s Γ' => s.keep = true ∧ i < Γ'.length ∧ nx (Γ'.set i s)) : Wp F (tAsg te (gName i)) Γ nx rt bk ct := wp_asgG (h.mono fun s Γ' q => wpg_name q.2.1 q.1 q.2.2)

/-- what a slot owns is changed no more -/
theorem wp_share {i : Nat} {ds : List PyData} (hi : Γ[i]? = some (.lst ds)) (h : Wp F t (Γ.set i (.d (.list ds))) nx rt bk ct) : Wp F t Γ nx rt bk ct := by
  intro z σ D hF hz hs r
  obtain ⟨v, h1, p, xs, rfl, q1, q2, q3, q4, q5⟩ := (hs.at_ i _ hi).resolve_left (fun e => nomatch e)
  have hl : i < Γ.length := (List.getElem?_eq_some_iff.mp hi).1
  have e1 : Ex z.S (upd z.S p (.lst xs)) := Ex.upd q3
  let z1 : Z := ⟨upd z.S p (.lst xs), z.H, fun a => if a = p then none else z.own a⟩
  have hz1 : ZOk F z1 := by
    refine ⟨fun a u e => ?_, hz.base, hz.s0.trans e1, fun a j e => ?_, fun a u e => ?_⟩
    · by_cases ha : a = p
      · subst ha; rw [show z1.S a = some (.lst xs) from upd_same] at e; rw [← e]; exact q1
      · rw [show z1.S a = z.S a from upd_ne ha] at e; exact hz.sub _ _ e
    · have ha : a ≠ p := fun q => by subst q; rw [show z1.own a = none from if_pos rfl] at e; cases e
      rw [show z1.own a = z.own a from if_neg ha] at e
      obtain ⟨w1, w2, w3⟩ := hz.own a j e
      exact ⟨(upd_ne ha).trans w1, w2, w3⟩
    · have ha : a ≠ p := fun q => by subst q; rw [q4] at e; cases e
      exact (upd_ne ha).trans (hz.fresh a u e)
  have hs1 : SOk F z1 σ (Γ.set i (.d (.list ds))) := by
    refine ⟨by rw [List.length_set]; exact hs.len, fun j s' e => ?_⟩
    by_cases hj : j = i
    · subst hj
      rw [List.getElem?_set_self hl] at e
      cases e
      exact .inr ⟨_, h1, .lst upd_same (q5.mono e1)⟩
    · rw [List.getElem?_set_ne (Ne.symm hj)] at e
      have ho : ∀ {a : Addr}, z.own a = some j → a ≠ p := fun {a} w q => by subst q; rw [q2] at w; exact hj (Option.some.inj w).symm
      refine (hs.at_ j s' e).elim .inl fun ⟨w, w1, h2⟩ => .inr ⟨w, w1, ?_⟩
      cases s' with
      | un => exact h2
      | d x => exact Dt.mono e1 h2
      | raw u => exact h2
      | lst ds => obtain ⟨a, xs, e, q1, q2, q3, q4, q5⟩ := h2; exact ⟨a, xs, e, q1, (if_neg (ho q2)).trans q2, (upd_ne (ho q2)).trans q3, q4, q5.mono e1⟩
      | bor ds => exact nomatch h2.1
      | bK ds => exact nomatch h2.1
      | bT ds => exact nomatch h2.1
      | src a ds => obtain ⟨xs, e, q1, q2, q3, q4, q5⟩ := h2; exact ⟨xs, e, q1, (if_neg (ho q2)).trans q2, (upd_ne (ho q2)).trans q3, q4, q5.mono e1⟩
      | dK ds => obtain ⟨a, xs, e, q1, q2, q3, q4, q5⟩ := h2; exact ⟨a, xs, e, q1, (if_neg (ho q2)).trans q2, (upd_ne (ho q2)).trans q3, q4, q5.mono e1⟩
      | dT ds => obtain ⟨a, xs, e, q1, q2, q3, q4, q5⟩ := h2; exact ⟨a, xs, e, q1, (if_neg (ho q2)).trans q2, (upd_ne (ho q2)).trans q3, q4, q5.mono e1⟩
      | sK ds => obtain ⟨a, xs, e, q1, q5⟩ := h2; exact ⟨a, xs, e, e1 _ _ q1, q5.mono e1⟩
      | sT ds => obtain ⟨a, xs, e, q1, q5⟩ := h2; exact ⟨a, xs, e, e1 _ _ q1, q5.mono e1⟩
      | sq ds => obtain ⟨a, xs, e, q1, q5⟩ := h2; exact ⟨a, xs, e, ex_l e1 q1, q5.mono e1⟩
  exact h z1 σ D hF hz1 hs1 (r.mono e1)
end
end GL
namespace GL
open PySem PySem.Spec PyProof.Rows L2

/-! ### what a value may be read as -/
def Sl.asD : Sl → Option PyData
  | .d x => some x
  | .lst ds => some (.list ds)
  | .bor ds => some (.list ds)
  | .src _ ds => some (.list ds)
  | .sq ds => some (.list ds)
  | _ => none
def Sl.asL : Sl → Option (List PyData)
  | .d (.list ds) => some ds
  | .lst ds => some ds
  | .bor ds => some ds
  | .src _ ds => some ds
  | _ => none
def Sl.asT : Sl → Option (List PyData)
  | .d (.tuple ds) => some ds
  | _ => none
/-- a list or a tuple -/
def Sl.asQ : Sl → Option (List PyData)
  | .d (.list ds) => some ds
  | .d (.tuple ds) => some ds
  | .lst ds => some ds
  | .bor ds => some ds
  | .src _ ds => some ds
  | .sq ds => some ds
  | _ => none
section
variable {F : Fx} {z z' : Z} {v w : V} {s x y : Sl} {σ : L2.St} {Γ : List Sl} {o : Option Nat} {ds es : List PyData}
theorem VOk.asL (hz : ZOk F z) (h : VOk F z o v s) (e : s.asL = some ds) : ∃ a xs, v = .ref a ∧ z.H a = some (.lst xs) ∧ DtAll F.K z.S xs ds := by
  cases s with
  | d x =>
    cases x with
    | list es =>
      cases Option.some.inj (show some es = some ds from e)
      cases h with
      | lst h1 h2 => exact ⟨_, _, rfl, hz.sub _ _ h1, h2⟩
    | _ => cases e
  | lst es => cases Option.some.inj (show some es = some ds from e); obtain ⟨a, xs, e1, h1, _, _, _, h2⟩ := h; exact ⟨a, xs, e1, h1, h2⟩
  | bor es => cases Option.some.inj (show some es = some ds from e); obtain ⟨_, a, xs, e1, h1, h2⟩ := h; exact ⟨a, xs, e1, h1, h2⟩
  | src a es => cases Option.some.inj (show some es = some ds from e); obtain ⟨xs, e1, h1, _, _, _, h2⟩ := h; exact ⟨a, xs, e1, h1, h2⟩
  | _ => cases e
theorem VOk.asT (hz : ZOk F z) (h : VOk F z o v s) (e : s.asT = some ds) : ∃ a xs, v = .ref a ∧ SqT F.K z.H a xs ∧ z.S a = some (.tup xs) ∧ DtAll F.K z.S xs ds := by
  cases s with
  | d x =>
    cases x with
    | tuple es =>
      cases Option.some.inj (show some es = some ds from e)
      cases h with
      | tup h1 h2 => exact ⟨_, _, rfl, SqT.of (hz.sub _ _ h1), h1, h2⟩
    | _ => cases e
  | _ => cases e
theorem VOk.asQ (hz : ZOk F z) (h : VOk F z o v s) (e : s.asQ = some ds) : ∃ a xs, v = .ref a ∧ (SqL F.K z.H a xs ∨ SqT F.K z.H a xs) ∧ DtAll F.K z.S xs ds := by
  have viaL : s.asL = some ds → ∃ a xs, v = .ref a ∧ (SqL F.K z.H a xs ∨ SqT F.K z.H a xs) ∧ DtAll F.K z.S xs ds := fun e => by
    obtain ⟨a, xs, e1, h1, h2⟩ := h.asL hz e
    exact ⟨a, xs, e1, .inl (SqL.of h1), h2⟩
  cases s with
  | d x =>
    cases x with
    | list es => exact viaL e
    | tuple es =>
      obtain ⟨a, xs, e1, h1, _, h2⟩ := h.asT hz (show Sl.asT (.d (.tuple es)) = some ds from e)
      exact ⟨a, xs, e1, .inr h1, h2⟩
    | _ => cases e
  | lst es => exact viaL e
  | bor es => exact viaL e
  | src a es => exact viaL e
  | sq es => cases Option.some.inj (show some es = some ds from e); obtain ⟨a, xs, e1, h1, h2⟩ := h; exact ⟨a, xs, e1, .inl (ex_l hz.sub h1), h2⟩
  | _ => cases e
theorem VOk.asD {d : PyData} (hz : ZOk F z) (h : VOk F z o v s) (e : s.asD = some d) : Dp F.K z.H v d := by
  have viaL : ∀ {ds}, s.asL = some ds → d = .list ds → Dp F.K z.H v d := fun {ds} e q => by
    obtain ⟨a, xs, e1, h1, h2⟩ := h.asL hz e
    subst e1 q
    exact .lst (SqL.of h1) (h2.dp hz.sub)
  cases s with
  | d x => cases Option.some.inj (show some x = some d from e); exact Dt.dp hz.sub h
  | lst es => exact viaL rfl (Option.some.inj (show some (PyData.list es) = some d from e)).symm
  | bor es => exact viaL rfl (Option.some.inj (show some (PyData.list es) = some d from e)).symm
  | src a es => exact viaL rfl (Option.some.inj (show some (PyData.list es) = some d from e)).symm
  | sq es => cases Option.some.inj (show some (PyData.list es) = some d from e); obtain ⟨a, xs, e1, h1, h2⟩ := h; subst e1; exact .lst (ex_l hz.sub h1) (h2.dp hz.sub)
  | _ => cases e
theorem VOk.d_int {i : Int} (h : VOk F z o v (.d (.int i))) : v = .int i := by cases h; rfl
theorem VOk.d_bool {b : Bool} (h : VOk F z o v (.d (.bool b))) : v = .bl b := by cases h; rfl
theorem VOk.d_str {x : Str} (h : VOk F z o v (.d (.str x))) : v = .str x := by cases h; rfl
theorem VOk.d_none (h : VOk F z o v (.d .none)) : v = .non := by cases h; rfl
theorem VOk.un (h : VOk F z o v s) : VOk F z o v .un := trivial
end

/-! ### operations on values -/
section
variable (F : Fx)
def OpS (r : R2) (x y s : Sl) : Prop := ∀ (z : Z) (v w : V) (Q : VK), ZOk F z → VOk F z none v x → VOk F z none w y → (∀ u z', Add z z' → ZOk F z' → VOk F z' none u s → New z u s → Q u z'.H) → r v w z.H Q
def UnS (r : V → Hp → VK → Prop) (x s : Sl) : Prop := ∀ (z : Z) (v : V) (Q : VK), ZOk F z → VOk F z none v x → (∀ u z', Add z z' → ZOk F z' → VOk F z' none u s → New z u s → Q u z'.H) → r v z.H Q
def CallS (r : List V → Hp → VK → Prop) (ss : List Sl) (s : Sl) : Prop := ∀ (z : Z) (vs : List V) (Q : VK), ZOk F z → VAll F z vs ss → (∀ u z', Add z z' → ZOk F z' → VOk F z' none u s → New z u s → Q u z'.H) → r vs z.H Q
end

section
variable {F : Fx} {te ta tb tc : TE} {tt tu : TT} {tA tB : TA} {Γ : List Sl} {x y s : Sl} {ss : List Sl} {r r' : R2} {i : Nat} {ds es : List PyData}
/-! ### expressions -/
/-- a value in a slot, as it may be told on the way -/
def Sl.look : Sl → Option Sl
  | .un => none
  | .d x => some (.d x)
  | .raw v => some (.raw v)
  | .lst ds => some (.bor ds)
  | .bor ds => some (.bor ds)
  | .src _ ds => some (.bor ds)
  | .dK k => some (.bK k)
  | .dT k => some (.bT k)
  | .bK k => some (.bK k)
  | .bT k => some (.bT k)
  | .sK k => some (.sK k)
  | .sT k => some (.sT k)
  | .sq k => some (.sq k)
theorem VOk.look {F : Fx} {z : Z} {o : Option Nat} {v : V} {s t : Sl} (h : VOk F z o v s) (e : s.look = some t) : VOk F z none v t := by
  cases s with
  | un => cases e
  | d x => cases Option.some.inj e; exact h
  | raw u => cases Option.some.inj e; exact h
  | lst ds => cases Option.some.inj e; obtain ⟨a, xs, e1, h1, _, _, _, h2⟩ := h; exact ⟨rfl, a, xs, e1, h1, h2⟩
  | bor ds => cases Option.some.inj e; exact ⟨rfl, h.2⟩
  | src a ds => cases Option.some.inj e; obtain ⟨xs, e1, h1, _, _, _, h2⟩ := h; exact ⟨rfl, a, xs, e1, h1, h2⟩
  | dK k => cases Option.some.inj e; obtain ⟨a, xs, e1, h1, _, _, _, h2⟩ := h; exact ⟨rfl, a, xs, e1, h1, h2⟩
  | dT k => cases Option.some.inj e; obtain ⟨a, xs, e1, h1, _, _, _, h2⟩ := h; exact ⟨rfl, a, xs, e1, h1, h2⟩
  | bK k => cases Option.some.inj e; exact ⟨rfl, h.2⟩
  | bT k => cases Option.some.inj e; exact ⟨rfl, h.2⟩
  | sK k => cases Option.some.inj e; exact h
  | sT k => cases Option.some.inj e; exact h
  | sq k => cases Option.some.inj e; exact h
theorem look_new {z : Z} {v : V} {t s : Sl} (e : t.look = some s) : New z v s := by
  cases t <;> cases s <;> first | trivial | (cases e)
theorem evs_var {t : Sl} (hi : Γ[i]? = some t) (e : t.look = some s) : EvS F (tVar i) Γ s := fun z σ Q hz hs c => by
  rcases hs.at_ i t hi with h | ⟨v, h1, h2⟩
  · subst h; cases e
  · exact ⟨v, h1, c v z (Add.refl z) hz (h2.look e) (look_new e)⟩
theorem evs_raw {v : V} : EvS F (tC v) Γ (.raw v) := fun z σ Q hz hs c => c v z (Add.refl z) hz rfl trivial
theorem evs_int {j : Int} : EvS F (tC (.int j)) Γ (.d (.int j)) := fun z σ Q hz hs c => c _ z (Add.refl z) hz (.int j) trivial
theorem evs_bl {b : Bool} : EvS F (tC (.bl b)) Γ (.d (.bool b)) := fun z σ Q hz hs c => c _ z (Add.refl z) hz (.bl b) trivial
theorem evs_str {x : Str} : EvS F (tC (.str x)) Γ (.d (.str x)) := fun z σ Q hz hs c => c _ z (Add.refl z) hz (.str x) trivial
theorem evs_non : EvS F (tC .non) Γ (.d .none) := fun z σ Q hz hs c => c _ z (Add.refl z) hz .non trivial

theorem evs_share (h : EvS F te Γ (.lst ds)) : EvS F te Γ (.d (.list ds)) := fun z σ Q hz hs c =>
  h z σ Q hz hs fun v z' a hz' ⟨p, xs, e, q1, q2, q3, q4, q5⟩ ⟨p', e', hp⟩ => by
    obtain rfl : p = p' := V.ref.inj (e.symm.trans e')
    have e1 : Ex z'.S (upd z'.S p (.lst xs)) := Ex.upd q3
    refine c v ⟨upd z'.S p (.lst xs), z'.H, z'.own⟩ ⟨a.s.trans e1, fun b u hb => ⟨(a.h b u hb).1, ?_⟩, a.own⟩ ⟨fun b u hb => ?_, hz'.base, hz'.s0.trans e1, fun b i hb => ?_, fun b u hb => ?_⟩ ?_ trivial
    · exact (upd_ne (ne_of_none hb hp)).trans (a.h b u hb).2
    · by_cases hq : b = p
      · subst hq; exact (q1.trans (upd_same.symm.trans hb))
      · exact hz'.sub _ _ (by rw [← hb]; exact (upd_ne hq).symm)
    · have hq : b ≠ p := fun q => by subst q; rw [show z'.own b = some i from hb] at q2; cases q2
      obtain ⟨w1, w2, w3⟩ := hz'.own b i hb
      exact ⟨(upd_ne hq).trans w1, w2, w3⟩
    · have hq : b ≠ p := fun q => by subst q; rw [q4] at hb; cases hb
      exact (upd_ne hq).trans (hz'.fresh b u hb)
    · subst e; exact .lst upd_same (q5.mono e1)
theorem evs_is (h : EvS F te Γ x) (e : x = s) : EvS F te Γ s := e ▸ h
theorem evt_is {b c : Bool} (h : EvT F tt Γ b) (e : b = c) : EvT F tt Γ c := e ▸ h

theorem evs_op (ha : EvS F ta Γ x) (hb : EvS F tb Γ y) (hr : OpS F r x y s) : EvS F (tOp r ta tb) Γ s := fun z σ Q hz hs c =>
  ha z σ _ hz hs fun v z1 a1 hz1 hv _ => hb z1 σ _ hz1 (hs.add a1) fun w z2 a2 hz2 hw _ => hr z2 v w Q hz2 (hv.add a2) hw fun u z3 a3 hz3 hu hn =>
    c u z3 (a1.trans (a2.trans a3)) hz3 hu (hn.back fun p q => a1.dom p (a2.dom p q))
theorem evs_un {r : V → Hp → VK → Prop} (ha : EvS F ta Γ x) (hr : UnS F r x s) : EvS F (tUn r ta) Γ s := fun z σ Q hz hs c =>
  ha z σ _ hz hs fun v z1 a1 hz1 hv _ => hr z1 v Q hz1 hv fun u z3 a3 hz3 hu hn => c u z3 (a1.trans a3) hz3 hu (hn.back a1.dom)
theorem eva_nil : EvA F tNil Γ [] := fun z σ Q hz hs c => c [] z (Add.refl z) hz .nil
theorem VAll.add {z z' : Z} (a : Add z z') : ∀ {vs : List V} {ss : List Sl}, VAll F z vs ss → VAll F z' vs ss
  | _, _, .nil => .nil
  | _, _, .cons h t => .cons (VOk.add a h) (VAll.add a t)
theorem eva_cons (ha : EvS F ta Γ x) (hr : EvA F tA Γ ss) : EvA F (tCons ta tA) Γ (x :: ss) := fun z σ Q hz hs c =>
  ha z σ _ hz hs fun v z1 a1 hz1 hv _ => hr z1 σ _ hz1 (hs.add a1) fun vs z2 a2 hz2 hvs => c (v :: vs) z2 (a1.trans a2) hz2 (.cons (hv.add a2) hvs)
theorem evs_cb {r : List V → Hp → VK → Prop} (ha : EvA F tA Γ ss) (hr : CallS F r ss s) : EvS F (tCB r tA) Γ s := fun z σ Q hz hs c =>
  ha z σ _ hz hs fun vs z1 a1 hz1 hv => hr z1 vs Q hz1 hv fun u z3 a3 hz3 hu hn => c u z3 (a1.trans a3) hz3 hu (hn.back a1.dom)
/-- data in a row -/
theorem VAll.data {z : Z} : ∀ {vs : List V} {ds : List PyData}, VAll F z vs (ds.map Sl.d) → DtAll F.K z.S vs ds
  | _, [], .nil => .nil
  | _, d :: ds, .cons h t => .cons h (VAll.data t)
def EvD (F : Fx) (tA : TA) (Γ : List Sl) (ds : List PyData) : Prop := EvA F tA Γ (ds.map Sl.d)
theorem evd_nil : EvD F tNil Γ [] := eva_nil
theorem evd_cons {d : PyData} (ha : EvS F ta Γ (.d d)) (hr : EvD F tA Γ ds) : EvD F (tCons ta tA) Γ (d :: ds) := eva_cons ha hr
theorem evs_tup (h : EvD F tA Γ ds) (hl : ds.length ≤ sizeLine) : EvS F (tTup tA) Γ (.d (.tuple ds)) := fun z σ Q hz hs c =>
  h z σ _ hz hs fun vs z1 a1 hz1 hv => ⟨by rw [(VAll.data hv).len]; exact hl, fun p hp => c _ (z1.sh p _) (a1.trans (Add.sh hz1 hp)) (hz1.sh hp) (VOk.sh_tup hz1 hp (VAll.data hv)) trivial⟩
theorem evs_lst (h : EvD F tA Γ ds) (hl : ds.length ≤ sizeLine) : EvS F (tLst tA) Γ (.lst ds) := fun z σ Q hz hs c =>
  h z σ _ hz hs fun vs z1 a1 hz1 hv => ⟨by rw [(VAll.data hv).len]; exact hl, fun p hp => c _ (z1.tmp p _) (a1.trans (Add.tmp hp)) (hz1.tmp hp) (VOk.tmp_lst hz1 hp (VAll.data hv)) ⟨p, rfl, a1.dom p hp⟩⟩
theorem evs_if {b : Bool} (hc : EvT F tt Γ b) (ha : b = true → EvS F ta Γ s) (hb : b = false → EvS F tb Γ s) : EvS F (tIf tt ta tb) Γ s := fun z σ Q hz hs c =>
  hc z σ _ hz hs fun z1 a1 hz1 => by
    cases b with
    | true => rw [if_pos rfl]; exact ha rfl z1 σ Q hz1 (hs.add a1) fun v z2 a2 hz2 hv hn => c v z2 (a1.trans a2) hz2 hv (hn.back a1.dom)
    | false => rw [if_neg Bool.false_ne_true]; exact hb rfl z1 σ Q hz1 (hs.add a1) fun v z2 a2 hz2 hv hn => c v z2 (a1.trans a2) hz2 hv (hn.back a1.dom)
/-- data either way -/
theorem evs_ifD {b : Bool} {d e : PyData} (hc : EvT F tt Γ b) (ha : b = true → EvS F ta Γ (.d d)) (hb : b = false → EvS F tb Γ (.d e)) : EvS F (tIf tt ta tb) Γ (.d (if b = true then d else e)) :=
  evs_if hc (fun q => by rw [if_pos q]; exact ha q) fun q => by rw [if_neg (by rw [q]; exact Bool.false_ne_true)]; exact hb q
theorem evs_if1 (hc : EvT F tt Γ true) (ha : EvS F ta Γ s) : EvS F (tIf tt ta tb) Γ s := evs_if hc (fun _ => ha) fun q => nomatch q
theorem evs_if0 (hc : EvT F tt Γ false) (hb : EvS F tb Γ s) : EvS F (tIf tt ta tb) Γ s := evs_if hc (fun q => nomatch q) fun _ => hb

/-! ### tests -/
theorem evt_B {b : Bool} (h : EvS F te Γ (.d (.bool b))) : EvT F (L2.tB te) Γ b := fun z σ Q hz hs c =>
  h z σ _ hz hs fun v z1 a1 hz1 hv _ => ⟨b, hv.d_bool, c z1 a1 hz1⟩
theorem evt_test {b : Bool} (h : EvS F te Γ (.d (.bool b))) : EvT F (tTest te) Γ b := fun z σ Q hz hs c =>
  h z σ _ hz hs fun v z1 a1 hz1 hv _ => ⟨b, hv.d_bool, c z1 a1 hz1⟩
theorem evt_and {a b : Bool} (h1 : EvT F tt Γ a) (h2 : a = true → EvT F tu Γ b) : EvT F (tAnd tt tu) Γ (a && b) := fun z σ Q hz hs c =>
  h1 z σ _ hz hs fun z1 a1 hz1 => by
    cases a with
    | true => rw [if_pos rfl]; exact h2 rfl z1 σ Q hz1 (hs.add a1) fun z2 a2 hz2 => c z2 (a1.trans a2) hz2
    | false => rw [if_neg Bool.false_ne_true]; exact c z1 a1 hz1
theorem evt_or {a b : Bool} (h1 : EvT F tt Γ a) (h2 : a = false → EvT F tu Γ b) : EvT F (tOr tt tu) Γ (a || b) := fun z σ Q hz hs c =>
  h1 z σ _ hz hs fun z1 a1 hz1 => by
    cases a with
    | true => rw [if_pos rfl]; exact c z1 a1 hz1
    | false => rw [if_neg Bool.false_ne_true]; exact h2 rfl z1 σ Q hz1 (hs.add a1) fun z2 a2 hz2 => c z2 (a1.trans a2) hz2
theorem evt_not {a : Bool} (h1 : EvT F tt Γ a) : EvT F (tNot tt) Γ (!a) := fun z σ Q hz hs c => h1 z σ _ hz hs fun z1 a1 hz1 => c z1 a1 hz1
theorem evs_andV {a b : Bool} (h1 : EvS F ta Γ (.d (.bool a))) (h2 : a = true → EvS F tb Γ (.d (.bool b))) : EvS F (tAndV ta tb) Γ (.d (.bool (a && b))) := fun z σ Q hz hs c =>
  h1 z σ _ hz hs fun v z1 a1 hz1 hv _ => ⟨a, hv.d_bool, by
    cases a with
    | true => rw [if_pos rfl]; exact h2 rfl z1 σ Q hz1 (hs.add a1) fun v z2 a2 hz2 hv hn => c v z2 (a1.trans a2) hz2 hv trivial
    | false => rw [if_neg Bool.false_ne_true]; exact c _ z1 a1 hz1 (.bl false) trivial⟩
theorem evs_orV {a b : Bool} (h1 : EvS F ta Γ (.d (.bool a))) (h2 : a = false → EvS F tb Γ (.d (.bool b))) : EvS F (tOrV ta tb) Γ (.d (.bool (a || b))) := fun z σ Q hz hs c =>
  h1 z σ _ hz hs fun v z1 a1 hz1 hv _ => ⟨a, hv.d_bool, by
    cases a with
    | true => rw [if_pos rfl]; exact c _ z1 a1 hz1 (.bl true) trivial
    | false => rw [if_neg Bool.false_ne_true]; exact h2 rfl z1 σ Q hz1 (hs.add a1) fun v z2 a2 hz2 hv hn => c v z2 (a1.trans a2) hz2 hv trivial⟩
theorem evs_notV {a : Bool} (h1 : EvS F ta Γ (.d (.bool a))) : EvS F (tNotV ta) Γ (.d (.bool (!a))) := fun z σ Q hz hs c =>
  h1 z σ _ hz hs fun v z1 a1 hz1 hv _ => ⟨a, hv.d_bool, c _ z1 a1 hz1 (.bl (!a)) trivial⟩
theorem evs_chain {a b : Bool} {w : Sl} (hx : EvS F ta Γ x) (hy : EvS F tb Γ y) (h1 : OpS F r x y (.d (.bool a))) (hw : a = true → EvS F tc Γ w) (h2 : a = true → OpS F r' y w (.d (.bool b))) : EvS F (tChain r r' ta tb tc) Γ (.d (.bool (a && b))) := fun z σ Q hz hs c =>
  hx z σ _ hz hs fun v z1 a1 hz1 hv _ => hy z1 σ _ hz1 (hs.add a1) fun u z2 a2 hz2 hu _ => h1 z2 v u _ hz2 (hv.add a2) hu fun q z3 a3 hz3 hq _ => ⟨a, hq.d_bool, by
    cases a with
    | true =>
      rw [if_pos rfl]
      exact hw rfl z3 σ _ hz3 (hs.add (a1.trans (a2.trans a3))) fun m z4 a4 hz4 hm _ => h2 rfl z4 u m Q hz4 (hu.add (a3.trans a4)) hm fun n z5 a5 hz5 hn _ => c n z5 (a1.trans (a2.trans (a3.trans (a4.trans a5)))) hz5 hn trivial
    | false => rw [if_neg Bool.false_ne_true]; exact c _ z3 (a1.trans (a2.trans a3)) hz3 (.bl false) trivial⟩
end

/-! ### operators -/
section
variable {F : Fx} {x y s : Sl} {ss : List Sl} {ds es : List PyData} {i j : Int} {d e : PyData} {K : PySem.W.Frag}
/-- a rule whose answer is there at once -/
theorem ops_val {r : R2} (h : ∀ z v w Q, ZOk F z → VOk F z none v x → VOk F z none w y → (∀ u, VOk F z none u (.d d) → Q u z.H) → r v w z.H Q) : OpS F r x y (.d d) := fun z v w Q hz hv hw c =>
  h z v w Q hz hv hw fun u hu => c u z (Add.refl z) hz hu trivial
theorem calls_val {r : List V → Hp → VK → Prop} (h : ∀ z vs Q, ZOk F z → VAll F z vs ss → (∀ u, VOk F z none u (.d d) → Q u z.H) → r vs z.H Q) : CallS F r ss (.d d) := fun z vs Q hz hv c =>
  h z vs Q hz hv fun u hu => c u z (Add.refl z) hz hu trivial
theorem OpS.orl {r r' : R2} (h : OpS F r x y s) : OpS F (fun x y H Q => r x y H Q ∨ r' x y H Q) x y s := fun z v w Q hz hv hw c => .inl (h z v w Q hz hv hw c)
theorem OpS.orr {r r' : R2} (h : OpS F r' x y s) : OpS F (fun x y H Q => r x y H Q ∨ r' x y H Q) x y s := fun z v w Q hz hv hw c => .inr (h z v w Q hz hv hw c)
theorem CallS.orl {r r' : List V → Hp → VK → Prop} (h : CallS F r ss s) : CallS F (fun x H Q => r x H Q ∨ r' x H Q) ss s := fun z v Q hz hv c => .inl (h z v Q hz hv c)
theorem CallS.orr {r r' : List V → Hp → VK → Prop} (h : CallS F r' ss s) : CallS F (fun x H Q => r x H Q ∨ r' x H Q) ss s := fun z v Q hz hv c => .inr (h z v Q hz hv c)
theorem VAll.one {z : Z} {vs : List V} (h : VAll F z vs [x]) : ∃ v, vs = [v] ∧ VOk F z none v x := by
  cases h with
  | cons h t => cases t; exact ⟨_, rfl, h⟩
theorem VAll.two {z : Z} {vs : List V} (h : VAll F z vs [x, y]) : ∃ v w, vs = [v, w] ∧ VOk F z none v x ∧ VOk F z none w y := by
  cases h with
  | cons h t => obtain ⟨w, rfl, hw⟩ := VAll.one t; exact ⟨_, _, rfl, h, hw⟩

theorem ops_I0 {g : Int → Int → Int} : OpS F (rI0 fun i j => .int (g i j)) (.d (.int i)) (.d (.int j)) (.d (.int (g i j))) :=
  ops_val fun z v w Q hz hv hw c => ⟨i, j, hv.d_int, hw.d_int, c _ (.int _)⟩
theorem ops_B0 {g : Int → Int → Bool} : OpS F (rI0 fun i j => .bl (g i j)) (.d (.int i)) (.d (.int j)) (.d (.bool (g i j))) :=
  ops_val fun z v w Q hz hv hw c => ⟨i, j, hv.d_int, hw.d_int, c _ (.bl _)⟩
theorem ops_I {C : Int → Int → Prop} {g : Int → Int → Int} (hc : C i j) : OpS F (rI C fun i j => .int (g i j)) (.d (.int i)) (.d (.int j)) (.d (.int (g i j))) :=
  ops_val fun z v w Q hz hv hw c => ⟨i, j, hv.d_int, hw.d_int, hc, c _ (.int _)⟩
theorem ops_eqD (hx : x.asD = some d) (hy : y.asD = some e) (s1 : SeqAt.shaped d = true) (s2 : SeqAt.shaped e = true) : OpS F (rEqD F.K) x y (.d (.bool (PyData.eqv d e))) :=
  ops_val fun z v w Q hz hv hw c => ⟨d, e, hv.asD hz hx, hw.asD hz hy, s1, s2, c _ (.bl _)⟩
theorem ops_neD (hx : x.asD = some d) (hy : y.asD = some e) (s1 : SeqAt.shaped d = true) (s2 : SeqAt.shaped e = true) : OpS F (rNeD F.K) x y (.d (.bool (!PyData.eqv d e))) :=
  ops_val fun z v w Q hz hv hw c => ⟨d, e, hv.asD hz hx, hw.asD hz hy, s1, s2, c _ (.bl _)⟩
/-- is None -/
def PyData.isN : PyData → Bool
  | .none => true
  | _ => false
theorem dt_non {z : Z} {v : V} (h : VOk F z none v (.d d)) : decide (v = .non) = PyData.isN d := by
  cases h <;> first | rfl | exact decide_eq_false (fun q => nomatch q)
theorem ops_isN : OpS F (fun x y H Q => y = .non ∧ Q (.bl (decide (x = .non))) H) (.d d) (.d .none) (.d (.bool (PyData.isN d))) :=
  ops_val fun z v w Q hz hv hw c => ⟨hw.d_none, by rw [dt_non hv]; exact c _ (.bl _)⟩
theorem ops_notN : OpS F (fun x y H Q => y = .non ∧ Q (.bl (!decide (x = .non))) H) (.d d) (.d .none) (.d (.bool (!PyData.isN d))) :=
  ops_val fun z v w Q hz hv hw c => ⟨hw.d_none, by rw [dt_non hv]; exact c _ (.bl _)⟩
/-- + of ints, texts, tuples, lists -/
def rAddG (K : PySem.W.Frag) : R2 := fun x y H Q => rI0 (fun i j => .int (i + j)) x y H Q ∨ (rCatA K x y H Q ∨ (rCat x y H Q ∨ ∃ i j, x = .str i ∧ y = .str j ∧ i.length + j.length ≤ sizeLine ∧ Q (.str (i ++ j)) H))
theorem op_addG {X : Cx} : OpR X (binaryOp .Add) (rAddG X.K) := OpR.or op_add (OpR.or op_catA (OpR.or op_cat op_add_str))
theorem add_int : OpS F (rAddG K) (.d (.int i)) (.d (.int j)) (.d (.int (i + j))) := fun z v w Q hz hv hw c => .inl (ops_I0 z v w Q hz hv hw c)
theorem add_tup (hl : ds.length + es.length ≤ sizeLine) : OpS F (rAddG F.K) (.d (.tuple ds)) (.d (.tuple es)) (.d (.tuple (ds ++ es))) := fun z v w Q hz hv hw c => by
  obtain ⟨a, xs, rfl, h1, h1s, h2⟩ := hv.asT hz rfl
  obtain ⟨b, ys, rfl, g1, g1s, g2⟩ := hw.asT hz rfl
  refine .inr (.inl ⟨a, b, xs, ys, rfl, rfl, h1, g1, by rw [h2.len, g2.len]; exact hl, fun e => ?_, fun _ e => ?_, fun _ _ p hp => ?_⟩)
  · subst e
    cases h2
    exact c _ z (Add.refl z) hz (.tup g1s g2) trivial
  · subst e
    cases g2
    exact c _ z (Add.refl z) hz (by rw [List.append_nil]; exact .tup h1s h2) trivial
  · exact c _ (z.sh p _) (Add.sh hz hp) (hz.sh hp) (VOk.sh_tup hz hp (h2.app g2)) trivial
theorem add_lst (hx : x.asL = some ds) (hy : y.asL = some es) (hl : ds.length + es.length ≤ sizeLine) : OpS F (rAddG K) x y (.lst (ds ++ es)) := fun z v w Q hz hv hw c => by
  obtain ⟨a, xs, rfl, h1, h2⟩ := hv.asL hz hx
  obtain ⟨b, ys, rfl, g1, g2⟩ := hw.asL hz hy
  exact .inr (.inr (.inl ⟨a, b, xs, ys, rfl, rfl, h1, g1, by rw [h2.len, g2.len]; exact hl, fun p hp => c _ (z.tmp p _) (Add.tmp hp) (hz.tmp hp) (VOk.tmp_lst hz hp (h2.app g2)) ⟨p, rfl, hp⟩⟩))
theorem add_str {a b : Str} (hl : a.length + b.length ≤ sizeLine) : OpS F (rAddG K) (.d (.str a)) (.d (.str b)) (.d (.str (a ++ b))) := fun z v w Q hz hv hw c => by
  refine .inr (.inr (.inr ⟨a, b, hv.d_str, hw.d_str, hl, c _ z (Add.refl z) hz (.str _) trivial⟩))
/-- * -/
def rMulG : R2 := fun x y H Q => rI CMul (fun i j => .int (i * j)) x y H Q ∨ rRep x y H Q
theorem op_mulG {X : Cx} : OpR X (binaryOp .Mult) rMulG := OpR.or op_mul op_rep
theorem mul_int (h : CMul i j) : OpS F rMulG (.d (.int i)) (.d (.int j)) (.d (.int (i * j))) := fun z v w Q hz hv hw c => .inl (ops_I h z v w Q hz hv hw c)
theorem DtAll.flat {S : Hp} {vs : List V} (h : DtAll K S vs ds) : ∀ n : Nat, DtAll K S (List.replicate n vs).flatten (List.replicate n ds).flatten
  | 0 => .nil
  | n + 1 => by rw [List.replicate_succ, List.replicate_succ, List.flatten_cons, List.flatten_cons]; exact h.app (DtAll.flat h n)
theorem mul_lst (hx : x.asL = some ds) (h1 : -(2 ^ 63) ≤ i) (h2 : i < 2 ^ 63) (hl : ds.length * i.toNat ≤ sizeLine) : OpS F rMulG x (.d (.int i)) (.lst (List.replicate i.toNat ds).flatten) := fun z v w Q hz hv hw c => by
  obtain ⟨a, xs, rfl, g1, g2⟩ := hv.asL hz hx
  exact .inr ⟨a, i, xs, rfl, hw.d_int, g1, h1, h2, by rw [g2.len]; exact hl, fun p hp => c _ (z.tmp p _) (Add.tmp hp) (hz.tmp hp) (VOk.tmp_lst hz hp (g2.flat _)) ⟨p, rfl, hp⟩⟩
/-! in, not in -/
def flatD : PyData → Bool
  | .none => true
  | .bool _ => true
  | .int _ => true
  | .str _ => true
  | _ => false
theorem flat_of {S : Hp} {v : V} (h : Dt K S v d) (f : flatD d = true) : flatV v = true := by
  cases h <;> first | rfl | cases f
theorem eqV_of {S : Hp} {v w : V} (h : Dt K S v d) (g : Dt K S w e) (f1 : flatD d = true) (f2 : flatD e = true) : eqV v w = PyData.eqv d e := by
  cases h <;> first | (cases f1; done) | (cases g <;> first | (cases f2; done) | simp [eqV, PyData.eqv])
theorem flats_of {S : Hp} : ∀ {vs : List V} {ds : List PyData}, DtAll K S vs ds → ds.all flatD = true → vs.all flatV = true
  | _, _, .nil, _ => rfl
  | _, _, .cons h t, f => by
    rw [List.all_cons, Bool.and_eq_true] at f
    rw [List.all_cons, flat_of h f.1, flats_of t f.2]; rfl
theorem inV_of {S : Hp} {w : V} (g : Dt K S w e) (f2 : flatD e = true) : ∀ {vs : List V} {ds : List PyData}, DtAll K S vs ds → ds.all flatD = true → inV w vs = ds.any fun z => PyData.eqv z e
  | _, _, .nil, _ => rfl
  | _, _, .cons h t, f => by
    rw [List.all_cons, Bool.and_eq_true] at f
    show (eqV _ w || inV w _) = _
    rw [eqV_of h g f.1 f2, inV_of g f2 t f.2]; rfl
theorem in_seq (hy : y.asQ = some ds) (f1 : flatD d = true) (f2 : ds.all flatD = true) : OpS F (rIn F.K false) (.d d) y (.d (.bool (ds.any fun z => PyData.eqv z d))) :=
  ops_val fun z v w Q hz hv hw c => by
    obtain ⟨a, xs, rfl, h1, h2⟩ := hw.asQ hz hy
    refine ⟨a, xs, rfl, h1, flat_of hv f1, flats_of h2 f2, ?_⟩
    rw [if_neg Bool.false_ne_true, inV_of hv f1 h2 f2]
    exact c _ (.bl _)
theorem notin_seq (hy : y.asQ = some ds) (f1 : flatD d = true) (f2 : ds.all flatD = true) : OpS F (rIn F.K true) (.d d) y (.d (.bool (!ds.any fun z => PyData.eqv z d))) :=
  ops_val fun z v w Q hz hv hw c => by
    obtain ⟨a, xs, rfl, h1, h2⟩ := hw.asQ hz hy
    refine ⟨a, xs, rfl, h1, flat_of hv f1, flats_of h2 f2, ?_⟩
    rw [if_pos rfl, inV_of hv f1 h2 f2]
    exact c _ (.bl _)
/-! subscripts, slices -/
theorem ixN_lt {n : Nat} {i : Int} {k : Nat} (h : ixN n i = some k) : k < n := by
  unfold ixN at h
  split at h
  · split at h
    · cases h; omega
    · cases h
  · split at h
    · cases h; omega
    · cases h
theorem atI_of {S : Hp} {vs : List V} {ds : List PyData} (h : DtAll K S vs ds) (e : atI ds i = some d) : ∃ v, atI vs i = some v ∧ Dt K S v d := by
  unfold atI at e ⊢
  rw [h.len]
  cases q : ixN ds.length i with
  | none => rw [q] at e; cases e
  | some k =>
    rw [q] at e
    exact h.get (show ds[k]? = some d from e)
theorem ix_at (hx : x.asQ = some ds) (e : atI ds i = some d) : OpS F (rIx F.K) x (.d (.int i)) (.d d) :=
  ops_val fun z v w Q hz hv hw c => by
    obtain ⟨a, xs, rfl, h1, h2⟩ := hv.asQ hz hx
    obtain ⟨u, e1, hu⟩ := atI_of h2 e
    rcases h1 with h1 | h1
    · exact .inl ⟨a, xs, i, u, rfl, hw.d_int, h1, e1, c _ hu⟩
    · exact .inr (.inl ⟨a, xs, i, u, rfl, hw.d_int, h1, e1, c _ hu⟩)
theorem atI_nat' {α : Type} {xs : List α} {k : Nat} {v : α} (h : xs[k]? = some v) : atI xs (k : Int) = some v := by
  have hk : k < xs.length := (List.getElem?_eq_some_iff.mp h).1
  unfold atI ixN
  rw [if_pos (by omega), if_pos (by omega)]
  exact h
theorem atI_neg1 {α : Type} {xs : List α} {v : α} (h : xs.getLast? = some v) : atI xs (-1) = some v := by
  cases xs with
  | nil => cases h
  | cons a t =>
    unfold atI ixN
    rw [if_neg (by omega), if_pos (by simp [List.length_cons]; omega)]
    rw [List.getLast?_eq_getElem?] at h
    show (a :: t)[((-1 : Int) + ((a :: t).length : Nat)).toNat]? = some v
    rw [← h]; congr 1; simp [List.length_cons]; omega
/-- what a slice leaves -/
def cutD {α : Type} (xs : List α) (lo hi : Option Int) : List α := (xs.drop (HT.sIx xs.length 0 lo)).take (HT.sIx xs.length xs.length hi - HT.sIx xs.length 0 lo)
theorem DtAll.cut {S : Hp} {vs : List V} {ds : List PyData} (h : DtAll K S vs ds) (lo hi : Option Int) : DtAll K S (cutV vs lo hi) (cutD ds lo hi) := by
  unfold cutV cutD
  rw [h.len]
  exact (h.drop _).take _
/-- slices of tuples, lists (texts: rSlS) -/
def rSlG (K : PySem.W.Frag) : V → Option Int → Option Int → Hp → VK → Prop := fun x lo hi H Q => rSlA K x lo hi H Q ∨ rSlL K x lo hi H Q
theorem sl_G {X : Cx} : SlR X (rSlG X.K) := SlR.or sl_tupA sl_list
end
section
variable {F : Fx} {te ta tb tc : TE} {tt tu : TT} {tA tB : TA} {Γ : List Sl} {x y s : Sl} {ss : List Sl} {ds es : List PyData} {i j : Int} {lo hi : Option Int} {tl th : TO}
def EvO (F : Fx) (t : TO) (Γ : List Sl) (o : Option Int) : Prop := ∀ (z : Z) (σ : L2.St) (Q : Option Int → Hp → Prop), ZOk F z → SOk F z σ Γ → (∀ z', Add z z' → ZOk F z' → Q o z'.H) → t σ z.H Q
theorem evo_no : EvO F tNoPart Γ none := fun z σ Q hz hs c => c z (Add.refl z) hz
theorem evo_some (h : EvS F te Γ (.d (.int i))) : EvO F (tPart te) Γ (some i) := fun z σ Q hz hs c =>
  h z σ _ hz hs fun v z1 a1 hz1 hv _ => ⟨i, hv.d_int, c z1 a1 hz1⟩
theorem cutD_all {α : Type} {xs : List α} {lo hi : Option Int} (h1 : HT.sIx xs.length 0 lo = 0) (h2 : HT.sIx xs.length xs.length hi = xs.length) : cutD xs lo hi = xs := by
  unfold cutD; rw [h1, h2]; simp
theorem evs_slT (hx : EvS F te Γ x) (e : x.asT = some ds) (h1 : EvO F tl Γ lo) (h2 : EvO F th Γ hi) : EvS F (tSl (rSlG F.K) te tl th) Γ (.d (.tuple (cutD ds lo hi))) := fun z σ Q hz hs c =>
  hx z σ _ hz hs fun v z1 a1 hz1 hv _ => h1 z1 σ _ hz1 (hs.add a1) fun z2 a2 hz2 => h2 z2 σ _ hz2 (hs.add (a1.trans a2)) fun z3 a3 hz3 => by
    have a13 := a1.trans (a2.trans a3)
    obtain ⟨a, xs, rfl, g1, g1s, g2⟩ := (hv.add (a2.trans a3)).asT hz3 e
    refine .inl ⟨a, xs, rfl, g1, fun q => ?_, fun _ p hp => ?_⟩
    · rw [g2.len] at q
      exact c _ z3 a13 hz3 (by rw [cutD_all q.1 q.2]; exact .tup g1s g2) trivial
    · exact c _ (z3.sh p _) (a13.trans (Add.sh hz3 hp)) (hz3.sh hp) (VOk.sh_tup hz3 hp (g2.cut lo hi)) trivial
theorem evs_slL (hx : EvS F te Γ x) (e : x.asL = some ds) (h1 : EvO F tl Γ lo) (h2 : EvO F th Γ hi) : EvS F (tSl (rSlG F.K) te tl th) Γ (.lst (cutD ds lo hi)) := fun z σ Q hz hs c =>
  hx z σ _ hz hs fun v z1 a1 hz1 hv _ => h1 z1 σ _ hz1 (hs.add a1) fun z2 a2 hz2 => h2 z2 σ _ hz2 (hs.add (a1.trans a2)) fun z3 a3 hz3 => by
    have a13 := a1.trans (a2.trans a3)
    obtain ⟨a, xs, rfl, g1, g2⟩ := (hv.add (a2.trans a3)).asL hz3 e
    exact .inr ⟨a, xs, rfl, SqL.of g1, fun p hp => c _ (z3.tmp p _) (a13.trans (Add.tmp hp)) (hz3.tmp hp) (VOk.tmp_lst hz3 hp (g2.cut lo hi)) ⟨p, rfl, a13.dom p hp⟩⟩

/-! ### built-ins -/
def rLenG (K : PySem.W.Frag) : List V → Hp → VK → Prop := fun xs H Q => (∃ p ys, xs = [.ref p] ∧ (SqL K H p ys ∨ SqT K H p ys) ∧ Q (.int ys.length) H) ∨ ∃ z, xs = [.str z] ∧ z.length ≤ sizeLine ∧ Q (.int z.length) H
theorem call_lenG {X : Cx} : CallR X (.builtin "len") (rLenG X.K) := CallR.or call_len_seq call_len_str
theorem len_seq (h : x.asQ = some ds) : CallS F (rLenG F.K) [x] (.d (.int (ds.length : Nat))) := calls_val fun z vs Q hz ha c => by
  obtain ⟨v, rfl, hv⟩ := VAll.one ha
  obtain ⟨a, xs, rfl, h1, h2⟩ := hv.asQ hz h
  exact .inl ⟨a, xs, rfl, h1, by rw [h2.len]; exact c _ (.int _)⟩
theorem len_str {a : Str} (hl : a.length ≤ sizeLine) : CallS F (rLenG F.K) [.d (.str a)] (.d (.int (a.length : Nat))) := calls_val fun z vs Q hz ha c => by
  obtain ⟨v, rfl, hv⟩ := VAll.one ha
  exact .inr ⟨a, by rw [hv.d_str], hl, c _ (.int _)⟩
/-- sum of a list or a tuple of ints -/
theorem sum_rawT {prog : Program} {w : World} {A : Around} {E : Value → Shared → Prop} {s : Shared} {l : Addr} {its : List Value} {ns : List Int} {Q : Value → Shared → Prop} (hh : A.handled = none) (hl : s.heap.IsTuple l its.toArray) (hi : IntsAre its ns)
    (h : ∀ h' tk t', (∀ b o, s.heap.get? b = some o → h'.get? b = some o) → Q (.int ns.sum t') { s with heap := h', toks := tk }) : wpAny (model prog w) A (call (.builtin "sum") [.ref l]) Q E s := by
  obtain ⟨xs, e⟩ := hi.allInts.items
  have hn : numsOf (intItems xs).toList = ns := by rw [← e]; exact hi.numsOf
  rw [nums_intItems] at hn
  rw [e] at hl
  refine PySem.W.ktm_sumG hh hl fun h' tk t' hk => ?_
  have := h h' tk t' hk
  rw [preSum_eq, List.take_of_length_le (by simp), hn]; exact this
def rSumG (K : PySem.W.Frag) : List V → Hp → VK → Prop := fun vs H Q => ∃ (a : Addr) (ns : List Int), vs = [V.ref a] ∧ (SqL K H a (ns.map V.int) ∨ SqT K H a (ns.map V.int)) ∧ Q (.int ns.sum) H
theorem call_sumG {X : Cx} (hc : X.calm = true) : CallR X (.builtin "sum") (rSumG X.K) := by
  intro pins s σ H vs us Q I r h
  obtain ⟨a, ns, rfl, hs, q⟩ := h
  rw [Vals.ref1 r]
  rcases hs with hs | hs
  · obtain ⟨its, rv, hl, _⟩ := I.list hs
    exact sum_raw (I.ok.hd hc) hl.isList rv.ints fun h' tk t' hk => ⟨.int _, H, I.kept hk, ⟨_, rfl⟩, q⟩
  · obtain ⟨its, rv, hl, _⟩ := I.tuple hs
    exact sum_rawT (I.ok.hd hc) hl rv.ints fun h' tk t' hk => ⟨.int _, H, I.kept hk, ⟨_, rfl⟩, q⟩
theorem sum_ints {ns : List Int} (h : x.asQ = some (ns.map PyData.int)) : CallS F (rSumG F.K) [x] (.d (.int ns.sum)) := calls_val fun z vs Q hz ha c => by
  obtain ⟨v, rfl, hv⟩ := VAll.one ha
  obtain ⟨a, xs, rfl, h1, h2⟩ := hv.asQ hz h
  have e := h2.ints
  subst e
  exact ⟨a, ns, rfl, h1, c _ (.int _)⟩
theorem all_bls {bs : List Bool} (h : x.asL = some (bs.map PyData.bool)) : CallS F (rAll F.K) [x] (.d (.bool (bs.all id))) := calls_val fun z vs Q hz ha c => by
  obtain ⟨v, rfl, hv⟩ := VAll.one ha
  obtain ⟨a, xs, rfl, h1, h2⟩ := hv.asL hz h
  have e := h2.bls
  subst e
  exact ⟨a, bs, rfl, SqL.of h1, c _ (.bl _)⟩
theorem max2 : CallS F (fun xs H Q => ∃ i j, xs = [.int i, .int j] ∧ Q (.int (if j > i then j else i)) H) [.d (.int i), .d (.int j)] (.d (.int (if j > i then j else i))) := calls_val fun z vs Q hz ha c => by
  obtain ⟨v, w, rfl, hv, hw⟩ := VAll.two ha
  exact ⟨i, j, by rw [hv.d_int, hw.d_int], c _ (.int _)⟩
theorem min2 : CallS F (fun xs H Q => ∃ i j, xs = [.int i, .int j] ∧ Q (.int (if j < i then j else i)) H) [.d (.int i), .d (.int j)] (.d (.int (if j < i then j else i))) := calls_val fun z vs Q hz ha c => by
  obtain ⟨v, w, rfl, hv, hw⟩ := VAll.two ha
  exact ⟨i, j, by rw [hv.d_int, hw.d_int], c _ (.int _)⟩
def b2n (b : Bool) : Int := if b then 1 else 0
theorem int_bool {b : Bool} : CallS F (fun xs H Q => (∃ i, xs = [.int i] ∧ Q (.int i) H) ∨ ∃ k, xs = [.bl k] ∧ Q (.int (if k then 1 else 0)) H) [.d (.bool b)] (.d (.int (b2n b))) := calls_val fun z vs Q hz ha c => by
  obtain ⟨v, rfl, hv⟩ := VAll.one ha
  exact .inr ⟨b, by rw [hv.d_bool], c _ (.int _)⟩
def rTupG (K : PySem.W.Frag) : List V → Hp → VK → Prop := fun xs H Q => ∃ p ys, xs = [.ref p] ∧ ((SqL K H p ys ∧ ∀ l, H l = none → Q (.ref l) (upd H l (.tup ys))) ∨ (SqT K H p ys ∧ Q (.ref p) H))
theorem tup_lst (h : x.asL = some ds) : CallS F (rTupG F.K) [x] (.d (.tuple ds)) := fun z vs Q hz ha c => by
  obtain ⟨v, rfl, hv⟩ := VAll.one ha
  obtain ⟨a, xs, rfl, h1, h2⟩ := hv.asL hz h
  exact ⟨a, xs, rfl, .inl ⟨SqL.of h1, fun l hl => c _ (z.sh l _) (Add.sh hz hl) (hz.sh hl) (VOk.sh_tup hz hl h2) trivial⟩⟩
theorem lst_seq (h : x.asQ = some ds) : CallS F (fun xs H Q => ∃ p ys, xs = [.ref p] ∧ (SqL F.K H p ys ∨ SqT F.K H p ys) ∧ ∀ l, H l = none → Q (.ref l) (upd H l (.lst ys))) [x] (.lst ds) := fun z vs Q hz ha c => by
  obtain ⟨v, rfl, hv⟩ := VAll.one ha
  obtain ⟨a, xs, rfl, h1, h2⟩ := hv.asQ hz h
  exact ⟨a, xs, rfl, h1, fun l hl => c _ (z.tmp l _) (Add.tmp hl) (hz.tmp hl) (VOk.tmp_lst hz hl h2) ⟨l, rfl, hl⟩⟩
/-- isinstance(x, T), T a built-in class -/
def tyD : PyData → String
  | .none => "NoneType"
  | .bool _ => "bool"
  | .int _ => "int"
  | .str _ => "str"
  | .list _ => "list"
  | .tuple _ => "tuple"
  | .dict _ => "dict"
theorem ty_of {z : Z} {v : V} {d : PyData} (hz : ZOk F z) (h : VOk F z none v (.d d)) : TyX F.K z.H v (.type (tyD d)) := by
  cases h with
  | non => exact .base .non
  | bl b => exact .base (.bl b)
  | int i => exact .base (.int i)
  | str a => exact .base (.str a)
  | lst h _ => exact .base (.lst (hz.sub _ _ h))
  | tup h _ => exact .base (.tup (hz.sub _ _ h))
theorem isi_ty {d : PyData} {n : String} {b : Bool} (h : kitB (tyD d) n = some b) : CallS F (rIsi F.K) [.d d, .raw (.ty n)] (.d (.bool b)) := calls_val fun z vs Q hz ha c => by
  obtain ⟨v, w, rfl, hv, hw⟩ := VAll.two ha
  cases hw
  exact ⟨v, _, _, _, b, rfl, .ty n, ty_of hz hv, kit_ty h, c _ (.bl _)⟩
end

/-! ### lists that are changed -/
section
variable {F : Fx} {te ta tb tc : TE} {tt tu : TT} {tA tB : TA} {Γ : List Sl} {x y s : Sl} {nx bk ct : List Sl → Prop} {rt : Sl → List Sl → Prop} {ds es : List PyData} {i : Nat}
/-- a slot's list as it may be changed -/
theorem mut_lst {z : Z} {σ : L2.St} {ds : List PyData} (hz : ZOk F z) (hs : SOk F z σ Γ) (hi : Γ[i]? = some (.lst ds)) : ∃ p xs, σ[i]? = some (some (.ref p)) ∧ z.H p = some (.lst xs) ∧ DtAll F.K z.S xs ds ∧
    ∀ xs' ds', DtAll F.K z.S xs' ds' → ZOk F ⟨z.S, upd z.H p (.lst xs'), z.own⟩ ∧ SOk F ⟨z.S, upd z.H p (.lst xs'), z.own⟩ σ (Γ.set i (.lst ds')) ∧ Ext z ⟨z.S, upd z.H p (.lst xs'), z.own⟩ := by
  obtain ⟨v, h1, p, xs, rfl, q1, q2, q3, q4, q5⟩ := (hs.at_ i _ hi).resolve_left (fun e => nomatch e)
  have hl : i < Γ.length := (List.getElem?_eq_some_iff.mp hi).1
  refine ⟨p, xs, h1, q1, q5, fun xs' ds' h' => ⟨⟨fun a u e => ?_, fun a u e => ?_, hz.s0, fun a j e => ?_, hz.fresh⟩, ⟨by rw [List.length_set]; exact hs.len, fun j s' e => ?_⟩, ⟨Ex.refl _, fun a u e n => ?_, fun a e => ?_⟩⟩⟩
  · exact (upd_ne (fun q => by subst q; rw [show z.S a = some u from e] at q3; cases q3)).trans (hz.sub a u e)
  · exact (upd_ne (fun q => by subst q; rw [e] at q4; cases q4)).trans (hz.base a u e)
  · obtain ⟨w1, w2, w3⟩ := hz.own a j e
    refine ⟨w1, w2, ?_⟩
    by_cases q : a = p
    · subst q; exact ⟨_, upd_same⟩
    · obtain ⟨o, w3⟩ := w3; exact ⟨o, (upd_ne q).trans w3⟩
  · by_cases hj : j = i
    · subst hj
      rw [List.getElem?_set_self hl] at e
      cases e
      exact .inr ⟨_, h1, p, xs', rfl, upd_same, q2, q3, q4, h'⟩
    · rw [List.getElem?_set_ne (Ne.symm hj)] at e
      have ho : ∀ {a : Addr}, z.own a = some j → a ≠ p := fun {a} w q => by subst q; rw [q2] at w; exact hj (Option.some.inj w).symm
      refine (hs.at_ j s' e).elim .inl fun ⟨w, w1, h2⟩ => .inr ⟨w, w1, ?_⟩
      cases s' with
      | un => exact h2
      | d x => exact h2
      | raw u => exact h2
      | lst ds => obtain ⟨a, xs, e, g1, g2, g3, g4, g5⟩ := h2; exact ⟨a, xs, e, (upd_ne (ho g2)).trans g1, g2, g3, g4, g5⟩
      | bor ds => exact nomatch h2.1
      | bK ds => exact nomatch h2.1
      | bT ds => exact nomatch h2.1
      | src a ds => obtain ⟨xs, e, g1, g2, g3, g4, g5⟩ := h2; exact ⟨xs, e, (upd_ne (ho g2)).trans g1, g2, g3, g4, g5⟩
      | dK ds => obtain ⟨a, xs, e, g1, g2, g3, g4, g5⟩ := h2; exact ⟨a, xs, e, (upd_ne (ho g2)).trans g1, g2, g3, g4, g5⟩
      | dT ds => obtain ⟨a, xs, e, g1, g2, g3, g4, g5⟩ := h2; exact ⟨a, xs, e, (upd_ne (ho g2)).trans g1, g2, g3, g4, g5⟩
      | sK ds => exact h2
      | sT ds => exact h2
      | sq ds => exact h2
  · exact ⟨(upd_ne (fun q => by subst q; rw [n] at q2; cases q2)).trans e, n, rfl⟩
  · by_cases q : a = p
    · subst q; exact nomatch (upd_same.symm.trans (show upd z.H a (HO.lst xs') a = none from e))
    · exact (upd_ne q).symm.trans e
end
end GL
namespace GL
open PySem PySem.Spec PyProof.Rows L2

/-! ### what is walked -/
section
variable {F : Fx}
/-- the iterator J gives these, one after another, whatever else happens -/
def Yields (F : Fx) (J : It) (S : Hp) (items : List PyData) : Prop := ∀ (z : Z), Ex S z.S → ZOk F z → ∀ i, (∀ d, items[i]? = some d → J.go i z.H ∧ ∀ x H', J.yld i z.H x H' → ∃ z', z'.H = H' ∧ Add z z' ∧ ZOk F z' ∧ Dt F.K z'.S x d) ∧ (items.length ≤ i → J.stop i z.H)
def WpI (F : Fx) (wi : TI) (Γ : List Sl) (k : List PyData → List Sl → Prop) : Prop := ∀ (z : Z) (σ : L2.St) (R : It → Hp → Prop), F.Ok → ZOk F z → SOk F z σ Γ → (∀ J items Γ' z', k items Γ' → Ext z z' → ZOk F z' → SOk F z' σ Γ' → Yields F J z'.S items → R J z'.H) → wi σ z.H R
variable {te : TE} {ta : TA} {Γ : List Sl} {nx bk ct : List Sl → Prop} {rt : Sl → List Sl → Prop} {k : List PyData → List Sl → Prop} {wi : TI} {g : TG} {tb : TS}
theorem yields_list {z : Z} {a : Addr} {xs : List V} {ds : List PyData} (h : z.S a = some (.lst xs)) (q : DtAll F.K z.S xs ds) : Yields F (Itl F.K a) z.S ds := fun z2 e hz2 i => by
  have h2 : SqL F.K z2.H a xs := SqL.of (hz2.sub _ _ (e _ _ h))
  refine ⟨fun d hd => ?_, fun hl => ⟨xs, h2, by rw [q.len]; exact hl⟩⟩
  obtain ⟨v, hv, dv⟩ := q.get hd
  refine ⟨⟨xs, v, h2, hv⟩, fun x H' ⟨eH, y⟩ => ⟨z2, eH.symm, Add.refl z2, hz2, ?_⟩⟩
  have e1 := (y xs h2).symm.trans hv
  cases e1
  exact dv.mono e
theorem yields_tup {z : Z} {a : Addr} {xs : List V} {ds : List PyData} (h : z.S a = some (.tup xs)) (q : DtAll F.K z.S xs ds) : Yields F (Itt F.K a) z.S ds := fun z2 e hz2 i => by
  have h2 : SqT F.K z2.H a xs := SqT.of (hz2.sub _ _ (e _ _ h))
  refine ⟨fun d hd => ?_, fun hl => ⟨xs, h2, by rw [q.len]; exact hl⟩⟩
  obtain ⟨v, hv, dv⟩ := q.get hd
  refine ⟨⟨xs, v, h2, hv⟩, fun x H' ⟨eH, y⟩ => ⟨z2, eH.symm, Add.refl z2, hz2, ?_⟩⟩
  have e1 := (y xs h2).symm.trans hv
  cases e1
  exact dv.mono e
theorem wpi_list (h : WpE F te Γ fun s Γ' => ∃ ds, s = .d (.list ds) ∧ k ds Γ') : WpI F (iList F.K te) Γ k := fun z σ R hF hz hs c =>
  h z σ _ hF hz hs fun v s Γ' z' ⟨ds, e, hk⟩ a hz' hs' hv _ => by
    subst e
    cases hv with
    | lst h1 h2 => exact ⟨_, rfl, ⟨_, SqL.of (hz'.sub _ _ h1)⟩, c _ _ _ _ hk a hz' hs' (yields_list h1 h2)⟩
theorem wpi_tup (h : WpE F te Γ fun s Γ' => ∃ ds, s = .d (.tuple ds) ∧ k ds Γ') : WpI F (iTup F.K te) Γ k := fun z σ R hF hz hs c =>
  h z σ _ hF hz hs fun v s Γ' z' ⟨ds, e, hk⟩ a hz' hs' hv _ => by
    subst e
    cases hv with
    | tup h1 h2 => exact ⟨_, rfl, ⟨_, SqT.of (hz'.sub _ _ h1)⟩, c _ _ _ _ hk a hz' hs' (yields_tup h1 h2)⟩
/-- lists and tuples -/
def rangeD (lo : Int) (n : Nat) : List PyData := (List.range n).map fun i : Nat => PyData.int (lo + (i : Int))
theorem rangeD_len {lo : Int} {n : Nat} : (rangeD lo n).length = n := by simp [rangeD]
theorem yields_range {S : Hp} {lo : Int} {n : Nat} : Yields F (Itr lo n) S (rangeD lo n) := fun z e hz i => by
  refine ⟨fun d hd => ?_, fun hl => by rw [rangeD_len] at hl; exact hl⟩
  have hi : i < n := by have := (List.getElem?_eq_some_iff.mp hd).1; rwa [rangeD_len] at this
  refine ⟨hi, fun x H' ⟨eH, y⟩ => ⟨z, eH.symm, Add.refl z, hz, ?_⟩⟩
  have : d = .int (lo + (i : Int)) := by
    simp [rangeD, hi] at hd
    exact hd.symm
  subst this y
  exact .int _
theorem wpi_range1 (h : WpA F ta Γ fun ss Γ' => ∃ j : Int, ss = [.d (.int j)] ∧ -(2 ^ 62) ≤ j ∧ j < 2 ^ 62 ∧ k (rangeD 0 j.toNat) Γ') : WpI F (iRng1 ta) Γ k := fun z σ R hF hz hs c =>
  h z σ _ hF hz hs fun vs ss Γ' z' ⟨j, e, h1, h2, hk⟩ a hz' hs' ha => by
    subst e
    obtain ⟨v, rfl, hv⟩ := VAll.one ha
    exact ⟨j, by rw [hv.d_int], h1, h2, c _ _ _ _ hk a hz' hs' yields_range⟩
theorem wpi_range2 (h : WpA F ta Γ fun ss Γ' => ∃ i j : Int, ss = [.d (.int i), .d (.int j)] ∧ (-(2 ^ 62) ≤ i ∧ i < 2 ^ 62 ∧ -(2 ^ 62) ≤ j ∧ j < 2 ^ 62) ∧ k (rangeD i (j - i).toNat) Γ') : WpI F (iRng2 ta) Γ k := fun z σ R hF hz hs c =>
  h z σ _ hF hz hs fun vs ss Γ' z' ⟨i, j, e, h1, hk⟩ a hz' hs' ha => by
    subst e
    obtain ⟨v, w, rfl, hv, hw⟩ := VAll.two ha
    exact ⟨i, j, by rw [hv.d_int, hw.d_int], h1, c _ _ _ _ hk a hz' hs' yields_range⟩
def enumD (ds : List PyData) : List PyData := (ds.zipIdx).map fun p => PyData.tuple [.int (p.2 : Int), p.1]
theorem enumD_len {ds : List PyData} : (enumD ds).length = ds.length := by simp [enumD]
theorem enumD_get {ds : List PyData} {i : Nat} {d : PyData} (h : (enumD ds)[i]? = some d) : ∃ e, ds[i]? = some e ∧ d = .tuple [.int (i : Int), e] := by
  unfold enumD at h
  rw [List.getElem?_map, List.getElem?_zipIdx] at h
  cases q : ds[i]? with
  | none => rw [q] at h; cases h
  | some e => rw [q] at h; simp at h; exact ⟨e, rfl, h.symm⟩

/-! ### for -/
def ForW (F : Fx) (g : TG) (tb : TS) (nx : List Sl → Prop) (rt : Sl → List Sl → Prop) : List PyData → List Sl → Prop
  | [], Γ => nx Γ
  | d :: ds, Γ => WpG F g (.d d) Γ fun Γ1 => Wp F tb Γ1 (ForW F g tb nx rt ds) rt nx (ForW F g tb nx rt ds)
theorem wp_for (h : WpI F wi Γ fun items Γ' => ForW F g tb nx rt items Γ') : Wp F (tFor wi g tb) Γ nx rt bk ct := fun z σ D hF hz hs r =>
  h z σ _ hF hz hs fun J items Γ1 z1 hk a1 hz1 hs1 hy => by
    refine ⟨fun i m σ H => ∃ z2 Γ2, H = z2.H ∧ Ex z1.S z2.S ∧ ZOk F z2 ∧ SOk F z2 σ Γ2 ∧ ForW F g tb nx rt (items.drop i) Γ2 ∧ m = items.length - i, ⟨_, z1, Γ1, rfl, Ex.refl _, hz1, hs1, hk, rfl⟩, ?_⟩
    rintro i m σ2 H2 ⟨z2, Γ2, rfl, e2, hz2, hs2, hf, hm⟩
    have r2 := r.mono (a1.s.trans e2)
    obtain ⟨yg, ys⟩ := hy z2 e2 hz2 i
    cases q : items[i]? with
    | none =>
      have hl := List.getElem?_eq_none_iff.mp q
      rw [List.drop_eq_nil_of_le hl] at hf
      exact .inl ⟨ys hl, r2.nx _ _ _ hf (Ex.refl _) hz2 hs2⟩
    | some d =>
      have hl := (List.getElem?_eq_some_iff.mp q).1
      obtain ⟨go, yl⟩ := yg d q
      have ed : items.drop i = d :: items.drop (i + 1) := by
        rw [List.drop_eq_getElem_cons hl, (List.getElem?_eq_some_iff.mp q).2]
      rw [ed] at hf
      refine .inr ⟨go, fun σ' H' => ∃ z3 Γ3, H' = z3.H ∧ Ex z1.S z3.S ∧ ZOk F z3 ∧ SOk F z3 σ' Γ3 ∧ ForW F g tb nx rt (items.drop (i + 1)) Γ3, ?_, ?_⟩
      · rintro σ' H' ⟨z3, Γ3, rfl, e3, hz3, hs3, hf3⟩
        exact ⟨items.length - (i + 1), by omega, z3, Γ3, rfl, e3, hz3, hs3, hf3, rfl⟩
      · intro x H' hx
        obtain ⟨z3, rfl, a3, hz3, dx⟩ := yl x H' hx
        refine hf z3 σ2 x _ hF hz3 (hs2.add a3) dx fun Γ4 σ4 z4 w4 e4 hz4 hs4 => ?_
        have e14 := e2.trans (a3.s.trans e4)
        refine w4 z4 σ4 _ hF hz4 hs4 ⟨fun Γ5 σ5 z5 f5 e5 hz5 hs5 => ⟨z5, Γ5, rfl, e14.trans e5, hz5, hs5, f5⟩, fun v s Γ5 σ5 z5 p5 e5 hz5 hs5 hv5 => r2.rt v s Γ5 σ5 z5 p5 ((a3.s.trans e4).trans e5) hz5 hs5 hv5,
          fun Γ5 σ5 z5 f5 e5 hz5 hs5 => r2.nx Γ5 σ5 z5 f5 ((a3.s.trans e4).trans e5) hz5 hs5, fun Γ5 σ5 z5 f5 e5 hz5 hs5 => ⟨z5, Γ5, rfl, e14.trans e5, hz5, hs5, f5⟩⟩
/-- over what stands as data -/
theorem wp_forL {ds : List PyData} (h : EvS F te Γ (.d (.list ds))) (q : ForW F g tb nx rt ds Γ) : Wp F (tFor (iList F.K te) g tb) Γ nx rt bk ct := wp_for (wpi_list (h.wp ⟨ds, rfl, q⟩))
theorem wp_forT {ds : List PyData} (h : EvS F te Γ (.d (.tuple ds))) (q : ForW F g tb nx rt ds Γ) : Wp F (tFor (iTup F.K te) g tb) Γ nx rt bk ct := wp_for (wpi_tup (h.wp ⟨ds, rfl, q⟩))
theorem wp_forR {j : Int} (h : EvA F ta Γ [.d (.int j)]) (h1 : -(2 ^ 62) ≤ j) (h2 : j < 2 ^ 62) (q : ForW F g tb nx rt (rangeD 0 j.toNat) Γ) : Wp F (tFor (iRng1 ta) g tb) Γ nx rt bk ct := wp_for (wpi_range1 (h.wp ⟨j, rfl, h1, h2, q⟩))
theorem wp_forR2 {i j : Int} (h : EvA F ta Γ [.d (.int i), .d (.int j)]) (h1 : -(2 ^ 62) ≤ i ∧ i < 2 ^ 62 ∧ -(2 ^ 62) ≤ j ∧ j < 2 ^ 62) (q : ForW F g tb nx rt (rangeD i (j - i).toNat) Γ) : Wp F (tFor (iRng2 ta) g tb) Γ nx rt bk ct := wp_for (wpi_range2 (h.wp ⟨i, j, rfl, h1, q⟩))
/-- by an invariant -/
theorem forW_inv (I : Nat → List Sl → Prop) {ds : List PyData} (h0 : I 0 Γ) (hs : ∀ i d Γ', ds[i]? = some d → I i Γ' → WpG F g (.d d) Γ' fun Γ1 => Wp F tb Γ1 (I (i + 1)) rt nx (I (i + 1))) (hd : ∀ Γ', I ds.length Γ' → nx Γ') : ForW F g tb nx rt ds Γ := by
  have all : ∀ (n i : Nat) (Γ' : List Sl), ds.length - i = n → i ≤ ds.length → I i Γ' → ForW F g tb nx rt (ds.drop i) Γ' := by
    intro n
    induction n with
    | zero =>
      intro i Γ' e hi h
      have : i = ds.length := by omega
      subst this
      rw [List.drop_length]
      exact hd _ h
    | succ n ih =>
      intro i Γ' e hi h
      have hl : i < ds.length := by omega
      rw [List.drop_eq_getElem_cons hl]
      intro z σ v Q hF hz hss hv c
      refine hs i ds[i] Γ' (List.getElem?_eq_getElem hl) h z σ v Q hF hz hss hv fun Γ1 σ1 z1 w e1 hz1 hs1 => c Γ1 σ1 z1 ?_ e1 hz1 hs1
      intro z2 σ2 D hF2 hz2 hs2 r
      exact w z2 σ2 D hF2 hz2 hs2 ⟨fun Γ3 σ3 z3 p => r.nx Γ3 σ3 z3 (ih (i + 1) Γ3 (by omega) hl p), r.rt, r.bk, fun Γ3 σ3 z3 p => r.ct Γ3 σ3 z3 (ih (i + 1) Γ3 (by omega) hl p)⟩
  exact all _ 0 Γ rfl (Nat.zero_le _) h0

/-! ### while -/
theorem wp_while {c : TT} (I : Nat → List Sl → Prop) {n : Nat} (h0 : I n Γ) (hs : ∀ n Γ', I n Γ' → WpT F c Γ' fun b Γ1 => (b = true → Wp F tb Γ1 (fun Γ2 => ∃ m, m < n ∧ I m Γ2) rt nx (fun Γ2 => ∃ m, m < n ∧ I m Γ2)) ∧ (b = false → nx Γ1)) : Wp F (tWhile c tb) Γ nx rt bk ct := fun z σ D hF hz hss r => by
  refine ⟨fun m σ H => ∃ z2 Γ2, H = z2.H ∧ Ex z.S z2.S ∧ ZOk F z2 ∧ SOk F z2 σ Γ2 ∧ I m Γ2, ⟨n, z, Γ, rfl, Ex.refl _, hz, hss, h0⟩, ?_⟩
  rintro m σ2 H2 ⟨z2, Γ2, rfl, e2, hz2, hs2, i2⟩
  refine hs m Γ2 i2 z2 σ2 _ hF hz2 hs2 fun b Γ3 z3 hk a3 hz3 hs3 => ?_
  have r3 := r.mono (e2.trans a3.s)
  cases b with
  | false => exact r3.nx _ _ _ (hk.2 rfl) (Ex.refl _) hz3 hs3
  | true =>
    refine ⟨fun σ' H' => ∃ z4 Γ4, H' = z4.H ∧ Ex z.S z4.S ∧ ZOk F z4 ∧ SOk F z4 σ' Γ4 ∧ ∃ m', m' < m ∧ I m' Γ4, ?_, ?_⟩
    · rintro σ' H' ⟨z4, Γ4, rfl, e4, hz4, hs4, m', hm, i4⟩
      exact ⟨m', hm, z4, Γ4, rfl, e4, hz4, hs4, i4⟩
    · have e13 := e2.trans a3.s
      exact hk.1 rfl z3 σ2 _ hF hz3 hs3 ⟨fun Γ5 σ5 z5 f5 e5 hz5 hs5 => ⟨z5, Γ5, rfl, e13.trans e5, hz5, hs5, f5⟩, r3.rt, r3.nx, fun Γ5 σ5 z5 f5 e5 hz5 hs5 => ⟨z5, Γ5, rfl, e13.trans e5, hz5, hs5, f5⟩⟩

/-! ### comprehensions -/
def wipeS (Γ : List Sl) : List Nat → List Sl
  | [] => Γ
  | v :: vs => (wipeS Γ vs).set v .un
theorem wipeS_ok {z : Z} {σ : L2.St} (hs : SOk F z σ Γ) : ∀ vs : List Nat, SOk F z (wipe σ vs) (wipeS Γ vs)
  | [] => hs
  | v :: vs => by
    have ih := wipeS_ok hs vs
    refine ⟨by show ((wipeS Γ vs).set v .un).length = ((wipe σ vs).set v none).length; rw [List.length_set, List.length_set]; exact ih.len, fun i s e => ?_⟩
    by_cases h : i = v
    · subst h
      by_cases hl : i < (wipeS Γ vs).length
      · rw [show (wipeS Γ (i :: vs))[i]? = some .un from List.getElem?_set_self hl] at e
        exact .inl (Option.some.inj e).symm
      · rw [show (wipeS Γ (i :: vs))[i]? = none from List.getElem?_eq_none (by show ((wipeS Γ vs).set i .un).length ≤ i; rw [List.length_set]; omega)] at e
        cases e
    · rw [show (wipeS Γ (v :: vs))[i]? = (wipeS Γ vs)[i]? from List.getElem?_set_ne (Ne.symm h)] at e
      rw [show (wipe σ (v :: vs))[i]? = (wipe σ vs)[i]? from List.getElem?_set_ne (Ne.symm h)]
      exact ih.at_ i s e

/-! ### targets -/
/-- a target takes data and nothing else happens -/
def GTo (F : Fx) (g : TG) (d : PyData) (Γ Γ1 : List Sl) : Prop := ∀ (z : Z) (σ : L2.St) (v : V) (Q : L2.St → Hp → Prop), ZOk F z → SOk F z σ Γ → Dt F.K z.S v d → (∀ σ', SOk F z σ' Γ1 → Q σ' z.H) → g v σ z.H Q
def GTos (F : Fx) (g : TGs) (ds : List PyData) (Γ Γ1 : List Sl) : Prop := ∀ (z : Z) (σ : L2.St) (vs : List V) (Q : L2.St → Hp → Prop), ZOk F z → SOk F z σ Γ → DtAll F.K z.S vs ds → (∀ σ', SOk F z σ' Γ1 → Q σ' z.H) → g vs σ z.H Q
variable {Γ1 Γ2 : List Sl} {d : PyData} {ds : List PyData} {gs : TGs}
theorem gto_name {i : Nat} (hi : i < Γ.length) : GTo F (gName i) d Γ (Γ.set i (.d d)) := fun z σ v Q hz hs hv c =>
  c _ (hs.other (own' := z.own) hi hv fun a j _ e => e)
theorem gtos_nil : GTos F gNil [] Γ Γ := fun z σ vs Q hz hs hv c => by cases hv; exact ⟨rfl, c σ hs⟩
theorem gtos_cons (h1 : GTo F g d Γ Γ1) (h2 : GTos F gs ds Γ1 Γ2) : GTos F (gCons g gs) (d :: ds) Γ Γ2 := fun z σ vs Q hz hs hv c => by
  cases hv with
  | cons h t => exact ⟨_, _, rfl, h1 z σ _ _ hz hs h fun σ1 hs1 => h2 z σ1 _ Q hz hs1 t c⟩
theorem gto_tup {n : Nat} (hn : ds.length = n) (h : GTos F gs ds Γ Γ1) : GTo F (gTup F.K n gs) (.tuple ds) Γ Γ1 := fun z σ v Q hz hs hv c => by
  cases hv with
  | tup h1 h2 => exact ⟨_, _, rfl, SqT.of (hz.sub _ _ h1), by rw [h2.len]; exact hn, h z σ _ Q hz hs h2 c⟩
theorem GTo.wp {k : List Sl → Prop} (h : GTo F g d Γ Γ1) (q : k Γ1) : WpG F g (.d d) Γ k := fun z σ v Q hF hz hs hv c =>
  h z σ v Q hz hs hv fun σ' hs' => c Γ1 σ' z q (Ex.refl _) hz hs'
/-- the target stores nothing beside these slots -/
def Gvs (vs : List Nat) (g : TG) : Prop := ∀ v σ H Q, g v σ H Q → g v σ H fun σ' H' => wipe σ' vs = wipe σ vs ∧ Q σ' H'
def Gvss (vs : List Nat) (g : TGs) : Prop := ∀ v σ H Q, g v σ H Q → g v σ H fun σ' H' => wipe σ' vs = wipe σ vs ∧ Q σ' H'
theorem wipe_get {σ : L2.St} {j : Nat} : ∀ {vs : List Nat}, (wipe σ vs)[j]? = if j ∈ vs then (if j < σ.length then some none else none) else σ[j]?
  | [] => by simp [wipe]
  | v :: vs => by
    show ((wipe σ vs).set v none)[j]? = _
    by_cases h : j = v
    · subst h
      rw [List.getElem?_set]
      simp [wipe_length]
    · rw [List.getElem?_set_ne (Ne.symm h), wipe_get (vs := vs)]
      simp [h]
theorem wipe_wipe {σ : L2.St} {vs : List Nat} : wipe (wipe σ vs) vs = wipe σ vs := by
  apply List.ext_getElem?
  intro j
  rw [wipe_get, wipe_length, wipe_get]
  by_cases hj : j ∈ vs
  · rw [if_pos hj, if_pos hj]
  · rw [if_neg hj, if_neg hj]
theorem wipe_set {σ : L2.St} {i : Nat} {x : Option V} {vs : List Nat} (h : i ∈ vs) : wipe (σ.set i x) vs = wipe σ vs := by
  apply List.ext_getElem?
  intro j
  rw [wipe_get, wipe_get]
  by_cases hj : j ∈ vs
  · rw [if_pos hj, if_pos hj, List.length_set]
  · rw [if_neg hj, if_neg hj, List.getElem?_set_ne (fun q => by subst q; exact hj h)]
theorem gvs_name {vs : List Nat} {i : Nat} (h : i ∈ vs) : Gvs vs (gName i) := fun v σ H Q q => ⟨wipe_set h, q⟩
theorem gvss_nil {vs : List Nat} : Gvss vs gNil := fun v σ H Q q => ⟨q.1, rfl, q.2⟩
theorem gvss_cons {vs : List Nat} (h1 : Gvs vs g) (h2 : Gvss vs gs) (m : ∀ v σ H Q Q', (∀ σ' H', Q σ' H' → Q' σ' H') → g v σ H Q → g v σ H Q') (m2 : ∀ v σ H Q Q', (∀ σ' H', Q σ' H' → Q' σ' H') → gs v σ H Q → gs v σ H Q') : Gvss vs (gCons g gs) := fun v σ H Q q => by
  obtain ⟨x, r, e, q⟩ := q
  refine ⟨x, r, e, m _ _ _ _ _ (fun σ' H' q => ?_) (h1 _ _ _ _ q)⟩
  exact m2 _ _ _ _ _ (fun σ2 H2 q2 => ⟨q2.1.trans q.1, q2.2⟩) (h2 _ _ _ _ q.2)
theorem mono_name {i : Nat} (v : V) (σ : L2.St) (H : Hp) (Q Q' : L2.St → Hp → Prop) (h : ∀ σ' H', Q σ' H' → Q' σ' H') (q : gName i v σ H Q) : gName i v σ H Q' := h _ _ q
theorem mono_nil (v : List V) (σ : L2.St) (H : Hp) (Q Q' : L2.St → Hp → Prop) (h : ∀ σ' H', Q σ' H' → Q' σ' H') (q : gNil v σ H Q) : gNil v σ H Q' := ⟨q.1, h _ _ q.2⟩
theorem mono_names {i : Nat} (m2 : ∀ v σ H Q Q', (∀ σ' H', Q σ' H' → Q' σ' H') → gs v σ H Q → gs v σ H Q') (v : List V) (σ : L2.St) (H : Hp) (Q Q' : L2.St → Hp → Prop) (h : ∀ σ' H', Q σ' H' → Q' σ' H') (q : gCons (gName i) gs v σ H Q) : gCons (gName i) gs v σ H Q' := by
  obtain ⟨x, r, e, q⟩ := q
  exact ⟨x, r, e, m2 _ _ _ _ _ h q⟩
/-- names, one after another -/
def gNames : List Nat → TGs
  | [] => gNil
  | i :: is => gCons (gName i) (gNames is)
theorem mono_gNames : ∀ (is : List Nat) (v : List V) (σ : L2.St) (H : Hp) (Q Q' : L2.St → Hp → Prop), (∀ σ' H', Q σ' H' → Q' σ' H') → gNames is v σ H Q → gNames is v σ H Q'
  | [], v, σ, H, Q, Q', h, q => mono_nil v σ H Q Q' h q
  | i :: is, v, σ, H, Q, Q', h, q => mono_names (mono_gNames is) v σ H Q Q' h q
theorem gvss_names {vs : List Nat} : ∀ (is : List Nat), (∀ i ∈ is, i ∈ vs) → Gvss vs (gNames is)
  | [], _ => gvss_nil
  | i :: is, h => gvss_cons (gvs_name (h i (by simp))) (gvss_names is fun j hj => h j (by simp [hj])) (fun v σ H Q Q' => mono_name v σ H Q Q') (mono_gNames is)
theorem gvs_tup {K : PySem.W.Frag} {n : Nat} {vs : List Nat} (h : Gvss vs gs) : Gvs vs (gTup K n gs) := fun v σ H Q ⟨a, xs, e, h1, h2, q⟩ => ⟨a, xs, e, h1, h2, h _ _ _ _ q⟩
def setAll : List Sl → List Nat → List PyData → List Sl
  | Γ, i :: is, d :: ds => setAll (Γ.set i (.d d)) is ds
  | Γ, _, _ => Γ
theorem gtos_names : ∀ (is : List Nat) (ds : List PyData) (Γ : List Sl), is.length = ds.length → (∀ i ∈ is, i < Γ.length) → GTos F (gNames is) ds Γ (setAll Γ is ds)
  | [], [], Γ, _, _ => gtos_nil
  | i :: is, d :: ds, Γ, h, hl => gtos_cons (gto_name (hl i (by simp))) (gtos_names is ds _ (by simpa using h) fun j hj => by rw [List.length_set]; exact hl j (by simp [hj]))

/-! ### comprehensions -/
/-- pure turns and what they give -/
def LcP (F : Fx) (g : TG) (tt : TT) (te : TE) (Γ : List Sl) : List PyData → List PyData → Prop
  | [], outs => outs = []
  | d :: ds, outs => ∃ Γ1 b, GTo F g d Γ Γ1 ∧ EvT F tt Γ1 b ∧ (b = true → ∃ x rest, outs = x :: rest ∧ EvS F te Γ1 (.d x) ∧ LcP F g tt te Γ ds rest) ∧ (b = false → LcP F g tt te Γ ds outs)
variable {tt : TT} {α : Type}
theorem lcp_map {enc : α → PyData} {p : α → Bool} {f : α → PyData} {Γw : List Sl} : ∀ {xs : List α}, (∀ x ∈ xs, ∃ Γ1, GTo F g (enc x) Γw Γ1 ∧ EvT F tt Γ1 (p x) ∧ (p x = true → EvS F te Γ1 (.d (f x)))) → LcP F g tt te Γw (xs.map enc) ((xs.filter p).map f)
  | [], _ => rfl
  | x :: xs, h => by
    obtain ⟨Γ1, h1, h2, h3⟩ := h x (by simp)
    have ih := lcp_map (xs := xs) fun y hy => h y (by simp [hy])
    refine ⟨Γ1, p x, h1, h2, fun e => ⟨f x, _, ?_, h3 e, ih⟩, fun e => ?_⟩
    · rw [List.filter_cons, if_pos e, List.map_cons]
    · rw [List.filter_cons, if_neg (by rw [e]; exact Bool.false_ne_true)]; exact ih
theorem evt_yes {Γ : List Sl} : EvT F tYes Γ true := fun z σ Q hz hs c => c z (Add.refl z) hz
theorem lcp_all {enc : α → PyData} {f : α → PyData} {Γw : List Sl} {xs : List α} (h : ∀ x ∈ xs, ∃ Γ1, GTo F g (enc x) Γw Γ1 ∧ EvS F te Γ1 (.d (f x))) : LcP F g tYes te Γw (xs.map enc) (xs.map f) := by
  have := lcp_map (F := F) (g := g) (tt := tYes) (te := te) (enc := enc) (p := fun _ => true) (f := f) (Γw := Γw) (xs := xs) fun x hx => let ⟨Γ1, h1, h2⟩ := h x hx; ⟨Γ1, h1, evt_yes, fun _ => h2⟩
  rwa [List.filter_eq_self.mpr (by intro _ _; rfl)] at this
def EvI (F : Fx) (wi : TI) (Γ : List Sl) (items : List PyData) : Prop := ∀ (z : Z) (σ : L2.St) (R : It → Hp → Prop), ZOk F z → SOk F z σ Γ → (∀ J z', Add z z' → ZOk F z' → Yields F J z'.S items → R J z'.H) → wi σ z.H R
theorem evi_list (h : EvS F te Γ (.d (.list ds))) : EvI F (iList F.K te) Γ ds := fun z σ R hz hs c =>
  h z σ _ hz hs fun v z' a hz' hv _ => by
    cases hv with
    | lst h1 h2 => exact ⟨_, rfl, ⟨_, SqL.of (hz'.sub _ _ h1)⟩, c _ _ a hz' (yields_list h1 h2)⟩
theorem evi_tup (h : EvS F te Γ (.d (.tuple ds))) : EvI F (iTup F.K te) Γ ds := fun z σ R hz hs c =>
  h z σ _ hz hs fun v z' a hz' hv _ => by
    cases hv with
    | tup h1 h2 => exact ⟨_, rfl, ⟨_, SqT.of (hz'.sub _ _ h1)⟩, c _ _ a hz' (yields_tup h1 h2)⟩
theorem evi_range1 {j : Int} (h : EvA F ta Γ [.d (.int j)]) (h1 : -(2 ^ 62) ≤ j) (h2 : j < 2 ^ 62) : EvI F (iRng1 ta) Γ (rangeD 0 j.toNat) := fun z σ R hz hs c =>
  h z σ _ hz hs fun vs z' a hz' ha => by
    obtain ⟨v, rfl, hv⟩ := VAll.one ha
    exact ⟨j, by rw [hv.d_int], h1, h2, c _ _ a hz' yields_range⟩
theorem evi_range2 {i j : Int} (h : EvA F ta Γ [.d (.int i), .d (.int j)]) (h1 : -(2 ^ 62) ≤ i ∧ i < 2 ^ 62 ∧ -(2 ^ 62) ≤ j ∧ j < 2 ^ 62) : EvI F (iRng2 ta) Γ (rangeD i (j - i).toNat) := fun z σ R hz hs c =>
  h z σ _ hz hs fun vs z' a hz' ha => by
    obtain ⟨v, w, rfl, hv, hw⟩ := VAll.two ha
    exact ⟨i, j, by rw [hv.d_int, hw.d_int], h1, c _ _ a hz' yields_range⟩
theorem lcp_len {Γw : List Sl} : ∀ {items outs : List PyData}, LcP F g tt te Γw items outs → outs.length ≤ items.length
  | [], outs, h => by rw [show outs = [] from h]; exact Nat.le_refl _
  | d :: ds, outs, h => by
    obtain ⟨Γ1, b, _, _, h1, h2⟩ := h
    cases b with
    | true =>
      obtain ⟨x, rest, rfl, _, h3⟩ := h1 rfl
      exact Nat.succ_le_succ (lcp_len h3)
    | false => exact Nat.le_succ_of_le (lcp_len (h2 rfl))
theorem evs_lc {vs : List Nat} {items outs : List PyData} (hi : EvI F wi Γ items) (hg : Gvs vs g) (hl : items.length < sizeLine) (h : LcP F g tt te (wipeS Γ vs) items outs) : EvS F (tLc wi g tt te vs) Γ (.lst outs) := fun z σ Q hz hs c =>
  hi z σ _ hz hs fun J z1 a1 hz1 hy D hD => by
    have hs1 := hs.add a1
    obtain ⟨n1, n2, n3⟩ := hz1.free hD
    -- the part above D: z2 is z1 with D laid
    refine ⟨fun i m H => ∃ z2 acc accD, H = z2.H ∧ Add (z1.tmp D (.lst [])) ⟨z2.S, upd z2.H D (.lst []), z2.own⟩ ∧ ZOk F z2 ∧ z2.H D = some (.lst acc) ∧ z2.S D = none ∧ DtAll F.K z2.S acc accD ∧ accD.length ≤ i ∧ (∃ rest, outs = accD ++ rest ∧ LcP F g tt te (wipeS Γ vs) (items.drop i) rest) ∧ m = items.length - i, ⟨items.length, z1.tmp D (.lst []), [], [], rfl, ?_, hz1.tmp hD, upd_same, n1, .nil, Nat.zero_le _, ⟨outs, rfl, h⟩, rfl⟩, ?_⟩
    · refine ⟨Ex.refl _, fun a o e => ⟨?_, rfl⟩, rfl⟩
      by_cases q : a = D
      · subst q; rw [← e]; exact upd_same.trans upd_same.symm
      · exact (upd_ne q).trans e
    · rintro i m H ⟨z2, acc, accD, rfl, ad, hz2, hD2, nS, dA, hle, ⟨rest, er, hp⟩, em⟩
      have e12 : Ex z1.S z2.S := ad.s
      have s2 : SOk F z2 σ Γ := by
        have := (hs1.add (Add.tmp (o := .lst []) hD)).add ad
        -- slots own nothing at D
        refine ⟨this.len, fun j s' e => (this.at_ j s' e).elim .inl fun ⟨w, w1, h2⟩ => .inr ⟨w, w1, ?_⟩⟩
        have ow : ∀ {a : Addr}, z2.own a = some j → a ≠ D := fun {a} w q => by
          subst q
          have : z2.own = (z1.tmp a (.lst [])).own := ad.own
          rw [this] at w
          rw [show (z1.tmp a (.lst [])).own a = z1.own a from rfl, n3] at w; cases w
        cases s' with
        | un => exact h2
        | d x => exact h2
        | raw u => exact h2
        | lst ds => obtain ⟨a, xs, e, g1, g2, g3, g4, g5⟩ := h2; exact ⟨a, xs, e, (upd_ne (ow g2)).symm.trans g1, g2, g3, g4, g5⟩
        | bor ds => exact nomatch h2.1
        | bK ds => exact nomatch h2.1
        | bT ds => exact nomatch h2.1
        | src a ds => obtain ⟨xs, e, g1, g2, g3, g4, g5⟩ := h2; exact ⟨xs, e, (upd_ne (ow g2)).symm.trans g1, g2, g3, g4, g5⟩
        | dK ds => obtain ⟨a, xs, e, g1, g2, g3, g4, g5⟩ := h2; exact ⟨a, xs, e, (upd_ne (ow g2)).symm.trans g1, g2, g3, g4, g5⟩
        | dT ds => obtain ⟨a, xs, e, g1, g2, g3, g4, g5⟩ := h2; exact ⟨a, xs, e, (upd_ne (ow g2)).symm.trans g1, g2, g3, g4, g5⟩
        | sK ds => exact h2
        | sT ds => exact h2
        | sq ds => exact h2
      have oD : z2.own D = none := by
        have : z2.own = (z1.tmp D (.lst [])).own := ad.own
        rw [this]; exact n3
      -- from the entry to z2
      have a02 : Add z z2 := by
        refine ⟨a1.s.trans e12, fun a o e => ?_, ad.own.trans a1.own⟩
        have q1 := a1.h a o e
        have ne : a ≠ D := ne_of_none q1.1 hD
        have q2 := ad.h a o ((upd_ne ne).trans q1.1)
        exact ⟨(upd_ne ne).symm.trans q2.1, q2.2.trans q1.2⟩
      obtain ⟨yg, ys⟩ := hy z2 e12 hz2 i
      cases q : items[i]? with
      | none =>
        have hlen := List.getElem?_eq_none_iff.mp q
        rw [List.drop_eq_nil_of_le hlen] at hp
        have e0 : rest = [] := hp
        subst e0
        rw [List.append_nil] at er
        subst er
        exact .inl ⟨ys hlen, c _ z2 a02 hz2 ⟨D, acc, rfl, hD2, oD, nS, n2, dA⟩ ⟨D, rfl, a1.dom D hD⟩⟩
      | some d =>
        have hlen := (List.getElem?_eq_some_iff.mp q).1
        obtain ⟨go, yl⟩ := yg d q
        have ed : items.drop i = d :: items.drop (i + 1) := by
          rw [List.drop_eq_getElem_cons hlen, (List.getElem?_eq_some_iff.mp q).2]
        rw [ed] at hp
        obtain ⟨Γ1, b, hg1, ht1, hb1, hb0⟩ := hp
        refine .inr ⟨go, fun H' => ∃ z2 acc accD, H' = z2.H ∧ Add (z1.tmp D (.lst [])) ⟨z2.S, upd z2.H D (.lst []), z2.own⟩ ∧ ZOk F z2 ∧ z2.H D = some (.lst acc) ∧ z2.S D = none ∧ DtAll F.K z2.S acc accD ∧ accD.length ≤ i + 1 ∧ (∃ rest, outs = accD ++ rest ∧ LcP F g tt te (wipeS Γ vs) (items.drop (i + 1)) rest), ?_, ?_⟩
        · rintro H' ⟨z3, acc3, accD3, w1, w2, w3, w4, w5, w6, w7, w8⟩
          exact ⟨items.length - (i + 1), by omega, z3, acc3, accD3, w1, w2, w3, w4, w5, w6, w7, w8, rfl⟩
        · intro x H' hx
          obtain ⟨z3, rfl, a3, hz3, dx⟩ := yl x H' hx
          have lift : ∀ {z4 : Z}, Add z2 z4 → Add (z1.tmp D (.lst [])) ⟨z4.S, upd z4.H D (.lst []), z4.own⟩ := fun {z4} a4 => by
            refine ⟨ad.s.trans a4.s, fun a o e => ?_, a4.own.trans ad.own⟩
            have q1 := ad.h a o e
            by_cases hq : a = D
            · subst hq
              refine ⟨?_, ?_⟩
              · rw [← q1.1]; exact upd_same.trans upd_same.symm
              · exact (a4.h a _ hD2).2.trans q1.2
            · have q2 := a4.h a o ((upd_ne hq).symm.trans q1.1)
              exact ⟨(upd_ne hq).trans q2.1, q2.2.trans q1.2⟩
          have hG := hg x (wipe σ vs) z3.H
          rw [wipe_wipe] at hG
          refine hG _ ?_
          refine hg1 z3 (wipe σ vs) x _ hz3 (wipeS_ok (s2.add a3) vs) dx fun σ4 hs4 => ?_
          refine ht1 z3 σ4 _ hz3 hs4 fun z4 a4 hz4 => ?_
          cases b with
          | false =>
            rw [if_neg Bool.false_ne_true]
            have a24 := a3.trans a4
            exact ⟨z4, acc, accD, rfl, lift a24, hz4, (a24.h _ _ hD2).1, (a24.h _ _ hD2).2.trans nS, dA.mono a24.s, by omega, rest, er, hb0 rfl⟩
          | true =>
            rw [if_pos rfl]
            obtain ⟨y, rest', e1, he, hr⟩ := hb1 rfl
            refine he z4 σ4 _ hz4 (hs4.add a4) fun u z5 a5 hz5 hu _ => ?_
            have a25 := a3.trans (a4.trans a5)
            have h5 := a25.h _ _ hD2
            refine ⟨acc, h5.1, by rw [dA.len]; omega, ⟨z5.S, upd z5.H D (.lst (acc ++ [u])), z5.own⟩, acc ++ [u], accD ++ [y], rfl, ?_, ?_, upd_same, h5.2.trans nS, (dA.mono a25.s).app (.cons hu .nil), by rw [List.length_append]; simp; omega, rest', by rw [er, e1, List.append_assoc]; rfl, hr⟩
            · have l5 := lift a25
              rw [show upd (upd z5.H D (.lst (acc ++ [u]))) D (.lst []) = upd z5.H D (.lst []) from upd_upd]
              exact l5
            · have nD : z5.own D = none := by rw [a25.own]; exact oD
              refine ⟨fun a o e => ?_, fun a o e => ?_, hz5.s0, fun a j e => ?_, hz5.fresh⟩
              · exact (upd_ne (fun q => by subst q; rw [show z5.S a = some o from e] at h5; rw [nS] at h5; exact nomatch h5.2)).trans (hz5.sub a o e)
              · exact (upd_ne (fun q => by subst q; rw [n2] at e; cases e)).trans (hz5.base a o e)
              · obtain ⟨w1, w2, o, w3⟩ := hz5.own a j e
                exact ⟨w1, w2, o, (upd_ne (fun q => by subst q; rw [show z5.own a = some j from e] at nD; cases nD)).trans w3⟩
end
end GL
namespace GL
open PySem PySem.Spec PyProof.Rows L2

/-! ### promises -/
def VP (K : PySem.W.Frag) (S : Hp) (v : V) : Sl → Prop
  | .d x => Dt K S v x
  | .raw w => v = w
  | .sK kvs => ∃ a xs, v = .ref a ∧ S a = some (.dK xs) ∧ KvD K S xs kvs
  | .sT kvs => ∃ a xs, v = .ref a ∧ S a = some (.dT xs) ∧ KvD K S xs kvs
  | .sq ds => ∃ a xs, v = .ref a ∧ SqL K S a xs ∧ DtAll K S xs ds
  | _ => False
abbrev VPs (K : PySem.W.Frag) (S : Hp) : List V → List Sl → Prop := Paired (VP K S)
/-- what a call gives; H: the caller's -/
def VN (K : PySem.W.Frag) (S' H H' : Hp) (v : V) : Sl → Prop
  | .d x => Dt K S' v x
  | .raw w => v = w
  | .lst ds => ∃ a xs, v = .ref a ∧ H a = none ∧ H' a = some (.lst xs) ∧ S' a = none ∧ DtAll K S' xs ds
  | .dK kvs => ∃ a xs, v = .ref a ∧ H a = none ∧ H' a = some (.dK xs) ∧ S' a = none ∧ KvD K S' xs kvs
  | .dT kvs => ∃ a xs, v = .ref a ∧ H a = none ∧ H' a = some (.dT xs) ∧ S' a = none ∧ KvD K S' xs kvs
  | .sK kvs => ∃ a xs, v = .ref a ∧ S' a = some (.dK xs) ∧ KvD K S' xs kvs
  | .sT kvs => ∃ a xs, v = .ref a ∧ S' a = some (.dT xs) ∧ KvD K S' xs kvs
  | .sq ds => ∃ a xs, v = .ref a ∧ SqL K S' a xs ∧ DtAll K S' xs ds
  | _ => False
def Sl.pass : Sl → Bool
  | .d _ => true
  | .raw _ => true
  | .sK _ => true
  | .sT _ => true
  | .sq _ => true
  | _ => false
structure Con where
  α : Type
  args : α → List Sl
  pre : α → Prop
  post : α → Sl → Prop
  exc : α → Addr → Prop := fun _ _ => False
def spP (K : PySem.W.Frag) (c : Con) : Sp := fun vs H Q E => ∃ (S : Hp) (a : c.α), Ex S H ∧ VPs K S vs (c.args a) ∧ c.pre a ∧
  (∀ v r S' H', c.post a r → Ex S S' → Ex S' H' → Ex H H' → (∀ a o, H a = some o → S' a = S a) → VN K S' H H' v r → Q v H') ∧
  (∀ C H', c.exc a C → Ex H H' → E (.ref C) none H')
section
variable {F : Fx} {z : Z} {Γ : List Sl} {te : TE} {ta tA : TA} {k : Sl → List Sl → Prop} {nx bk ct : List Sl → Prop} {rt : Sl → List Sl → Prop} {ds : List PyData} {ss : List Sl} {s : Sl}
theorem VAll.pass : ∀ {vs : List V} {ss : List Sl}, VAll F z vs ss → ss.all Sl.pass = true → VPs F.K z.S vs ss
  | _, _, .nil, _ => .nil
  | v :: _, s :: _, .cons h t, e => by
    rw [List.all_cons, Bool.and_eq_true] at e
    refine .cons ?_ (VAll.pass t e.2)
    cases s with
    | d x => exact h
    | raw w => exact h
    | sK w => exact h
    | sT w => exact h
    | sq w => exact h
    | _ => exact nomatch e.1
/-- behind a call -/
theorem call_after {S' H' : Hp} (hz : ZOk F z) (e1 : Ex z.S S') (e2 : Ex S' H') (e3 : Ex z.H H') (e4 : ∀ a o, z.H a = some o → S' a = z.S a) : ZOk F ⟨S', H', z.own⟩ ∧ Add z ⟨S', H', z.own⟩ :=
  ⟨⟨e2, hz.base.trans e3, hz.s0.trans e1, fun a i e => by
      obtain ⟨w1, w2, o, w3⟩ := hz.own a i e
      exact ⟨(e4 a o w3).trans w1, w2, o, e3 a o w3⟩, fun a o e => (e4 a o (hz.base a o e)).trans (hz.fresh a o e)⟩,
    ⟨e1, fun a o e => ⟨e3 a o e, e4 a o e⟩, rfl⟩⟩
theorem vn_vok {S' H' : Hp} {v : V} (hz : ZOk F z) (h : VN F.K S' z.H H' v s) : VOk F ⟨S', H', z.own⟩ none v s ∧ New z v s := by
  cases s with
  | un => exact h.elim
  | d x => exact ⟨h, trivial⟩
  | raw w => exact ⟨h, trivial⟩
  | lst ds => obtain ⟨a, xs, e, h1, h2, h3, h4⟩ := h; have f := hz.free h1; exact ⟨⟨a, xs, e, h2, f.2.2, h3, f.2.1, h4⟩, a, e, h1⟩
  | bor ds => exact h.elim
  | bK ds => exact h.elim
  | bT ds => exact h.elim
  | src a ds => exact h.elim
  | dK ds => obtain ⟨a, xs, e, h1, h2, h3, h4⟩ := h; have f := hz.free h1; exact ⟨⟨a, xs, e, h2, f.2.2, h3, f.2.1, h4⟩, a, e, h1⟩
  | dT ds => obtain ⟨a, xs, e, h1, h2, h3, h4⟩ := h; have f := hz.free h1; exact ⟨⟨a, xs, e, h2, f.2.2, h3, f.2.1, h4⟩, a, e, h1⟩
  | sK ds => exact ⟨h, trivial⟩
  | sT ds => exact ⟨h, trivial⟩
  | sq ds => exact ⟨h, trivial⟩
/-- what a def may hand back -/
def Sl.back : Sl → Bool
  | .un => false
  | .bor _ => false
  | .bK _ => false
  | .bT _ => false
  | .src _ _ => false
  | _ => true
theorem vok_vn {v : V} (hz : ZOk F z) (h : VOk F z none v s) (hb : s.back = true) : VN F.K z.S F.B z.H v s := by
  cases s with
  | d x => exact h
  | raw w => exact h
  | lst ds => obtain ⟨a, xs, e, h1, h2, h3, h4, h5⟩ := h; exact ⟨a, xs, e, h4, h1, h3, h5⟩
  | dK ds => obtain ⟨a, xs, e, h1, h2, h3, h4, h5⟩ := h; exact ⟨a, xs, e, h4, h1, h3, h5⟩
  | dT ds => obtain ⟨a, xs, e, h1, h2, h3, h4, h5⟩ := h; exact ⟨a, xs, e, h4, h1, h3, h5⟩
  | sK ds => exact h
  | sT ds => exact h
  | sq ds => exact h
  | _ => cases hb
/-! ### calls -/
theorem wpe_call {c : Con} {E : XK} (h : WpA F tA Γ fun ss Γ' => ∃ a, ss = c.args a ∧ (c.args a).all Sl.pass = true ∧ c.pre a ∧ (∀ r, c.post a r → k r Γ') ∧ ∀ C, ¬ c.exc a C) : WpE F (tCall (spP F.K c) [] E tA) Γ k := fun z σ Q hF hz hs q =>
  h z σ _ hF hz hs fun vs ss Γ' z1 ⟨a, es, hp, hpre, hk, hx⟩ a1 hz1 hs1 hv => by
    subst es
    rw [List.append_nil]
    refine ⟨z1.S, a, hz1.sub, hv.pass hp, hpre, fun v r S' H' hr e1 e2 e3 e4 hn => ?_, fun C H' hc => absurd hc (hx C)⟩
    obtain ⟨hz2, a2⟩ := call_after hz1 e1 e2 e3 e4
    obtain ⟨hv2, hn2⟩ := vn_vok hz1 hn
    exact q v r Γ' ⟨S', H', z1.own⟩ (hk r hr) (a1.trans a2.ext) hz2 (hs1.add a2) hv2 (hn2.back a1.dom)
/-- a call that may raise -/
theorem wpe_callX {c : Con} (h : WpA F tA Γ fun ss Γ' => ∃ a, ss = c.args a ∧ (c.args a).all Sl.pass = true ∧ c.pre a ∧ (∀ r, c.post a r → k r Γ') ∧ ∀ C, c.exc a C → F.px C) : WpE F (tCall (spP F.K c) [] F.E tA) Γ k := fun z σ Q hF hz hs q =>
  h z σ _ hF hz hs fun vs ss Γ' z1 ⟨a, es, hp, hpre, hk, hx⟩ a1 hz1 hs1 hv => by
    subst es
    rw [List.append_nil]
    refine ⟨z1.S, a, hz1.sub, hv.pass hp, hpre, fun v r S' H' hr e1 e2 e3 e4 hn => ?_, fun C H' hc e => ?_⟩
    · obtain ⟨hz2, a2⟩ := call_after hz1 e1 e2 e3 e4
      obtain ⟨hv2, hn2⟩ := vn_vok hz1 hn
      exact q v r Γ' ⟨S', H', z1.own⟩ (hk r hr) (a1.trans a2.ext) hz2 (hs1.add a2) hv2 (hn2.back a1.dom)
    · exact hF ⟨z1.S, H', z1.own⟩ C (call_after hz1 (Ex.refl _) (hz1.sub.trans e) e fun _ _ _ => rfl).1 (hx C hc)
theorem evs_call {c : Con} {E : XK} (a : c.α) (h : EvA F tA Γ (c.args a)) (hp : (c.args a).all Sl.pass = true) (hpre : c.pre a) (hk : ∀ r, c.post a r → r = s) (hx : ∀ C, ¬ c.exc a C) : EvS F (tCall (spP F.K c) [] E tA) Γ s := fun z σ Q hz hs q =>
  h z σ _ hz hs fun vs z1 a1 hz1 hv => by
    rw [List.append_nil]
    refine ⟨z1.S, a, hz1.sub, hv.pass hp, hpre, fun v r S' H' hr e1 e2 e3 e4 hn => ?_, fun C H' hc => absurd hc (hx C)⟩
    obtain ⟨hz2, a2⟩ := call_after hz1 e1 e2 e3 e4
    obtain ⟨hv2, hn2⟩ := vn_vok hz1 hn
    have e := hk r hr
    subst e
    exact q v ⟨S', H', z1.own⟩ (a1.trans a2) hz2 hv2 (hn2.back a1.dom)
/-- with keywords -/
theorem VAll.app {z : Z} : ∀ {vs ws : List V} {ss tt : List Sl}, VAll F z vs ss → VAll F z ws tt → VAll F z (vs ++ ws) (ss ++ tt)
  | _, _, _, _, .nil, s => s
  | _, _, _, _, .cons h t, s => .cons h (VAll.app t s)
theorem evs_callK {c : Con} {E : XK} {tB : TA} {ks : List Sl} {n m : Nat} (a : c.α) (hn1 : ss.length = n) (hm1 : ks.length = m) (h : EvA F tA Γ ss) (h2 : EvA F tB Γ ks) (ea : ss ++ ks = c.args a) (hp : (c.args a).all Sl.pass = true) (hpre : c.pre a) (hk : ∀ r, c.post a r → r = s) (hx : ∀ C, ¬ c.exc a C) : EvS F (tCallN n m (spP F.K c) (· ++ ·) E tA tB) Γ s := fun z σ Q hz hs q =>
  h z σ _ hz hs fun vs z0 a0 hz0 hv0 => h2 z0 σ _ hz0 (hs.add a0) fun ws z1 a01 hz1 hw => by
    have a1 := a0.trans a01
    refine ⟨(Paired.length hv0).trans hn1, (Paired.length hw).trans hm1, z1.S, a, hz1.sub, (ea ▸ (hv0.add a01).app hw : VAll F z1 (vs ++ ws) (c.args a)).pass hp, hpre, fun v r S' H' hr e1 e2 e3 e4 hn => ?_, fun C H' hc => absurd hc (hx C)⟩
    obtain ⟨hz2, a2⟩ := call_after hz1 e1 e2 e3 e4
    obtain ⟨hv2, hn2⟩ := vn_vok hz1 hn
    have e := hk r hr
    subst e
    exact q v ⟨S', H', z1.own⟩ (a1.trans a2) hz2 hv2 (hn2.back a1.dom)
theorem wpe_callKX {c : Con} {tB : TA} {n m : Nat} (h : WpA F tA Γ fun ss Γ1 => ss.all Sl.pass = true ∧ ss.length = n ∧ ∃ ks, ks.length = m ∧ EvA F tB Γ1 ks ∧ ∃ a, ss ++ ks = c.args a ∧ (c.args a).all Sl.pass = true ∧ c.pre a ∧ (∀ r, c.post a r → k r Γ1) ∧ ∀ C, c.exc a C → F.px C) : WpE F (tCallN n m (spP F.K c) (· ++ ·) F.E tA tB) Γ k := fun z σ Q hF hz hs q =>
  h z σ _ hF hz hs fun vs ss Γ' z0 ⟨hp0, hn1, ks, hm1, h2, a, ea, hp, hpre, hk, hx⟩ a0 hz0 hs0 hv0 => h2 z0 σ _ hz0 hs0 fun ws z1 a01 hz1 hw => by
    have a1 := a0.trans a01.ext
    refine ⟨(Paired.length hv0).trans hn1, (Paired.length hw).trans hm1, z1.S, a, hz1.sub, (ea ▸ (hv0.add a01).app hw : VAll F z1 (vs ++ ws) (c.args a)).pass hp, hpre, fun v r S' H' hr e1 e2 e3 e4 hn => ?_, fun C H' hc e => ?_⟩
    · obtain ⟨hz2, a2⟩ := call_after hz1 e1 e2 e3 e4
      obtain ⟨hv2, hn2⟩ := vn_vok hz1 hn
      exact q v r Γ' ⟨S', H', z1.own⟩ (hk r hr) (a1.trans a2.ext) hz2 ((hs0.add a01).add a2) hv2 (hn2.back a1.dom)
    · exact hF ⟨z1.S, H', z1.own⟩ C (call_after hz1 (Ex.refl _) (hz1.sub.trans e) e fun _ _ _ => rfl).1 (hx C hc)

/-! ### a list handed in to be changed -/
structure ConS where
  α : Type
  src : α → List PyData
  args : α → List Sl
  pre : α → Prop
  post : α → Sl → List PyData → Prop
def spS (K : PySem.W.Frag) (c : ConS) : Sp := fun vs H Q E => ∃ (S : Hp) (a : Addr) (xs : List V) (vs' : List V) (b : c.α), vs = .ref a :: vs' ∧ H a = some (.lst xs) ∧ S a = none ∧ DtAll K S xs (c.src b) ∧ Ex S H ∧ VPs K S vs' (c.args b) ∧ c.pre b ∧
  ∀ v r ds' xs' S' H', c.post b r ds' → Ex S S' → Ex S' H' → (∀ b o, b ≠ a → H b = some o → H' b = some o) → (∀ b o, H b = some o → S' b = S b) → H' a = some (.lst xs') → DtAll K S' xs' ds' → VN K S' H H' v r → Q v H'
def Sl.ownL : Sl → Option (List PyData)
  | .lst ds => some ds
  | .src _ ds => some ds
  | _ => none
def Sl.withL : Sl → List PyData → Sl
  | .lst _, ds => .lst ds
  | .src a _, ds => .src a ds
  | s, _ => s
/-- a slot's own list, as it may be changed -/
theorem mut_own {σ : L2.St} {i : Nat} {s0 : Sl} (hz : ZOk F z) (hs : SOk F z σ Γ) (hi : Γ[i]? = some s0) (ho : s0.ownL = some ds) : ∃ p xs, σ[i]? = some (some (.ref p)) ∧ z.H p = some (.lst xs) ∧ z.S p = none ∧ z.own p = some i ∧ F.B p = none ∧ DtAll F.K z.S xs ds ∧
    ∀ (z1 : Z), Add z z1 → ZOk F z1 → ∀ xs' ds', DtAll F.K z1.S xs' ds' → ZOk F ⟨z1.S, upd z1.H p (.lst xs'), z1.own⟩ ∧ SOk F ⟨z1.S, upd z1.H p (.lst xs'), z1.own⟩ σ (Γ.set i (s0.withL ds')) ∧ Ext z ⟨z1.S, upd z1.H p (.lst xs'), z1.own⟩ := by
  have base : ∃ p xs, σ[i]? = some (some (.ref p)) ∧ z.H p = some (.lst xs) ∧ z.S p = none ∧ z.own p = some i ∧ F.B p = none ∧ DtAll F.K z.S xs ds ∧ ∀ (z2 : Z) xs' ds', z2.H p = some (.lst xs') → z2.own p = some i → z2.S p = none → DtAll F.K z2.S xs' ds' → VOk F z2 (some i) (.ref p) (s0.withL ds') := by
    obtain ⟨v, h1, hv⟩ := (hs.at_ i _ hi).resolve_left (fun e => by subst e; cases ho)
    cases s0 with
    | lst es =>
      cases Option.some.inj (show some es = some ds from ho)
      obtain ⟨p, xs, rfl, q1, q2, q3, q4, q5⟩ := hv
      exact ⟨p, xs, h1, q1, q3, q2, q4, q5, fun z2 xs' ds' w1 w2 w3 w4 => ⟨p, xs', rfl, w1, w2, w3, q4, w4⟩⟩
    | src a es =>
      cases Option.some.inj (show some es = some ds from ho)
      obtain ⟨xs, rfl, q1, q2, q3, q4, q5⟩ := hv
      exact ⟨a, xs, h1, q1, q3, q2, q4, q5, fun z2 xs' ds' w1 w2 w3 w4 => ⟨xs', rfl, w1, w2, w3, q4, w4⟩⟩
    | _ => cases ho
  obtain ⟨p, xs, h1, q1, q3, q2, q4, q5, mk⟩ := base
  have hl : i < Γ.length := (List.getElem?_eq_some_iff.mp hi).1
  refine ⟨p, xs, h1, q1, q3, q2, q4, q5, fun z1 a1 hz1 xs' ds' h' => ?_⟩
  have p1 := a1.h p _ q1
  have s1 : z1.S p = none := p1.2.trans q3
  have o1 : z1.own p = some i := by rw [a1.own]; exact q2
  have hs1 := hs.add a1
  refine ⟨⟨fun a u e => ?_, fun a u e => ?_, hz1.s0, fun a j e => ?_, hz1.fresh⟩, ⟨by rw [List.length_set]; exact hs.len, fun j s' e => ?_⟩, ⟨a1.s, fun a u e n => ?_, fun a e => ?_⟩⟩
  · exact (upd_ne (fun q => by subst q; rw [show z1.S a = some u from e] at s1; cases s1)).trans (hz1.sub a u e)
  · exact (upd_ne (fun q => by subst q; rw [e] at q4; cases q4)).trans (hz1.base a u e)
  · obtain ⟨w1, w2, w3⟩ := hz1.own a j e
    refine ⟨w1, w2, ?_⟩
    by_cases q : a = p
    · subst q; exact ⟨_, upd_same⟩
    · obtain ⟨o, w3⟩ := w3; exact ⟨o, (upd_ne q).trans w3⟩
  · by_cases hj : j = i
    · subst hj
      rw [List.getElem?_set_self hl] at e
      cases e
      exact .inr ⟨_, h1, mk _ _ _ upd_same o1 s1 h'⟩
    · rw [List.getElem?_set_ne (Ne.symm hj)] at e
      have ho : ∀ {a : Addr}, z1.own a = some j → a ≠ p := fun {a} w q => by subst q; rw [o1] at w; exact hj (Option.some.inj w).symm
      refine (hs1.at_ j s' e).elim .inl fun ⟨w, w1, h2⟩ => .inr ⟨w, w1, ?_⟩
      cases s' with
      | un => exact h2
      | d x => exact h2
      | raw u => exact h2
      | lst ds => obtain ⟨a, xs, e, g1, g2, g3, g4, g5⟩ := h2; exact ⟨a, xs, e, (upd_ne (ho g2)).trans g1, g2, g3, g4, g5⟩
      | bor ds => exact nomatch h2.1
      | bK ds => exact nomatch h2.1
      | bT ds => exact nomatch h2.1
      | src a ds => obtain ⟨xs, e, g1, g2, g3, g4, g5⟩ := h2; exact ⟨xs, e, (upd_ne (ho g2)).trans g1, g2, g3, g4, g5⟩
      | dK ds => obtain ⟨a, xs, e, g1, g2, g3, g4, g5⟩ := h2; exact ⟨a, xs, e, (upd_ne (ho g2)).trans g1, g2, g3, g4, g5⟩
      | dT ds => obtain ⟨a, xs, e, g1, g2, g3, g4, g5⟩ := h2; exact ⟨a, xs, e, (upd_ne (ho g2)).trans g1, g2, g3, g4, g5⟩
      | sK ds => exact h2
      | sT ds => exact h2
      | sq ds => exact h2
  · have ne : a ≠ p := fun q => by subst q; rw [n] at q2; cases q2
    have w := a1.h a u e
    exact ⟨(upd_ne ne).trans w.1, by rw [a1.own]; exact n, w.2⟩
  · by_cases q : a = p
    · subst q; exact nomatch (upd_same.symm.trans (show upd z1.H a (HO.lst xs') a = none from e))
    · exact a1.dom a ((upd_ne q).symm.trans e)
theorem wpe_callS {c : ConS} {E : XK} {i : Nat} {s0 : Sl} (b : c.α) (hi : Γ[i]? = some s0) (ho : s0.ownL = some (c.src b)) (h : EvA F tA Γ (c.args b)) (hp : (c.args b).all Sl.pass = true) (hpre : c.pre b) (hk : ∀ r ds', c.post b r ds' → k r (Γ.set i (s0.withL ds'))) : WpE F (tCall (spS F.K c) [] E (tCons (tVar i) tA)) Γ k := fun z σ Q hF hz hs q => by
  obtain ⟨p, xs, h1, q1, q2, q3, q4, q5, mu⟩ := mut_own hz hs hi ho
  refine ⟨_, h1, h z σ _ hz hs fun vs z1 a1 hz1 hv => ?_⟩
  show spS F.K c ((V.ref p :: vs) ++ []) z1.H Q E
  rw [List.append_nil]
  have p1 := a1.h p _ q1
  refine ⟨z1.S, p, xs, vs, b, rfl, p1.1, p1.2.trans q2, q5.mono a1.s, hz1.sub, hv.pass hp, hpre, fun v r ds' xs' S' H' hr e1 e2 e3 e4 e5 e6 hn => ?_⟩
  -- the callee's other doings, then the change
  let z2 : Z := ⟨S', upd H' p (.lst xs), z1.own⟩
  have sp : S' p = none := (e4 p _ p1.1).trans (p1.2.trans q2)
  have ex12 : Ex z1.H z2.H := fun a o e => by
    by_cases hq : a = p
    · subst hq; rw [p1.1] at e; cases e; exact upd_same
    · exact (upd_ne hq).trans (e3 a o hq e)
  obtain ⟨hz2, a2⟩ := call_after (S' := S') (H' := upd H' p (.lst xs)) hz1 e1 (fun a o e => (upd_ne (fun hq => by subst hq; rw [e] at sp; cases sp)).trans (e2 a o e)) ex12 e4
  obtain ⟨hz3, hs3, x3⟩ := mu z2 (a1.trans a2) hz2 xs' ds' e6
  have eH : upd z2.H p (.lst xs') = H' := by
    show upd (upd H' p (.lst xs)) p (.lst xs') = H'
    rw [upd_upd]
    funext b
    by_cases hb : b = p
    · subst hb; rw [upd_same]; exact e5.symm
    · exact upd_ne hb
  have hn' : VN F.K S' z1.H z2.H v r := by
    have na : ∀ {a : Addr}, z1.H a = none → a ≠ p := fun {a} e hq => by subst hq; rw [p1.1] at e; cases e
    cases r with
    | un => exact hn.elim
    | d x => exact hn
    | raw w => exact hn
    | lst ds => obtain ⟨a, xs, e, h1, h2, h3, h4⟩ := hn; exact ⟨a, xs, e, h1, (upd_ne (na h1)).trans h2, h3, h4⟩
    | bor ds => exact hn.elim
    | bK ds => exact hn.elim
    | bT ds => exact hn.elim
    | src a ds => exact hn.elim
    | dK ds => obtain ⟨a, xs, e, h1, h2, h3, h4⟩ := hn; exact ⟨a, xs, e, h1, (upd_ne (na h1)).trans h2, h3, h4⟩
    | dT ds => obtain ⟨a, xs, e, h1, h2, h3, h4⟩ := hn; exact ⟨a, xs, e, h1, (upd_ne (na h1)).trans h2, h3, h4⟩
    | sK ds => exact hn
    | sT ds => exact hn
    | sq ds => exact hn
  obtain ⟨hv2, hn2⟩ := vn_vok hz1 hn'
  have key := q v r _ ⟨z2.S, upd z2.H p (.lst xs'), z2.own⟩ (hk r ds' hr) x3 hz3 hs3
  rw [show (Z.H ⟨z2.S, upd z2.H p (.lst xs'), z2.own⟩) = H' from eH] at key
  refine key ?_ (hn2.back a1.dom)
  have na : ∀ {a : Addr} {o : Option Nat}, z1.own a = none → a ≠ p := fun {a o} e hq => by subst hq; rw [a1.own] at e; rw [q3] at e; cases e
  cases r with
  | un => exact hv2
  | d x => exact hv2
  | raw w => exact hv2
  | lst ds => obtain ⟨a, xs, e, g1, g2, g3, g4, g5⟩ := hv2; exact ⟨a, xs, e, (upd_ne (na (o := none) g2)).trans g1, g2, g3, g4, g5⟩
  | bor ds => exact hn.elim
  | bK ds => exact hn.elim
  | bT ds => exact hn.elim
  | src a ds => exact hn.elim
  | dK ds => obtain ⟨a, xs, e, g1, g2, g3, g4, g5⟩ := hv2; exact ⟨a, xs, e, (upd_ne (na (o := none) g2)).trans g1, g2, g3, g4, g5⟩
  | dT ds => obtain ⟨a, xs, e, g1, g2, g3, g4, g5⟩ := hv2; exact ⟨a, xs, e, (upd_ne (na (o := none) g2)).trans g1, g2, g3, g4, g5⟩
  | sK ds => exact hv2
  | sT ds => exact hv2
  | sq ds => exact hv2

/-! ### a slot's list changed by a method or a store -/
variable {tA' : TA} {i : Nat} {s0 : Sl} {d : PyData}
theorem wp_append (hi : Γ[i]? = some s0) (ho : s0.ownL = some ds) (h : EvS F te Γ (.d d)) (hl : ds.length < sizeLine) (q : nx (Γ.set i (s0.withL (ds ++ [d])))) : Wp F (tDrop (tBM F.K "list" rAppend (tVar i) (tCons te tNil))) Γ nx rt bk ct := fun z σ D hF hz hs r => by
  obtain ⟨p, xs, h1, q1, q2, q3, q4, q5, mu⟩ := mut_own hz hs hi ho
  refine ⟨_, h1, .inl ⟨rfl, xs, SqL.of q1⟩, h z σ _ hz hs fun v z1 a1 hz1 hv _ => ?_⟩
  have p1 := a1.h p _ q1
  obtain ⟨hz3, hs3, x3⟩ := mu z1 a1 hz1 (xs ++ [v]) (ds ++ [d]) ((q5.mono a1.s).app (.cons hv .nil))
  exact ⟨p, xs, v, rfl, rfl, p1.1, by rw [q5.len]; exact hl, r.nx _ _ _ q x3.s hz3 hs3⟩
theorem wp_extend {s1 : Sl} {es : List PyData} (hi : Γ[i]? = some s0) (ho : s0.ownL = some ds) (h : EvS F te Γ s1) (h1 : s1.asL = some es) (hl : ds.length + es.length ≤ sizeLine) (q : nx (Γ.set i (s0.withL (ds ++ es)))) : Wp F (tDrop (tBM F.K "list" rExtend (tVar i) (tCons te tNil))) Γ nx rt bk ct := fun z σ D hF hz hs r => by
  obtain ⟨p, xs, g1, q1, q2, q3, q4, q5, mu⟩ := mut_own hz hs hi ho
  refine ⟨_, g1, .inl ⟨rfl, xs, SqL.of q1⟩, h z σ _ hz hs fun v z1 a1 hz1 hv _ => ?_⟩
  have p1 := a1.h p _ q1
  obtain ⟨b, ys, rfl, w1, w2⟩ := hv.asL hz1 h1
  obtain ⟨hz3, hs3, x3⟩ := mu z1 a1 hz1 (xs ++ ys) (ds ++ es) ((q5.mono a1.s).app w2)
  exact ⟨p, b, xs, ys, rfl, rfl, p1.1, w1, by rw [q5.len, w2.len]; exact hl, r.nx _ _ _ q x3.s hz3 hs3⟩
/-- xs[j] = e -/
theorem wp_setL {ti : TE} {j : Int} {n : Nat} (hi : Γ[i]? = some s0) (ho : s0.ownL = some ds) (h : EvS F te Γ (.d d)) (hj : EvS F ti Γ (.d (.int j))) (hn : ixN ds.length j = some n) (q : nx (Γ.set i (s0.withL (ds.set n d)))) : Wp F (tAsg te (gSub (tVar i) ti rSetL)) Γ nx rt bk ct := fun z σ D hF hz hs r => by
  obtain ⟨p, xs, g1, q1, q2, q3, q4, q5, mu⟩ := mut_own hz hs hi ho
  refine h z σ _ hz hs fun v z1 a1 hz1 hv _ => ⟨_, g1, hj z1 σ _ hz1 (hs.add a1) fun u z2 a2 hz2 hu _ => ?_⟩
  have a := a1.trans a2
  have p1 := a.h p _ q1
  obtain ⟨hz3, hs3, x3⟩ := mu z2 a hz2 (xs.set n v) (ds.set n d) ((q5.mono a.s).set (hv.add a2) n)
  exact ⟨p, xs, j, n, rfl, hu.d_int, p1.1, by rw [q5.len]; exact hn, r.nx _ _ _ q x3.s hz3 hs3⟩
/-- return a list of our own -/
theorem wp_retOwn (hi : Γ[i]? = some (.lst ds)) (q : rt (.lst ds) (Γ.set i .un)) : Wp F (tRet (tVar i)) Γ nx rt bk ct := fun z σ D hF hz hs r => by
  obtain ⟨v, h1, p, xs, rfl, q1, q2, q3, q4, q5⟩ := (hs.at_ i _ hi).resolve_left (fun e => nomatch e)
  refine ⟨_, h1, r.rt _ (.lst ds) _ σ ⟨z.S, z.H, fun a => if a = p then none else z.own a⟩ q (Ex.refl _) ⟨hz.sub, hz.base, hz.s0, fun a j e => ?_, hz.fresh⟩ ⟨by rw [List.length_set]; exact hs.len, fun j s' e => ?_⟩ ⟨p, xs, rfl, q1, if_pos rfl, q3, q4, q5⟩⟩
  · have ne : a ≠ p := fun w => by subst w; exact nomatch ((if_pos rfl).symm.trans (show (if a = a then none else z.own a) = some j from e))
    exact hz.own a j ((if_neg ne).symm.trans e)
  · have hl : i < Γ.length := (List.getElem?_eq_some_iff.mp hi).1
    by_cases hj : j = i
    · subst hj; rw [List.getElem?_set_self hl] at e; exact .inl (Option.some.inj e).symm
    · rw [List.getElem?_set_ne (Ne.symm hj)] at e
      have ho : ∀ {a : Addr}, z.own a = some j → a ≠ p := fun {a} w q => by subst q; rw [q2] at w; exact hj (Option.some.inj w).symm
      refine (hs.at_ j s' e).elim .inl fun ⟨w, w1, h2⟩ => .inr ⟨w, w1, ?_⟩
      cases s' with
      | un => exact h2
      | d x => exact h2
      | raw u => exact h2
      | lst ds => obtain ⟨a, xs, e, g1, g2, g3, g4, g5⟩ := h2; exact ⟨a, xs, e, g1, (if_neg (ho g2)).trans g2, g3, g4, g5⟩
      | bor ds => exact nomatch h2.1
      | bK ds => exact nomatch h2.1
      | bT ds => exact nomatch h2.1
      | src a ds => obtain ⟨xs, e, g1, g2, g3, g4, g5⟩ := h2; exact ⟨xs, e, g1, (if_neg (ho g2)).trans g2, g3, g4, g5⟩
      | dK ds => obtain ⟨a, xs, e, g1, g2, g3, g4, g5⟩ := h2; exact ⟨a, xs, e, g1, (if_neg (ho g2)).trans g2, g3, g4, g5⟩
      | dT ds => obtain ⟨a, xs, e, g1, g2, g3, g4, g5⟩ := h2; exact ⟨a, xs, e, g1, (if_neg (ho g2)).trans g2, g3, g4, g5⟩
      | sK ds => exact h2
      | sT ds => exact h2
      | sq ds => exact h2

/-! ### impure code, from the left -/
variable {ta' tb : TE} {r : R2} {kA : List Sl → List Sl → Prop}
theorem wpa_nil (h : kA [] Γ) : WpA F tNil Γ kA := eva_nil.wp h
/-- a first argument that changes what slots own; it must stay good -/
theorem wpa_consW (h : WpE F te Γ fun x Γ1 => x.way = true ∧ WpA F tA Γ1 fun ss Γ2 => kA (x :: ss) Γ2) : WpA F (tCons te tA) Γ kA := fun z σ Q hF hz hs q =>
  h z σ _ hF hz hs fun v x Γ1 z1 ⟨w, h2⟩ a1 hz1 hs1 hv _ => h2 z1 σ _ hF hz1 hs1 fun vs ss Γ2 z2 hk a2 hz2 hs2 hvs => q (v :: vs) (x :: ss) Γ2 z2 hk (a1.trans a2) hz2 hs2 (.cons (hv.ext a2 w) hvs)
/-- one argument -/
theorem wpa_one (h : WpE F te Γ fun x Γ1 => kA [x] Γ1) : WpA F (tCons te tNil) Γ kA := fun z σ Q hF hz hs q =>
  h z σ _ hF hz hs fun v x Γ1 z1 hk a1 hz1 hs1 hv _ => q [v] [x] Γ1 z1 hk a1 hz1 hs1 (.cons hv .nil)
theorem wpe_op (h : WpE F te Γ fun x Γ1 => x.way = true ∧ WpE F tb Γ1 fun y Γ2 => ∃ s, OpS F r x y s ∧ k s Γ2) : WpE F (tOp r te tb) Γ k := fun z σ Q hF hz hs q =>
  h z σ _ hF hz hs fun v x Γ1 z1 ⟨w, h2⟩ a1 hz1 hs1 hv _ => h2 z1 σ _ hF hz1 hs1 fun u y Γ2 z2 ⟨s, ho, hk⟩ a2 hz2 hs2 hu _ => ho z2 v u Q hz2 (hv.ext a2 w) hu fun t z3 a3 hz3 ht hn =>
    q t s Γ2 z3 hk (a1.trans (a2.trans a3.ext)) hz3 (hs2.add a3) ht (hn.back fun p e => a1.dom p (a2.dom p e))
/-- the same where the left side is pure -/
theorem wpe_opR {x : Sl} (hx : EvS F te Γ x) (w : x.way = true) (h : WpE F tb Γ fun y Γ2 => ∃ s, OpS F r x y s ∧ k s Γ2) : WpE F (tOp r te tb) Γ k := wpe_op (hx.wp ⟨w, h⟩)
theorem wpe_cb {rc : List V → Hp → VK → Prop} (h : WpA F tA Γ fun ss Γ1 => ∃ s, CallS F rc ss s ∧ k s Γ1) : WpE F (tCB rc tA) Γ k := fun z σ Q hF hz hs q =>
  h z σ _ hF hz hs fun vs ss Γ1 z1 ⟨s, hc, hk⟩ a1 hz1 hs1 hv => hc z1 vs Q hz1 hv fun u z2 a2 hz2 hu hn => q u s Γ1 z2 hk (a1.trans a2.ext) hz2 (hs1.add a2) hu (hn.back a1.dom)
theorem wpt_test {kb : Bool → List Sl → Prop} (h : WpE F te Γ fun s Γ1 => ∃ b, s = .d (.bool b) ∧ kb b Γ1) : WpT F (tTest te) Γ kb := fun z σ Q hF hz hs q =>
  h z σ _ hF hz hs fun v s Γ1 z1 ⟨b, e, hk⟩ a1 hz1 hs1 hv _ => by subst e; exact ⟨b, hv.d_bool, q b Γ1 z1 hk a1 hz1 hs1⟩
theorem wpt_not {tt : TT} {kb : Bool → List Sl → Prop} (h : WpT F tt Γ fun b Γ1 => kb (!b) Γ1) : WpT F (tNot tt) Γ kb := fun z σ Q hF hz hs q =>
  h z σ _ hF hz hs fun b Γ1 z1 hk a1 hz1 hs1 => q (!b) Γ1 z1 hk a1 hz1 hs1
theorem wpt_and {tt tu : TT} {kb : Bool → List Sl → Prop} (h : WpT F tt Γ fun b Γ1 => (b = true → WpT F tu Γ1 kb) ∧ (b = false → kb false Γ1)) : WpT F (tAnd tt tu) Γ kb := fun z σ Q hF hz hs q =>
  h z σ _ hF hz hs fun b Γ1 z1 hk a1 hz1 hs1 => by
    cases b with
    | true => rw [if_pos rfl]; exact hk.1 rfl z1 σ Q hF hz1 hs1 fun b Γ2 z2 hk2 a2 hz2 hs2 => q b Γ2 z2 hk2 (a1.trans a2) hz2 hs2
    | false => rw [if_neg Bool.false_ne_true]; exact q false Γ1 z1 (hk.2 rfl) a1 hz1 hs1
theorem wpt_or {tt tu : TT} {kb : Bool → List Sl → Prop} (h : WpT F tt Γ fun b Γ1 => (b = false → WpT F tu Γ1 kb) ∧ (b = true → kb true Γ1)) : WpT F (tOr tt tu) Γ kb := fun z σ Q hF hz hs q =>
  h z σ _ hF hz hs fun b Γ1 z1 hk a1 hz1 hs1 => by
    cases b with
    | false => rw [if_neg Bool.false_ne_true]; exact hk.1 rfl z1 σ Q hF hz1 hs1 fun b Γ2 z2 hk2 a2 hz2 hs2 => q b Γ2 z2 hk2 (a1.trans a2) hz2 hs2
    | true => rw [if_pos rfl]; exact q true Γ1 z1 (hk.2 rfl) a1 hz1 hs1
end

/-! ### a def keeps its promise -/
section
variable {P : Program} {w : World} {K : PySem.W.Frag} {mg : Str → Option Value} {base : Heap}
theorem start_len {N : List Str} {vs : List V} (h : vs.length ≤ N.length) : (L2.start N vs).length = N.length := by
  unfold L2.start; rw [List.length_append, List.length_map, List.length_replicate]; omega
theorem VPs.len {S : Hp} {vs : List V} {ss : List Sl} (h : VPs K S vs ss) : vs.length = ss.length := Paired.length h
theorem vps_get {S : Hp} : ∀ {vs : List V} {ss : List Sl} {i : Nat} {s : Sl}, VPs K S vs ss → ss[i]? = some s → ∃ v, vs[i]? = some v ∧ VP K S v s
  | _, _, _, _, .nil, e => by simp at e
  | _, _, 0, _, .cons h _, e => by simp at e; subst e; exact ⟨_, rfl, h⟩
  | _, _, i + 1, s, .cons _ t, e => by
    obtain ⟨v, h1, h2⟩ := vps_get (i := i) (s := s) t (by simpa using e)
    exact ⟨v, by simpa using h1, h2⟩
theorem vp_vok {F : Fx} {z : Z} {o : Option Nat} {v : V} {s : Sl} (h : VP F.K z.S v s) : VOk F z o v s := by
  cases s with
  | d x => exact h
  | raw w => exact h
  | sK x => exact h
  | sT x => exact h
  | sq x => exact h
  | _ => exact h.elim
/-- the slots at a def's entry -/
def entry (N : List Str) (ss : List Sl) : List Sl := ss ++ List.replicate (N.length - ss.length) .un
theorem entry_ok {F : Fx} {z : Z} {N : List Str} {vs : List V} {ss : List Sl} (h : VPs F.K z.S vs ss) (hl : ss.length ≤ N.length) : SOk F z (L2.start N vs) (entry N ss) := by
  have el := h.len
  refine ⟨?_, fun i s e => ?_⟩
  · rw [start_len (by omega)]; unfold entry; rw [List.length_append, List.length_replicate]; omega
  · unfold entry at e
    by_cases hi : i < ss.length
    · rw [List.getElem?_append_left hi] at e
      obtain ⟨v, h1, h2⟩ := vps_get h e
      refine .inr ⟨v, ?_, vp_vok h2⟩
      unfold L2.start
      rw [List.getElem?_append_left (by rw [List.length_map]; omega), List.getElem?_map, h1]; rfl
    · rw [List.getElem?_append_right (by omega)] at e
      obtain ⟨_, q⟩ := List.getElem?_eq_some_iff.mp e
      rw [List.getElem_replicate] at q
      exact .inl q.symm
theorem back_vn {F : Fx} {z : Z} {v : V} {s : Sl} (hz : ZOk F z) (h : VOk F z none v s) (hb : s.back = true) : VN F.K z.S F.B z.H v s := vok_vn hz h hb
/-- THE RULE: a def that raises nothing -/
theorem fn_ok {x qual : Str} {st : Stmt} {f : Addr} {fd : FuncData} {N ps : List Str} {k : Nat} (F0 : Fun K x qual st f fd) (Sc : FnScope N ps (defScope st)) (c : Con) (hl : ∀ a, c.pre a → (c.args a).length = ps.length) (hN : ps.length ≤ N.length) (hx : ∀ a C, ¬ c.exc a C)
    (hb : ∀ (cdv : Value) (A : Around) (outer : List Env) (s : Shared) (H : Hp) (E : XK), Room k (A.deeper (envOfC qual (defScope st) s.heap.objs.size f cdv)) →
      ∃ t, PSs (cxOf CX0 P w K mg base N qual (defScope st) f cdv A outer s H E).nox (defBody st) t ∧ ∀ (B S0 : Hp) (E : XK) (px : Addr → Prop) (a : c.α), c.pre a → Wp ⟨K, B, S0, E, px⟩ t (entry N (c.args a)) (fun _ => c.post a (.d .none)) (fun r _ => r.back = true ∧ c.post a r) (fun _ => False) (fun _ => False)) :
    FnOk P w K mg base CX0 (k + 1) f fd ps (spP K c) := by
  refine F0.ok Sc (fun vs H Q E h => ?_) (fun cdv A outer s H vs Q E hr h => ?_)
  · obtain ⟨S, a, _, h2, h3, _⟩ := h
    rw [h2.len]; exact hl a h3
  · obtain ⟨S, a, h1, h2, h3, h4, _⟩ := h
    obtain ⟨t, ht, hw⟩ := hb cdv A outer s H E hr
    refine ⟨t, ht, ?_⟩
    let F : Fx := ⟨K, H, S, E, fun _ => False⟩
    let z : Z := ⟨S, H, fun _ => none⟩
    have hz : ZOk F z := ⟨h1, Ex.refl _, Ex.refl _, (fun _ _ e => nomatch e), fun _ _ _ => rfl⟩
    refine hw H S E (fun _ => False) a h3 z (L2.start N vs) _ (fun _ _ _ e => e.elim) hz (entry_ok (F := F) (z := z) h2 (by rw [hl a h3]; exact hN)) ⟨fun Γ σ z' p e hz' hs' => ?_, fun v r Γ σ z' p e hz' hs' hv => ?_, fun _ _ _ e => e.elim, fun _ _ _ e => e.elim⟩
    · exact h4 .non (.d .none) z'.S z'.H p e hz'.sub hz'.base (fun a o e => hz'.fresh a o e) Dt.non
    · exact h4 v r z'.S z'.H p.2 e hz'.sub hz'.base (fun a o e => hz'.fresh a o e) (back_vn hz' hv p.1)
/-- .. that may raise -/
theorem fn_okX {x qual : Str} {st : Stmt} {f : Addr} {fd : FuncData} {N ps : List Str} {k : Nat} (F0 : Fun K x qual st f fd) (Sc : FnScope N ps (defScope st)) (c : Con) (hl : ∀ a, c.pre a → (c.args a).length = ps.length) (hN : ps.length ≤ N.length)
    (hb : ∀ (cdv : Value) (A : Around) (outer : List Env) (s : Shared) (H : Hp) (E : XK), Room k (A.deeper (envOfC qual (defScope st) s.heap.objs.size f cdv)) →
      ∃ t, PSs (cxOf (L2.CX P w) P w K mg base N qual (defScope st) f cdv A outer s H E) (defBody st) t ∧ ∀ (B S0 : Hp) (a : c.α), c.pre a → Wp ⟨K, B, S0, E, c.exc a⟩ t (entry N (c.args a)) (fun _ => c.post a (.d .none)) (fun r _ => r.back = true ∧ c.post a r) (fun _ => False) (fun _ => False)) :
    FnOk P w K mg base (L2.CX P w) (k + 1) f fd ps (spP K c) := by
  refine F0.okX Sc (fun vs H Q E h => ?_) (fun cdv A outer s H vs Q E hr h => ?_)
  · obtain ⟨S, a, _, h2, h3, _⟩ := h
    rw [h2.len]; exact hl a h3
  · obtain ⟨S, a, h1, h2, h3, h4, h5⟩ := h
    obtain ⟨t, ht, hw⟩ := hb cdv A outer s H E hr
    refine ⟨t, ht, ?_⟩
    let F : Fx := ⟨K, H, S, E, c.exc a⟩
    let z : Z := ⟨S, H, fun _ => none⟩
    have hz : ZOk F z := ⟨h1, Ex.refl _, Ex.refl _, (fun _ _ e => nomatch e), fun _ _ _ => rfl⟩
    refine hw H S a h3 z (L2.start N vs) _ (fun z' C hz' hc => h5 C z'.H hc hz'.base) hz (entry_ok (F := F) (z := z) h2 (by rw [hl a h3]; exact hN)) ⟨fun Γ σ z' p e hz' hs' => ?_, fun v r Γ σ z' p e hz' hs' hv => ?_, fun _ _ _ e => e.elim, fun _ _ _ e => e.elim⟩
    · exact h4 .non (.d .none) z'.S z'.H p e hz'.sub hz'.base (fun a o e => hz'.fresh a o e) Dt.non
    · exact h4 v r z'.S z'.H p.2 e hz'.sub hz'.base (fun a o e => hz'.fresh a o e) (back_vn hz' hv p.1)
/-- .. that changes the list handed in first -/
theorem fn_okS {x qual : Str} {st : Stmt} {f : Addr} {fd : FuncData} {N ps : List Str} {k : Nat} (F0 : Fun K x qual st f fd) (Sc : FnScope N ps (defScope st)) (c : ConS) (hl : ∀ b, c.pre b → (c.args b).length + 1 = ps.length) (hN : ps.length ≤ N.length)
    (hb : ∀ (cdv : Value) (A : Around) (outer : List Env) (s : Shared) (H : Hp) (E : XK), Room k (A.deeper (envOfC qual (defScope st) s.heap.objs.size f cdv)) →
      ∃ t, PSs (cxOf CX0 P w K mg base N qual (defScope st) f cdv A outer s H E).nox (defBody st) t ∧ ∀ (B S0 : Hp) (E : XK) (px : Addr → Prop) (a : Addr) (b : c.α), c.pre b → Wp ⟨K, B, S0, E, px⟩ t (entry N (.src a (c.src b) :: c.args b))
        (fun Γ => ∃ ds', Γ[0]? = some (.src a ds') ∧ c.post b (.d .none) ds') (fun r Γ => r.back = true ∧ ∃ ds', Γ[0]? = some (.src a ds') ∧ c.post b r ds') (fun _ => False) (fun _ => False)) :
    FnOk P w K mg base CX0 (k + 1) f fd ps (spS K c) := by
  refine F0.ok Sc (fun vs H Q E h => ?_) (fun cdv A outer s H vs Q E hr h => ?_)
  · obtain ⟨S, a, xs, vs', b, rfl, _, _, _, _, h2, h3, _⟩ := h
    rw [List.length_cons, h2.len]; exact hl b h3
  · obtain ⟨S, a, xs, vs', b0, rfl, q1, q2, q3, h1, h2, h3, h4⟩ := h
    obtain ⟨t, ht, hw⟩ := hb cdv A outer s H E hr
    refine ⟨t, ht, ?_⟩
    let B : Hp := fun b => if b = a then none else H b
    let F : Fx := ⟨K, B, S, E, fun _ => False⟩
    let z : Z := ⟨S, H, fun b => if b = a then some 0 else none⟩
    have hB : Ex B H := fun b o e => by
      by_cases hb : b = a
      · subst hb; rw [show B b = none from if_pos rfl] at e; cases e
      · rw [show B b = H b from if_neg hb] at e; exact e
    have hz : ZOk F z := by
      refine ⟨h1, hB, Ex.refl _, fun b i e => ?_, fun _ _ _ => rfl⟩
      by_cases hb : b = a
      · subst hb; exact ⟨q2, if_pos rfl, _, q1⟩
      · rw [show z.own b = none from if_neg hb] at e; cases e
    have hs : SOk F z (L2.start N (.ref a :: vs')) (entry N (.src a (c.src b0) :: c.args b0)) := by
      have el : vs'.length = (c.args b0).length := h2.len
      have hlen := hl b0 h3
      refine ⟨?_, fun i s e => ?_⟩
      · rw [start_len (by rw [List.length_cons]; omega)]; unfold entry; rw [List.length_append, List.length_replicate, List.length_cons]; omega
      · cases i with
        | zero =>
          cases Option.some.inj (show some (Sl.src a (c.src b0)) = some s from e)
          exact .inr ⟨.ref a, rfl, xs, rfl, q1, if_pos rfl, q2, if_pos rfl, q3⟩
        | succ i =>
          have e' : (c.args b0 ++ List.replicate (N.length - ((c.args b0).length + 1)) Sl.un)[i]? = some s := e
          by_cases hi : i < (c.args b0).length
          · rw [List.getElem?_append_left hi] at e'
            obtain ⟨v, g1, g2⟩ := vps_get h2 e'
            refine .inr ⟨v, ?_, vp_vok g2⟩
            show (vs'.map some ++ List.replicate _ none)[i]? = some (some v)
            rw [List.getElem?_append_left (by rw [List.length_map]; omega), List.getElem?_map, g1]; rfl
          · rw [List.getElem?_append_right (by omega)] at e'
            obtain ⟨_, q⟩ := List.getElem?_eq_some_iff.mp e'
            rw [List.getElem_replicate] at q
            exact .inl q.symm
    -- the end: what the first slot holds
    have fin : ∀ {v : V} {r : Sl} {Γ : List Sl} {σ : L2.St} {z' : Z}, (∃ ds', Γ[0]? = some (.src a ds') ∧ c.post b0 r ds') → Ex S z'.S → ZOk F z' → SOk F z' σ Γ → VOk F z' none v r → r.back = true → Q v z'.H := fun {v r Γ σ z'} ⟨ds', g1, g2⟩ e hz' hs' hv hb => by
      obtain ⟨u, w1, xs', w2, w3, w4, w5, w6, w7⟩ := (hs'.at_ 0 _ g1).resolve_left (fun e => nomatch e)
      refine h4 v r ds' xs' z'.S z'.H g2 e hz'.sub (fun b o hb e => hz'.base b o (show B b = some o from (if_neg hb).trans e)) (fun b o e => ?_) w3 w7 ?_
      · by_cases hb : b = a
        · subst hb; exact w5.trans q2.symm
        · exact hz'.fresh b o (show B b = some o from (if_neg hb).trans e)
      · have vn := back_vn hz' hv hb
        have na : ∀ {b : Addr} {o : HO}, B b = none → z'.own b = none → H b = none := fun {b o} e1 e2 => by
          by_cases hb : b = a
          · subst hb; rw [w4] at e2; cases e2
          · exact (if_neg hb).symm.trans e1
        cases r with
        | un => exact nomatch hb
        | d x => exact vn
        | raw w => exact vn
        | lst ds => obtain ⟨b, xs, e, h1, h2, h3, h4, h5⟩ := hv; exact ⟨b, xs, e, na (o := .lst []) h4 h2, h1, h3, h5⟩
        | bor ds => exact nomatch hb
        | bK ds => exact nomatch hb
        | bT ds => exact nomatch hb
        | src a ds => exact nomatch hb
        | dK ds => obtain ⟨b, xs, e, h1, h2, h3, h4, h5⟩ := hv; exact ⟨b, xs, e, na (o := .lst []) h4 h2, h1, h3, h5⟩
        | dT ds => obtain ⟨b, xs, e, h1, h2, h3, h4, h5⟩ := hv; exact ⟨b, xs, e, na (o := .lst []) h4 h2, h1, h3, h5⟩
        | sK ds => exact vn
        | sT ds => exact vn
        | sq ds => exact vn
    exact hw B S E (fun _ => False) a b0 h3 z _ _ (fun _ _ _ e => e.elim) hz hs ⟨fun Γ σ z' p e hz' hs' => fin (r := .d .none) p e hz' hs' Dt.non rfl, fun v r Γ σ z' p e hz' hs' hv => fin p.2 e hz' hs' hv p.1, fun _ _ _ e => e.elim, fun _ _ _ e => e.elim⟩
end
end GL
namespace GL
open PySem PySem.Spec PyProof.Rows L2

/-! ### rules of the machine that the layer lacks -/
theorem bt_int : bootBuiltins "int" = some (.type "int") := by decide +kernel
theorem bt_str : bootBuiltins "str" = some (.type "str") := by decide +kernel
theorem bt_bool : bootBuiltins "bool" = some (.type "bool") := by decide +kernel
theorem bt_tuple : bootBuiltins "tuple" = some (.type "tuple") := by decide +kernel
theorem bt_list : bootBuiltins "list" = some (.type "list") := by decide +kernel
theorem bt_set : bootBuiltins "set" = some (.type "set") := by decide +kernel
theorem bt_dict : bootBuiltins "dict" = some (.type "dict") := by decide +kernel
theorem bt_len : bootBuiltins "len" = some (.builtin "len") := by decide +kernel
theorem bt_sum : bootBuiltins "sum" = some (.builtin "sum") := by decide +kernel
theorem bt_all : bootBuiltins "all" = some (.builtin "all") := by decide +kernel
theorem bt_any : bootBuiltins "any" = some (.builtin "any") := by decide +kernel
theorem bt_max : bootBuiltins "max" = some (.builtin "max") := by decide +kernel
theorem bt_min : bootBuiltins "min" = some (.builtin "min") := by decide +kernel
theorem bt_abs : bootBuiltins "abs" = some (.builtin "abs") := by decide +kernel
theorem bt_sorted : bootBuiltins "sorted" = some (.builtin "sorted") := by decide +kernel
theorem bt_isinstance : bootBuiltins "isinstance" = some (.builtin "isinstance") := by decide +kernel

/-- a list, a tuple, a text -/
def iSeq (K : PySem.W.Frag) (te : TE) : TI := fun σ H R => te σ H fun x H1 => (∃ a, x = .ref a ∧ (∃ xs, SqL K H1 a xs) ∧ R (Itl K a) H1) ∨ (∃ a, x = .ref a ∧ (∃ xs, SqT K H1 a xs) ∧ R (Itt K a) H1) ∨ ∃ y, x = .str y ∧ R (Its y) H1
theorem pi_seq {X : Cx} {tg : Expr} {e : Expr} {te : TE} (he : PE X e te) : PI X tg e (iSeq X.K te) := by
  refine ⟨fun pins s σ H R I h => ?_⟩
  refine thn (he.run pins s σ H _ I h) fun v s1 ⟨x, H1, I1, r1, q1⟩ => ?_
  rcases q1 with ⟨a, e, ⟨xs, hq⟩, q⟩ | ⟨a, e, ⟨xs, hq⟩, q⟩ | ⟨y, ex, q⟩
  · subst e
    cases r1
    obtain ⟨its, rv, p, hz⟩ := I1.list hq
    refine wpAny_pyIter_list p.isList ?_
    refine ⟨s1.heap.objs.size, [s1.heap.objs.size], _, _, H1, rfl, I1.kept (t' := s1.toks) fun b o e => Heap.get?_push_of_some _ e, turn_list a _, ⟨_, Heap.get?_push_size _ rfl, rfl, rfl⟩, fun b hb => ?_, q⟩
    have e : b = s1.heap.objs.size := by simpa using hb
    subst e
    exact I1.fpOk (Nat.le_refl _) (I1.hok.fresh (Nat.le_refl _))
  · subst e
    cases r1
    obtain ⟨its, rv, p, hz⟩ := I1.tuple hq
    refine wpAny_pyIter_tuple (show s1.heap.IsTuple a its.toArray from p) ?_
    refine ⟨s1.heap.objs.size, [s1.heap.objs.size], _, _, H1, rfl, I1.kept (t' := s1.toks) fun b o e => Heap.get?_push_of_some _ e, turn_tuple a _, ⟨_, Heap.get?_push_size _ rfl, rfl, rfl⟩, fun b hb => ?_, q⟩
    have e : b = s1.heap.objs.size := by simpa using hb
    subst e
    exact I1.fpOk (Nat.le_refl _) (I1.hok.fresh (Nat.le_refl _))
  · subst ex
    obtain ⟨t, rfl⟩ := r1
    cases ha : y.cps.all (· < 128)
    · exact wpAny_pyIter_wide ha (pi_one (tk := s1.toks) I1 _ (turn_str _ y t "str_iterator" (.inr rfl)) ⟨_, Heap.get?_push_size _ rfl, rfl, rfl⟩ q)
    · exact wpAny_pyIter_ascii ha (pi_one (tk := s1.toks) I1 _ (turn_str _ y t "str_ascii_iterator" (.inl rfl)) ⟨_, Heap.get?_push_size _ rfl, rfl, rfl⟩ q)

/-! enumerate of a tuple -/
theorem meets_enumerate_newT (l : Addr) (items : Array Value) (n : Nat) (dct : Option Addr) (sl : Array (Option Value)) :
    Meets (Builtin.«enumerate.__new__» ⟨[.type "enumerate", .ref l], []⟩) (fun _ R s => s.heap.get? l = some { cls := .type "tuple", dict := dct, data := .seq items n, slots := sl } ∧
      R (.ok (.ret (.ref (s.heap.push { cls := .type "tuple_iterator", data := .fields #[.ref l, .int 0 0] }).objs.size)))
        { s with heap := (s.heap.push { cls := .type "tuple_iterator", data := .fields #[.ref l, .int 0 0] }).push { cls := .type "enumerate", data := .fields #[.none, .bool false, .ref s.heap.objs.size, rawInt 0, .none, .none] } }) :=
  .of_wp fun prog w A R s h => by
    obtain ⟨hp, g, d, tk, os⟩ := s; obtain ⟨hl, h⟩ := h
    have hsub := sub_enumerate
    have hL : Heap.IsTuple (Shared.heap ⟨hp, g, d, tk, os⟩) l items := ⟨_, hl, rfl, n, rfl⟩
    wp_walk using AutoSeq1.wpAny_loadPart' hl
    refine wpAny_stack_any fun st => wpAny_pure ?_
    split
    · rename_i c _ _ _ _ _
      cases (c == Value.type "enumerate")
      · wp_walk using AutoSeq1.wpAny_loadPart' hl, wpAny_pyIter_tuple hL
        exact ⟨_, rfl, h⟩
      · wp_walk using AutoSeq1.wpAny_loadPart' hl, wpAny_pyIter_tuple hL
        exact ⟨_, rfl, h⟩
    · wp_walk using AutoSeq1.wpAny_loadPart' hl, wpAny_pyIter_tuple hL
      exact ⟨_, rfl, h⟩
theorem call_enumerate_tuple {prog : Program} {w : World} {A : Around} {E : Value → Shared → Prop} {s : Shared} {l : Addr} {items : Array Value} {Q : Value → Shared → Prop} (hL : s.heap.IsTuple l items)
    (h : ∀ h', IsEnum h' (s.heap.objs.size + 1) s.heap.objs.size 0 .none → h'.IsTupleIter s.heap.objs.size l 0 → h'.objs.size = s.heap.objs.size + 2 →
      (∀ b o, s.heap.get? b = some o → h'.get? b = some o) → Q (.ref (s.heap.objs.size + 1)) { s with heap := h' }) :
    wpAny (model prog w) A (call (.type "enumerate") [.ref l]) Q E s := by
  obtain ⟨⟨c, dct, dt, sl⟩, hl, hc, n, hd⟩ := hL
  replace hc : c = .type "tuple" := hc
  replace hd : dt = .seq items n := hd
  subst hc hd
  refine callType_new F.called_enumerate (by decide) (F.typeCall_enumerate_1 _) (F.newCall_enumerate_1 _) (fun obj => F.args_object_init_2 obj _) F.entry_enumerate_new
    (meets_enumerate_newT l items n dct sl) ⟨hl, ?_⟩
  have hz : (s.heap.push { cls := .type "tuple_iterator", data := .fields #[.ref l, .int 0 0] }).objs.size = s.heap.objs.size + 1 := Heap.size_push ..
  show _ ∧ _
  rw [hz]
  have he : IsEnum ((s.heap.push { cls := .type "tuple_iterator", data := .fields #[.ref l, .int 0 0] }).push
      { cls := .type "enumerate", data := .fields #[.none, .bool false, .ref s.heap.objs.size, rawInt 0, .none, .none] }) (s.heap.objs.size + 1) s.heap.objs.size 0 .none := by
    have := Heap.get?_push_size (s.heap.push { cls := .type "tuple_iterator", data := .fields #[.ref l, .int 0 0] })
      (o := { cls := .type "enumerate", data := .fields #[.none, .bool false, .ref s.heap.objs.size, rawInt 0, .none, .none] }) rfl
    rw [hz] at this; exact this
  refine ⟨⟨_, he, rfl⟩, h _ he ⟨_, Heap.get?_push_of_some _ (Heap.get?_push_size _ rfl), rfl, rfl⟩ (by rw [Heap.size_push, hz]) fun b o x => Heap.get?_push_of_some _ (Heap.get?_push_of_some _ x)⟩
theorem wpAny_pyNext_enum_endT {prog : Program} {w : World} {A : Around} {E : Value → Shared → Prop} {s : Shared} {e it l : Addr} {i : Nat} {items : Array Value} {old : Value} {Q : Option Value → Shared → Prop} (hh : A.in1.handled = none)
    (he : IsEnum s.heap e it i old) (hit : s.heap.IsTupleIter it l i) (hl : s.heap.IsTuple l items) (hx : items[i]? = none)
    (hQ : ∀ h', Heap.ExtBut it s.heap h' → Q none { s with heap := h' }) : wpAny (model prog w) A (pyNext (.ref e)) Q E s := by
  have hT : s.TypeIs (.ref e) "enumerate" := ⟨_, he, rfl⟩
  unfold pyNext
  refine wpAny_bind (wpAny_attempt (wpAny_callSpecial?_slot (name := Str.ofString "__next__") hT F.slot_enumerate_next
    (wpAny_call_entry F.slot_enumerate_next hT F.entry_enumerate_next ?_ (F.args_enumerate_next_1 _))))
  show wpAny _ _ (field (.ref e) 2 >>= _) _ _ _
  refine wpAny_bind (wpAny_field he rfl (x := .ref it) rfl ?_)
  refine wpAny_bind (wpAny_nextOf_tuple_end hh hit hl hx fun h' x he' hx' => ?_)
  obtain ⟨o, ho, hc⟩ := hx'
  refine wpAny_bind (wpAny_isInstance (T := "StopIteration") (b := true) ⟨o, ho, hc⟩ isSubtype_stop ?_)
  exact wpAny_pure (hQ _ he')
def IteT (K : PySem.W.Frag) (a : Addr) : It :=
  ⟨fun i H => ∃ (xs : List V) (x : V), SqT K H a xs ∧ xs[i]? = some x, fun i H v H' => ∃ T x, v = .ref T ∧ H T = none ∧ H' = upd H T (.tup [.int (i : Nat), x]) ∧ ∀ xs, SqT K H a xs → xs[i]? = some x, fun i H => ∃ xs : List V, SqT K H a xs ∧ xs.length ≤ i⟩
theorem turn_enumT {P : Program} {w : World} {K : PySem.W.Frag} {elts : List Expr} {kk : Nat} {tpos : Pos} (a e it : Addr) (hia : a ≠ it) (hea : a ≠ e) :
    Turn P w K (.Tuple elts kk tpos) (IteT K a) [e, it] e (fun i h => (∃ old, IsEnum h e it ((i : Nat) : Int) old) ∧ h.IsTupleIter it a i ∧ e ≠ it) where
  mem := by simp
  obj := fun i h st b hb => by
    obtain ⟨⟨old, he⟩, ⟨o, ho, hc, hd⟩, _⟩ := st
    have e' : b = e ∨ b = it := by simpa using hb
    rcases e' with z | z
    · rw [z]; exact ⟨_, he, fun v q => nomatch q⟩
    · rw [z]; exact ⟨o, ho, fun v q => by rw [hd] at q; cases q⟩
  keep := fun i h h' st k => let ⟨⟨old, he⟩, hi, hne⟩ := st; ⟨⟨old, k e (by simp) _ he⟩, hi.at fun o q => k it (by simp) o q, hne⟩
  item := by
    intro X hP hw hK hc i pins s σ H E I hf st hg
    subst hP hw hK
    obtain ⟨⟨old, he⟩, hit, hne⟩ := st
    obtain ⟨xs, x, hq, hx⟩ := hg
    obtain ⟨its, rv, p, hz⟩ := I.tuple hq
    obtain ⟨u, hu, ru⟩ := rv.get hx
    have hil' : i < its.length := (List.getElem?_eq_some_iff.mp hu).1
    have hel : e < s.heap.objs.size := Heap.lt_size he
    have hil : it < s.heap.objs.size := by obtain ⟨_, q, _⟩ := hit; exact Heap.lt_size q
    have hh : X.A.in1.handled = none := I.ok.hd hc
    have D := Draws.tuple (prog := X.prog) (w := X.w) (A := X.A.in1) hh it a hia its.toArray
    refine wpAny_pyNext_enum_itemC D he ⟨hit, p⟩ (by simpa using hil') hne (by simp [hne, Ne.symm hea]) fun y h' tk hP ho hst' hT hsz hk => ?_
    have ey : y = u := by
      have : its.toArray[i]? = some y := hP
      rw [show its.toArray[i]? = its[i]? by simp, hu] at this
      exact (Option.some.inj this).symm
    subst ey
    refine ⟨_, rfl, wpAny_letOwnedTupleGo_enum (s := { s with heap := h', toks := tk + 1 }) ho fun h'' he' sb => ?_⟩
    have hT2 : h''.get? s.heap.objs.size = some { cls := .type "tuple", data := .seq #[.int i tk, y] } := (sb.2 _ (Nat.ne_of_gt hel)).trans hT
    have new : ObjOk X.prog X.w (upd H s.heap.objs.size (.tup [.int (i : Nat), x])) h'' s.heap.objs.size (.tup [.int (i : Nat), x]) :=
      ⟨by show 2 ≤ sizeLine; decide, [.int i tk, y], .cons ⟨_, rfl⟩ (.cons ru .nil), ⟨_, hT2, rfl, _, rfl⟩⟩
    have I1 : Inv X pins σ (upd H s.heap.objs.size (.tup [.int (i : Nat), x])) { s with heap := h'', toks := tk + 1 } :=
      I.turnedNew (ch := [e, it]) (fun b ob hb q => (sb.2 b (fun z => hb (by simp [z]))).trans (hk b ob (fun z => hb (by simp [z])) (fun z => hb (by simp [z])) q)) hf (Nat.le_refl _) new
    refine ⟨.ref s.heap.objs.size, _, I1, rfl, ⟨_, x, rfl, I.hok.fresh (Nat.le_refl _), rfl, fun ys hy => by rw [I.tuple_inj hy hq]; exact hx⟩, ⟨⟨y, ?_⟩, hst'.1.at fun o q => (sb.2 it (Ne.symm hne)).trans q, hne⟩, fun b hb => ?_⟩
    · have e1 : ((i + 1 : Nat) : Int) = (i : Int) + 1 := by omega
      rw [e1]; exact he'
    · have hb' : b < s.heap.objs.size := by
        have e' : b = e ∨ b = it := by simpa using hb
        rcases e' with z | z
        · rw [z]; exact hel
        · rw [z]; exact hil
      rw [upd_ne (Nat.ne_of_lt hb')]
      exact (hf b hb).1
  done := by
    intro X hP hw hK hc i pins s σ H E I hf st hg
    subst hP hw hK
    obtain ⟨⟨old, he⟩, hit, hne⟩ := st
    obtain ⟨xs, hq, hx⟩ := hg
    obtain ⟨its, rv, p, hz⟩ := I.tuple hq
    obtain ⟨f0, f1, f2, f3, f4, f5⟩ := hf it (by simp)
    have hl := rv.length
    have hh : X.A.in1.handled = none := I.ok.hd hc
    exact wpAny_pyNext_enum_endT hh he hit p (by simp; omega) fun h' eb => ⟨rfl, I.turned (t' := s.toks) (fun b o hb q => eb b o hb q) f0 f1 f3 f4 f5⟩
  self := fun A i s Q E st h => let ⟨⟨_, he⟩, _⟩ := st; wpAny_pyIter_enum he h
def iEnumG (K : PySem.W.Frag) (ta : TA) : TI := fun σ H R => ta σ H fun vs H1 => ∃ a xs, vs = [.ref a] ∧ ((SqL K H1 a xs ∧ R (Ite K a) H1) ∨ (SqT K H1 a xs ∧ R (IteT K a) H1))
theorem pi_enumG {X : Cx} {e : Expr} {ta : TA} {p pos tpos : Pos} {elts : List Expr} {kk : Nat} (hg : Gl X "enumerate") (hm : X.mg "enumerate" = none) (ha : PA X [e] ta) (hs : starEach [e] X.env = [(false, eval e X.env)] := by rfl) :
    PI X (.Tuple elts kk tpos) (.Call (.Name "enumerate" p) [e] [] pos) (iEnumG X.K ta) := by
  refine ⟨fun pins s σ H R I h => ?_⟩
  refine Call_ (ld_blt I hg hm boot_enumerate (PyProof.Rows.callWith_type1 (thn (ha.run pos pins s σ H _ I h) fun us s1 ⟨vs, H1, I1, r1, q1⟩ => ?_) hs rfl))
  obtain ⟨a, xs, ex, hq⟩ := q1
  subst ex
  cases r1 with
  | cons r rr =>
    cases rr
    cases r
    have ends : ∀ b, b ∈ [s1.heap.objs.size + 1, s1.heap.objs.size] → FpOk X pins H1 b := fun b hb => by
      have e' : b = s1.heap.objs.size + 1 ∨ b = s1.heap.objs.size := by simpa using hb
      have hle : s1.heap.objs.size ≤ b := by
        rcases e' with z | z
        · rw [z]; exact Nat.le_add_right _ _
        · rw [z]; exact Nat.le_refl _
      exact I1.fpOk hle (I1.hok.fresh hle)
    rcases hq with ⟨hq, q⟩ | ⟨hq, q⟩
    · obtain ⟨its, rv, p', hz⟩ := I1.list hq
      refine call_enumerate_list p'.isList fun h' he hit hsz hk => wpAny_pyIter_enum he ?_
      have I2 : Inv X pins σ H1 { s1 with heap := h' } := I1.kept (t' := s1.toks) hk
      exact ⟨s1.heap.objs.size + 1, [s1.heap.objs.size + 1, s1.heap.objs.size], _, _, H1, rfl, I2, turn_enum a (s1.heap.objs.size + 1) s1.heap.objs.size, ⟨⟨.none, he⟩, hit, Nat.succ_ne_self _⟩, ends, q⟩
    · obtain ⟨its, rv, p', hz⟩ := I1.tuple hq
      have hal : a < s1.heap.objs.size := by obtain ⟨o, ho, _⟩ := p'; exact Heap.lt_size ho
      refine call_enumerate_tuple (show s1.heap.IsTuple a its.toArray from p') fun h' he hit hsz hk => wpAny_pyIter_enum he ?_
      have I2 : Inv X pins σ H1 { s1 with heap := h' } := I1.kept (t' := s1.toks) hk
      exact ⟨s1.heap.objs.size + 1, [s1.heap.objs.size + 1, s1.heap.objs.size], _, _, H1, rfl, I2, turn_enumT a (s1.heap.objs.size + 1) s1.heap.objs.size (Nat.ne_of_lt hal) (Nat.ne_of_lt (Nat.lt_succ_of_lt hal)), ⟨⟨.none, he⟩, hit, Nat.succ_ne_self _⟩, ends, q⟩
/-! in -/
def rInG (K : PySem.W.Frag) : R2 := fun x y H Q => rIn K false x y H Q ∨ ∃ i j, x = .str i ∧ y = .str j ∧ Q (.bl (!(Builtin.Str.occurrences j i 0 j.length 1).isEmpty)) H
def rNotInG (K : PySem.W.Frag) : R2 := fun x y H Q => rIn K true x y H Q ∨ ∃ i j, x = .str i ∧ y = .str j ∧ Q (.bl (!(!(Builtin.Str.occurrences j i 0 j.length 1).isEmpty))) H
theorem op_in_G {X : Cx} : OpR X (compareOp .In) (rInG X.K) := OpR.or op_in_seq op_in_str
theorem op_notin_G {X : Cx} : OpR X (compareOp .NotIn) (rNotInG X.K) := OpR.or op_notIn_seq op_notin_str
/-! keyword-only parameters without defaults -/
theorem Vals.app : ∀ {vs : List V} {us : List Value} {zs : List V} {ws : List Value}, Vals vs us → Vals zs ws → Vals (vs ++ zs) (us ++ ws)
  | _, _, _, _, .nil, s => s
  | _, _, _, _, .cons h t, s => .cons h (Vals.app t s)
theorem kbn_of {K : PySem.W.Frag} {x qual : Str} {st : Stmt} {f : Addr} {fd : FuncData} {ps : List Str} {n : Nat} {ks : List Str} (F : Fun K x qual st f fd)
    (h : ∀ (kV doc pm : Value) (an : Option Addr) (cdv ct : Value) (us ws : List Value), us.length = n → ws.length = ks.length → bindArgs (PySem.W.fnOf x qual (defArgs st) (defBody st) (defScope st) .none kV doc pm an cdv ct) ⟨us, ks.zip ws⟩ = pure (ps.zip (us ++ ws))) : KBn K fd ps n ks (· ++ ·) (· ++ ·) := by
  obtain ⟨oc, od, kV, doc, pm, an, cdv, ct, osl, rfl, lk, hcd⟩ := F.ex
  exact ⟨fun s us ws _ h1 h2 => .of_eq (h kV doc pm an cdv ct us ws h1 h2), fun r1 r2 => Vals.app r1 r2⟩
end GL
namespace GL
open PySem PySem.Spec PyProof.Rows L2
section
variable {F : Fx} {te ta tb tc td ty tx : TE} {tt tu : TT} {tA tB : TA} {Γ : List Sl} {x y s : Sl} {nx bk ct : List Sl → Prop} {rt : Sl → List Sl → Prop} {ds es : List PyData} {i : Nat} {d e : PyData} {g : TG} {t : TS}
/-! ### what is walked -/
theorem evi_seqL (h : EvS F te Γ (.d (.list ds))) : EvI F (iSeq F.K te) Γ ds := fun z σ R hz hs c =>
  h z σ _ hz hs fun v z' a hz' hv _ => by
    cases hv with
    | lst h1 h2 => exact .inl ⟨_, rfl, ⟨_, SqL.of (hz'.sub _ _ h1)⟩, c _ _ a hz' (yields_list h1 h2)⟩
theorem evi_seqT (h : EvS F te Γ (.d (.tuple ds))) : EvI F (iSeq F.K te) Γ ds := fun z σ R hz hs c =>
  h z σ _ hz hs fun v z' a hz' hv _ => by
    cases hv with
    | tup h1 h2 => exact .inr (.inl ⟨_, rfl, ⟨_, SqT.of (hz'.sub _ _ h1)⟩, c _ _ a hz' (yields_tup h1 h2)⟩)
def signs (a : Str) : List PyData := a.cps.toList.map fun c => PyData.str ⟨#[c]⟩
theorem yields_str {S : Hp} {a : Str} : Yields F (Its a) S (signs a) := fun z e hz i => by
  refine ⟨fun d hd => ?_, fun hl => by show a.cps.size ≤ i; simpa [signs] using hl⟩
  have hi : i < a.cps.size := by have := (List.getElem?_eq_some_iff.mp hd).1; simpa [signs] using this
  refine ⟨hi, fun x H' ⟨eH, c, hc, ex⟩ => ⟨z, eH.symm, Add.refl z, hz, ?_⟩⟩
  subst ex
  have : d = .str ⟨#[c]⟩ := by
    simp only [signs, List.getElem?_map, Array.getElem?_toList, hc] at hd
    exact (Option.some.inj hd).symm
  subst this
  exact .str _
theorem evi_seqS {a : Str} (h : EvS F te Γ (.d (.str a))) : EvI F (iSeq F.K te) Γ (signs a) := fun z σ R hz hs c =>
  h z σ _ hz hs fun v z' a' hz' hv _ => .inr (.inr ⟨a, hv.d_str, c _ _ a' hz' yields_str⟩)
theorem EvI.wp {wi : TI} {items : List PyData} {k : List PyData → List Sl → Prop} (h : EvI F wi Γ items) (q : k items Γ) : WpI F wi Γ k := fun z σ R hF hz hs c =>
  h z σ R hz hs fun J z' a hz' hy => c J items Γ z' q a.ext hz' (hs.add a) hy
theorem wp_forI {wi : TI} {items : List PyData} (h : EvI F wi Γ items) (q : ForW F g t nx rt items Γ) : Wp F (tFor wi g t) Γ nx rt bk ct := wp_for (h.wp q)
theorem yields_enumL {z : Z} {a : Addr} {xs : List V} (h : z.S a = some (.lst xs)) (q : DtAll F.K z.S xs ds) : Yields F (Ite F.K a) z.S (enumD ds) := fun z2 e hz2 i => by
  have h2 : SqL F.K z2.H a xs := SqL.of (hz2.sub _ _ (e _ _ h))
  refine ⟨fun d hd => ?_, fun hl => ⟨xs, h2, by rw [enumD_len] at hl; rw [q.len]; exact hl⟩⟩
  obtain ⟨d0, hd0, rfl⟩ := enumD_get hd
  obtain ⟨v, hv, dv⟩ := q.get hd0
  refine ⟨⟨xs, v, h2, hv⟩, fun x H' ⟨T, u, ex, nT, eH, y⟩ => ⟨z2.sh T (.tup [.int (i : Nat), u]), eH.symm, Add.sh hz2 nT, hz2.sh nT, ?_⟩⟩
  have e1 := (y xs h2).symm.trans hv
  cases e1
  subst ex
  exact VOk.sh_tup hz2 nT (.cons (.int _) (.cons (dv.mono e) .nil))
theorem yields_enumT {z : Z} {a : Addr} {xs : List V} (h : z.S a = some (.tup xs)) (q : DtAll F.K z.S xs ds) : Yields F (IteT F.K a) z.S (enumD ds) := fun z2 e hz2 i => by
  have h2 : SqT F.K z2.H a xs := SqT.of (hz2.sub _ _ (e _ _ h))
  refine ⟨fun d hd => ?_, fun hl => ⟨xs, h2, by rw [enumD_len] at hl; rw [q.len]; exact hl⟩⟩
  obtain ⟨d0, hd0, rfl⟩ := enumD_get hd
  obtain ⟨v, hv, dv⟩ := q.get hd0
  refine ⟨⟨xs, v, h2, hv⟩, fun x H' ⟨T, u, ex, nT, eH, y⟩ => ⟨z2.sh T (.tup [.int (i : Nat), u]), eH.symm, Add.sh hz2 nT, hz2.sh nT, ?_⟩⟩
  have e1 := (y xs h2).symm.trans hv
  cases e1
  subst ex
  exact VOk.sh_tup hz2 nT (.cons (.int _) (.cons (dv.mono e) .nil))
theorem evi_enumL (h : EvS F te Γ (.d (.list ds))) : EvI F (iEnumG F.K (tCons te tNil)) Γ (enumD ds) := fun z σ R hz hs c =>
  h z σ _ hz hs fun v z' a hz' hv _ => by
    cases hv with
    | lst h1 h2 => exact ⟨_, _, rfl, .inl ⟨SqL.of (hz'.sub _ _ h1), c _ _ a hz' (yields_enumL h1 h2)⟩⟩
theorem evi_enumT (h : EvS F te Γ (.d (.tuple ds))) : EvI F (iEnumG F.K (tCons te tNil)) Γ (enumD ds) := fun z σ R hz hs c =>
  h z σ _ hz hs fun v z' a hz' hv _ => by
    cases hv with
    | tup h1 h2 => exact ⟨_, _, rfl, .inr ⟨SqT.of (hz'.sub _ _ h1), c _ _ a hz' (yields_enumT h1 h2)⟩⟩
/-! ### in -/
theorem in_G {r' : R2} (h : OpS F (rIn F.K false) x y s) : OpS F (rInG F.K) x y s := fun z v w Q hz hv hw c => .inl (h z v w Q hz hv hw c)
theorem notin_G (h : OpS F (rIn F.K true) x y s) : OpS F (rNotInG F.K) x y s := fun z v w Q hz hv hw c => .inl (h z v w Q hz hv hw c)
theorem in_strG {a b : Str} : OpS F (rInG F.K) (.d (.str a)) (.d (.str b)) (.d (.bool (!(Builtin.Str.occurrences b a 0 b.length 1).isEmpty))) := ops_val fun z v w Q hz hv hw c => .inr ⟨a, b, hv.d_str, hw.d_str, c _ (.bl _)⟩
/-! ### a constant tuple of the module, of texts -/
theorem flat_strs : ∀ ns : List Str, (ns.map PyData.str).all flatD = true
  | [] => rfl
  | n :: r => by rw [List.map_cons, List.all_cons, flat_strs r]; rfl
theorem notin_K {a : Addr} {ns : List Str} (h : ∀ H : Hp, SqT F.K H a (ns.map V.str)) (hd : flatD d = true) : OpS F (rIn F.K true) (.d d) (.raw (.ref a)) (.d (.bool (!(ns.map PyData.str).any fun z => PyData.eqv z d))) :=
  ops_val fun z v w Q hz hv hw c => by
    cases hw
    have f2 := flat_strs ns
    refine ⟨a, _, rfl, .inr (h z.H), flat_of hv hd, flats_of (DtAll.of_strs (K := F.K) (S := z.S) ns) f2, ?_⟩
    rw [if_pos rfl, inV_of hv hd (DtAll.of_strs ns) f2]
    exact c _ (.bl _)

/-! ### dicts -/
def valD {κ : Type} [DecidableEq κ] (kvs : List (κ × PyData)) (k : κ) : Option PyData := (kvs.find? fun kv => decide (kv.1 = k)).map (·.2)
theorem valD_of {κ : Type} [DecidableEq κ] {K : PySem.W.Frag} {S : Hp} {k : κ} : ∀ {xs : List (κ × V)} {kvs : List (κ × PyData)}, KvD K S xs kvs → (∀ d, valD kvs k = some d → ∃ v, valV xs k = some v ∧ Dt K S v d) ∧ (valD kvs k = none → valV xs k = none)
  | _, _, .nil => ⟨fun d h => by simp [valD] at h, fun _ => rfl⟩
  | (a, v) :: xs, (b, w) :: kvs, .cons h t => by
    obtain ⟨h1, h2⟩ := h
    have h1' : a = b := h1
    subst h1'
    have ih := valD_of (k := k) t
    by_cases hk : a = k
    · subst hk
      refine ⟨fun d e => ?_, fun e => ?_⟩
      · simp [valD] at e
        subst e
        exact ⟨v, by simp [valV], h2⟩
      · simp [valD] at e
    · have e1 : valD ((a, w) :: kvs) k = valD kvs k := by simp [valD, hk]
      have e2 : valV ((a, v) :: xs) k = valV xs k := by simp [valV, hk]
      rw [e1, e2]; exact ih
def putD {κ : Type} [DecidableEq κ] (kvs : List (κ × PyData)) (k : κ) (v : PyData) : List (κ × PyData) :=
  if (kvs.any fun kv => decide (kv.1 = k)) = true then kvs.map (fun kv => if kv.1 = k then (kv.1, v) else kv) else kvs ++ [(k, v)]
section
variable {κ : Type} [DecidableEq κ] {K : PySem.W.Frag} {S : Hp} {k : κ} {v : V}
theorem kvd_any : ∀ {xs : List (κ × V)} {kvs : List (κ × PyData)}, KvD K S xs kvs → (xs.any fun kv => decide (kv.1 = k)) = kvs.any fun kv => decide (kv.1 = k)
  | _, _, .nil => rfl
  | (a, v) :: xs, (b, w) :: kvs, .cons h t => by
    have h1' : a = b := h.1
    subst h1'
    rw [List.any_cons, List.any_cons, kvd_any t]
theorem kvd_map (hv : Dt K S v d) : ∀ {xs : List (κ × V)} {kvs : List (κ × PyData)}, KvD K S xs kvs → KvD K S (xs.map fun kv => if kv.1 = k then (kv.1, v) else kv) (kvs.map fun kv => if kv.1 = k then (kv.1, d) else kv)
  | _, _, .nil => .nil
  | (a, u) :: xs, (b, w) :: kvs, .cons h t => by
    have h1' : a = b := h.1
    subst h1'
    refine .cons ?_ (kvd_map hv t)
    by_cases hk : a = k
    · subst hk; simp only [if_true]; exact ⟨trivial, hv⟩
    · simp only [hk, if_false]; exact ⟨trivial, h.2⟩
theorem kvd_app : ∀ {xs ys : List (κ × V)} {kvs lvs : List (κ × PyData)}, KvD K S xs kvs → KvD K S ys lvs → KvD K S (xs ++ ys) (kvs ++ lvs)
  | _, _, _, _, .nil, s => s
  | _, _, _, _, .cons h t, s => .cons h (kvd_app t s)
theorem kvd_put {xs : List (κ × V)} {kvs : List (κ × PyData)} (h : KvD K S xs kvs) (hv : Dt K S v d) : KvD K S (putK xs k v) (putD kvs k d) := by
  unfold putK putD
  rw [kvd_any h]
  split
  · exact kvd_map hv h
  · exact kvd_app h (.cons ⟨rfl, hv⟩ .nil)
theorem kvd_len {xs : List (κ × V)} {kvs : List (κ × PyData)} (h : KvD K S xs kvs) : xs.length = kvs.length := Paired.length h
end
def kD : Key → PyData
  | .inl i => .int i
  | .inr x => .str x
theorem kD_kV {z : Z} {o : Option Nat} {v : V} {k : Key} (h : VOk F z o v (.d (kD k))) : v = kV k := by
  cases k <;> cases h <;> rfl
theorem ks_kV {K : PySem.W.Frag} {S : Hp} : ∀ {vs : List V} {ks : List Key}, DtAll K S vs (ks.map kD) → vs = ks.map kV
  | _, [], .nil => rfl
  | _, k :: ks, .cons h t => by
    rw [List.map_cons, ks_kV t]
    congr 1
    cases k <;> cases h <;> rfl
/-- pairs of a display -/
def EvPs (F : Fx) (Γ : List Sl) : List (TE × TE) → List (Key × PyData) → Prop
  | [], kds => kds = []
  | (tk, tv) :: r, kds => ∃ k d rest, kds = (k, d) :: rest ∧ EvS F tk Γ (.d (kD k)) ∧ EvS F tv Γ (.d d) ∧ EvPs F Γ r rest
theorem evps_run {z : Z} {σ : L2.St} : ∀ {trs : List (TE × TE)} {kds : List (Key × PyData)}, EvPs F Γ trs kds → ∀ (z : Z) (Q : List (V × V) → Hp → Prop), ZOk F z → SOk F z σ Γ → (∀ (kvs : List (Key × V)) z', Add z z' → ZOk F z' → KvD F.K z'.S kvs kds → Q (kvs.map fun kv => (kV kv.1, kv.2)) z'.H) → tPairs trs σ z.H Q
  | [], kds, h, z, Q, hz, hs, c => by
    have e : kds = [] := h
    subst e
    exact c [] z (Add.refl z) hz .nil
  | (tk, tv) :: r, kds, h, z, Q, hz, hs, c => by
    obtain ⟨k, d, rest, rfl, h1, h2, h3⟩ := h
    refine h1 z σ _ hz hs fun v z1 a1 hz1 hv _ => h2 z1 σ _ hz1 (hs.add a1) fun u z2 a2 hz2 hu _ => ?_
    refine evps_run (z := z2) h3 z2 _ hz2 ((hs.add a1).add a2) fun kvs z3 a3 hz3 hk => ?_
    rw [kD_kV hv]
    exact c ((k, u) :: kvs) z3 (a1.trans (a2.trans a3)) hz3 (.cons ⟨rfl, Dt.mono a3.s hu⟩ hk)
def mergeD (kvs more : List (Key × PyData)) : List (Key × PyData) := more.foldl (fun acc kv => putD acc kv.1 kv.2) kvs
theorem kvd_merge {K : PySem.W.Frag} {S : Hp} : ∀ {more : List (Key × V)} {moreD : List (Key × PyData)} {xs : List (Key × V)} {kvs : List (Key × PyData)}, KvD K S more moreD → KvD K S xs kvs → KvD K S (mergeK xs more) (mergeD kvs moreD)
  | _, _, _, _, .nil, h => h
  | (a, v) :: more, (b, w) :: moreD, xs, kvs, .cons h t, h2 => by
    have h1' : a = b := h.1
    subst h1'
    exact kvd_merge (more := more) (moreD := moreD) t (kvd_put h2 h.2)
theorem evs_disp {trs : List (TE × TE)} {kds : List (Key × PyData)} (h : EvPs F Γ trs kds) (hl : kds.length ≤ 15) : EvS F (tDisp trs) Γ (.dK (mergeD [] kds)) := fun z σ Q hz hs c p hp => by
  obtain ⟨n1, n2, n3⟩ := hz.free hp
  have a0 : Add z (z.tmp p (.dK [])) := Add.tmp hp
  refine evps_run (z := z) h (z.tmp p (.dK [])) _ (hz.tmp hp) (hs.add a0) fun kvs z' a hz' hk => ?_
  have hp1 := a.h p _ (show (z.tmp p (.dK [])).H p = some (.dK []) from upd_same)
  refine ⟨hp1.1, kvs, rfl, by rw [kvd_len hk]; exact hl, ?_⟩
  have sp : z'.S p = none := hp1.2.trans n1
  have op : z'.own p = none := by rw [a.own]; exact n3
  refine c _ ⟨z'.S, upd z'.H p (.dK (mergeK [] kvs)), z'.own⟩ ⟨a.s, fun b o e => ?_, a.own⟩ ⟨fun b o e => ?_, fun b o e => ?_, hz'.s0, fun b i e => ?_, hz'.fresh⟩ ⟨p, _, rfl, upd_same, op, sp, n2, kvd_merge hk .nil⟩ ⟨p, rfl, hp⟩
  · have ne := ne_of_none e hp
    have q := (a0.trans a).h b o e
    exact ⟨(upd_ne ne).trans q.1, q.2⟩
  · exact (upd_ne (fun q => by subst q; rw [show z'.S b = some o from e] at sp; cases sp)).trans (hz'.sub b o e)
  · exact (upd_ne (fun q => by subst q; rw [n2] at e; cases e)).trans (hz'.base b o e)
  · obtain ⟨w1, w2, o, w3⟩ := hz'.own b i e
    exact ⟨w1, w2, o, (upd_ne (fun q => by subst q; rw [show z'.own b = some i from e] at op; cases op)).trans w3⟩
/-! asking a dict -/
def Sl.asK : Sl → Option (List (Key × PyData))
  | .dK k => some k
  | .bK k => some k
  | .sK k => some k
  | _ => none
def Sl.asTd : Sl → Option (List (List Key × PyData))
  | .dT k => some k
  | .bT k => some k
  | .sT k => some k
  | _ => none
theorem VOk.asK {z : Z} {o : Option Nat} {v : V} {kvs : List (Key × PyData)} (hz : ZOk F z) (h : VOk F z o v s) (e : s.asK = some kvs) : ∃ a xs, v = .ref a ∧ z.H a = some (.dK xs) ∧ KvD F.K z.S xs kvs := by
  cases s with
  | dK k => cases Option.some.inj e; obtain ⟨a, xs, e, h1, _, _, _, h2⟩ := h; exact ⟨a, xs, e, h1, h2⟩
  | bK k => cases Option.some.inj e; obtain ⟨_, a, xs, e, h1, h2⟩ := h; exact ⟨a, xs, e, h1, h2⟩
  | sK k => cases Option.some.inj e; obtain ⟨a, xs, e, h1, h2⟩ := h; exact ⟨a, xs, e, hz.sub _ _ h1, h2⟩
  | _ => cases e
theorem VOk.asTd {z : Z} {o : Option Nat} {v : V} {kvs : List (List Key × PyData)} (hz : ZOk F z) (h : VOk F z o v s) (e : s.asTd = some kvs) : ∃ a xs, v = .ref a ∧ z.H a = some (.dT xs) ∧ KvD F.K z.S xs kvs := by
  cases s with
  | dT k => cases Option.some.inj e; obtain ⟨a, xs, e, h1, _, _, _, h2⟩ := h; exact ⟨a, xs, e, h1, h2⟩
  | bT k => cases Option.some.inj e; obtain ⟨_, a, xs, e, h1, h2⟩ := h; exact ⟨a, xs, e, h1, h2⟩
  | sT k => cases Option.some.inj e; obtain ⟨a, xs, e, h1, h2⟩ := h; exact ⟨a, xs, e, hz.sub _ _ h1, h2⟩
  | _ => cases e
theorem evs_dgetK {k : Key} {kvs : List (Key × PyData)} (h : EvS F td Γ x) (hx : x.asK = some kvs) (hy : EvS F ty Γ (.d (kD k))) (e : valD kvs k = some d) : EvS F (tDGet td ty) Γ (.d d) := fun z σ Q hz hs c =>
  h z σ _ hz hs fun v z1 a1 hz1 hv _ => hy z1 σ _ hz1 (hs.add a1) fun u z2 a2 hz2 hu _ => by
    obtain ⟨a, xs, rfl, h1, h2⟩ := (hv.add a2).asK hz2 hx
    obtain ⟨w, e1, hw⟩ := (valD_of h2).1 d e
    exact ⟨a, w, rfl, by rw [kD_kV hu, ← e1]; exact DGet.k h1, c w z2 (a1.trans a2) hz2 hw trivial⟩
theorem evs_dgetT {ks : List Key} {kvs : List (List Key × PyData)} (h : EvS F td Γ x) (hx : x.asTd = some kvs) (hy : EvS F ty Γ (.d (.tuple (ks.map kD)))) (e : valD kvs ks = some d) : EvS F (tDGet td ty) Γ (.d d) := fun z σ Q hz hs c =>
  h z σ _ hz hs fun v z1 a1 hz1 hv _ => hy z1 σ _ hz1 (hs.add a1) fun u z2 a2 hz2 hu _ => by
    obtain ⟨a, xs, rfl, h1, h2⟩ := (hv.add a2).asTd hz2 hx
    obtain ⟨w, e1, hw⟩ := (valD_of h2).1 d e
    obtain ⟨b, ys, rfl, g1, g2, g3⟩ := hu.asT hz2 rfl
    have := ks_kV g3
    subst this
    exact ⟨a, w, rfl, by rw [← e1]; exact DGet.t h1 (hz2.sub _ _ g2), c w z2 (a1.trans a2) hz2 hw trivial⟩
theorem evs_dget2T {ks : List Key} {kvs : List (List Key × PyData)} (h : EvS F td Γ x) (hx : x.asTd = some kvs) (hy : EvS F ty Γ (.d (.tuple (ks.map kD)))) (hd : EvS F tx Γ (.d d)) : EvS F (tDGet2 td ty tx) Γ (.d ((valD kvs ks).getD d)) := fun z σ Q hz hs c =>
  h z σ _ hz hs fun v z1 a1 hz1 hv _ => by
    obtain ⟨a, xs, rfl, h1, h2⟩ := hv.asTd hz1 hx
    refine ⟨a, rfl, .inr ⟨xs, .inl h1⟩, hy z1 σ _ hz1 (hs.add a1) fun u z2 a2 hz2 hu _ => hd z2 σ _ hz2 ((hs.add a1).add a2) fun w z3 a3 hz3 hw _ => ?_⟩
    have a13 := a2.trans a3
    obtain ⟨b, ys, rfl, g1, g2, g3⟩ := (hu.add a3).asT hz3 rfl
    have := ks_kV g3
    subst this
    have vd := valD_of (k := ks) h2
    refine ⟨valV xs ks, DGet.t (a13.h _ _ h1).1 (hz3.sub _ _ g2), ?_⟩
    cases q : valD kvs ks with
    | none =>
      rw [vd.2 q]
      exact c w z3 (a1.trans a13) hz3 (by rw [q]; exact hw) trivial
    | some d' =>
      obtain ⟨u', e1, hu'⟩ := vd.1 d' q
      rw [e1]
      exact c u' z3 (a1.trans a13) hz3 (by rw [q]; exact Dt.mono a13.s hu') trivial
theorem evs_dget2K {k : Key} {kvs : List (Key × PyData)} (h : EvS F td Γ x) (hx : x.asK = some kvs) (hy : EvS F ty Γ (.d (kD k))) (hd : EvS F tx Γ (.d d)) : EvS F (tDGet2 td ty tx) Γ (.d ((valD kvs k).getD d)) := fun z σ Q hz hs c =>
  h z σ _ hz hs fun v z1 a1 hz1 hv _ => by
    obtain ⟨a, xs, rfl, h1, h2⟩ := hv.asK hz1 hx
    refine ⟨a, rfl, .inl ⟨xs, .inl h1⟩, hy z1 σ _ hz1 (hs.add a1) fun u z2 a2 hz2 hu _ => hd z2 σ _ hz2 ((hs.add a1).add a2) fun w z3 a3 hz3 hw _ => ?_⟩
    have a13 := a2.trans a3
    have vd := valD_of (k := k) h2
    refine ⟨valV xs k, by rw [kD_kV hu]; exact DGet.k (a13.h _ _ h1).1, ?_⟩
    cases q : valD kvs k with
    | none =>
      rw [vd.2 q]
      exact c w z3 (a1.trans a13) hz3 (by rw [q]; exact hw) trivial
    | some d' =>
      obtain ⟨u', e1, hu'⟩ := vd.1 d' q
      rw [e1]
      exact c u' z3 (a1.trans a13) hz3 (by rw [q]; exact Dt.mono a13.s hu') trivial
theorem evs_newT : EvS F tDNewT Γ (.dT []) := fun z σ Q hz hs c p hp =>
  have f := hz.free hp
  c _ (z.tmp p (.dT [])) (Add.tmp hp) (hz.tmp hp) ⟨p, [], rfl, upd_same, f.2.2, f.1, f.2.1, .nil⟩ ⟨p, rfl, hp⟩
theorem evs_newK : EvS F tDNewK Γ (.dK []) := fun z σ Q hz hs c p hp =>
  have f := hz.free hp
  c _ (z.tmp p (.dK [])) (Add.tmp hp) (hz.tmp hp) ⟨p, [], rfl, upd_same, f.2.2, f.1, f.2.1, .nil⟩ ⟨p, rfl, hp⟩

theorem OpS.shareL {r : R2} (h : OpS F r x y (.lst ds)) : OpS F r x y (.d (.list ds)) := fun z v w Q hz hv hw c =>
  h z v w Q hz hv hw fun v' z' a hz' ⟨p, xs, e, q1, q2, q3, q4, q5⟩ ⟨p', e', hp⟩ => by
    obtain rfl : p = p' := V.ref.inj (e.symm.trans e')
    have e1 : Ex z'.S (upd z'.S p (.lst xs)) := Ex.upd q3
    refine c v' ⟨upd z'.S p (.lst xs), z'.H, z'.own⟩ ⟨a.s.trans e1, fun b u hb => ⟨(a.h b u hb).1, ?_⟩, a.own⟩ ⟨fun b u hb => ?_, hz'.base, hz'.s0.trans e1, fun b i hb => ?_, fun b u hb => ?_⟩ ?_ trivial
    · exact (upd_ne (ne_of_none hb hp)).trans (a.h b u hb).2
    · by_cases hq : b = p
      · subst hq; exact (q1.trans (upd_same.symm.trans hb))
      · exact hz'.sub _ _ (by rw [← hb]; exact (upd_ne hq).symm)
    · have hq : b ≠ p := fun q => by subst q; rw [show z'.own b = some i from hb] at q2; cases q2
      obtain ⟨w1, w2, w3⟩ := hz'.own b i hb
      exact ⟨(upd_ne hq).trans w1, w2, w3⟩
    · have hq : b ≠ p := fun q => by subst q; rw [q4] at hb; cases hb
      exact (upd_ne hq).trans (hz'.fresh b u hb)
    · subst e; exact .lst upd_same (q5.mono e1)
theorem CallS.shareL {r : List V → Hp → VK → Prop} {ss : List Sl} (h : CallS F r ss (.lst ds)) : CallS F r ss (.d (.list ds)) := fun z v Q hz hv c =>
  h z v Q hz hv fun v' z' a hz' ⟨p, xs, e, q1, q2, q3, q4, q5⟩ ⟨p', e', hp⟩ => by
    obtain rfl : p = p' := V.ref.inj (e.symm.trans e')
    have e1 : Ex z'.S (upd z'.S p (.lst xs)) := Ex.upd q3
    refine c v' ⟨upd z'.S p (.lst xs), z'.H, z'.own⟩ ⟨a.s.trans e1, fun b u hb => ⟨(a.h b u hb).1, ?_⟩, a.own⟩ ⟨fun b u hb => ?_, hz'.base, hz'.s0.trans e1, fun b i hb => ?_, fun b u hb => ?_⟩ ?_ trivial
    · exact (upd_ne (ne_of_none hb hp)).trans (a.h b u hb).2
    · by_cases hq : b = p
      · subst hq; exact (q1.trans (upd_same.symm.trans hb))
      · exact hz'.sub _ _ (by rw [← hb]; exact (upd_ne hq).symm)
    · have hq : b ≠ p := fun q => by subst q; rw [show z'.own b = some i from hb] at q2; cases q2
      obtain ⟨w1, w2, w3⟩ := hz'.own b i hb
      exact ⟨(upd_ne hq).trans w1, w2, w3⟩
    · have hq : b ≠ p := fun q => by subst q; rw [q4] at hb; cases hb
      exact (upd_ne hq).trans (hz'.fresh b u hb)
    · subst e; exact .lst upd_same (q5.mono e1)
/-- a, b = e1, e2, the values data or lists of our own -/
theorem wp_parD {i j : Nat} {tA : TA} {x y : Sl} (h : EvA F tA Γ [x, y]) (hij : i ≠ j) (hi : i < Γ.length) (hj : j < Γ.length) (hx : x.pass = true) (hy : y.pass = true) (q : nx ((Γ.set i x).set j y)) : Wp F (tPar i j tA) Γ nx rt bk ct := fun z σ D hF hz hs r =>
  h z σ _ hz hs fun vs z1 a1 hz1 hv => by
    obtain ⟨v, w, rfl, hv, hw⟩ := VAll.two hv
    refine ⟨v, w, rfl, ?_⟩
    have pk : ∀ {s : Sl} {v : V} {o o' : Option Nat}, s.pass = true → VOk F z1 o v s → VOk F z1 o' v s := fun {s v o o'} hp h => by
      cases s with
      | d x => exact h
      | raw w => exact h
      | sK x => exact h
      | sT x => exact h
      | sq x => exact h
      | _ => cases hp
    have s1 := (hs.add a1).other (own' := z1.own) hi (pk hx hv) fun a j _ e => e
    have s2 := s1.other (own' := z1.own) (by rw [List.length_set]; exact hj) (pk hy hw) fun a j _ e => e
    exact r.nx _ _ z1 q a1.s hz1 s2
end

/-! isinstance -/
def isTy (n : String) (d : PyData) : Bool := tyD d == n || (n == "int" && tyD d == "bool")
section
variable {F : Fx} {d : PyData}
theorem tyD_in (d : PyData) : tyD d ∈ ["NoneType", "bool", "int", "str", "list", "tuple", "dict"] := by cases d <;> simp [tyD]
def isI : PyData → Bool
  | .int _ => true
  | .bool _ => true
  | _ => false
def isB : PyData → Bool
  | .bool _ => true
  | _ => false
def isS : PyData → Bool
  | .str _ => true
  | _ => false
def isT : PyData → Bool
  | .tuple _ => true
  | _ => false
def isLs : PyData → Bool
  | .list _ => true
  | _ => false
theorem isi_int : CallS F (rIsi F.K) [.d d, .raw (.ty "int")] (.d (.bool (isI d))) := by
  have h : isTy "int" d = isI d := by cases d <;> simp [isTy, tyD, isI]
  rw [← h]
  exact isi_ty ((by decide +kernel : ∀ t ∈ ["NoneType", "bool", "int", "str", "list", "tuple", "dict"], kitB t "int" = some (t == "int" || ("int" == "int" && t == "bool"))) (tyD d) (tyD_in d))
theorem isi_bool : CallS F (rIsi F.K) [.d d, .raw (.ty "bool")] (.d (.bool (isB d))) := by
  have h : isTy "bool" d = isB d := by cases d <;> simp [isTy, tyD, isB]
  rw [← h]
  exact isi_ty ((by decide +kernel : ∀ t ∈ ["NoneType", "bool", "int", "str", "list", "tuple", "dict"], kitB t "bool" = some (t == "bool" || ("bool" == "int" && t == "bool"))) (tyD d) (tyD_in d))
theorem isi_str : CallS F (rIsi F.K) [.d d, .raw (.ty "str")] (.d (.bool (isS d))) := by
  have h : isTy "str" d = isS d := by cases d <;> simp [isTy, tyD, isS]
  rw [← h]
  exact isi_ty ((by decide +kernel : ∀ t ∈ ["NoneType", "bool", "int", "str", "list", "tuple", "dict"], kitB t "str" = some (t == "str" || ("str" == "int" && t == "bool"))) (tyD d) (tyD_in d))
theorem isi_tuple : CallS F (rIsi F.K) [.d d, .raw (.ty "tuple")] (.d (.bool (isT d))) := by
  have h : isTy "tuple" d = isT d := by cases d <;> simp [isTy, tyD, isT]
  rw [← h]
  exact isi_ty ((by decide +kernel : ∀ t ∈ ["NoneType", "bool", "int", "str", "list", "tuple", "dict"], kitB t "tuple" = some (t == "tuple" || ("tuple" == "int" && t == "bool"))) (tyD d) (tyD_in d))
theorem isi_list : CallS F (rIsi F.K) [.d d, .raw (.ty "list")] (.d (.bool (isLs d))) := by
  have h : isTy "list" d = isLs d := by cases d <;> simp [isTy, tyD, isLs]
  rw [← h]
  exact isi_ty ((by decide +kernel : ∀ t ∈ ["NoneType", "bool", "int", "str", "list", "tuple", "dict"], kitB t "list" = some (t == "list" || ("list" == "int" && t == "bool"))) (tyD d) (tyD_in d))
variable {ta tb : TE} {Γ : List Sl} {tt tu : TT} {nx bk ct : List Sl → Prop} {rt : Sl → List Sl → Prop} {t u : TS} {s : Sl}
theorem evs_andV0 {a : Bool} (h1 : EvS F ta Γ (.d (.bool a))) (e : a = false) : EvS F (tAndV ta tb) Γ (.d (.bool false)) := by subst e; exact evs_andV (b := true) h1 fun q => nomatch q
theorem evs_orV1 {a : Bool} (h1 : EvS F ta Γ (.d (.bool a))) (e : a = true) : EvS F (tOrV ta tb) Γ (.d (.bool true)) := by subst e; exact evs_orV (b := true) h1 fun q => nomatch q
theorem evt_and0 {a : Bool} (h1 : EvT F tt Γ a) (e : a = false) : EvT F (tAnd tt tu) Γ false := by subst e; exact evt_and (b := true) h1 fun q => nomatch q
theorem evt_or1 {a : Bool} (h1 : EvT F tt Γ a) (e : a = true) : EvT F (tOr tt tu) Γ true := by subst e; exact evt_or (b := true) h1 fun q => nomatch q
end
theorem lcp_ds {F : Fx} {g : TG} {te : TE} {f : PyData → PyData} {Γw : List Sl} {ds : List PyData} (h : ∀ d ∈ ds, ∃ Γ1, GTo F g d Γw Γ1 ∧ EvS F te Γ1 (.d (f d))) : LcP F g tYes te Γw ds (ds.map f) := by
  have := lcp_all (F := F) (g := g) (te := te) (enc := id) (f := f) (Γw := Γw) (xs := ds) h
  rwa [List.map_id] at this
theorem lcp_dsF {F : Fx} {g : TG} {tt : TT} {te : TE} {p : PyData → Bool} {f : PyData → PyData} {Γw : List Sl} {ds : List PyData} (h : ∀ d ∈ ds, ∃ Γ1, GTo F g d Γw Γ1 ∧ EvT F tt Γ1 (p d) ∧ (p d = true → EvS F te Γ1 (.d (f d)))) : LcP F g tt te Γw ds ((ds.filter p).map f) := by
  have := lcp_map (F := F) (g := g) (tt := tt) (te := te) (enc := id) (p := p) (f := f) (Γw := Γw) (xs := ds) h
  rwa [List.map_id] at this
/-- a, b = e1, e2: the first a list of our own, the second data -/
theorem wp_parL {F : Fx} {Γ : List Sl} {nx bk ct : List Sl → Prop} {rt : Sl → List Sl → Prop} {i j : Nat} {ta tb : TE} {ds : List PyData} {y : PyData} (h : EvS F ta Γ (.lst ds)) (h2 : EvS F tb Γ (.d y)) (hij : i ≠ j) (hi : i < Γ.length) (hj : j < Γ.length) (q : nx ((Γ.set i (.lst ds)).set j (.d y))) : Wp F (tPar i j (tCons ta (tCons tb tNil))) Γ nx rt bk ct := fun z σ D hF hz hs r =>
  h z σ _ hz hs fun v z1 a1 hz1 hv _ => h2 z1 σ _ hz1 (hs.add a1) fun u z2 a2 hz2 hu _ => by
    refine ⟨v, u, rfl, ?_⟩
    have hs2 := (hs.add a1).add a2
    have hv2 := hv.add a2
    have s1 : SOk F z2 (σ.set j (some u)) (Γ.set j (.d y)) := hs2.other (own' := z2.own) hj hu fun a j _ e => e
    obtain ⟨p, xs, e, q1, q2, q3, q4, q5⟩ := hv2
    have hz3 := own_step (i := i) hz2 q1 q3 q4
    have s2 := s1.other (i := i) (v := v) (s := .lst ds) (own' := fun a => if a = p then some i else z2.own a) (by rw [List.length_set]; exact hi) ⟨p, xs, e, q1, if_pos rfl, q3, q4, q5⟩ fun a j _ e' => by
      show (if a = p then some i else z2.own a) = some j
      rw [if_neg (fun q => by subst q; rw [q2] at e'; cases e')]; exact e'
    rw [List.set_comm _ _ (Ne.symm hij)] at s2
    rw [List.set_comm _ _ (Ne.symm hij)] at s2
    exact r.nx _ _ ⟨z2.S, z2.H, fun a => if a = p then some i else z2.own a⟩ q (a1.s.trans a2.s) hz3 s2
/-- items by place -/
def encs {α : Type} (enc : Nat → α → PyData) : Nat → List α → List PyData
  | _, [] => []
  | i, x :: xs => enc i x :: encs enc (i + 1) xs
theorem encs_map {α : Type} {enc : α → PyData} : ∀ (xs : List α) (i : Nat), encs (fun _ => enc) i xs = xs.map enc
  | [], _ => rfl
  | x :: xs, i => by rw [encs, encs_map xs, List.map_cons]
theorem encs_enum {α : Type} {enc : α → PyData} (xs : List α) : enumD (xs.map enc) = encs (fun i x => .tuple [.int (i : Int), enc x]) 0 xs := by
  have h : ∀ (xs : List α) (i : Nat), ((xs.map enc).zipIdx i).map (fun p => PyData.tuple [.int (p.2 : Int), p.1]) = encs (fun i x => .tuple [.int (i : Int), enc x]) i xs := by
    intro xs
    induction xs with
    | nil => intro i; rfl
    | cons x xs ih => intro i; rw [List.map_cons, List.zipIdx_cons, List.map_cons, ih]; rfl
  exact h xs 0
/-- a for by what is left of it -/
theorem forW_suf {F : Fx} {g : TG} {tb : TS} {nx : List Sl → Prop} {rt : Sl → List Sl → Prop} {α : Type} {enc : Nat → α → PyData} (I : Nat → List α → List Sl → Prop)
    (hs : ∀ i x rest Γ', I i (x :: rest) Γ' → WpG F g (.d (enc i x)) Γ' fun Γ1 => Wp F tb Γ1 (I (i + 1) rest) rt nx (I (i + 1) rest)) (hd : ∀ i Γ', I i [] Γ' → nx Γ') :
    ∀ (xs : List α) (i : Nat) (Γ : List Sl), I i xs Γ → ForW F g tb nx rt (encs enc i xs) Γ
  | [], i, Γ, h => hd i Γ h
  | x :: xs, i, Γ, h => by
    intro z σ v Q hF hz hss hv c
    refine hs i x xs Γ h z σ v Q hF hz hss hv fun Γ1 σ1 z1 w e1 hz1 hs1 => c Γ1 σ1 z1 ?_ e1 hz1 hs1
    intro z2 σ2 D hF2 hz2 hs2 r
    exact w z2 σ2 D hF2 hz2 hs2 ⟨fun Γ3 σ3 z3 p => r.nx Γ3 σ3 z3 (forW_suf I hs hd xs (i + 1) Γ3 p), r.rt, r.bk, fun Γ3 σ3 z3 p => r.ct Γ3 σ3 z3 (forW_suf I hs hd xs (i + 1) Γ3 p)⟩
/-- over xs.map enc -/
theorem forW_map {F : Fx} {g : TG} {tb : TS} {nx : List Sl → Prop} {rt : Sl → List Sl → Prop} {α : Type} {enc : α → PyData} {Γ : List Sl} {xs : List α} (I : Nat → List α → List Sl → Prop) (h0 : I 0 xs Γ)
    (hs : ∀ i x rest Γ', I i (x :: rest) Γ' → WpG F g (.d (enc x)) Γ' fun Γ1 => Wp F tb Γ1 (I (i + 1) rest) rt nx (I (i + 1) rest)) (hd : ∀ i Γ', I i [] Γ' → nx Γ') :
    ForW F g tb nx rt (xs.map enc) Γ := by
  rw [← encs_map xs 0]
  exact forW_suf I hs hd xs 0 Γ h0
theorem forW_enum {F : Fx} {g : TG} {tb : TS} {nx : List Sl → Prop} {rt : Sl → List Sl → Prop} {α : Type} {enc : α → PyData} {Γ : List Sl} {xs : List α} (I : Nat → List α → List Sl → Prop) (h0 : I 0 xs Γ)
    (hs : ∀ i x rest Γ', I i (x :: rest) Γ' → WpG F g (.d (.tuple [.int (i : Int), enc x])) Γ' fun Γ1 => Wp F tb Γ1 (I (i + 1) rest) rt nx (I (i + 1) rest)) (hd : ∀ i Γ', I i [] Γ' → nx Γ') :
    ForW F g tb nx rt (enumD (xs.map enc)) Γ := by
  rw [encs_enum]
  exact forW_suf (enc := fun i x => .tuple [.int (i : Int), enc x]) I hs hd xs 0 Γ h0
/-- over a range: the turn's number -/
theorem forW_range {F : Fx} {g : TG} {tb : TS} {nx : List Sl → Prop} {rt : Sl → List Sl → Prop} {Γ : List Sl} {lo : Int} {n : Nat} (I : Nat → List Sl → Prop) (h0 : I 0 Γ)
    (hs : ∀ i Γ', i < n → I i Γ' → WpG F g (.d (.int (lo + (i : Int)))) Γ' fun Γ1 => Wp F tb Γ1 (I (i + 1)) rt nx (I (i + 1))) (hd : ∀ Γ', I n Γ' → nx Γ') :
    ForW F g tb nx rt (rangeD lo n) Γ :=
  forW_inv I h0 (fun i d Γ' hd h => by
    have hi : i < n := by have := (List.getElem?_eq_some_iff.mp hd).1; rwa [rangeD_len] at this
    have : d = .int (lo + (i : Int)) := by
      simp [rangeD, hi] at hd
      exact hd.symm
    subst this
    exact hs i Γ' hi h) (fun Γ' h => hd Γ' (by rwa [rangeD_len] at h))
theorem cutD_le {α : Type} (xs : List α) (lo hi : Option Int) : (cutD xs lo hi).length ≤ xs.length := by
  unfold cutD; rw [List.length_take, List.length_drop]; omega
theorem cutD_map {α β : Type} (f : α → β) (xs : List α) (lo hi : Option Int) : cutD (xs.map f) lo hi = (cutD xs lo hi).map f := by
  unfold cutD; rw [List.length_map, List.map_take, List.map_drop]
theorem sIx_pos {n d : Nat} {i : Int} (h : 0 ≤ i) : HT.sIx n d (some i) = min i.toNat n := by
  show (if i < 0 then (i + (n : Int)).toNat else min i.toNat n) = _
  rw [if_neg (by omega)]
theorem cutD_take {α : Type} (xs : List α) {i : Int} (h : 0 ≤ i) : cutD xs none (some i) = xs.take i.toNat := by
  unfold cutD; rw [sIx_pos h, HT.sIx_none, List.drop_zero, Nat.sub_zero]
  rw [List.take_eq_take_iff]; omega
theorem cutD_drop {α : Type} (xs : List α) {i : Int} (h : 0 ≤ i) : cutD xs (some i) none = xs.drop i.toNat := by
  unfold cutD; rw [sIx_pos h, HT.sIx_none]
  by_cases hl : i.toNat ≤ xs.length
  · rw [Nat.min_eq_left hl, List.take_of_length_le (by rw [List.length_drop]; omega)]
  · rw [Nat.min_eq_right (by omega), List.drop_length, List.take_nil, List.drop_eq_nil_of_le (by omega)]
theorem cutD_mid {α : Type} (xs : List α) {i j : Int} (h : 0 ≤ i) (h2 : 0 ≤ j) : cutD xs (some i) (some j) = (xs.drop i.toNat).take (j.toNat - i.toNat) := by
  unfold cutD; rw [sIx_pos h, sIx_pos h2]
  by_cases hl : i.toNat ≤ xs.length
  · rw [Nat.min_eq_left hl]
    rw [List.take_eq_take_iff, List.length_drop]; omega
  · rw [Nat.min_eq_right (show xs.length ≤ i.toNat by omega), List.drop_length, List.take_nil, List.drop_eq_nil_of_le (show xs.length ≤ i.toNat by omega), List.take_nil]
theorem evs_ifT {F : Fx} {Γ : List Sl} {tt : TT} {ta tb : TE} {b : Bool} {ds es : List PyData} (hc : EvT F tt Γ b) (ha : b = true → EvS F ta Γ (.d (.tuple ds))) (hb : b = false → EvS F tb Γ (.d (.tuple es))) : EvS F (tIf tt ta tb) Γ (.d (.tuple (if b = true then ds else es))) :=
  evs_if hc (fun q => by rw [if_pos q]; exact ha q) fun q => by rw [if_neg (by rw [q]; exact Bool.false_ne_true)]; exact hb q
theorem evs_one {F : Fx} {Γ : List Sl} {te : TE} {i j : Int} (h : EvS F te Γ (.d (.int i))) (e : i = j) : EvA F (tCons te tNil) Γ [.d (.int j)] := by subst e; exact eva_cons h eva_nil
theorem Wp.mono {F : Fx} {t : TS} {Γ : List Sl} {nx bk ct nx' bk' ct' : List Sl → Prop} {rt rt' : Sl → List Sl → Prop} (h : Wp F t Γ nx rt bk ct) (h1 : ∀ Γ, nx Γ → nx' Γ) (h2 : ∀ r Γ, rt r Γ → rt' r Γ) (h3 : ∀ Γ, bk Γ → bk' Γ) (h4 : ∀ Γ, ct Γ → ct' Γ) : Wp F t Γ nx' rt' bk' ct' := fun z σ D hF hz hs r =>
  h z σ D hF hz hs ⟨fun Γ σ z p => r.nx Γ σ z (h1 Γ p), fun v s Γ σ z p => r.rt v s Γ σ z (h2 s Γ p), fun Γ σ z p => r.bk Γ σ z (h3 Γ p), fun Γ σ z p => r.ct Γ σ z (h4 Γ p)⟩
/-- a block, then the rest, by what holds between them -/
theorem wp_seqI {F : Fx} {t u : TS} {Γ : List Sl} {nx bk ct : List Sl → Prop} {rt : Sl → List Sl → Prop} (I : List Sl → Prop) (h : Wp F t Γ (I) rt bk ct) (h2 : ∀ Γ', I Γ' → Wp F u Γ' nx rt bk ct) : Wp F (tSeq t u) Γ nx rt bk ct :=
  wp_seq (h.mono h2 (fun _ _ h => h) (fun _ h => h) fun _ h => h)
/-- a, b = e1, e2 where e1, e2 change what slots own; the values data -/
theorem wp_parW {F : Fx} {Γ : List Sl} {nx bk ct : List Sl → Prop} {rt : Sl → List Sl → Prop} {i j : Nat} {tA : TA} (hij : i ≠ j) (h : WpA F tA Γ fun ss Γ' => ∃ x y, ss = [x, y] ∧ x.pass = true ∧ y.pass = true ∧ i < Γ'.length ∧ j < Γ'.length ∧ nx ((Γ'.set i x).set j y)) : Wp F (tPar i j tA) Γ nx rt bk ct := fun z σ D hF hz hs r =>
  h z σ _ hF hz hs fun vs ss Γ' z1 ⟨x, y, es, hx, hy, hi, hj, q⟩ a1 hz1 hs1 hv => by
    subst es
    obtain ⟨v, w, rfl, hv, hw⟩ := VAll.two hv
    refine ⟨v, w, rfl, ?_⟩
    have pk : ∀ {s : Sl} {v : V} {o o' : Option Nat}, s.pass = true → VOk F z1 o v s → VOk F z1 o' v s := fun {s v o o'} hp h => by
      cases s with
      | d x => exact h
      | raw w => exact h
      | sK x => exact h
      | sT x => exact h
      | sq x => exact h
      | _ => cases hp
    have s1 := hs1.other (own' := z1.own) hi (pk hx hv) fun a j _ e => e
    have s2 := s1.other (own' := z1.own) (by rw [List.length_set]; exact hj) (pk hy hw) fun a j _ e => e
    exact r.nx _ _ z1 q a1.s hz1 s2
theorem flat1 {d : PyData} : ∀ n : Nat, (List.replicate n [d]).flatten = List.replicate n d
  | 0 => rfl
  | n + 1 => by rw [List.replicate_succ, List.flatten_cons, flat1 n]; rfl
theorem lt_ble {i n : Nat} (h : Nat.ble (i + 1) n = true) : i < n := Nat.le_of_ble_eq_true h
theorem sz {n : Nat} (h : n ≤ 100000) : n ≤ sizeLine := Nat.le_trans h (by decide)
theorem sz' {n : Nat} (h : n ≤ 100000) : n < sizeLine := Nat.lt_of_le_of_lt h (by decide)
end GL
/-! GLf: from the top's facts; the law's end -/
namespace GL
open PySem PySem.Spec PyProof.Rows L2
theorem fun_of {K : PySem.W.Frag} {x qual : Str} {st : Stmt} {f : Addr} {fd : FuncData} (h : FunD K x qual (defArgs st) (defBody st) (defScope st) [] [] f fd) : Fun K x qual st f fd := by
  obtain ⟨oc, od, dV, kV, doc, pm, an, cdv, ct, osl, e, lk, hc, d, _⟩ := h.ex
  rcases d with ⟨_, rfl⟩ | ⟨q, _⟩
  · exact ⟨⟨oc, od, kV, doc, pm, an, cdv, ct, osl, e, lk, hc⟩, h.kp⟩
  · exact absurd rfl q
theorem vals_ints {K : PySem.W.Frag} {S : Hp} : ∀ ns : List Int, DtAll K S (ns.map V.int) (ns.map PyData.int)
  | [] => .nil
  | n :: ns => .cons (.int n) (vals_ints ns)
/-- a law over its script -/
abbrev lawC : Con := { α := List Int, args := fun a => [.sq (a.map PyData.int)], pre := fun a => a.length ≤ 63, post := fun a r => r = .d (.bool true) }
theorem law_wish {K : PySem.W.Frag} {H : Hp} {a : Addr} {ns : List Int} (hl : ns.length ≤ 63) (h : SqL K H a (ns.map V.int)) : spP K lawC [.ref a] H (fun v _ => v = .bl true) fun _ _ _ => False := by
  refine ⟨fun b => if b = a then H b else none, ns, fun b o e => ?_, .cons ⟨a, _, rfl, ?_, vals_ints ns⟩ .nil, hl, ?_, ?_⟩
  · dsimp only at e
    by_cases q : b = a
    · rwa [if_pos q] at e
    · rw [if_neg q] at e; cases e
  · rcases h with h | h
    · refine .inl ?_
      unfold Rd at h ⊢
      simpa using h
    · exact .inr h
  · intro v r S' H' hp _ _ _ _ hv
    rw [hp] at hv
    cases hv
    rfl
  · intro C H' q
    exact q.elim
/-- its one argument binds over every heap -/
theorem law_binds {K : PySem.W.Frag} {x qual y : Str} {st : Stmt} {f : Addr} {fd : FuncData} (F : Fun K x qual st f fd)
    (h : ∀ (kV doc pm : Value) (an : Option Addr) (cdv ct : Value) (u : Value), bindArgs (PySem.W.fnOf x qual (defArgs st) (defBody st) (defScope st) .none kV doc pm an cdv ct) ⟨[u], []⟩ = pure [(y, u)]) (s : Shared) (u : Value) : BindsTo s fd ⟨[u], []⟩ [(y, u)] := by
  obtain ⟨oc, od, kV, doc, pm, an, cdv, ct, osl, rfl, lk, hcd⟩ := F.ex
  exact .of_eq (h kV doc pm an cdv ct u)
end GL
/-! GLg: set(a list), told by what the set holds behind each item -/
namespace GL
open PySem PySem.Spec PyProof.Rows L2
/-- J i h: what the set at a holds in h behind i of the items -/
structure SetJ (P : Program) (w : World) (A : Around) (items : Array Value) (a : Addr) (J : Nat → Heap → Prop) : Prop where
  keep : ∀ i h h', J i h → (∀ o, h.get? a = some o → h'.get? a = some o) → J i h'
  add : ∀ (i : Nat) (v : Value) (s : Shared) (Q : Bool → Shared → Prop) (E : Value → Shared → Prop), items[i]? = some v → J i s.heap →
    (∀ b h' tk, Heap.SameBut a s.heap h' → s.toks ≤ tk → J (i + 1) h' → Q b { s with heap := h', toks := tk }) → wpAny (model P w) A (setAdd a v) Q E s
section
variable {P : Program} {w : World} {A : Around} {E : Value → Shared → Prop} {s : Shared}
theorem set_walk {I a : Addr} {fp wr : List Addr} {G : Array GenState → Array GenState → Prop} {n : Nat} {St : Nat → Shared → Prop} {R : Result → Shared → Prop} {items : Array Value} {J : Nat → Heap → Prop}
    (W : WalksS P w A.in1 I fp wr G n (fun i v => items[i]? = some v) St) (nf : a ∉ fp) (Y : SetJ P w A.in1 items a J) (m : Nat) :
    ∀ (i : Nat) (s : Shared), i + m = n → St i s → J i s.heap → (∀ s', Moved (a :: wr) G s s' → J n s'.heap → R (.ok (.ret .none)) s') →
      codeAny (model P w) A (.builtin "set.update.loop" ⟨[.ref a, .ref I], []⟩) R s := by
  have na : a ∉ wr := fun q => nf (W.sub _ q)
  have more : ∀ b, b ∈ wr → b ∈ a :: wr := fun b q => .tail _ q
  induction m with
  | zero =>
    rintro i s rfl st j hR
    apply codeAny_builtin F.entry_set_update_loop
    rw [Around.under_plainId F.plain_set_update_loop _]
    change wpAny _ A.in1 (pyNext (.ref I) >>= _) _ _ s
    apply wpAny_bind
    apply W.done s _ _ st
    intro s' mv
    change wpAny _ A.in1 (ret Value.none) _ _ s'
    exact wpAny_pure (hR s' (mv.mono more) (Y.keep _ _ _ j fun o q => mv.heap a o na q))
  | succ m ih =>
    intro i s hi st j hR
    apply codeAny_builtin F.entry_set_update_loop
    rw [Around.under_plainId F.plain_set_update_loop _]
    change wpAny _ A.in1 (pyNext (.ref I) >>= _) _ _ s
    apply wpAny_bind
    apply W.item i s _ _ (by omega) st
    intro v s' hv st' mv
    change wpAny _ A.in1 (holding [v] (setAdd a v) >>= _) _ _ s'
    apply wpAny_bind
    apply wpAny_holding
    apply Y.add i v s' _ _ hv (Y.keep _ _ _ j fun o q => mv.heap a o na q)
    intro b h' tk sb le j'
    apply wpAny_pure
    refine ⟨plainId_quiet F.plain_set_update_loop _, ih (i + 1) _ (by omega) (W.frame _ s' _ _ st' le fun b hb o q => ?_) j' fun s2 mv2 j2 => ?_⟩
    · exact (sb.2 b fun z => nf (z ▸ hb)).trans q
    · refine hR s2 (Moved.trans W.gtrans ((mv.mono more).then_heap le fun b o hb q => ?_) mv2) j2
      exact (sb.2 b fun z => hb (z ▸ .head _)).trans q
/-- the new set's object -/
abbrev newSet (led : Bool) : Obj := { cls := .type "set", dict := none, data := .set #[] 0 (.fresh 0 0 led) }
/-- set(xs) of a list: J 0 holds of a new set, J's end is what it holds -/
theorem set_of_list {l : Addr} {items : Array Value} {J : Nat → Heap → Prop} {Q : Value → Shared → Prop} (hh : A.handled = none) (hl : s.heap.IsList l items)
    (Y : ∀ B : Around, SetJ P w B items s.heap.objs.size J) (j0 : ∀ h : Heap, h.get? s.heap.objs.size = some (newSet (!w.params.followText "set-order")) → J 0 h)
    (h : ∀ (h' : Heap) (tk : Nat), J items.size h' → (∀ b o, s.heap.get? b = some o → h'.get? b = some o) → Q (.ref s.heap.objs.size) { s with heap := h', toks := tk }) :
    wpAny (model P w) A (call (.type "set") [.ref l]) Q E s := by
  obtain ⟨cc, tl, hmro⟩ := F.called_set.mro
  have m1 := F.called_set.made
  have m2 := F.called_set.sub
  have m3 := F.called_set.notType
  have m4 := F.called_set.canCreate
  have m5 := F.typeCall_set_1 (.ref l)
  apply wpAny_call
  apply codeAny_of_tree
  change wpAny _ _ (callAny (.type "set") _) _ _ _
  apply wpAny_pure
  refine ⟨Code.quiet_builtin _ (by decide +kernel), codeAny_builtin F.entry_type_call ?_⟩
  rw [Around.under_plain (weight_type_call_type "set" [.ref l] []) rfl]
  repeat (any_goals (first | assumption | wp_step))
  refine codeAny_mono (code_set_led1 (.ref l) (E := E) (Q₁ := fun o s1 => o = .ref s.heap.objs.size ∧ s1 = { s with heap := s.heap.push (newSet (!w.params.followText "set-order")) }) ⟨rfl, rfl⟩) fun r s1 hr => ?_
  cases r with
  | error e => exact hr
  | ok fl =>
    cases fl with
    | ret o =>
      obtain ⟨rfl, rfl⟩ := hr
      generalize hled : (!w.params.followText "set-order") = led at j0 ⊢
      have hS : (s.heap.push (newSet led)).get? s.heap.objs.size = some (newSet led) := Heap.get?_push_size _ rfl
      have hT : Shared.TypeIs { s with heap := s.heap.push (newSet led) } (.ref s.heap.objs.size) "set" := ⟨_, hS, rfl⟩
      have i1 := F.called_set.init.lookup
      have i2 := F.called_set.init.bind (.ref s.heap.objs.size)
      repeat (any_goals (first | assumption | wp_step))
      refine codeAny_mono (codeAny_call_builtin (R := wants (fun r s2 => r = .none ∧ ∃ h' tk, s2 = { s with heap := h', toks := tk } ∧ J items.size h' ∧ ∀ b o, s.heap.get? b = some o → h'.get? b = some o) E)
        F.called_set.init.plain F.entry_set_init (check_set_init_1 hT ?_)) fun r2 s2 hr2 => ?_
      · obtain ⟨ol, hol, hcl, nl, hdl⟩ := hl
        obtain ⟨oc, od, odt, osl⟩ := ol
        dsimp only at hcl hdl
        subst hcl; subst hdl
        have hol2 : (s.heap.push (newSet led)).get? l = some { cls := .type "list", dict := od, data := .seq items nl, slots := osl } := Heap.get?_push_of_some _ hol
        have f1 := F.sub_list_set
        have f2 := F.sub_list_frozenset
        have f3 : (Value.type "list" == Value.type "dict") = false := by decide
        have hl2 : (s.heap.push (newSet led)).IsList l items := ⟨_, hol2, rfl, nl, rfl⟩
        unfold Builtin.«set.__init__» noKeywords Builtin.Frozenset.updateFrom
        generalize hPI : pyIter = PI
        wp_walk
        subst hPI
        apply wpAny_pyIter_list hl2
        apply wpAny_bind
        apply wpAny_runValue
        have hlt : l < s.heap.objs.size := Heap.lt_size hol
        have hsz : (s.heap.push (newSet led)).objs.size = s.heap.objs.size + 1 := Heap.size_push ..
        have h3 : A.in1.in1.in1.handled = none := by simp [hh]
        refine set_walk (Walks.list h3 _ l (by rw [hsz]; exact Nat.ne_of_lt (Nat.lt_succ_of_lt hlt)) items).toS (a := s.heap.objs.size) (J := J) ?_ (Y _) items.size 0 _ (Nat.zero_add _) ⟨⟨_, Heap.get?_push_size _ rfl, rfl, rfl⟩, hl2.push _⟩ ?_ ?_
        · rw [hsz]
          simp only [List.mem_cons, List.not_mem_nil, or_false, not_or]
          exact ⟨Nat.ne_of_lt (Nat.lt_succ_self _), Nat.ne_of_gt hlt⟩
        · exact j0 _ (Heap.get?_push_of_some _ hS)
        · rintro ⟨h', g', d', t', o'⟩ mv j'
          have e1 : g' = s.gens := mv.gens
          have e2 : d' = s.drawn := mv.drawn
          have e3 : o' = s.os := mv.os
          subst e1 e2 e3
          show wpAny _ _ _ _ _ _
          apply wpAny_pure
          show wpAny _ _ (ret Value.none) _ _ _
          apply wpAny_pure
          refine ⟨rfl, h', t', rfl, j', fun b o q => mv.heap b o ?_ (Heap.get?_push_of_some _ (Heap.get?_push_of_some _ q))⟩
          have := Heap.lt_size q
          rw [hsz]
          simp only [List.mem_cons, List.not_mem_nil, or_false, not_or]
          exact ⟨Nat.ne_of_lt this, Nat.ne_of_lt (Nat.lt_succ_of_lt this)⟩
      · cases r2 with
        | error e => exact hr2
        | ok fl2 =>
          cases fl2 with
          | ret r =>
            obtain ⟨rfl, h', tk, rfl, j', k'⟩ := hr2
            repeat (any_goals (first | assumption | wp_step))
            exact h _ _ j' k'
          | _ => exact hr2.elim
    | _ => exact hr.elim
end
/-! ### what is met, each once, in order -/
section
variable {κ : Type} [DecidableEq κ]
def hasL (ks : List κ) (k : κ) : Bool := ks.any fun j => decide (j = k)
theorem hasL_iff {ks : List κ} {k : κ} : hasL ks k = true ↔ k ∈ ks := by unfold hasL; rw [List.any_eq_true]; exact ⟨fun ⟨j, h, e⟩ => of_decide_eq_true e ▸ h, fun h => ⟨k, h, decide_eq_true rfl⟩⟩
def uStep (acc : List κ) (k : κ) : List κ := if hasL acc k = true then acc else acc ++ [k]
def uniq (ks : List κ) : List κ := ks.foldl uStep []
theorem uniq_snoc (ks : List κ) (k : κ) : uniq (ks ++ [k]) = uStep (uniq ks) k := by unfold uniq; rw [List.foldl_append]; rfl
theorem uniq_at {ks : List κ} {i : Nat} {k : κ} (h : ks[i]? = some k) : uniq (ks.take (i + 1)) = uStep (uniq (ks.take i)) k := by
  rw [List.take_succ, h, Option.toList_some, uniq_snoc]
theorem uStep_mem {acc : List κ} {k j : κ} : j ∈ uStep acc k ↔ j ∈ acc ∨ j = k := by
  unfold uStep
  split
  · rename_i h
    exact ⟨.inl, fun q => q.elim id fun q => by rw [q]; exact hasL_iff.mp h⟩
  · rw [List.mem_append, List.mem_singleton]
theorem uStep_len {acc : List κ} {k : κ} : (uStep acc k).length = if hasL acc k = true then acc.length else acc.length + 1 := by
  unfold uStep
  split
  · rfl
  · rw [List.length_append]; rfl
theorem fold_mem {j : κ} : ∀ (ks acc : List κ), j ∈ ks.foldl uStep acc ↔ j ∈ acc ∨ j ∈ ks
  | [], acc => by simp
  | k :: ks, acc => by rw [List.foldl_cons, fold_mem ks, uStep_mem, List.mem_cons, or_assoc]
theorem uniq_mem {ks : List κ} {j : κ} : j ∈ uniq ks ↔ j ∈ ks := by unfold uniq; rw [fold_mem]; simp
theorem fold_nodup : ∀ (ks acc : List κ), acc.Nodup → (ks.foldl uStep acc).Nodup
  | [], _, h => h
  | k :: ks, acc, h => by
    refine fold_nodup ks _ ?_
    unfold uStep
    split
    · exact h
    · rename_i q
      exact List.nodup_append.mpr ⟨h, by simp, fun a ha b hb e => q (by rw [List.mem_singleton] at hb; rw [← hb, ← e]; exact hasL_iff.mpr ha)⟩
theorem uniq_nodup (ks : List κ) : (uniq ks).Nodup := fold_nodup ks [] List.nodup_nil
theorem fold_le : ∀ (ks acc : List κ), (ks.foldl uStep acc).length ≤ acc.length + ks.length
  | [], _ => Nat.le_refl _
  | k :: ks, acc => by
    refine Nat.le_trans (fold_le ks _) ?_
    have : (uStep acc k).length ≤ acc.length + 1 := by rw [uStep_len]; split <;> omega
    simp only [List.length_cons]; omega
theorem uniq_le (ks : List κ) : (uniq ks).length ≤ ks.length := by have := fold_le ks []; simpa [uniq] using this
theorem fold_eq : ∀ (ks acc : List κ), (ks.foldl uStep acc).length = acc.length + ks.length → (∀ k ∈ ks, k ∉ acc) ∧ ks.Nodup
  | [], _, _ => ⟨by simp, List.nodup_nil⟩
  | k :: ks, acc, h => by
    rw [List.foldl_cons] at h
    have h1 := fold_le ks (uStep acc k)
    have h2 : (uStep acc k).length = acc.length + 1 := by
      have : (uStep acc k).length ≤ acc.length + 1 := by rw [uStep_len]; split <;> omega
      simp only [List.length_cons] at h
      omega
    have h3 : k ∉ acc := fun q => by rw [uStep_len, if_pos (hasL_iff.mpr q)] at h2; omega
    obtain ⟨a, b⟩ := fold_eq ks (uStep acc k) (by simp only [List.length_cons] at h; omega)
    refine ⟨fun j hj => ?_, List.nodup_cons.mpr ⟨fun q => a k q (uStep_mem.mpr (.inr rfl)), b⟩⟩
    rcases List.mem_cons.mp hj with rfl | hj
    · exact h3
    · exact fun q => a j hj (uStep_mem.mpr (.inl q))
theorem fold_id : ∀ (ks acc : List κ), (∀ k ∈ ks, k ∉ acc) → ks.Nodup → ks.foldl uStep acc = acc ++ ks
  | [], _, _, _ => by simp
  | k :: ks, acc, h, n => by
    rw [List.foldl_cons]
    have e : uStep acc k = acc ++ [k] := by unfold uStep; rw [if_neg fun q => h k List.mem_cons_self (hasL_iff.mp q)]
    rw [e, fold_id ks (acc ++ [k]) (fun j hj q => ?_) (List.nodup_cons.mp n).2, List.append_assoc]; rfl
    rcases List.mem_append.mp q with q | q
    · exact h j (.tail _ hj) q
    · rw [List.mem_singleton] at q; exact (List.nodup_cons.mp n).1 (q ▸ hj)
theorem uniq_len_iff (ks : List κ) : (uniq ks).length = ks.length ↔ ks.Nodup :=
  ⟨fun h => (fold_eq ks [] (by simpa [uniq] using h)).2, fun h => by unfold uniq; rw [fold_id ks [] (by simp) h]; rfl⟩
end
/-! ### sets of texts, of ints, of truth values -/
section
variable {P : Program} {w : World} {s : Shared}
theorem vals_at {α : Type} {f : α → V} : ∀ {xs : List α} {us : List Value} {i : Nat} {v : Value}, Vals (xs.map f) us → us[i]? = some v → ∃ x, xs[i]? = some x ∧ RelV (f x) v
  | [], _, i, v, .nil, h => by simp at h
  | x :: xs, u :: us, 0, v, .cons r _, h => by simp at h; exact ⟨x, rfl, h ▸ r⟩
  | x :: xs, u :: us, i + 1, v, .cons _ r, h => vals_at (xs := xs) (us := us) (i := i) r (by simpa using h)
theorem setJ_key {a : Addr} {items : List Value} {ks : List Key} (r : Vals (ks.map kV) items) (hb : ks.length + 1 < scanBound) (A : Around) :
    SetJ P w A items.toArray a fun i h => h.SetOf (mixKind P w) a (fun k => hasL (uniq (ks.take i)) k) (uniq (ks.take i)).length where
  keep := fun i h h' j k => setOf_at j k
  add := fun i v s Q E hv j c => by
    obtain ⟨k, hk, rv⟩ := vals_at r (by simpa using hv)
    unfold setAdd
    apply wpAny_holding
    apply wpAny_bind
    apply (mixKind P w).pyHash (kV_is rv)
    have l1 := uniq_le (ks.take i)
    have l2 : (ks.take i).length ≤ ks.length := by rw [List.length_take]; omega
    refine wpAny_setAddHashed_of (knd := mixKind P w) (s := { s with toks := s.toks + 1 }) (kV_is rv) (key_scan rv) j (by omega) fun h' sb new => ?_
    refine c _ h' (s.toks + 1) sb (Nat.le_succ _) ?_
    rw [uniq_at hk, uStep_len]
    have e : (fun k' => hasL (uniq (ks.take i)) k' || decide (k' = k)) = fun k' => hasL (uStep (uniq (ks.take i)) k) k' := funext fun k' => by
      rw [Bool.eq_iff_iff, Bool.or_eq_true, decide_eq_true_eq, hasL_iff, hasL_iff, uStep_mem]
    rw [e] at new
    exact new
theorem setJ_int {a : Addr} {items : List Value} {ns : List Int} (r : Vals (ns.map V.int) items) (hb : ns.length + 1 < scanBound) (A : Around) :
    SetJ P w A items.toArray a fun i h => SetR w h a (fun k => hasL (uniq (ns.take i)) k) (uniq (ns.take i)).length where
  keep := fun i h h' j k => SetR.at j k
  add := fun i v s Q E hv j c => by
    obtain ⟨k, hk, tk, rfl⟩ := vals_at r (by simpa using hv)
    unfold setAdd
    apply wpAny_holding
    apply wpAny_bind
    apply (intKind P w).pyHash (intKind_is P w k tk)
    have l1 := uniq_le (ns.take i)
    have l2 : (ns.take i).length ≤ ns.length := by rw [List.length_take]; omega
    refine setR_add_hashed (s := { s with toks := s.toks + 1 }) j (by omega) fun h' sb new => ?_
    refine c _ h' (s.toks + 1) sb (Nat.le_succ _) ?_
    rw [uniq_at hk, uStep_len]
    have e : (fun k' => hasL (uniq (ns.take i)) k' || decide (k' = k)) = fun k' => hasL (uStep (uniq (ns.take i)) k) k' := funext fun k' => by
      rw [Bool.eq_iff_iff, Bool.or_eq_true, decide_eq_true_eq, hasL_iff, hasL_iff, uStep_mem]
    rw [e] at new
    exact new
end
section
variable {X : Cx}
/-- set(xs) of a list of texts or ints -/
def rSetKs (K : PySem.W.Frag) (P : Program) (w : World) : List V → Hp → VK → Prop := fun xs H Q => ∃ (l : Addr) (ks : List Key), xs = [.ref l] ∧ SqL K H l (ks.map kV) ∧ ks.length ≤ 1000 ∧ ∀ p, H p = none → Q (.ref p) (upd H p (SetK P w p (fun k => hasL (uniq ks) k) (uniq ks).length))
theorem cr_setKs (hc : X.calm = true) : CallR X (.type "set") (rSetKs X.K X.prog X.w) := by
  intro pins s σ H xs us Q I r h
  obtain ⟨l, ks, rfl, hq, hb, q⟩ := h
  rw [Vals.ref1 r]
  obtain ⟨its, rv, pl, hz⟩ := I.list hq
  have hsz : its.toArray.size = ks.length := by rw [List.size_toArray, ← rv.length, List.length_map]
  refine set_of_list (I.ok.hd hc) pl.isList (J := fun i h => h.SetOf (mixKind X.prog X.w) s.heap.objs.size (fun k => hasL (uniq (ks.take i)) k) (uniq (ks.take i)).length) (setJ_key rv (Nat.lt_of_le_of_lt (Nat.add_le_add_right hb 1) (by decide))) (fun h hn => ⟨_, #[], 0, _, hn, ⟨rfl, rfl, rfl⟩, rfl, (fun e he => by simp at he), (fun k => by simp [uniq, hasL]), (by decide), (by rfl), rfl⟩) fun h' tk j k => ?_
  rw [hsz, List.take_length] at j
  have I2 : Inv X pins σ (upd H s.heap.objs.size (SetK X.prog X.w s.heap.objs.size (fun k => hasL (uniq ks) k) (uniq ks).length)) { s with heap := h', toks := tk } := I.laid k (Nat.le_refl _) (setK_new j)
  exact ⟨.ref _, _, I2, rfl, q _ (I.hok.fresh (Nat.le_refl _))⟩
/-- set(xs) of a list of ints, to be walked -/
def rSetIs (K : PySem.W.Frag) (w : World) : List V → Hp → VK → Prop := fun xs H Q => ∃ (l : Addr) (ns : List Int), xs = [.ref l] ∧ SqL K H l (ns.map V.int) ∧ ns.length ≤ 1000 ∧ ∀ p, H p = none → Q (.ref p) (upd H p (SetO w p (fun k => hasL (uniq ns) k) (uniq ns).length))
theorem cr_setIs (hc : X.calm = true) : CallR X (.type "set") (rSetIs X.K X.w) := by
  intro pins s σ H xs us Q I r h
  obtain ⟨l, ns, rfl, hq, hb, q⟩ := h
  rw [Vals.ref1 r]
  obtain ⟨its, rv, pl, hz⟩ := I.list hq
  have hsz : its.toArray.size = ns.length := by rw [List.size_toArray, ← rv.length, List.length_map]
  refine set_of_list (I.ok.hd hc) pl.isList (J := fun i h => SetR X.w h s.heap.objs.size (fun k => hasL (uniq (ns.take i)) k) (uniq (ns.take i)).length) (setJ_int (P := X.prog) rv (Nat.lt_of_le_of_lt (Nat.add_le_add_right hb 1) (by decide))) (fun h hn => by have q := setR_new_at (ns := ns) hn; simp only [List.take_zero, List.not_mem_nil, decide_false] at q; exact q) fun h' tk j k => ?_
  rw [hsz, List.take_length] at j
  have I2 : Inv X pins σ (upd H s.heap.objs.size (SetO X.w s.heap.objs.size (fun k => hasL (uniq ns) k) (uniq ns).length)) { s with heap := h', toks := tk } := I.laid k (Nat.le_refl _) (setO_new j)
  exact ⟨.ref _, _, I2, rfl, q _ (I.hok.fresh (Nat.le_refl _))⟩
/-- len of a set of texts or ints -/
def rLenK (P : Program) (w : World) : List V → Hp → VK → Prop := fun xs H Q => ∃ (a : Addr) (S : Key → Bool) (n : Nat), xs = [.ref a] ∧ H a = some (SetK P w a S n) ∧ n ≤ 1000 ∧ Q (.int (n : Int)) H
theorem cr_lenK : CallR X (.builtin "len") (rLenK X.prog X.w) := by
  intro pins s σ H xs us Q I r h
  obtain ⟨a, S, n, rfl, ha, hb, q⟩ := h
  rw [Vals.ref1 r]
  obtain ⟨o, es, ep, t, ho, hx, hd, _, _, _, hf, hn⟩ := setK_get I ha
  exact call_len_set ho hx hd hf (by rw [hn]; omega) ⟨.int n, H, I.tok _, ⟨_, by rw [hn]⟩, q⟩
end
end GL
/-! GLh: more rules of the slot logic: dict stores, sets, sorted, max, downward ranges, three at once, two clauses -/
namespace GL
open PySem PySem.Spec PyProof.Rows L2
section
variable {F : Fx} {z : Z} {Γ : List Sl} {te ti ta tb : TE} {tA : TA} {tt : TT} {nx bk ct : List Sl → Prop} {rt : Sl → List Sl → Prop} {ds : List PyData} {x s s0 : Sl} {i : Nat} {d : PyData}
/-- a slot's own object changed -/
theorem mut_at {σ : L2.St} {p : Addr} {o0 : HO} {s1 : Sl} (hz : ZOk F z) (hs : SOk F z σ Γ) (hi : Γ[i]? = some s0) (h1 : σ[i]? = some (some (.ref p))) (q1 : z.H p = some o0) (q2 : z.own p = some i) (q3 : z.S p = none) (q4 : F.B p = none)
    (z1 : Z) (a1 : Add z z1) (hz1 : ZOk F z1) (o : HO) (mk : ∀ z2 : Z, z2.H p = some o → z2.own p = some i → z2.S p = none → z2.S = z1.S → VOk F z2 (some i) (.ref p) s1) :
    ZOk F ⟨z1.S, upd z1.H p o, z1.own⟩ ∧ SOk F ⟨z1.S, upd z1.H p o, z1.own⟩ σ (Γ.set i s1) ∧ Ext z ⟨z1.S, upd z1.H p o, z1.own⟩ := by
  have hl : i < Γ.length := (List.getElem?_eq_some_iff.mp hi).1
  have p1 := a1.h p _ q1
  have r1 : z1.S p = none := p1.2.trans q3
  have r2 : z1.own p = some i := by rw [a1.own]; exact q2
  have hs1 := hs.add a1
  refine ⟨⟨fun a u e => ?_, fun a u e => ?_, hz1.s0, fun a j e => ?_, hz1.fresh⟩, ⟨by rw [List.length_set]; exact hs.len, fun j s' e => ?_⟩, ⟨a1.s, fun a u e n => ?_, fun a e => ?_⟩⟩
  · exact (upd_ne (fun q => by subst q; rw [show z1.S a = some u from e] at r1; cases r1)).trans (hz1.sub a u e)
  · exact (upd_ne (fun q => by subst q; rw [e] at q4; cases q4)).trans (hz1.base a u e)
  · obtain ⟨w1, w2, w3⟩ := hz1.own a j e
    refine ⟨w1, w2, ?_⟩
    by_cases q : a = p
    · subst q; exact ⟨_, upd_same⟩
    · obtain ⟨u, w3⟩ := w3; exact ⟨u, (upd_ne q).trans w3⟩
  · by_cases hj : j = i
    · subst hj
      rw [List.getElem?_set_self hl] at e
      cases e
      exact .inr ⟨_, h1, mk ⟨z1.S, upd z1.H p o, z1.own⟩ upd_same r2 r1 rfl⟩
    · rw [List.getElem?_set_ne (Ne.symm hj)] at e
      have ho : ∀ {a : Addr}, z1.own a = some j → a ≠ p := fun {a} w q => by subst q; rw [r2] at w; exact hj (Option.some.inj w).symm
      refine (hs1.at_ j s' e).elim .inl fun ⟨w, w1, h2⟩ => .inr ⟨w, w1, ?_⟩
      cases s' with
      | lst ds => obtain ⟨a, xs, e, g1, g2, g3⟩ := h2; exact ⟨a, xs, e, (upd_ne (ho g2)).trans g1, g2, g3⟩
      | bor ds => exact nomatch h2.1
      | bK ds => exact nomatch h2.1
      | bT ds => exact nomatch h2.1
      | src a ds => obtain ⟨xs, e, g1, g2, g3⟩ := h2; exact ⟨xs, e, (upd_ne (ho g2)).trans g1, g2, g3⟩
      | dK ds => obtain ⟨a, xs, e, g1, g2, g3⟩ := h2; exact ⟨a, xs, e, (upd_ne (ho g2)).trans g1, g2, g3⟩
      | dT ds => obtain ⟨a, xs, e, g1, g2, g3⟩ := h2; exact ⟨a, xs, e, (upd_ne (ho g2)).trans g1, g2, g3⟩
      | _ => exact h2
  · have ne : a ≠ p := fun q => by subst q; rw [n] at q2; cases q2
    have w := a1.h a u e
    exact ⟨(upd_ne ne).trans w.1, by rw [a1.own]; exact n, w.2⟩
  · by_cases q : a = p
    · subst q; exact nomatch (upd_same.symm.trans (show upd z1.H a o a = none from e))
    · exact a1.dom a ((upd_ne q).symm.trans e)
/-- d[k] = e, d a dict of our own -/
theorem wp_setDT {kvs : List (List Key × PyData)} {ks : List Key} (hi : Γ[i]? = some (.dT kvs)) (h : EvS F te Γ (.d d)) (hk : EvS F ti Γ (.d (.tuple (ks.map kD)))) (hl : kvs.length < sizeLine) (q : nx (Γ.set i (.dT (putD kvs ks d)))) : Wp F (tAsg te (gSub (tVar i) ti rSetD)) Γ nx rt bk ct := fun z σ D hF hz hs r => by
  obtain ⟨v, h1, p, xs, rfl, q1, q2, q3, q4, q5⟩ := (hs.at_ i _ hi).resolve_left (fun e => nomatch e)
  refine h z σ _ hz hs fun v z1 a1 hz1 hv _ => ⟨_, h1, hk z1 σ _ hz1 (hs.add a1) fun u z2 a2 hz2 hu _ => ?_⟩
  have a := a1.trans a2
  have p1 := a.h p _ q1
  cases hu with
  | tup w1 w2 =>
    have ek := ks_kV w2
    subst ek
    have kv := kvd_put (k := ks) (q5.mono a.s) (hv.add a2)
    obtain ⟨hz3, hs3, x3⟩ := mut_at hz hs hi h1 q1 q2 q3 q4 z2 a hz2 (.dT (putK xs ks v)) (s1 := .dT (putD kvs ks d)) fun z' e1 e2 e3 e4 => ⟨p, _, rfl, e1, e2, e3, q4, by rw [e4]; exact kv⟩
    exact ⟨p, _, rfl, DPut.t p1.1 (hz2.sub _ _ w1) (by rw [kvd_len q5]; exact hl), r.nx _ _ _ q x3.s hz3 hs3⟩
theorem wp_setDK {kvs : List (Key × PyData)} {k : Key} (hi : Γ[i]? = some (.dK kvs)) (h : EvS F te Γ (.d d)) (hk : EvS F ti Γ (.d (kD k))) (hl : kvs.length < sizeLine) (q : nx (Γ.set i (.dK (putD kvs k d)))) : Wp F (tAsg te (gSub (tVar i) ti rSetD)) Γ nx rt bk ct := fun z σ D hF hz hs r => by
  obtain ⟨v, h1, p, xs, rfl, q1, q2, q3, q4, q5⟩ := (hs.at_ i _ hi).resolve_left (fun e => nomatch e)
  refine h z σ _ hz hs fun v z1 a1 hz1 hv _ => ⟨_, h1, hk z1 σ _ hz1 (hs.add a1) fun u z2 a2 hz2 hu _ => ?_⟩
  have a := a1.trans a2
  have p1 := a.h p _ q1
  have ek := kD_kV hu
  subst ek
  have kv := kvd_put (k := k) (q5.mono a.s) (hv.add a2)
  obtain ⟨hz3, hs3, x3⟩ := mut_at hz hs hi h1 q1 q2 q3 q4 z2 a hz2 (.dK (putK xs k v)) (s1 := .dK (putD kvs k d)) fun z' e1 e2 e3 e4 => ⟨p, _, rfl, e1, e2, e3, q4, by rw [e4]; exact kv⟩
  exact ⟨p, _, rfl, DPut.k p1.1 (by rw [kvd_len q5]; exact hl), r.nx _ _ _ q x3.s hz3 hs3⟩
/-- a conditional value returned -/
theorem wp_retIf {b : Bool} (hc : EvT F tt Γ b) (ha : b = true → Wp F (tRet ta) Γ nx rt bk ct) (hb : b = false → Wp F (tRet tb) Γ nx rt bk ct) : Wp F (tRet (tIf tt ta tb)) Γ nx rt bk ct := fun z σ D hF hz hs r => by
  refine hc z σ _ hz hs fun z1 a1 hz1 => ?_
  cases b with
  | true => exact ha rfl z1 σ D hF hz1 (hs.add a1) (r.mono a1.s)
  | false => exact hb rfl z1 σ D hF hz1 (hs.add a1) (r.mono a1.s)
/-! ### values at once into several slots -/
def Sl.isOwn : Sl → Bool
  | .lst _ => true
  | .dK _ => true
  | .dT _ => true
  | _ => false
theorem claim {σ : L2.St} {v : V} (hz : ZOk F z) (hs : SOk F z σ Γ) (hi : i < Γ.length) (hk : s.keep = true) (hv : VOk F z none v s) : ∃ own' : Addr → Option Nat, ZOk F ⟨z.S, z.H, own'⟩ ∧ SOk F ⟨z.S, z.H, own'⟩ (σ.set i (some v)) (Γ.set i s) ∧ ∀ a, own' a = z.own a ∨ (s.isOwn = true ∧ v = .ref a) := by
  have own1 : ∀ {p : Addr} {o : HO}, s.isOwn = true → v = .ref p → z.H p = some o → z.own p = none → z.S p = none → F.B p = none → VOk F ⟨z.S, z.H, fun a => if a = p then some i else z.own a⟩ (some i) v s → ∃ own' : Addr → Option Nat, ZOk F ⟨z.S, z.H, own'⟩ ∧ SOk F ⟨z.S, z.H, own'⟩ (σ.set i (some v)) (Γ.set i s) ∧ ∀ a, own' a = z.own a ∨ (s.isOwn = true ∧ v = .ref a) := fun {p o} h0 ev h1 h2 h3 h4 h5 => by
    refine ⟨fun a => if a = p then some i else z.own a, own_step hz h1 h3 h4, hs.other hi h5 fun a j _ e => ?_, fun a => ?_⟩
    · show (if a = p then some i else z.own a) = some j
      rw [if_neg (fun q => by subst q; rw [h2] at e; cases e)]; exact e
    · by_cases q : a = p
      · subst q; exact .inr ⟨h0, ev⟩
      · exact .inl (if_neg q)
  have pure1 : VOk F z (some i) v s → ∃ own' : Addr → Option Nat, ZOk F ⟨z.S, z.H, own'⟩ ∧ SOk F ⟨z.S, z.H, own'⟩ (σ.set i (some v)) (Γ.set i s) ∧ ∀ a, own' a = z.own a ∨ (s.isOwn = true ∧ v = .ref a) := fun h5 =>
    ⟨z.own, hz, hs.other (own' := z.own) hi h5 fun a j _ e => e, fun a => .inl rfl⟩
  cases s with
  | un => exact pure1 trivial
  | d x => exact pure1 hv
  | raw u => exact pure1 hv
  | lst ds => obtain ⟨p, xs, e, q1, q2, q3, q4, q5⟩ := hv; exact own1 rfl e q1 q2 q3 q4 ⟨p, xs, e, q1, if_pos rfl, q3, q4, q5⟩
  | dK ds => obtain ⟨p, xs, e, q1, q2, q3, q4, q5⟩ := hv; exact own1 rfl e q1 q2 q3 q4 ⟨p, xs, e, q1, if_pos rfl, q3, q4, q5⟩
  | dT ds => obtain ⟨p, xs, e, q1, q2, q3, q4, q5⟩ := hv; exact own1 rfl e q1 q2 q3 q4 ⟨p, xs, e, q1, if_pos rfl, q3, q4, q5⟩
  | sK ds => exact pure1 hv
  | sT ds => exact pure1 hv
  | sq ds => exact pure1 hv
  | _ => cases hk
/-- a value on its way is not touched by another's claim -/
theorem VOk.apart {u v : V} {s2 : Sl} {own' : Addr → Option Nat} (hv : VOk F z none u s2) (ho : ∀ a, own' a = z.own a ∨ (s.isOwn = true ∧ v = .ref a)) (ne : s.isOwn = true → s2.isOwn = true → u ≠ v) (hk : s2.keep = true) : VOk F ⟨z.S, z.H, own'⟩ none u s2 := by
  have at1 : ∀ {p : Addr}, s2.isOwn = true → u = .ref p → z.own p = none → own' p = none := fun {p} h e q => by
    rcases ho p with w | ⟨w1, w2⟩
    · exact w.trans q
    · exact absurd (e.trans w2.symm) (ne w1 h)
  cases s2 with
  | lst ds => obtain ⟨p, xs, e, q1, q2, q3⟩ := hv; exact ⟨p, xs, e, q1, at1 rfl e q2, q3⟩
  | dK ds => obtain ⟨p, xs, e, q1, q2, q3⟩ := hv; exact ⟨p, xs, e, q1, at1 rfl e q2, q3⟩
  | dT ds => obtain ⟨p, xs, e, q1, q2, q3⟩ := hv; exact ⟨p, xs, e, q1, at1 rfl e q2, q3⟩
  | bor ds => cases hk
  | bK ds => cases hk
  | bT ds => cases hk
  | src a ds => cases hk
  | _ => exact hv
theorem own_in {v : V} (hv : VOk F z none v s) (ho : s.isOwn = true) : ∃ p o, v = .ref p ∧ z.H p = some o := by
  cases s with
  | lst ds => obtain ⟨p, xs, e, q1, _⟩ := hv; exact ⟨p, _, e, q1⟩
  | dK ds => obtain ⟨p, xs, e, q1, _⟩ := hv; exact ⟨p, _, e, q1⟩
  | dT ds => obtain ⟨p, xs, e, q1, _⟩ := hv; exact ⟨p, _, e, q1⟩
  | _ => cases ho
theorem new_out {v : V} (hn : New z v s) (ho : s.isOwn = true) : ∃ p, v = .ref p ∧ z.H p = none := by
  cases s with
  | lst ds => exact hn
  | dK ds => exact hn
  | dT ds => exact hn
  | _ => cases ho
theorem new_ne {u v : V} {s2 : Sl} (hv : VOk F z none v s) (hn : New z u s2) (h1 : s.isOwn = true) (h2 : s2.isOwn = true) : u ≠ v := fun e => by
  obtain ⟨p, o, e1, q1⟩ := own_in hv h1
  obtain ⟨p', e2, q2⟩ := new_out hn h2
  rw [e, e1] at e2
  cases e2
  rw [q1] at q2
  cases q2
theorem wp_parE {j : Nat} {s1 s2 : Sl} (h : EvS F ta Γ s1) (h2 : EvS F tb Γ s2) (k1 : s1.keep = true) (k2 : s2.keep = true) (hij : i ≠ j) (hi : i < Γ.length) (hj : j < Γ.length) (q : nx ((Γ.set i s1).set j s2)) : Wp F (tPar i j (tCons ta (tCons tb tNil))) Γ nx rt bk ct := fun z σ D hF hz hs r =>
  h z σ _ hz hs fun v z1 a1 hz1 hv _ => h2 z1 σ _ hz1 (hs.add a1) fun u z2 a2 hz2 hu hn => by
    refine ⟨v, u, rfl, ?_⟩
    obtain ⟨o1, hz3, hs3, p1⟩ := claim hz2 ((hs.add a1).add a2) hi k1 (hv.add a2)
    have hu2 := hu.apart p1 (fun w1 w2 => new_ne hv hn w1 w2) k2
    obtain ⟨o2, hz4, hs4, p2⟩ := claim hz3 hs3 (i := j) (by rw [List.length_set]; exact hj) k2 hu2
    exact r.nx _ _ ⟨z2.S, z2.H, o2⟩ q (a1.s.trans a2.s) hz4 hs4
theorem wp_par3 {j l : Nat} {s1 s2 s3 : Sl} {tc : TE} (h : EvS F ta Γ s1) (h2 : EvS F tb Γ s2) (h3 : EvS F tc Γ s3) (k1 : s1.keep = true) (k2 : s2.keep = true) (k3 : s3.keep = true) (hi : i < Γ.length) (hj : j < Γ.length) (hl : l < Γ.length) (q : nx (((Γ.set i s1).set j s2).set l s3)) : Wp F (tPar3 i j l (tCons ta (tCons tb (tCons tc tNil)))) Γ nx rt bk ct := fun z σ D hF hz hs r =>
  h z σ _ hz hs fun v z1 a1 hz1 hv _ => h2 z1 σ _ hz1 (hs.add a1) fun u z2 a2 hz2 hu hn => h3 z2 σ _ hz2 ((hs.add a1).add a2) fun t z3 a3 hz3 ht hm => by
    refine ⟨v, u, t, rfl, ?_⟩
    obtain ⟨o1, hz4, hs4, p1⟩ := claim hz3 (((hs.add a1).add a2).add a3) hi k1 (hv.add (a2.trans a3))
    have hu2 := (hu.add a3).apart p1 (fun w1 w2 => new_ne hv hn w1 w2) k2
    have ht2 := ht.apart p1 (fun w1 w2 => new_ne (hv.add a2) hm w1 w2) k3
    obtain ⟨o2, hz5, hs5, p2⟩ := claim hz4 hs4 (i := j) (by rw [List.length_set]; exact hj) k2 hu2
    have ht3 := ht2.apart p2 (fun w1 w2 => new_ne hu hm w1 w2) k3
    obtain ⟨o3, hz6, hs6, p3⟩ := claim hz5 hs5 (i := l) (by rw [List.length_set, List.length_set]; exact hl) k3 ht3
    exact r.nx _ _ ⟨z3.S, z3.H, o3⟩ q ((a1.s.trans a2.s).trans a3.s) hz6 hs6
/-! ### max, sorted, sets -/
def maxI (ns : List Int) : Int := ns.foldl (fun m y => if m < y then y else m) (ns.headD 0)
theorem foldmax : ∀ (ns : List Int) (a : Int), (ns.foldl (fun m y => if m < y then y else m) a = a ∨ ns.foldl (fun m y => if m < y then y else m) a ∈ ns) ∧ a ≤ ns.foldl (fun m y => if m < y then y else m) a ∧ ∀ y ∈ ns, y ≤ ns.foldl (fun m y => if m < y then y else m) a
  | [], a => ⟨.inl rfl, Int.le_refl _, by simp⟩
  | n :: ns, a => by
    obtain ⟨h1, h2, h3⟩ := foldmax ns (if a < n then n else a)
    rw [List.foldl_cons]
    refine ⟨?_, ?_, fun y hy => ?_⟩
    · rcases h1 with h1 | h1
      · rw [h1]; split
        · exact .inr (.head _)
        · exact .inl rfl
      · exact .inr (.tail _ h1)
    · refine Int.le_trans ?_ h2; split <;> omega
    · rcases List.mem_cons.mp hy with rfl | hy
      · refine Int.le_trans ?_ h2; split <;> omega
      · exact h3 y hy
theorem maxI_spec {ns : List Int} (h : ns ≠ []) : maxI ns ∈ ns ∧ ∀ y ∈ ns, y ≤ maxI ns := by
  cases ns with
  | nil => exact absurd rfl h
  | cons n ns =>
    obtain ⟨h1, h2, h3⟩ := foldmax (n :: ns) n
    refine ⟨?_, h3⟩
    rcases h1 with h1 | h1
    · show List.foldl _ n (n :: ns) ∈ _; rw [h1]; exact .head _
    · exact h1
theorem maxI_eq {ns : List Int} {m : Int} (h1 : m ∈ ns) (h2 : ∀ y ∈ ns, y ≤ m) : maxI ns = m := by
  have := maxI_spec (ns := ns) (fun e => by rw [e] at h1; cases h1)
  have a := h2 _ this.1
  have b := this.2 _ h1
  omega
theorem max_ints {ns : List Int} (h : x.asL = some (ns.map PyData.int)) (hne : ns ≠ []) : CallS F (rMax F.K) [x] (.d (.int (maxI ns))) := calls_val fun z vs Q hz ha c => by
  obtain ⟨v, rfl, hv⟩ := VAll.one ha
  obtain ⟨a, xs, rfl, h1, h2⟩ := hv.asL hz h
  have e := h2.ints
  subst e
  refine ⟨a, ns, rfl, SqL.of h1, by cases ns with | nil => exact absurd rfl hne | cons _ _ => simp, fun m m1 m2 => ?_⟩
  rw [← maxI_eq m1 m2]
  exact c _ (.int _)
/-- in order, each once -/
def insU (k : Int) : List Int → List Int
  | [] => [k]
  | n :: ns => if k < n then k :: n :: ns else if k = n then n :: ns else n :: insU k ns
def sortU (ns : List Int) : List Int := ns.foldr insU []
theorem insU_mem {k j : Int} : ∀ {ns : List Int}, j ∈ insU k ns ↔ j = k ∨ j ∈ ns
  | [] => by simp [insU]
  | n :: ns => by
    unfold insU
    split
    · simp
    · split
      · rename_i h; subst h; simp
      · rw [List.mem_cons, insU_mem, List.mem_cons]; exact ⟨fun q => q.elim (fun q => .inr (.inl q)) fun q => q.elim .inl fun q => .inr (.inr q), fun q => q.elim (fun q => .inr (.inl q)) fun q => q.elim .inl fun q => .inr (.inr q)⟩
theorem insU_lt {k : Int} : ∀ {ns : List Int}, ns.Pairwise (· < ·) → (insU k ns).Pairwise (· < ·)
  | [], _ => List.pairwise_singleton _ _
  | n :: ns, h => by
    obtain ⟨h1, h2⟩ := List.pairwise_cons.mp h
    unfold insU
    split
    · rename_i q
      exact List.pairwise_cons.mpr ⟨fun y hy => by rcases List.mem_cons.mp hy with rfl | hy; exact q; exact Int.lt_trans q (h1 y hy), h⟩
    · split
      · exact h
      · refine List.pairwise_cons.mpr ⟨fun y hy => ?_, insU_lt h2⟩
        rcases insU_mem.mp hy with rfl | hy
        · omega
        · exact h1 y hy
theorem sortU_mem {j : Int} : ∀ {ns : List Int}, j ∈ sortU ns ↔ j ∈ ns
  | [] => Iff.rfl
  | n :: ns => by show j ∈ insU n (sortU ns) ↔ _; rw [insU_mem, sortU_mem, List.mem_cons]
theorem sortU_lt : ∀ (ns : List Int), (sortU ns).Pairwise (· < ·)
  | [] => .nil
  | n :: ns => insU_lt (sortU_lt ns)
theorem lt_unique : ∀ {as bs : List Int}, as.Pairwise (· < ·) → bs.Pairwise (· < ·) → (∀ k, k ∈ as ↔ k ∈ bs) → as = bs
  | [], [], _, _, _ => rfl
  | [], b :: bs, _, _, h => nomatch (h b).mpr (.head _)
  | a :: as, [], _, _, h => nomatch (h a).mp (.head _)
  | a :: as, b :: bs, ha, hb, h => by
    obtain ⟨a1, a2⟩ := List.pairwise_cons.mp ha
    obtain ⟨b1, b2⟩ := List.pairwise_cons.mp hb
    have e : a = b := by
      rcases List.mem_cons.mp ((h a).mp (.head _)) with q | q
      · exact q
      · rcases List.mem_cons.mp ((h b).mpr (.head _)) with w | w
        · exact w.symm
        · have := b1 a q; have := a1 b w; omega
    subst e
    rw [lt_unique a2 b2 fun k => ⟨fun q => ?_, fun q => ?_⟩]
    · rcases List.mem_cons.mp ((h k).mp (.tail _ q)) with w | w
      · subst w; exact absurd (a1 k q) (Int.lt_irrefl _)
      · exact w
    · rcases List.mem_cons.mp ((h k).mpr (.tail _ q)) with w | w
      · subst w; exact absurd (b1 k q) (Int.lt_irrefl _)
      · exact w
theorem sortU_eq {ns ms : List Int} (h : ms.Pairwise (· < ·)) (h2 : ∀ k, k ∈ ms ↔ k ∈ ns) : sortU ns = ms := lt_unique (sortU_lt ns) h fun k => sortU_mem.trans (h2 k).symm
variable {P : Program} {w : World}
/-- len(set(xs)), xs a list of texts -/
theorem evs_lenSetS {xs : List Str} (h : EvS F te Γ x) (hx : x.asL = some (xs.map PyData.str)) (hl : xs.length ≤ 1000) : EvS F (tCB (rLenK P w) (tCons (tCB (rSetKs F.K P w) (tCons te tNil)) tNil)) Γ (.d (.int ((uniq (xs.map (Sum.inr : Str → Key))).length : Nat))) := fun z σ Q hz hs c =>
  h z σ _ hz hs fun v z1 a1 hz1 hv _ => by
    obtain ⟨a, vs, rfl, h1, h2⟩ := hv.asL hz1 hx
    have e : vs = (xs.map (Sum.inr : Str → Key)).map kV := ks_kV (by rw [List.map_map]; exact h2)
    subst e
    have hb := uniq_le (xs.map (Sum.inr : Str → Key))
    rw [List.length_map] at hb
    refine ⟨a, _, rfl, SqL.of h1, by rw [List.length_map]; exact hl, fun p hp => ⟨p, _, _, rfl, upd_same, by omega, ?_⟩⟩
    exact c _ (z1.tmp p _) (a1.trans (Add.tmp hp)) (hz1.tmp hp) (.int _) trivial
/-- len(set(xs)), xs a list of ints -/
theorem evs_lenSetI {xs : List Int} (h : EvS F te Γ x) (hx : x.asL = some (xs.map PyData.int)) (hl : xs.length ≤ 1000) : EvS F (tCB (rLenK P w) (tCons (tCB (rSetKs F.K P w) (tCons te tNil)) tNil)) Γ (.d (.int ((uniq (xs.map (Sum.inl : Int → Key))).length : Nat))) := fun z σ Q hz hs c =>
  h z σ _ hz hs fun v z1 a1 hz1 hv _ => by
    obtain ⟨a, vs, rfl, h1, h2⟩ := hv.asL hz1 hx
    have e : vs = (xs.map (Sum.inl : Int → Key)).map kV := ks_kV (by rw [List.map_map]; exact h2)
    subst e
    have hb := uniq_le (xs.map (Sum.inl : Int → Key))
    rw [List.length_map] at hb
    refine ⟨a, _, rfl, SqL.of h1, by rw [List.length_map]; exact hl, fun p hp => ⟨p, _, _, rfl, upd_same, by omega, ?_⟩⟩
    exact c _ (z1.tmp p _) (a1.trans (Add.tmp hp)) (hz1.tmp hp) (.int _) trivial
theorem dt_ints {S : Hp} : ∀ ns : List Int, DtAll F.K S (ns.map V.int) (ns.map PyData.int)
  | [] => .nil
  | n :: ns => .cons (.int n) (dt_ints ns)
/-- sorted(set(xs)), xs a list of ints -/
theorem evs_sortSet {xs : List Int} (h : EvS F te Γ x) (hx : x.asL = some (xs.map PyData.int)) (hl : xs.length ≤ 1000) (hm : (sortU xs).length < 64) : EvS F (tCB (rSortedSet w) (tCons (tCB (rSetIs F.K w) (tCons te tNil)) tNil)) Γ (.lst ((sortU xs).map PyData.int)) := fun z σ Q hz hs c =>
  h z σ _ hz hs fun v z1 a1 hz1 hv _ => by
    obtain ⟨a, vs, rfl, h1, h2⟩ := hv.asL hz1 hx
    have e := h2.ints
    subst e
    have hn : (uniq xs).length = (sortU xs).length := ((List.perm_ext_iff_of_nodup (uniq_nodup xs) ((sortU_lt xs).imp fun q => Int.ne_of_lt q)).mpr fun k => by rw [uniq_mem, sortU_mem]).length_eq
    refine ⟨a, _, rfl, SqL.of h1, hl, fun p hp => ⟨p, _, _, rfl, upd_same, by omega, fun ns b hs1 hs2 _ hb => ?_⟩⟩
    have e : sortU xs = ns := sortU_eq hs1 fun k => by rw [hs2, hasL_iff, uniq_mem]
    subst e
    have hz2 := hz1.tmp (o := SetO w p (fun k => hasL (uniq xs) k) (uniq xs).length) hp
    have a2 := a1.trans (Add.tmp (o := SetO w p (fun k => hasL (uniq xs) k) (uniq xs).length) hp)
    exact c _ ((z1.tmp p _).tmp b _) (a2.trans (Add.tmp hb)) (hz2.tmp hb) (VOk.tmp_lst hz2 hb (dt_ints _)) ⟨b, rfl, a2.dom b hb⟩
/-- sorted(xs), xs a list of ints, fewer than 64 -/
def sortI (ns : List Int) : List Int := ns.mergeSort fun a b => decide (a ≤ b)
theorem sortI_eq {ns ms : List Int} (hp : ms.Perm ns) (hs : ms.Pairwise (· ≤ ·)) : sortI ns = ms := by
  have h1 : (sortI ns).Pairwise (· ≤ ·) := by
    have := List.pairwise_mergeSort (le := fun a b : Int => decide (a ≤ b)) (fun a b c h1 h2 => by simp at *; omega) (fun a b => by simp; omega) ns
    exact this.imp fun q => by simpa using q
  exact List.Perm.eq_of_pairwise (le := fun a b : Int => a ≤ b) (fun a b _ _ q r => Int.le_antisymm q r) h1 hs ((List.mergeSort_perm ns _).trans hp.symm)
theorem sorted_ints {ns : List Int} (h : x.asL = some (ns.map PyData.int)) (hl : ns.length < 64) : CallS F (rSorted F.K) [x] (.lst ((sortI ns).map PyData.int)) := fun z vs Q hz ha c => by
  obtain ⟨v, rfl, hv⟩ := VAll.one ha
  obtain ⟨a, xs, rfl, h1, h2⟩ := hv.asL hz h
  have e := h2.ints
  subst e
  refine ⟨a, ns, rfl, SqL.of h1, hl, fun ns' p hp hs hn => ?_⟩
  rw [← sortI_eq hp hs]
  exact c _ (z.tmp p _) (Add.tmp hn) (hz.tmp hn) (VOk.tmp_lst hz hn (dt_ints _)) ⟨p, rfl, hn⟩
end
end GL
/-! GLi: comprehensions of two clauses, ranges by steps, pop -/
namespace GL
open PySem PySem.Spec PyProof.Rows L2
section
variable {F : Fx} {Γ Γ1 : List Sl} {te ti ta tb : TE} {tA : TA} {tt tt1 : TT} {nx bk ct : List Sl → Prop} {rt : Sl → List Sl → Prop} {ds : List PyData} {x s s0 : Sl} {i : Nat} {d : PyData} {g g1 : TG} {wi wi1 : TI}
/-! ### a new list at D, filled -/
/-- from z to z2, but for what stands at D -/
def Adv (D : Addr) (z z2 : Z) : Prop := Add (z.tmp D (.lst [])) ⟨z2.S, upd z2.H D (.lst []), z2.own⟩
/-- the list at D holds these -/
def Acc (F : Fx) (D : Addr) (accD : List PyData) (z : Z) : Prop := ZOk F z ∧ z.S D = none ∧ F.B D = none ∧ z.own D = none ∧ ∃ acc, z.H D = some (.lst acc) ∧ DtAll F.K z.S acc accD
theorem Adv.refl {D : Addr} (z : Z) : Adv D z z := ⟨Ex.refl _, fun a o e => ⟨e, rfl⟩, rfl⟩
theorem Adv.trans {D : Addr} {x y z : Z} (a : Adv D x y) (b : Adv D y z) : Adv D x z := ⟨a.s.trans b.s, fun p o e => ⟨(b.h p o (a.h p o e).1).1, (b.h p o (a.h p o e).1).2.trans (a.h p o e).2⟩, b.own.trans a.own⟩
theorem Adv.of {D : Addr} {z z2 : Z} (a : Add z z2) {o : HO} (hD : z.H D = some o) : Adv D z z2 := by
  refine ⟨a.s, fun p u e => ?_, a.own⟩
  by_cases q : p = D
  · subst q; exact ⟨by rw [← e]; exact upd_same.trans upd_same.symm, (a.h p _ hD).2⟩
  · have w := a.h p u ((upd_ne q).symm.trans e)
    exact ⟨(upd_ne q).trans w.1, w.2⟩
theorem Adv.s_ {D : Addr} {z z2 : Z} (a : Adv D z z2) : Ex z.S z2.S := a.s
theorem SOk.adv {D : Addr} {z z2 : Z} {σ : L2.St} (hs : SOk F z σ Γ) (a : Adv D z z2) (o : z.own D = none) : SOk F z2 σ Γ := by
  refine ⟨hs.len, fun j s' e => (hs.at_ j s' e).elim .inl fun ⟨w, w1, h2⟩ => .inr ⟨w, w1, ?_⟩⟩
  have ow : ∀ {b : Addr} {u : HO}, z.own b = some j → z.H b = some u → z2.H b = some u ∧ z2.own b = some j ∧ z2.S b = z.S b := fun {b u} w q => by
    have ne : b ≠ D := fun e => by subst e; rw [o] at w; cases w
    have r := a.h b u ((upd_ne ne).trans q)
    exact ⟨(upd_ne ne).symm.trans r.1, by rw [show z2.own = z.own from a.own]; exact w, r.2⟩
  cases s' with
  | un => exact h2
  | d x => exact Dt.mono a.s h2
  | raw u => exact h2
  | lst ds => obtain ⟨b, xs, e, g1, g2, g3, g4, g5⟩ := h2; have r := ow g2 g1; exact ⟨b, xs, e, r.1, r.2.1, r.2.2.trans g3, g4, g5.mono a.s⟩
  | bor ds => exact nomatch h2.1
  | bK ds => exact nomatch h2.1
  | bT ds => exact nomatch h2.1
  | src b ds => obtain ⟨xs, e, g1, g2, g3, g4, g5⟩ := h2; have r := ow g2 g1; exact ⟨xs, e, r.1, r.2.1, r.2.2.trans g3, g4, g5.mono a.s⟩
  | dK ds => obtain ⟨b, xs, e, g1, g2, g3, g4, g5⟩ := h2; have r := ow g2 g1; exact ⟨b, xs, e, r.1, r.2.1, r.2.2.trans g3, g4, g5.mono a.s⟩
  | dT ds => obtain ⟨b, xs, e, g1, g2, g3, g4, g5⟩ := h2; have r := ow g2 g1; exact ⟨b, xs, e, r.1, r.2.1, r.2.2.trans g3, g4, g5.mono a.s⟩
  | sK ds => obtain ⟨b, xs, e, g1, g5⟩ := h2; exact ⟨b, xs, e, a.s _ _ g1, g5.mono a.s⟩
  | sT ds => obtain ⟨b, xs, e, g1, g5⟩ := h2; exact ⟨b, xs, e, a.s _ _ g1, g5.mono a.s⟩
  | sq ds => obtain ⟨b, xs, e, g1, g5⟩ := h2; exact ⟨b, xs, e, ex_l a.s g1, g5.mono a.s⟩
theorem Acc.new {D : Addr} {z : Z} (hz : ZOk F z) (hD : z.H D = none) : Acc F D [] (z.tmp D (.lst [])) := by
  obtain ⟨n1, n2, n3⟩ := hz.free hD
  exact ⟨hz.tmp hD, n1, n2, n3, [], upd_same, .nil⟩
theorem Acc.add {D : Addr} {accD : List PyData} {z z2 : Z} (h : Acc F D accD z) (a : Add z z2) (hz2 : ZOk F z2) : Acc F D accD z2 := by
  obtain ⟨_, h1, h2, h3, acc, h4, h5⟩ := h
  have w := a.h _ _ h4
  exact ⟨hz2, w.2.trans h1, h2, by rw [a.own]; exact h3, acc, w.1, h5.mono a.s⟩
theorem Acc.push {D : Addr} {accD : List PyData} {z : Z} {acc : List V} {u : V} {y : PyData} (h : Acc F D accD z) (hD : z.H D = some (.lst acc)) (hu : Dt F.K z.S u y) : Acc F D (accD ++ [y]) ⟨z.S, upd z.H D (.lst (acc ++ [u])), z.own⟩ ∧ Adv D z ⟨z.S, upd z.H D (.lst (acc ++ [u])), z.own⟩ := by
  obtain ⟨hz, h1, h2, h3, acc2, h4, h5⟩ := h
  have e : acc2 = acc := by rw [h4] at hD; cases hD; rfl
  subst e
  refine ⟨⟨⟨fun a o e => ?_, fun a o e => ?_, hz.s0, fun a j e => ?_, hz.fresh⟩, h1, h2, h3, _, upd_same, h5.app (.cons hu .nil)⟩, ⟨Ex.refl _, fun a o e => ⟨?_, rfl⟩, rfl⟩⟩
  · exact (upd_ne (fun q => by subst q; rw [show z.S a = some o from e] at h1; cases h1)).trans (hz.sub a o e)
  · exact (upd_ne (fun q => by subst q; rw [h2] at e; cases e)).trans (hz.base a o e)
  · obtain ⟨w1, w2, o, w3⟩ := hz.own a j e
    exact ⟨w1, w2, o, (upd_ne (fun q => by subst q; rw [show z.own a = some j from e] at h3; cases h3)).trans w3⟩
  · show upd (upd z.H D (.lst (acc2 ++ [u]))) D (.lst []) a = some o
    rw [show upd (upd z.H D (.lst (acc2 ++ [u]))) D (.lst []) = upd z.H D (.lst []) from upd_upd]; exact e
theorem Adv.out {D : Addr} {z0 z2 : Z} (hz : ZOk F z0) (hD : z0.H D = none) (a : Adv D (z0.tmp D (.lst [])) z2) : Add z0 z2 := by
  refine ⟨a.s, fun p o e => ?_, a.own⟩
  have ne : p ≠ D := ne_of_none e hD
  have w := a.h p o ((upd_ne ne).trans ((upd_ne ne).trans e))
  exact ⟨(upd_ne ne).symm.trans w.1, w.2⟩
/-! ### two clauses -/
/-- pure turns of two clauses -/
def LcP2 (F : Fx) (g : TG) (tt : TT) (wi1 : TI) (g1 : TG) (tt1 : TT) (te : TE) (vs1 : List Nat) (Γw : List Sl) : List PyData → List PyData → Prop
  | [], outs => outs = []
  | d :: ds, outs => ∃ Γ1 b, GTo F g d Γw Γ1 ∧ EvT F tt Γ1 b ∧ (b = true → ∃ items1 o1 rest, outs = o1 ++ rest ∧ EvI F wi1 Γ1 items1 ∧ LcP F g1 tt1 te (wipeS Γ1 vs1) items1 o1 ∧ LcP2 F g tt wi1 g1 tt1 te vs1 Γw ds rest) ∧ (b = false → LcP2 F g tt wi1 g1 tt1 te vs1 Γw ds outs)
theorem evs_lc2 {vs vs1 : List Nat} {items outs : List PyData} (hi : EvI F wi Γ items) (hg : Gvs vs g) (hg1 : Gvs vs1 g1) (hl : outs.length < sizeLine) (h : LcP2 F g tt wi1 g1 tt1 te vs1 (wipeS Γ vs) items outs) : EvS F (tLc2 wi g tt wi1 g1 tt1 te vs vs1) Γ (.lst outs) := fun z σ Q hz hs c =>
  hi z σ _ hz hs fun J z1 a1 hz1 hy D hD => by
    have hs1 := hs.add a1
    have oD : (z1.tmp D (.lst [])).own D = none := (hz1.free hD).2.2
    have hs1' : SOk F (z1.tmp D (.lst [])) σ Γ := hs1.add (Add.tmp hD)
    refine ⟨fun i m H => ∃ z2 accD, H = z2.H ∧ Adv D (z1.tmp D (.lst [])) z2 ∧ Acc F D accD z2 ∧ (∃ rest, outs = accD ++ rest ∧ LcP2 F g tt wi1 g1 tt1 te vs1 (wipeS Γ vs) (items.drop i) rest) ∧ m = items.length - i,
      ⟨items.length, z1.tmp D (.lst []), [], rfl, Adv.refl _, Acc.new hz1 hD, ⟨outs, rfl, h⟩, rfl⟩, ?_⟩
    rintro i m H ⟨z2, accD, rfl, ad, hA, ⟨rest, er, hp⟩, em⟩
    have hz2 := hA.1
    have e12 : Ex z1.S z2.S := ad.s_
    obtain ⟨yg, ys⟩ := hy z2 e12 hz2 i
    cases q : items[i]? with
    | none =>
      have hlen := List.getElem?_eq_none_iff.mp q
      rw [List.drop_eq_nil_of_le hlen] at hp
      have e0 : rest = [] := hp
      subst e0
      rw [List.append_nil] at er
      subst er
      obtain ⟨_, w1, w2, w3, acc, w4, w5⟩ := hA
      exact .inl ⟨ys hlen, c _ z2 (a1.trans (ad.out hz1 hD)) hz2 ⟨D, acc, rfl, w4, w3, w1, w2, w5⟩ ⟨D, rfl, a1.dom D hD⟩⟩
    | some d =>
      have hlen := (List.getElem?_eq_some_iff.mp q).1
      obtain ⟨go, yl⟩ := yg d q
      have ed : items.drop i = d :: items.drop (i + 1) := by
        rw [List.drop_eq_getElem_cons hlen, (List.getElem?_eq_some_iff.mp q).2]
      rw [ed] at hp
      obtain ⟨Γ1, b, hG1, ht1, hb1, hb0⟩ := hp
      refine .inr ⟨go, fun H' => ∃ z2 accD, H' = z2.H ∧ Adv D (z1.tmp D (.lst [])) z2 ∧ Acc F D accD z2 ∧ (∃ rest, outs = accD ++ rest ∧ LcP2 F g tt wi1 g1 tt1 te vs1 (wipeS Γ vs) (items.drop (i + 1)) rest), ?_, ?_⟩
      · rintro H' ⟨z3, accD3, w1, w2, w3, w4⟩
        exact ⟨items.length - (i + 1), by omega, z3, accD3, w1, w2, w3, w4, rfl⟩
      intro x H' hx
      obtain ⟨z3, rfl, a3, hz3, dx⟩ := yl x H' hx
      have hG := hg x (wipe σ vs) z3.H
      rw [wipe_wipe] at hG
      refine hG _ ?_
      have s2 : SOk F z2 σ Γ := hs1'.adv ad oD
      refine hG1 z3 (wipe σ vs) x _ hz3 (wipeS_ok (s2.add a3) vs) dx fun σ4 hs4 => ?_
      refine ht1 z3 σ4 _ hz3 hs4 fun z4 a4 hz4 => ?_
      obtain ⟨acc0, hD0⟩ : ∃ acc, z2.H D = some (.lst acc) := let ⟨_, _, _, _, acc, w, _⟩ := hA; ⟨acc, w⟩
      have hA4 := hA.add (a3.trans a4) hz4
      have ad4 : Adv D (z1.tmp D (.lst [])) z4 := ad.trans (Adv.of (a3.trans a4) hD0)
      cases b with
      | false =>
        rw [if_neg Bool.false_ne_true]
        exact ⟨z4, accD, rfl, ad4, hA4, rest, er, hb0 rfl⟩
      | true =>
        rw [if_pos rfl]
        obtain ⟨items1, o1, rest2, e2, hI1, hP1, hP2⟩ := hb1 rfl
        refine hI1 z4 σ4 _ hz4 (hs4.add a4) fun J1 z5 a5 hz5 hy1 => ?_
        have hs5 := (hs4.add a4).add a5
        have hA5 := hA4.add a5 hz5
        obtain ⟨acc5, hD5⟩ : ∃ acc, z5.H D = some (.lst acc) := let ⟨_, _, _, _, acc, w, _⟩ := hA5; ⟨acc, w⟩
        obtain ⟨acc4, hD4⟩ : ∃ acc, z4.H D = some (.lst acc) := let ⟨_, _, _, _, acc, w, _⟩ := hA4; ⟨acc, w⟩
        have ad5 : Adv D (z1.tmp D (.lst [])) z5 := ad4.trans (Adv.of a5 hD4)
        refine ⟨fun j k H => ∃ z6 bccD, H = z6.H ∧ Adv D z5 z6 ∧ Acc F D (accD ++ bccD) z6 ∧ (∃ r1, o1 = bccD ++ r1 ∧ LcP F g1 tt1 te (wipeS Γ1 vs1) (items1.drop j) r1) ∧ k = items1.length - j, ⟨items1.length, z5, [], rfl, Adv.refl _, by rw [List.append_nil]; exact hA5, ⟨o1, rfl, hP1⟩, rfl⟩, ?_⟩
        rintro j k H ⟨z6, bccD, rfl, ad6, hA6, ⟨r1, e1, hp1⟩, ek⟩
        have hz6 := hA6.1
        obtain ⟨yg1, ys1⟩ := hy1 z6 ad6.s_ hz6 j
        cases q1 : items1[j]? with
        | none =>
          have hlen1 := List.getElem?_eq_none_iff.mp q1
          rw [List.drop_eq_nil_of_le hlen1] at hp1
          have e0 : r1 = [] := hp1
          subst e0
          rw [List.append_nil] at e1
          subst e1
          exact .inl ⟨ys1 hlen1, z6, accD ++ o1, rfl, ad5.trans ad6, hA6, rest2, by rw [er, e2, List.append_assoc], hP2⟩
        | some d1 =>
          have hlen1 := (List.getElem?_eq_some_iff.mp q1).1
          obtain ⟨go1, yl1⟩ := yg1 d1 q1
          have ed1 : items1.drop j = d1 :: items1.drop (j + 1) := by
            rw [List.drop_eq_getElem_cons hlen1, (List.getElem?_eq_some_iff.mp q1).2]
          rw [ed1] at hp1
          obtain ⟨Γ3, b1, hG3, ht3, hc1, hc0⟩ := hp1
          refine .inr ⟨go1, fun H' => ∃ z6 bccD, H' = z6.H ∧ Adv D z5 z6 ∧ Acc F D (accD ++ bccD) z6 ∧ (∃ r1, o1 = bccD ++ r1 ∧ LcP F g1 tt1 te (wipeS Γ1 vs1) (items1.drop (j + 1)) r1), ?_, ?_⟩
          · rintro H' ⟨z7, ccD, w1, w2, w3, w4⟩
            exact ⟨items1.length - (j + 1), by omega, z7, ccD, w1, w2, w3, w4, rfl⟩
          intro x1 H' hx1
          obtain ⟨z7, rfl, a7, hz7, dx1⟩ := yl1 x1 H' hx1
          have hGG := hg1 x1 (wipe σ4 vs1) z7.H
          rw [wipe_wipe] at hGG
          refine hGG _ ?_
          have oD5 : z5.own D = none := hA5.2.2.2.1
          have s6 : SOk F z6 σ4 Γ1 := hs5.adv ad6 oD5
          refine hG3 z7 (wipe σ4 vs1) x1 _ hz7 (wipeS_ok (s6.add a7) vs1) dx1 fun σ8 hs8 => ?_
          refine ht3 z7 σ8 _ hz7 hs8 fun z8 a8 hz8 => ?_
          obtain ⟨acc6, hD6⟩ : ∃ acc, z6.H D = some (.lst acc) := let ⟨_, _, _, _, acc, w, _⟩ := hA6; ⟨acc, w⟩
          cases b1 with
          | false =>
            rw [if_neg Bool.false_ne_true]
            exact ⟨z8, bccD, rfl, ad6.trans (Adv.of (a7.trans a8) hD6), hA6.add (a7.trans a8) hz8, r1, e1, hc0 rfl⟩
          | true =>
            rw [if_pos rfl]
            obtain ⟨y, r2, e3, he, hr⟩ := hc1 rfl
            refine he z8 σ8 _ hz8 (hs8.add a8) fun u z9 a9 hz9 hu _ => ?_
            have a69 := a7.trans (a8.trans a9)
            have hA9 := hA6.add a69 hz9
            obtain ⟨_, _, _, _, acc, hD9, hd9⟩ := id hA9
            obtain ⟨hP, hQ⟩ := hA9.push hD9 hu
            have hle : acc.length = (accD ++ bccD).length := hd9.len
            refine ⟨acc, hD9, ?_, ⟨z9.S, upd z9.H D (.lst (acc ++ [u])), z9.own⟩, bccD ++ [y], rfl, (ad6.trans (Adv.of a69 hD6)).trans hQ, by rw [← List.append_assoc]; exact hP, r2, by rw [e1, e3, List.append_assoc]; rfl, hr⟩
            rw [hle, List.length_append]
            rw [er, e2, e1, e3] at hl
            simp only [List.length_append, List.length_cons] at hl
            omega
theorem lcp2_map {α β : Type} {enc : α → PyData} {enc1 : β → PyData} {f : α → List β} {vs1 : List Nat} {o : β → PyData} {p : β → Bool} {Γw : List Sl} : ∀ {xs : List α}, (∀ x ∈ xs, ∃ Γ1, GTo F g (enc x) Γw Γ1 ∧ EvI F wi1 Γ1 ((f x).map enc1) ∧ ∀ y ∈ f x, ∃ Γ2, GTo F g1 (enc1 y) (wipeS Γ1 vs1) Γ2 ∧ EvT F tt1 Γ2 (p y) ∧ (p y = true → EvS F te Γ2 (.d (o y)))) → LcP2 F g tYes wi1 g1 tt1 te vs1 Γw (xs.map enc) (((xs.flatMap f).filter p).map o)
  | [], _ => rfl
  | x :: xs, h => by
    obtain ⟨Γ1, h1, h2, h3⟩ := h x (by simp)
    have ih := lcp2_map (xs := xs) fun y hy => h y (by simp [hy])
    refine ⟨Γ1, true, h1, evt_yes, fun _ => ⟨(f x).map enc1, ((f x).filter p).map o, _, ?_, h2, lcp_map h3, ih⟩, fun q => nomatch q⟩
    rw [List.flatMap_cons, List.filter_append, List.map_append]
/-! ### ranges by steps -/
def rangeC (lo c : Int) (n : Nat) : List PyData := (List.range n).map fun k : Nat => PyData.int (lo + (k : Int) * c)
theorem yields_rangeC {S : Hp} {lo c : Int} {n : Nat} : Yields F (Itc lo c n) S (rangeC lo c n) := fun z e hz i => by
  refine ⟨fun d hd => ?_, fun hl => (by simpa [rangeC] using hl : n ≤ i)⟩
  have hi : i < n := by have := (List.getElem?_eq_some_iff.mp hd).1; simpa [rangeC] using this
  refine ⟨hi, fun x H' ⟨eH, y⟩ => ⟨z, eH.symm, Add.refl z, hz, ?_⟩⟩
  have : d = .int (lo + (i : Int) * c) := by
    simp [rangeC, hi] at hd
    exact hd.symm
  subst this y
  exact .int _
theorem evi_down {i j : Int} (h : EvA F tA Γ [.d (.int i), .d (.int j), .d (.int (-1))]) (h1 : -(2 ^ 62) ≤ i ∧ i < 2 ^ 62 ∧ -(2 ^ 62) ≤ j ∧ j < 2 ^ 62) : EvI F (iRng3 tA) Γ (rangeC i (-1) (i - j).toNat) := fun z σ R hz hs c =>
  h z σ _ hz hs fun vs z' a hz' ha => by
    cases ha with
    | cons hv t => cases t with
      | cons hw t => cases t with
        | cons hu t =>
          cases t
          exact ⟨i, j, -1, (i - j).toNat, by rw [hv.d_int, hw.d_int, hu.d_int], RgC.neg h1.1 h1.2.1 h1.2.2.1 h1.2.2.2, c _ _ a hz' yields_rangeC⟩
theorem forW_down {tb : TS} {lo : Int} {n : Nat} (I : Nat → List Sl → Prop) (h0 : I 0 Γ)
    (hs : ∀ i Γ', i < n → I i Γ' → WpG F g (.d (.int (lo - (i : Int)))) Γ' fun Γ1 => Wp F tb Γ1 (I (i + 1)) rt nx (I (i + 1))) (hd : ∀ Γ', I n Γ' → nx Γ') :
    ForW F g tb nx rt (rangeC lo (-1) n) Γ :=
  forW_inv I h0 (fun i d Γ' hd h => by
    have hi : i < n := by have := (List.getElem?_eq_some_iff.mp hd).1; simpa [rangeC] using this
    have : d = .int (lo - (i : Int)) := by
      simp [rangeC, hi] at hd
      rw [← hd]; congr 1
    subst this
    exact hs i Γ' hi h) (fun Γ' h => hd Γ' (by simpa [rangeC] using h))
/-! ### pop -/
theorem dt_erase {S : Hp} {K : PySem.W.Frag} : ∀ {xs : List V} {ds : List PyData} (_ : DtAll K S xs ds) (k : Nat), DtAll K S (xs.eraseIdx k) (ds.eraseIdx k)
  | _, _, .nil, _ => .nil
  | _, _, .cons _ t, 0 => t
  | _, _, .cons h t, k + 1 => .cons h (dt_erase t k)
/-- xs.pop(e), xs a list of our own; e may change other slots -/
theorem wpe_popAt {k : Sl → List Sl → Prop} (hi : Γ[i]? = some (.lst ds)) (h : WpE F te Γ fun s Γ' => ∃ (j : Nat) (y : PyData), s = .d (.int (j : Int)) ∧ Γ'[i]? = some (.lst ds) ∧ ds[j]? = some y ∧ ds.length ≤ 100000 ∧ k (.d y) (Γ'.set i (.lst (ds.eraseIdx j)))) : WpE F (tBM F.K "list" rPopAt (tVar i) (tCons te tNil)) Γ k := fun z σ Q hF hz hs q => by
  obtain ⟨v, h1, p, xs, rfl, q1, q2, q3, q4, q5⟩ := (hs.at_ i _ hi).resolve_left (fun e => nomatch e)
  refine ⟨_, h1, .inl ⟨rfl, xs, SqL.of q1⟩, h z σ _ hF hz hs fun u s Γ' z1 ⟨j, y, es, hi', hy, hl, hk⟩ e1 hz1 hs1 hu _ => ?_⟩
  subst es
  obtain ⟨v', h1', p', xs', rfl, r1, r2, r3, r4, r5⟩ := (hs1.at_ i _ hi').resolve_left (fun e => nomatch e)
  rw [h1] at h1'
  cases h1'
  have hj := (List.getElem?_eq_some_iff.mp hy).1
  have hlen := r5.len
  obtain ⟨w, hw, dw⟩ := r5.get hy
  obtain ⟨hz3, hs3, x3⟩ := mut_at hz1 hs1 hi' h1 r1 r2 r3 r4 z1 (Add.refl z1) hz1 (.lst (xs'.eraseIdx j)) (s1 := .lst (ds.eraseIdx j)) fun z' e1 e2 e3 e4 => ⟨p, _, rfl, e1, e2, e3, r4, by rw [e4]; exact dt_erase r5 j⟩
  refine ⟨p, xs', j, j, w, rfl, by rw [hu.d_int], r1, by omega, by omega, ?_, hw, ?_⟩
  · unfold seqIndex?
    have c1 : ¬ ((j : Int) < 0) := by omega
    rw [if_neg c1]
    have c2 : (0 ≤ (j : Int) && (j : Int) < (xs'.length : Int)) = true := by simp; omega
    show (if (0 ≤ (j : Int) && (j : Int) < (xs'.length : Int)) = true then some ((j : Int)).toNat else none) = some j
    rw [if_pos c2, Int.toNat_natCast]
  · exact q w (.d y) _ ⟨z1.S, upd z1.H p (.lst (xs'.eraseIdx j)), z1.own⟩ hk (e1.trans x3) hz3 hs3 (show Dt _ _ _ _ from dw) trivial
end
end GL
/-! GLj: the same rules within a block's own frame, told of the def's K; list(range) -/
namespace GL
open PySem PySem.Spec PyProof.Rows L2
theorem opK {X : Cx} {f : Value → Value → Sem Value} (r : PySem.W.Frag → R2) (K : PySem.W.Frag) (h : OpR X f (r X.K)) (e : X.K = K := by rfl) : OpR X f (r K) := by subst e; exact h
theorem ixK {X : Cx} (r : PySem.W.Frag → R2) (K : PySem.W.Frag) (h : IxR X (r X.K)) (e : X.K = K := by rfl) : IxR X (r K) := by subst e; exact h
theorem slK {X : Cx} (r : PySem.W.Frag → V → Option Int → Option Int → Hp → VK → Prop) (K : PySem.W.Frag) (h : SlR X (r X.K)) (e : X.K = K := by rfl) : SlR X (r K) := by subst e; exact h
theorem crK {X : Cx} {v : Value} (r : PySem.W.Frag → List V → Hp → VK → Prop) (K : PySem.W.Frag) (h : CallR X v (r X.K)) (e : X.K = K := by rfl) : CallR X v (r K) := by subst e; exact h
theorem piSeqK {X : Cx} {tg e : Expr} {te : TE} (K : PySem.W.Frag) (h : PI X tg e (iSeq X.K te)) (q : X.K = K := by rfl) : PI X tg e (iSeq K te) := by subst q; exact h
theorem piEnumK {X : Cx} {tg e : Expr} {ta : TA} (K : PySem.W.Frag) (h : PI X tg e (iEnumG X.K ta)) (q : X.K = K := by rfl) : PI X tg e (iEnumG K ta) := by subst q; exact h
theorem pgTupK {X : Cx} {e : Expr} {n : Nat} {gs : TGs} (K : PySem.W.Frag) (h : PG X e (gTup X.K n gs)) (q : X.K = K := by rfl) : PG X e (gTup K n gs) := by subst q; exact h
theorem un_negI {F : Fx} {i : Int} : UnS F (rU fun i => .int (-i)) (.d (.int i)) (.d (.int (-i))) := fun z v Q hz hv c => ⟨i, hv.d_int, c _ z (Add.refl z) hz (.int _) trivial⟩
/-- return what is our own -/
theorem wp_retO {F : Fx} {Γ : List Sl} {i : Nat} {s : Sl} {nx bk ct : List Sl → Prop} {rt : Sl → List Sl → Prop} (hi : Γ[i]? = some s) (ho : s.isOwn = true) (q : rt s (Γ.set i .un)) : Wp F (tRet (tVar i)) Γ nx rt bk ct := fun z σ D hF hz hs r => by
  obtain ⟨v, h1, hv⟩ := (hs.at_ i _ hi).resolve_left (fun e => by subst e; cases ho)
  obtain ⟨p, rfl, q2, mk⟩ : ∃ p, v = .ref p ∧ z.own p = some i ∧ VOk F ⟨z.S, z.H, fun a => if a = p then none else z.own a⟩ none v s := by
    cases s with
    | lst ds => obtain ⟨p, xs, rfl, q1, q2, q3, q4, q5⟩ := hv; exact ⟨p, rfl, q2, p, xs, rfl, q1, if_pos rfl, q3, q4, q5⟩
    | dK ds => obtain ⟨p, xs, rfl, q1, q2, q3, q4, q5⟩ := hv; exact ⟨p, rfl, q2, p, xs, rfl, q1, if_pos rfl, q3, q4, q5⟩
    | dT ds => obtain ⟨p, xs, rfl, q1, q2, q3, q4, q5⟩ := hv; exact ⟨p, rfl, q2, p, xs, rfl, q1, if_pos rfl, q3, q4, q5⟩
    | _ => cases ho
  refine ⟨_, h1, r.rt _ s _ σ ⟨z.S, z.H, fun a => if a = p then none else z.own a⟩ q (Ex.refl _) ⟨hz.sub, hz.base, hz.s0, fun a j e => ?_, hz.fresh⟩ ⟨by rw [List.length_set]; exact hs.len, fun j s' e => ?_⟩ mk⟩
  · have ne : a ≠ p := fun w => by subst w; exact nomatch ((if_pos rfl).symm.trans (show (if a = a then none else z.own a) = some j from e))
    exact hz.own a j ((if_neg ne).symm.trans e)
  · have hl : i < Γ.length := (List.getElem?_eq_some_iff.mp hi).1
    by_cases hj : j = i
    · subst hj; rw [List.getElem?_set_self hl] at e; exact .inl (Option.some.inj e).symm
    · rw [List.getElem?_set_ne (Ne.symm hj)] at e
      have ow : ∀ {a : Addr}, z.own a = some j → a ≠ p := fun {a} w q => by subst q; rw [q2] at w; exact hj (Option.some.inj w).symm
      refine (hs.at_ j s' e).elim .inl fun ⟨w, w1, h2⟩ => .inr ⟨w, w1, ?_⟩
      cases s' with
      | lst ds => obtain ⟨a, xs, e, g1, g2, g3⟩ := h2; exact ⟨a, xs, e, g1, (if_neg (ow g2)).trans g2, g3⟩
      | bor ds => exact nomatch h2.1
      | bK ds => exact nomatch h2.1
      | bT ds => exact nomatch h2.1
      | src a ds => obtain ⟨xs, e, g1, g2, g3⟩ := h2; exact ⟨xs, e, g1, (if_neg (ow g2)).trans g2, g3⟩
      | dK ds => obtain ⟨a, xs, e, g1, g2, g3⟩ := h2; exact ⟨a, xs, e, g1, (if_neg (ow g2)).trans g2, g3⟩
      | dT ds => obtain ⟨a, xs, e, g1, g2, g3⟩ := h2; exact ⟨a, xs, e, g1, (if_neg (ow g2)).trans g2, g3⟩
      | _ => exact h2
/-! ### slices with a drawn end, walks over them; list(range) -/
section
variable {F : Fx} {Γ : List Sl} {te ta tb th : TE} {x : Sl} {ds : List PyData} {k : Sl → List Sl → Prop}
theorem wpe_slD (hx : EvS F te Γ x) (e : x.asL = some ds) (hw : x.way = true) (h : WpE F th Γ fun s Γ' => ∃ j : Int, s = .d (.int j) ∧ k (.d (.list (cutD ds none (some j)))) Γ') : WpE F (tSl (rSlG F.K) te tNoPart (tPart th)) Γ k := fun z σ Q hF hz hs q =>
  hx z σ _ hz hs fun v z1 a1 hz1 hv _ => h z1 σ _ hF hz1 (hs.add a1) fun u s Γ' z2 ⟨j, es, hk⟩ a2 hz2 hs2 hu _ => by
    subst es
    obtain ⟨a, xs, rfl, g1, g2⟩ := (hv.ext a2 hw).asL hz2 e
    exact ⟨j, hu.d_int, .inr ⟨a, xs, rfl, SqL.of g1, fun p hp => q _ _ Γ' (z2.sh p _) hk (a1.ext.trans (a2.trans (Add.sh hz2 hp).ext)) (hz2.sh hp) (hs2.add (Add.sh hz2 hp)) (VOk.sh_lst hz2 hp (g2.cut none (some j))) trivial⟩⟩
theorem wpi_seqL {kI : List PyData → List Sl → Prop} (h : WpE F te Γ fun s Γ' => ∃ ds, s = .d (.list ds) ∧ kI ds Γ') : WpI F (iSeq F.K te) Γ kI := fun z σ R hF hz hs c =>
  h z σ _ hF hz hs fun v s Γ' z' ⟨ds, e, hk⟩ a hz' hs' hv _ => by
    subst e
    cases hv with
    | lst h1 h2 => exact .inl ⟨_, rfl, ⟨_, SqL.of (hz'.sub _ _ h1)⟩, c _ _ _ _ hk a hz' hs' (yields_list h1 h2)⟩
theorem dt_rg {S : Hp} {a b : Int} : DtAll F.K S (rgV a b) (rangeD a (b - a).toNat) := by
  unfold rgV rangeD
  induction (List.range (b - a).toNat) with
  | nil => exact .nil
  | cons i is ih => exact .cons (.int _) ih
theorem evs_rg1 {n : Int} (h : EvS F te Γ (.d (.int n))) (h0 : 0 ≤ n) (h1 : n ≤ 16777216) : EvS F (tLstRg (tRg1 te)) Γ (.lst (rangeD 0 n.toNat)) := fun z σ Q hz hs c =>
  h z σ _ hz hs fun v z1 a1 hz1 hv _ => ⟨n, hv.d_int, RgOk.of_le (Int.le_refl _) h1 (by decide) h0, fun p hp => by
    have d := dt_rg (F := F) (S := z1.S) (a := 0) (b := n)
    rw [Int.sub_zero] at d
    exact c _ (z1.tmp p _) (a1.trans (Add.tmp hp)) (hz1.tmp hp) (VOk.tmp_lst hz1 hp d) ⟨p, rfl, a1.dom p hp⟩⟩
theorem evs_rg2 {m n : Int} (h : EvS F ta Γ (.d (.int m))) (h' : EvS F tb Γ (.d (.int n))) (h0 : 0 ≤ m ∧ m ≤ 16777216) (h1 : 0 ≤ n ∧ n ≤ 16777216) : EvS F (tLstRg (tRg2 ta tb)) Γ (.lst (rangeD m (n - m).toNat)) := fun z σ Q hz hs c =>
  h z σ _ hz hs fun v z1 a1 hz1 hv _ => h' z1 σ _ hz1 (hs.add a1) fun u z2 a2 hz2 hu _ => ⟨m, n, hv.d_int, hu.d_int, RgOk.of_le h0.1 h1.2 h0.2 h1.1, fun p hp =>
    c _ (z2.tmp p _) ((a1.trans a2).trans (Add.tmp hp)) (hz2.tmp hp) (VOk.tmp_lst hz2 hp dt_rg) ⟨p, rfl, (a1.trans a2).dom p hp⟩⟩
end
/-- the ints a .. b - 1 -/
def rangeI (a b : Int) : List Int := (List.range (b - a).toNat).map fun i : Nat => a + (i : Int)
theorem rangeI_mem {a b x : Int} : x ∈ rangeI a b ↔ a ≤ x ∧ x < b := by
  unfold rangeI
  rw [List.mem_map]
  constructor
  · rintro ⟨i, hi, rfl⟩
    rw [List.mem_range] at hi
    omega
  · intro h
    exact ⟨(x - a).toNat, List.mem_range.mpr (by omega), by omega⟩
theorem rangeI_len (a b : Int) : (rangeI a b).length = (b - a).toNat := by unfold rangeI; rw [List.length_map, List.length_range]
theorem rangeI_map (a b : Int) : rangeD a (b - a).toNat = (rangeI a b).map PyData.int := by unfold rangeI rangeD; rw [List.map_map]; rfl
theorem evs_rgI {F : Fx} {Γ : List Sl} {ta tb : TE} {m n : Int} (h : EvS F ta Γ (.d (.int m))) (h' : EvS F tb Γ (.d (.int n))) (h0 : -100000 ≤ m ∧ m ≤ 100000) (h1 : -100000 ≤ n ∧ n ≤ 100000) : EvS F (tLstRg (tRg2 ta tb)) Γ (.lst ((rangeI m n).map PyData.int)) := fun z σ Q hz hs c =>
  h z σ _ hz hs fun v z1 a1 hz1 hv _ => h' z1 σ _ hz1 (hs.add a1) fun u z2 a2 hz2 hu _ => ⟨m, n, hv.d_int, hu.d_int, ⟨by omega, by omega, by omega, by omega, by omega⟩, fun p hp => by
    rw [← rangeI_map] at c
    exact c _ (z2.tmp p _) ((a1.trans a2).trans (Add.tmp hp)) (hz2.tmp hp) (VOk.tmp_lst hz2 hp dt_rg) ⟨p, rfl, (a1.trans a2).dom p hp⟩⟩
theorem notin_strG {F : Fx} {a b : Str} : OpS F (rNotInG F.K) (.d (.str a)) (.d (.str b)) (.d (.bool (!(!(Builtin.Str.occurrences b a 0 b.length 1).isEmpty)))) := ops_val fun z v w Q hz hv hw c => .inr ⟨a, b, hv.d_str, hw.d_str, c _ (.bl _)⟩
/-- a call that changes a slot's list, behind its arguments -/
theorem callS_core {F : Fx} {z1 : Z} {Γ : List Sl} {σ : L2.St} {k : Sl → List Sl → Prop} {c : ConS} {E : XK} {i : Nat} {s0 : Sl} {p : Addr} {vs : List V} {Q : VK} (b : c.α) (hz1 : ZOk F z1) (hs : SOk F z1 σ Γ) (hi : Γ[i]? = some s0) (ho : s0.ownL = some (c.src b)) (hσ : σ[i]? = some (some (.ref p))) (hv : VAll F z1 vs (c.args b)) (hp : (c.args b).all Sl.pass = true) (hpre : c.pre b) (hk : ∀ r ds', c.post b r ds' → k r (Γ.set i (s0.withL ds')))
    (q : ∀ v s Γ' z', k s Γ' → Ext z1 z' → ZOk F z' → SOk F z' σ Γ' → VOk F z' none v s → New z1 v s → Q v z'.H) : spS F.K c (V.ref p :: vs) z1.H Q E := by
  obtain ⟨p', xs, h1, q1, q2, q3, q4, q5, mu⟩ := mut_own hz1 hs hi ho
  rw [hσ] at h1
  cases h1
  have p1 : z1.H p = some (.lst xs) ∧ True := ⟨q1, trivial⟩
  refine ⟨z1.S, p, xs, vs, b, rfl, q1, q2, q5, hz1.sub, hv.pass hp, hpre, fun v r ds' xs' S' H' hr e1 e2 e3 e4 e5 e6 hn => ?_⟩
  -- the callee's other doings, then the change
  let z2 : Z := ⟨S', upd H' p (.lst xs), z1.own⟩
  have sp : S' p = none := (e4 p _ p1.1).trans q2
  have ex12 : Ex z1.H z2.H := fun a o e => by
    by_cases hq : a = p
    · subst hq; rw [p1.1] at e; cases e; exact upd_same
    · exact (upd_ne hq).trans (e3 a o hq e)
  obtain ⟨hz2, a2⟩ := call_after (S' := S') (H' := upd H' p (.lst xs)) hz1 e1 (fun a o e => (upd_ne (fun hq => by subst hq; rw [e] at sp; cases sp)).trans (e2 a o e)) ex12 e4
  obtain ⟨hz3, hs3, x3⟩ := mu z2 a2 hz2 xs' ds' e6
  have eH : upd z2.H p (.lst xs') = H' := by
    show upd (upd H' p (.lst xs)) p (.lst xs') = H'
    rw [upd_upd]
    funext b
    by_cases hb : b = p
    · subst hb; rw [upd_same]; exact e5.symm
    · exact upd_ne hb
  have hn' : VN F.K S' z1.H z2.H v r := by
    have na : ∀ {a : Addr}, z1.H a = none → a ≠ p := fun {a} e hq => by subst hq; rw [p1.1] at e; cases e
    cases r with
    | un => exact hn.elim
    | d x => exact hn
    | raw w => exact hn
    | lst ds => obtain ⟨a, xs, e, h1, h2, h3, h4⟩ := hn; exact ⟨a, xs, e, h1, (upd_ne (na h1)).trans h2, h3, h4⟩
    | bor ds => exact hn.elim
    | bK ds => exact hn.elim
    | bT ds => exact hn.elim
    | src a ds => exact hn.elim
    | dK ds => obtain ⟨a, xs, e, h1, h2, h3, h4⟩ := hn; exact ⟨a, xs, e, h1, (upd_ne (na h1)).trans h2, h3, h4⟩
    | dT ds => obtain ⟨a, xs, e, h1, h2, h3, h4⟩ := hn; exact ⟨a, xs, e, h1, (upd_ne (na h1)).trans h2, h3, h4⟩
    | sK ds => exact hn
    | sT ds => exact hn
    | sq ds => exact hn
  obtain ⟨hv2, hn2⟩ := vn_vok hz1 hn'
  have key := q v r _ ⟨z2.S, upd z2.H p (.lst xs'), z2.own⟩ (hk r ds' hr) x3 hz3 hs3
  rw [show (Z.H ⟨z2.S, upd z2.H p (.lst xs'), z2.own⟩) = H' from eH] at key
  refine key ?_ hn2
  have na : ∀ {a : Addr} {o : Option Nat}, z1.own a = none → a ≠ p := fun {a o} e hq => by subst hq; rw [q3] at e; cases e
  cases r with
  | un => exact hv2
  | d x => exact hv2
  | raw w => exact hv2
  | lst ds => obtain ⟨a, xs, e, g1, g2, g3, g4, g5⟩ := hv2; exact ⟨a, xs, e, (upd_ne (na (o := none) g2)).trans g1, g2, g3, g4, g5⟩
  | bor ds => exact hn.elim
  | bK ds => exact hn.elim
  | bT ds => exact hn.elim
  | src a ds => exact hn.elim
  | dK ds => obtain ⟨a, xs, e, g1, g2, g3, g4, g5⟩ := hv2; exact ⟨a, xs, e, (upd_ne (na (o := none) g2)).trans g1, g2, g3, g4, g5⟩
  | dT ds => obtain ⟨a, xs, e, g1, g2, g3, g4, g5⟩ := hv2; exact ⟨a, xs, e, (upd_ne (na (o := none) g2)).trans g1, g2, g3, g4, g5⟩
  | sK ds => exact hv2
  | sT ds => exact hv2
  | sq ds => exact hv2
theorem wpe_callSW {F : Fx} {Γ : List Sl} {tA : TA} {k : Sl → List Sl → Prop} {c : ConS} {E : XK} {i : Nat} (hi : ∃ s0, Γ[i]? = some s0 ∧ s0.ownL.isSome = true) (h : WpA F tA Γ fun ss Γ' => ∃ b s0, ss = c.args b ∧ Γ'[i]? = some s0 ∧ s0.ownL = some (c.src b) ∧ (c.args b).all Sl.pass = true ∧ c.pre b ∧ ∀ r ds', c.post b r ds' → k r (Γ'.set i (s0.withL ds'))) : WpE F (tCall (spS F.K c) [] E (tCons (tVar i) tA)) Γ k := fun z σ Q hF hz hs q => by
  obtain ⟨s0, hi0, ho0⟩ := hi
  cases hd : s0.ownL with
  | none => rw [hd] at ho0; cases ho0
  | some ds =>
    obtain ⟨p, xs, h1, _⟩ := mut_own hz hs hi0 hd
    refine ⟨_, h1, h z σ _ hF hz hs fun vs ss Γ' z1 ⟨b, s1, es, hi1, ho1, hp, hpre, hk⟩ e1 hz1 hs1 hv => ?_⟩
    subst es
    show spS F.K c ((V.ref p :: vs) ++ []) z1.H Q E
    rw [List.append_nil]
    exact callS_core b hz1 hs1 hi1 ho1 h1 hv hp hpre hk fun v s Γ2 z2 hks e2 hz2 hs2 hv2 hn => q v s Γ2 z2 hks (e1.trans e2) hz2 hs2 hv2 (hn.back e1.dom)
end GL
/-! GLk: a dict written with one pair whose key is a tuple -/
namespace GL
open PySem PySem.Spec PyProof.Rows L2
section
variable {prog : Program} {w : World} {K : Type} [DecidableEq K] {knd : HeapKind prog w K} {A : Around} {E : Value → Shared → Prop} {s : Shared}
theorem dict_pairsH {env : Env} {keys : List (Option Expr)} {values : List Expr} {pos : Pos} {pairs : List (Sem Value × Sem Value)} {Q : Value → Shared → Prop} (hu : knd.room A)
    (hshape : (evalEachOpt keys env).zip ((evalEach values env).map fun v => do let x ← v; standAt pos; pure x) = pairs.map fun p => (some p.1, p.2)) (h0 : pairs ≠ []) (hlen : pairs.length ≤ 15)
    (h : wpAny (model prog w) A (evalPairs pairs) (fun vs s₁ => ∃ ps, CarriesH knd s₁.heap vs ps ∧ s₁.heap.DictOfH knd s.heap.objs.size [] ∧
      ∀ h' tk, h'.DictOfH knd s.heap.objs.size (storedAllH [] ps) → Heap.SameBut s.heap.objs.size s₁.heap h' → Q (.ref s.heap.objs.size) { s₁ with heap := h', toks := tk }) E
      { s with heap := s.heap.push { cls := .type "dict", data := .dict #[] } }) :
    wpAny (model prog w) A (eval (.Dict keys values pos) env) Q E s := by
  rw [arm_eval_Dict, hshape, dictDisplay_pairs pairs h0 (by omega)]
  exact wpAny_bind (wpAny_standAt (wpAny_bind (wpAny_subDictH (knd := knd) (Q := fun d s' => wpAny (model prog w) A (pure (Value.ref d)) Q E s') hu hlen
    (wpAny_mono h (fun vs s₁ h₁ => by obtain ⟨ps, hc, hm, hq⟩ := h₁; exact ⟨ps, hc, hm, fun h' tk a b => wpAny_pure (hq h' tk a b)⟩) fun _ _ e => e))))
end
/-- {k: v}, k a tuple -/
def tDisp1T (tk tv : TE) : TE := fun σ H Q => ∀ p, H p = none → tk σ (upd H p (.dT [])) fun x H1 => tv σ H1 fun y H2 => H2 p = some (.dT []) ∧ ∃ (b : Addr) (ks : List Key), x = .ref b ∧ H2 b = some (.tup (ks.map kV)) ∧ Q (.ref p) (upd H2 p (.dT [(ks, y)]))
theorem pe_disp1T {X : Cx} {pos : Pos} {k v : Expr} {tk tv : TE} (hu : X.A.units + 1 < cLine) (hk : PE X k tk) (hv : PE X v tv) : PE X (.Dict [some k] [v] pos) (tDisp1T tk tv) := by
  refine ⟨fun pins s σ H Q I q => ?_⟩
  have hn := I.hok.fresh (Nat.le_refl s.heap.objs.size)
  have I1 := I.laid (a := s.heap.objs.size) (o := .dT []) (h' := s.heap.push { cls := .type "dict", data := .dict #[] }) (t' := s.toks) (fun _ _ q => Heap.get?_push_of_some _ q) (Nat.le_refl _) (dt_empty s.heap I.big)
  refine dict_pairsH (knd := tupleKind (mixKind X.prog X.w)) (pairs := pairTrees [some k] [v] X.env pos) (show X.A.units < cLine by omega) (zip_pairTrees [some k] [v] X.env pos rfl rfl) (fun z => by cases z) (show 1 ≤ 15 by decide) ?_
  refine pairTrees_cons_walk (thn (hk.run pins _ σ _ _ I1 (q _ hn)) fun u s1 ⟨x, H1, J1, rx, q1⟩ => thn (hv.run pins s1 σ H1 _ J1 q1) fun w2 s2 ⟨y, H2, J2, ry, e, b, ks, ex, eb, q2⟩ => pairTrees_nil_walk ?_)
  subst ex
  cases (show u = Value.ref b from rx)
  obtain ⟨z, hd, xs, rel, dd⟩ := dt_of J2.hok e
  cases rel
  refine ⟨[(ks, b, w2)], ⟨rfl, rfl, key_of J2.hok eb, True.intro⟩, dd, fun h' tk dd' hs => ⟨.ref s.heap.objs.size, _, ?_, rfl, q2⟩⟩
  obtain ⟨q, es, ep, hq, h2, h3, h4, _, h5⟩ := dd'
  refine d_write J2 (by rw [e]; exact True.intro) hs ⟨q, hq⟩ ⟨by show 1 ≤ sizeLine; decide, hd, [(ks, b, w2)], .cons ⟨rfl, ?_, ry⟩ .nil, q, es, ep, hq, h2, h3, h4, h5⟩
  show upd H2 s.heap.objs.size (.dT [(ks, y)]) b = some (.tup (ks.map kV))
  rw [upd_ne (ne_of eb e (fun z => nomatch z))]
  exact eb
theorem names_lt {is : List Nat} {n : Nat} (h : (is.all fun i => Nat.ble (i + 1) n) = true) : ∀ i ∈ is, i < n := fun i hi => Nat.le_of_ble_eq_true (List.all_eq_true.mp h i hi)
section
variable {F : Fx} {ta tb : TE} {Γ : List Sl} {d : PyData} {ks : List Key}
theorem evs_disp1T (hk : EvS F ta Γ (.d (.tuple (ks.map kD)))) (hv : EvS F tb Γ (.d d)) : EvS F (tDisp1T ta tb) Γ (.dT [(ks, d)]) := fun z σ Q hz hs c p hp =>
  hk (z.tmp p (.dT [])) σ _ (hz.tmp hp) (hs.add (Add.tmp hp)) fun v z1 a1 hz1 hv1 _ => hv z1 σ _ hz1 ((hs.add (Add.tmp hp)).add a1) fun y z2 a2 hz2 hy _ => by
    have a12 := a1.trans a2
    have n := hz.free hp
    have hD := a12.h p (.dT []) upd_same
    obtain ⟨b, xs, rfl, hb⟩ : ∃ b xs, v = .ref b ∧ z1.S b = some (.tup xs) ∧ DtAll F.K z1.S xs (ks.map kD) := by
      cases hv1 with
      | tup h1 h2 => exact ⟨_, _, rfl, h1, h2⟩
    have eks := ks_kV hb.2
    subst eks
    have hb2 : z2.H b = some (.tup (ks.map kV)) := hz2.sub _ _ (a2.s _ _ hb.1)
    refine ⟨hD.1, b, ks, rfl, hb2, ?_⟩
    refine c _ ⟨z2.S, upd z2.H p (.dT [(ks, y)]), z2.own⟩ ⟨a12.s, fun a o e => ?_, a12.own⟩ ⟨fun a o e => ?_, fun a o e => ?_, hz2.s0, fun a i e => ?_, hz2.fresh⟩ ⟨p, [(ks, y)], rfl, upd_same, ?_, hD.2.trans n.1, n.2.1, .cons ⟨rfl, hy⟩ .nil⟩ ⟨p, rfl, hp⟩
    · have ne : a ≠ p := ne_of_none e hp
      have w := a12.h a o ((upd_ne ne).trans e)
      exact ⟨(upd_ne ne).trans w.1, w.2⟩
    · exact (upd_ne (fun q => by subst q; rw [show z2.S a = some o from e] at hD; rw [show (z.tmp a (.dT [])).S a = z.S a from rfl, n.1] at hD; exact nomatch hD.2)).trans (hz2.sub a o e)
    · exact (upd_ne (fun q => by subst q; rw [n.2.1] at e; cases e)).trans (hz2.base a o e)
    · obtain ⟨w1, w2, o, w3⟩ := hz2.own a i e
      refine ⟨w1, w2, o, (upd_ne (fun q => ?_)).trans w3⟩
      subst q
      have : z2.own a = z.own a := by rw [a12.own]; rfl
      rw [show z2.own a = some i from e, n.2.2] at this
      cases this
    · show z2.own p = none
      rw [a12.own]; exact n.2.2
end
end GL
/-! GLl: sorted(list of data), any length -/
namespace GL
open PySem PySem.Spec PyProof.Rows L2
def rSortedD (K : PySem.W.Frag) : List V → Hp → VK → Prop := fun vs H Q => ∃ (a : Addr) (xs : List V) (ds : List PyData), vs = [V.ref a] ∧ SqL K H a xs ∧ DpAll K H xs ds ∧ PySem.W.AllAlike ds ∧ PySem.W.Sortable ds ∧ ds.length ≤ sizeLine ∧ (∀ d ∈ ds, d.depth ≤ 50) ∧
  ∀ p, H p = none → Q (.ref p) (upd H p (.lst (((xs.zip ds).mergeSort (PySem.W.dataLe false Prod.snd)).map Prod.fst)))
theorem dpAll_len {K : PySem.W.Frag} {H : Hp} : ∀ {xs : List V} {ds : List PyData}, DpAll K H xs ds → xs.length = ds.length
  | _, _, .nil => rfl
  | _, _, .cons _ t => congrArg (· + 1) (dpAll_len t)
theorem zip_fst {α β : Type} : ∀ {xs : List α} {ds : List β}, xs.length = ds.length → (xs.zip ds).map Prod.fst = xs
  | [], [], _ => rfl
  | x :: xs, d :: ds, h => by rw [List.zip_cons_cons, List.map_cons, zip_fst (by simpa using h)]
theorem zip_snd {α β : Type} : ∀ {xs : List α} {ds : List β}, xs.length = ds.length → (xs.zip ds).map Prod.snd = ds
  | [], [], _ => rfl
  | x :: xs, d :: ds, h => by rw [List.zip_cons_cons, List.map_cons, zip_snd (by simpa using h)]
theorem each_rel {K : PySem.W.Frag} {H : Hp} : ∀ {xs : List V} {ds : List PyData} {its : List Value}, DpAll K H xs ds → Vals xs its → PySem.W.EachIs (fun (v : Value) (b : V × PyData) => RelV b.1 v) its (xs.zip ds)
  | _, _, _, .nil, .nil => .nil
  | _, _, _, .cons _ t, .cons r rr => .cons r (each_rel t rr)
theorem each_reads {X : Cx} {pins : List (Addr × Obj)} {σ : L2.St} {H : Hp} {s : Shared} (I : Inv X pins σ H s) : ∀ {xs : List V} {ds : List PyData} {its : List Value}, DpAll X.K H xs ds → Vals xs its → PySem.W.EachIs (fun (v : Value) (b : V × PyData) => ∃ as, Reads s.heap v b.2 as) its (xs.zip ds)
  | _, _, _, .nil, .nil => .nil
  | _, _, _, .cons h t, .cons r rr => .cons (Dp.reads I _ _ _ h r) (each_reads I t rr)
theorem rel_vals : ∀ {out : List Value} {bs : List (V × PyData)}, PySem.W.EachIs (fun (v : Value) (b : V × PyData) => RelV b.1 v) out bs → Vals (bs.map Prod.fst) out
  | _, _, .nil => .nil
  | _, _, .cons h t => .cons h (rel_vals t)
theorem cr_sortedD {X : Cx} (hu : X.A.units + 64 < cLine) : CallR X (.builtin "sorted") (rSortedD X.K) := by
  intro pins s σ H vs us Q I r h
  obtain ⟨a, xs, ds, rfl, hs, hd, h1, h2, h3, h4, q⟩ := h
  obtain ⟨its, rv, hl, hz⟩ := I.list hs
  obtain ⟨u, rfl, ru⟩ := vals1 r
  obtain rfl : u = Value.ref a := ru
  have hlen := dpAll_len hd
  have hmap := zip_snd hlen
  have hzl : (xs.zip ds).length = ds.length := by have := congrArg List.length hmap; rwa [List.length_map] at this
  refine PySem.W.sorted_data (β := V × PyData) (bs := xs.zip ds) (enc := Prod.snd) (R := fun v b => RelV b.1 v) hl.isList (each_rel hd rv) (each_reads I hd rv) (by rw [hmap]; exact h1) (by rw [hmap]; exact h2) (by rw [hzl]; exact h3) (fun b hb => ?_) fun out ho hR => ?_
  · have hb2 : b.2 ∈ ds := by rw [← hmap]; exact List.mem_map.mpr ⟨b, hb, rfl⟩
    have := h4 b.2 hb2
    omega
  · obtain ⟨ep, he'⟩ := PyProof.Rows.sortedAll_at s.heap its out.toArray
    refine ⟨.ref _, upd H (s.heap.objs.size + 1) (.lst (((xs.zip ds).mergeSort (PySem.W.dataLe false Prod.snd)).map Prod.fst)), I.laid (t' := s.toks) (fun _ _ => PyProof.Rows.sortedAll_old) (Nat.le_succ _) ⟨?_, out, ep, rel_vals hR, he'⟩, rfl, q _ (I.hok.fresh (Nat.le_succ _))⟩
    rw [List.length_map, List.length_mergeSort, hzl]; exact h3
/-- in the order of data -/
def sortD (ds : List PyData) : List PyData := ds.mergeSort (PySem.W.dataLe false id)
theorem dtAll_zip {K : PySem.W.Frag} {S : Hp} : ∀ {xs : List V} {ds : List PyData}, DtAll K S xs ds → ∀ b ∈ xs.zip ds, Dt K S b.1 b.2
  | _, _, .nil, b, hb => nomatch hb
  | _, _, .cons h t, b, hb => by
    rw [List.zip_cons_cons] at hb
    rcases List.mem_cons.mp hb with rfl | hb
    · exact h
    · exact dtAll_zip t b hb
theorem dtAll_of {K : PySem.W.Frag} {S : Hp} : ∀ {bs : List (V × PyData)}, (∀ b ∈ bs, Dt K S b.1 b.2) → DtAll K S (bs.map Prod.fst) (bs.map Prod.snd)
  | [], _ => .nil
  | b :: bs, h => .cons (h b (.head _)) (dtAll_of fun c hc => h c (.tail _ hc))
theorem sorted_data {F : Fx} {x : Sl} {ds : List PyData} (h : x.asL = some ds) (h1 : PySem.W.AllAlike ds) (h2 : PySem.W.Sortable ds) (h3 : ds.length ≤ sizeLine) (h4 : ∀ d ∈ ds, d.depth ≤ 50) : CallS F (rSortedD F.K) [x] (.lst (sortD ds)) := fun z vs Q hz ha c => by
  obtain ⟨v, rfl, hv⟩ := VAll.one ha
  obtain ⟨a, xs, rfl, g1, g2⟩ := hv.asL hz h
  refine ⟨a, xs, ds, rfl, SqL.of g1, g2.dp hz.sub, h1, h2, h3, h4, fun p hp => ?_⟩
  refine c _ (z.tmp p _) (Add.tmp hp) (hz.tmp hp) (VOk.tmp_lst hz hp ?_) ⟨p, rfl, hp⟩
  have e : ((xs.zip ds).mergeSort (PySem.W.dataLe false Prod.snd)).map Prod.snd = sortD ds := by
    rw [List.map_mergeSort (r := PySem.W.dataLe false (Prod.snd : V × PyData → PyData)) (f := Prod.snd) (s := PySem.W.dataLe false id) (fun a _ b _ => rfl), zip_snd g2.len]; rfl
  rw [← e]
  exact dtAll_of fun b hb => dtAll_zip g2 b (List.mem_mergeSort.mp hb)
/-- told by an order of our own -/
theorem sortD_eq {ds es : List PyData} (hp : es.Perm ds) (hs : es.Pairwise fun a b => PySem.W.dataLt b a = false) (hu : ∀ a ∈ ds, ∀ b ∈ ds, PySem.W.dataLt a b = false → PySem.W.dataLt b a = false → a = b) (ht : ∀ a b c : PyData, PySem.W.dataLt b a = false → PySem.W.dataLt c b = false → PySem.W.dataLt c a = false) (hl : ∀ a b : PyData, PySem.W.dataLt b a = false ∨ PySem.W.dataLt a b = false) : sortD ds = es := by
  have e : PySem.W.dataLe false (id : PyData → PyData) = fun a b => !PySem.W.dataLt b a := by rw [PySem.W.dataLe_eq]; rfl
  have s1 : (sortD ds).Pairwise fun a b => (PySem.W.dataLe false (id : PyData → PyData) a b) = true := by
    unfold sortD
    refine List.pairwise_mergeSort ?_ ?_ ds
    · intro a b c h1 h2
      rw [e] at h1 h2 ⊢
      simp only [Bool.not_eq_true'] at h1 h2 ⊢
      exact ht a b c h1 h2
    · intro a b
      rw [e]
      rcases hl a b with q | q <;> simp [q]
  have p1 : (sortD ds).Perm es := (List.mergeSort_perm ds _).trans hp.symm
  refine List.Perm.eq_of_pairwise (le := fun a b => PySem.W.dataLt b a = false) ?_ ?_ hs p1
  · intro a b ha hb q1 q2
    exact hu a (List.mem_mergeSort.mp ha) b (hp.mem_iff.mp hb) q2 q1
  · rw [e] at s1
    simpa using s1
/-! zip of two tuples, of two lists -/
def zipD (ds es : List PyData) : List PyData := (ds.zip es).map fun p => PyData.tuple [p.1, p.2]
theorem zipD_len {ds es : List PyData} : (zipD ds es).length = min ds.length es.length := by simp [zipD]
theorem zipD_get {ds es : List PyData} {i : Nat} {d : PyData} (h : (zipD ds es)[i]? = some d) : ∃ x y, ds[i]? = some x ∧ es[i]? = some y ∧ d = .tuple [x, y] := by
  unfold zipD at h
  rw [List.getElem?_map, Option.map_eq_some_iff] at h
  obtain ⟨p, hp, rfl⟩ := h
  rw [List.getElem?_zip_eq_some] at hp
  exact ⟨p.1, p.2, hp.1, hp.2, rfl⟩
section
variable {F : Fx} {ta : TA} {Γ : List Sl} {ds es : List PyData}
theorem yields_zipT {z : Z} {a b : Addr} {xs ys : List V} (h : z.S a = some (.tup xs)) (q : DtAll F.K z.S xs ds) (h' : z.S b = some (.tup ys)) (q' : DtAll F.K z.S ys es) : Yields F (RZ.ItzT F.K a b) z.S (zipD ds es) := fun z2 e hz2 i => by
  have h2 : SqT F.K z2.H a xs := SqT.of (hz2.sub _ _ (e _ _ h))
  have h3 : SqT F.K z2.H b ys := SqT.of (hz2.sub _ _ (e _ _ h'))
  refine ⟨fun d hd => ?_, fun hl => ⟨xs, ys, h2, h3, by rw [zipD_len] at hl; rw [q.len, q'.len]; omega⟩⟩
  obtain ⟨x0, y0, hx0, hy0, rfl⟩ := zipD_get hd
  obtain ⟨v, hv, dv⟩ := q.get hx0
  obtain ⟨u, hu, du⟩ := q'.get hy0
  refine ⟨⟨xs, ys, v, u, h2, h3, hv, hu⟩, fun x H' ⟨T, x1, y1, ex, nT, eH, y, y'⟩ => ⟨z2.sh T (.tup [x1, y1]), eH.symm, Add.sh hz2 nT, hz2.sh nT, ?_⟩⟩
  have e1 := (y xs h2).symm.trans hv
  have e2 := (y' ys h3).symm.trans hu
  cases e1
  cases e2
  subst ex
  exact VOk.sh_tup hz2 nT (.cons (dv.mono e) (.cons (du.mono e) .nil))
theorem yields_zipL {z : Z} {a b : Addr} {xs ys : List V} (h : z.S a = some (.lst xs)) (q : DtAll F.K z.S xs ds) (h' : z.S b = some (.lst ys)) (q' : DtAll F.K z.S ys es) : Yields F (Itz F.K a b) z.S (zipD ds es) := fun z2 e hz2 i => by
  have h2 : SqL F.K z2.H a xs := SqL.of (hz2.sub _ _ (e _ _ h))
  have h3 : SqL F.K z2.H b ys := SqL.of (hz2.sub _ _ (e _ _ h'))
  refine ⟨fun d hd => ?_, fun hl => ⟨xs, ys, h2, h3, by rw [zipD_len] at hl; rw [q.len, q'.len]; omega⟩⟩
  obtain ⟨x0, y0, hx0, hy0, rfl⟩ := zipD_get hd
  obtain ⟨v, hv, dv⟩ := q.get hx0
  obtain ⟨u, hu, du⟩ := q'.get hy0
  refine ⟨⟨xs, ys, v, u, h2, h3, hv, hu⟩, fun x H' ⟨T, x1, y1, ex, nT, eH, y, y'⟩ => ⟨z2.sh T (.tup [x1, y1]), eH.symm, Add.sh hz2 nT, hz2.sh nT, ?_⟩⟩
  have e1 := (y xs h2).symm.trans hv
  have e2 := (y' ys h3).symm.trans hu
  cases e1
  cases e2
  subst ex
  exact VOk.sh_tup hz2 nT (.cons (dv.mono e) (.cons (du.mono e) .nil))
theorem VAll.two' {z : Z} {vs : List V} {x y : Sl} (h : VAll F z vs [x, y]) : ∃ v w, vs = [v, w] ∧ VOk F z none v x ∧ VOk F z none w y := VAll.two h
theorem evi_zipT (h : EvA F ta Γ [.d (.tuple ds), .d (.tuple es)]) : EvI F (RZ.iZipA F.K ta) Γ (zipD ds es) := fun z σ R hz hs c =>
  h z σ _ hz hs fun vs z' a hz' hv => by
    obtain ⟨v, w, rfl, h1, h2⟩ := VAll.two hv
    cases h1 with
    | tup g1 g2 => cases h2 with
      | tup g3 g4 => exact ⟨_, _, _, _, rfl, .inr ⟨SqT.of (hz'.sub _ _ g1), SqT.of (hz'.sub _ _ g3), c _ _ a hz' (yields_zipT g1 g2 g3 g4)⟩⟩
theorem evi_zipL (h : EvA F ta Γ [.d (.list ds), .d (.list es)]) : EvI F (RZ.iZipA F.K ta) Γ (zipD ds es) := fun z σ R hz hs c =>
  h z σ _ hz hs fun vs z' a hz' hv => by
    obtain ⟨v, w, rfl, h1, h2⟩ := VAll.two hv
    cases h1 with
    | lst g1 g2 => cases h2 with
      | lst g3 g4 => exact ⟨_, _, _, _, rfl, .inl ⟨SqL.of (hz'.sub _ _ g1), SqL.of (hz'.sub _ _ g3), c _ _ a hz' (yields_zipL g1 g2 g3 g4)⟩⟩
/-! xs.count(k) -/
theorem evs_lcount {te tb : TE} {x : Sl} {ns : List Int} {k : Int} (h : EvS F te Γ x) (hx : x.asL = some (ns.map PyData.int)) (h2 : EvS F tb Γ (.d (.int k))) : EvS F (tBM F.K "list" (rCntI F.K) te (tCons tb tNil)) Γ (.d (.int (ns.count k : Nat))) := fun z σ Q hz hs c =>
  h z σ _ hz hs fun v z1 a1 hz1 hv _ => by
    obtain ⟨a, xs, rfl, g1, g2⟩ := hv.asL hz1 hx
    refine ⟨.inl ⟨rfl, xs, SqL.of g1⟩, h2 z1 σ _ hz1 (hs.add a1) fun w z2 a2 hz2 hw _ => ?_⟩
    obtain ⟨a', xs', e, g3, g4⟩ := (hv.add a2).asL hz2 hx
    cases e
    have e4 := g4.ints
    subst e4
    exact ⟨a, ns, k, rfl, by rw [hw.d_int], SqL.of g3, c _ z2 (a1.trans a2) hz2 (.int _) trivial⟩
end
theorem EvI.is {F : Fx} {wi : TI} {Γ : List Sl} {ds es : List PyData} (h : EvI F wi Γ ds) (e : ds = es) : EvI F wi Γ es := e ▸ h
theorem piZipK {X : Cx} {tg e : Expr} {ta : TA} (K : PySem.W.Frag) (h : PI X tg e (RZ.iZipA X.K ta)) (q : X.K = K := by rfl) : PI X tg e (RZ.iZipA K ta) := by subst q; exact h
theorem bmK {X : Cx} {e : Expr} {T : String} {to : TE} {t : TA} (r : PySem.W.Frag → V → List V → Hp → VK → Prop) (K : PySem.W.Frag) (h : PE X e (tBM X.K T (r X.K) to t)) (q : X.K = K := by rfl) : PE X e (tBM K T (r K) to t) := by subst q; exact h
theorem bmMK {X : Cx} {e : Expr} {T : String} {to : TE} {t : TA} (r : V → List V → Hp → VK → Prop) (K : PySem.W.Frag) (h : PE X e (tBM X.K T r to t)) (q : X.K = K := by rfl) : PE X e (tBM K T r to t) := by subst q; exact h
end GL
/-! GLn: sorted(set(a list of truth values)) -/
namespace GL
open PySem PySem.Spec PyProof.Rows L2 PpSet
section
variable {P : Program} {w : World} {A : Around} {E : Value → Shared → Prop} {s : Shared}
theorem setJ_bool {a : Addr} {items : List Value} {ns : List Bool} (r : Vals (ns.map V.bl) items) (hb : ns.length + 1 < scanBound) (A : Around) :
    SetJ P w A items.toArray a fun i h => SetB w h a (fun k => hasL (uniq (ns.take i)) k) (uniq (ns.take i)).length where
  keep := fun i h h' j k => SetB.at j k
  add := fun i v s Q E hv j c => by
    obtain ⟨k, hk, rv⟩ := vals_at r (by simpa using hv)
    have ev : v = .bool k := rv
    subst ev
    unfold setAdd
    apply wpAny_holding
    apply wpAny_bind
    apply (boolK P w).pyHash (boolK_is P w k)
    have l1 := uniq_le (ns.take i)
    have l2 : (ns.take i).length ≤ ns.length := by rw [List.length_take]; omega
    refine setB_add_hashed (P := P) (s := { s with toks := s.toks + 1 }) j (by omega) fun h' sb new => ?_
    refine c _ h' (s.toks + 1) sb (Nat.le_succ _) ?_
    rw [uniq_at hk, uStep_len]
    have e : (fun k' => hasL (uniq (ns.take i)) k' || decide (k' = k)) = fun k' => hasL (uStep (uniq (ns.take i)) k) k' := funext fun k' => by
      rw [Bool.eq_iff_iff, Bool.or_eq_true, decide_eq_true_eq, hasL_iff, hasL_iff, uStep_mem]
    rw [e] at new
    exact new
theorem setB_new_at {h : Heap} {a : Addr} (ho : h.get? a = some { cls := .type "set", dict := none, data := .set #[] 0 (.fresh 0 0 (!w.params.followText "set-order")) }) : SetB w h a (fun _ => false) 0 :=
  ⟨_, #[], 0, _, ho, ⟨rfl, rfl, rfl⟩, rfl, (fun e he => by simp at he), (by simp), (fun k => by simp), (by decide), (by rfl), rfl, List.Pairwise.nil, by
    cases h : w.params.followText "set-order"
    · right; rfl
    · left; rfl⟩
theorem goodB_vals {es : List (Int × Value)} (g : ∀ e ∈ es, GoodB e) : es.map (·.2) = (es.map keyB).map Value.bool := by
  induction es with
  | nil => rfl
  | cons e es ih =>
    obtain ⟨k, h1, h2⟩ := g e (by simp)
    rw [List.map_cons, List.map_cons, List.map_cons, ih fun x hx => g x (by simp [hx])]
    unfold keyB
    rw [h1]
theorem each_bools {h : Heap} (R : Value → Bool → Prop) (hR : ∀ b, R (.bool b) b) : ∀ bs : List Bool, PySem.W.EachIs R (bs.map Value.bool) bs
  | [] => .nil
  | b :: bs => .cons (hR b) (each_bools (h := h) R hR bs)
theorem of_each_bools : ∀ {out : List Value} {bs : List Bool}, PySem.W.EachIs (fun (v : Value) (b : Bool) => v = .bool b) out bs → out = bs.map Value.bool
  | _, _, .nil => rfl
  | _, _, .cons h t => by rw [h, of_each_bools t]; rfl
theorem dataLe_bool : PySem.W.dataLe false (fun b : Bool => PyData.bool b) = fun a b => !a || b := by
  rw [PySem.W.dataLe_eq]
  funext a b
  show (!PySem.W.dataLt (.bool b) (.bool a)) = _
  rw [PySem.W.dataLt_bool]
  cases a <;> cases b <;> rfl
/-- the truth values that are there, in order -/
def boolsOf (S : Bool → Bool) : List Bool := [false, true].filter S
theorem boolsOf_eq {S : Bool → Bool} {bs : List Bool} (hn : bs.Nodup) (hm : ∀ k, S k = true ↔ k ∈ bs) : bs.mergeSort (fun a b => !a || b) = boolsOf S := by
  refine List.Perm.eq_of_pairwise (le := fun a b : Bool => (!a || b) = true) (fun a b _ _ h1 h2 => by revert h1 h2; cases a <;> cases b <;> decide) ?_ ?_ ?_
  · exact List.pairwise_mergeSort (fun a b c => by cases a <;> cases b <;> cases c <;> decide) (fun a b => by cases a <;> cases b <;> decide) bs
  · unfold boolsOf
    exact List.Pairwise.filter _ (by decide)
  · refine (List.mergeSort_perm bs _).trans ?_
    refine (List.perm_ext_iff_of_nodup hn (List.Nodup.sublist List.filter_sublist (by decide))).mpr fun k => ?_
    rw [List.mem_filter, ← hm k]
    cases k <;> simp
theorem sorted_setB {a : Addr} {S : Bool → Bool} {n : Nat} {Q : Value → Shared → Prop} (R : SetB w s.heap a S n) (hh : A.handled = none) (hu : A.units + 64 < cLine)
    (hQ : ∀ s' p (c : Nat), (∀ b o, s.heap.get? b = some o → s'.heap.get? b = some o) → s'.gens = s.gens → s'.os = s.os → s.heap.objs.size ≤ p →
      s'.heap.get? p = some (seqObj "list" (((boolsOf S).map Value.bool).toArray) c) → Q (.ref p) s') :
    wpAny (model P w) A (call (.builtin "sorted") [.ref a]) Q E s := by
  obtain ⟨o, es, ep, t, ho, hex, hd, g, nd, hm, hb, hf, hn, hr, hl⟩ := R
  refine Calls.call_function_entry kind_sorted plain_sorted entry_sorted (args_sorted1 _) ?_
  unfold Builtin.«sorted»
  refine wpAny_bind (m := checkCount "sorted" 1 1 _) (wpAny_pure ?_)
  refine wpAny_bind (collect_set (A := A.in1) hh ⟨o, ho, hex.1, hd⟩ hf hb hr hl fun s1 vs k1 hz g1 o1 pm => ?_)
  rw [goodB_vals g] at pm
  -- the values are truth values
  have ord : ∃ bs : List Bool, vs = bs.map Value.bool ∧ bs.Perm (es.toList.map keyB) := by
    have h1 : ∀ vs : List Value, (∀ v ∈ vs, ∃ b : Bool, v = .bool b) → ∃ bs : List Bool, vs = bs.map Value.bool := by
      intro vs
      induction vs with
      | nil => intro _; exact ⟨[], rfl⟩
      | cons v vs ih =>
        intro hv
        obtain ⟨b, e⟩ := hv v (by simp)
        obtain ⟨bs, e2⟩ := ih fun u hu => hv u (by simp [hu])
        exact ⟨b :: bs, by rw [e, e2]; rfl⟩
    obtain ⟨bs, rfl⟩ := h1 vs fun v hv => by
      obtain ⟨b, _, e⟩ := List.mem_map.mp (pm.mem_iff.mp hv)
      exact ⟨b, e.symm⟩
    refine ⟨bs, rfl, ?_⟩
    have := pm.map fun v : Value => match v with | .bool b => b | _ => false
    rw [List.map_map, List.map_map] at this
    have e : ((fun v : Value => match v with | .bool b => b | _ => false) ∘ Value.bool) = id := rfl
    rw [e, List.map_id, List.map_id] at this
    exact this
  obtain ⟨bs, rfl, pb⟩ := ord
  have hnd : bs.Nodup := pb.nodup_iff.mpr nd
  have hmm : ∀ k, S k = true ↔ k ∈ bs := fun k => (hm k).trans pb.mem_iff.symm
  have hbl : bs.length ≤ 1000000 := by
    have h2 : bs.length = es.size := by rw [pb.length_eq, List.length_map, Array.length_toList]
    have : es.size < scanBound := hb
    have h3 : scanBound ≤ 1000000 := by decide
    omega
  refine wpAny_bind (wpAny_newList ?_ (by rw [List.length_map, sizeLine_eq]; omega))
  have hoL : (s1.heap.push (seqObj "list" (bs.map Value.bool).toArray 0)).get? s1.heap.objs.size = some (seqObj "list" (bs.map Value.bool).toArray 0) := Heap.get?_push_size _ rfl
  refine wpAny_bind (wpAny_holding (PySem.W.list_sort_data (s := { s1 with heap := s1.heap.push (seqObj "list" (bs.map Value.bool).toArray 0) }) (bs := bs) (enc := fun b : Bool => PyData.bool b) (R := fun v b => v = .bool b) hoL (each_bools (h := s1.heap) _ (fun _ => rfl) bs) (each_bools (h := s1.heap) _ (fun b => ⟨[], .bool b, by simp⟩) bs) (PySem.W.AllAlike.of fun a b => by simp [PySem.W.alike]) (PySem.W.Sortable.others fun b => ⟨by simp, by simp⟩) (by rw [sizeLine_eq]; omega) (fun b _ => ?_) fun out h1 h2 => ?_))
  · show A.in1.units + 1 + (PyData.bool b).depth < cLine
    rw [PyData.depth]
    have : A.in1.units ≤ A.units + 1 := Nat.le_refl _
    omega
  · rw [dataLe_bool, boolsOf_eq hnd hmm] at h2
    have eo := of_each_bools h2
    subst eo
    obtain ⟨c, hc⟩ := sortedHeap_at (vs := bs.map Value.bool) (out := ((boolsOf S).map Value.bool).toArray) hoL
    refine wpAny_pure ⟨_, rfl, hQ _ s1.heap.objs.size c (fun b u e => ?_) g1 o1 hz hc⟩
    have q := k1 b u e
    have hlt := Heap.lt_size q
    show (sortedHeap (s1.heap.push (seqObj "list" (bs.map Value.bool).toArray 0)) s1.heap.objs.size (bs.map Value.bool) ((boolsOf S).map Value.bool).toArray).get? b = some u
    rw [sortedHeap_old (Nat.ne_of_lt hlt) (by rw [size_push']; exact Nat.lt_succ_of_lt hlt)]
    exact Heap.get?_push_of_some _ q
end
section
variable {X : Cx}
def rSetBs (K : PySem.W.Frag) (w : World) : List V → Hp → VK → Prop := fun xs H Q => ∃ (l : Addr) (ns : List Bool), xs = [.ref l] ∧ SqL K H l (ns.map V.bl) ∧ ns.length ≤ 1000 ∧ ∀ p, H p = none → Q (.ref p) (upd H p (SetBO w p (fun k => hasL (uniq ns) k) (uniq ns).length))
theorem cr_setBs (hc : X.calm = true) : CallR X (.type "set") (rSetBs X.K X.w) := by
  intro pins s σ H xs us Q I r h
  obtain ⟨l, ns, rfl, hq, hb, q⟩ := h
  rw [Vals.ref1 r]
  obtain ⟨its, rv, pl, hz⟩ := I.list hq
  have hsz : its.toArray.size = ns.length := by rw [List.size_toArray, ← rv.length, List.length_map]
  refine set_of_list (I.ok.hd hc) pl.isList (J := fun i h => SetB X.w h s.heap.objs.size (fun k => hasL (uniq (ns.take i)) k) (uniq (ns.take i)).length) (setJ_bool (P := X.prog) rv (Nat.lt_of_le_of_lt (Nat.add_le_add_right hb 1) (by decide))) (fun h hn => by rw [List.take_zero]; exact setB_new_at hn) fun h' tk j k => ?_
  rw [hsz, List.take_length] at j
  have I2 : Inv X pins σ (upd H s.heap.objs.size (SetBO X.w s.heap.objs.size (fun k => hasL (uniq ns) k) (uniq ns).length)) { s with heap := h', toks := tk } := I.laid k (Nat.le_refl _) (setBO_new j)
  exact ⟨.ref _, _, I2, rfl, q _ (I.hok.fresh (Nat.le_refl _))⟩
def rSortedSetB (w : World) : List V → Hp → VK → Prop := fun vs H Q => ∃ (a : Addr) (S : Bool → Bool) (n : Nat), vs = [V.ref a] ∧ H a = some (SetBO w a S n) ∧ ∀ p : Addr, H p = none → Q (.ref p) (upd H p (.lst ((boolsOf S).map V.bl)))
theorem vals_bools : ∀ bs : List Bool, Vals (bs.map V.bl) (bs.map Value.bool)
  | [] => .nil
  | b :: bs => .cons rfl (vals_bools bs)
theorem cr_sortedSetB (hc : X.calm = true) (hu : X.A.units + 64 < cLine) : CallR X (.builtin "sorted") (rSortedSetB X.w) := by
  intro pins s σ H vs us Q I r h
  obtain ⟨a, S, n, rfl, ha, q⟩ := h
  have R := setBO_get I ha
  rw [Vals.ref1 r]
  refine sorted_setB R (I.ok.hd hc) hu fun s' p c k g o hp hg => ?_
  have hlen : ((boolsOf S).map V.bl).length ≤ sizeLine := by
    rw [List.length_map]
    unfold boolsOf
    exact Nat.le_trans (List.length_filter_le _ _) (by decide)
  have hn : H p = none := I.hok.fresh hp
  have J : Inv X pins σ (upd H p (.lst ((boolsOf S).map V.bl))) { s with heap := s'.heap, gens := s'.gens, drawn := s'.drawn, toks := s'.toks } :=
    I.call (ch := []) (Un.laid k hp hn) (I.hok.laid k hp ⟨hlen, (boolsOf S).map Value.bool, c, vals_bools _, hg⟩) (by rw [g]; exact I.bare) (fun _ z => nomatch z)
  have e : s' = { s with heap := s'.heap, gens := s'.gens, drawn := s'.drawn, toks := s'.toks } := by
    cases s'
    cases s
    cases o
    rfl
  rw [e]
  exact ⟨.ref p, _, J, rfl, q p hn⟩
end
theorem dt_bls {K : PySem.W.Frag} {S : Hp} : ∀ ns : List Bool, DtAll K S (ns.map V.bl) (ns.map PyData.bool)
  | [] => .nil
  | n :: ns => .cons (.bl n) (dt_bls ns)
theorem evs_sortSetB {F : Fx} {w : World} {te : TE} {Γ : List Sl} {x : Sl} {bs : List Bool} (h : EvS F te Γ x) (hx : x.asL = some (bs.map PyData.bool)) (hl : bs.length ≤ 1000) : EvS F (tCB (rSortedSetB w) (tCons (tCB (rSetBs F.K w) (tCons te tNil)) tNil)) Γ (.lst ((boolsOf fun k => hasL (uniq bs) k).map PyData.bool)) := fun z σ Q hz hs c =>
  h z σ _ hz hs fun v z1 a1 hz1 hv _ => by
    obtain ⟨a, xs, rfl, g1, g2⟩ := hv.asL hz1 hx
    have eb := g2.bls
    subst eb
    refine ⟨a, bs, rfl, SqL.of g1, hl, fun p hp => ?_⟩
    refine ⟨p, _, _, rfl, upd_same, fun p2 hp2 => ?_⟩
    have hz2 : ZOk F (z1.tmp p (SetBO w p (fun k => hasL (uniq bs) k) (uniq bs).length)) := hz1.tmp hp
    have a2 : Add z1 (z1.tmp p (SetBO w p (fun k => hasL (uniq bs) k) (uniq bs).length)) := Add.tmp hp
    refine c _ ((z1.tmp p (SetBO w p (fun k => hasL (uniq bs) k) (uniq bs).length)).tmp p2 (.lst ((boolsOf fun k => hasL (uniq bs) k).map V.bl))) (a1.trans (a2.trans (Add.tmp hp2))) (hz2.tmp hp2) (VOk.tmp_lst hz2 hp2 (dt_bls _)) ⟨p2, rfl, ?_⟩
    exact a1.dom p2 (a2.dom p2 hp2)
end GL
namespace GL
open PySem PySem.Spec PyProof.Rows L2
def topS (i : Nat) : Stmt := PySem.Challenge.pw_tiedranks_k16_possible_ranks_of_people.main.body.getD i (.Pass ⟨0, 0, 0, 0⟩)
abbrev s_is_integer : Stmt := topS 9
theorem sc_is_integer : FnScope ["value", "low", "high"] ["value", "low", "high"] (defScope s_is_integer) := ⟨rfl, rfl, rfl, by decide +kernel, rfl, by decide +kernel, by decide +kernel⟩
abbrev s_require_system : Stmt := topS 10
theorem sc_require_system : FnScope ["value"] ["value"] (defScope s_require_system) := ⟨rfl, rfl, rfl, by decide +kernel, rfl, by decide +kernel, by decide +kernel⟩
abbrev s_is_name : Stmt := topS 15
theorem sc_is_name : FnScope ["value", "sign"] ["value"] (defScope s_is_name) := ⟨rfl, rfl, rfl, by decide +kernel, rfl, by decide +kernel, by decide +kernel⟩
abbrev s_is_person : Stmt := topS 16
theorem sc_is_person : FnScope ["value", "first", "last", "dense", "rank"] ["value"] (defScope s_is_person) := ⟨rfl, rfl, rfl, by decide +kernel, rfl, by decide +kernel, by decide +kernel⟩
abbrev s_is_seen : Stmt := topS 17
theorem sc_is_seen : FnScope ["value", "one"] ["value"] (defScope s_is_seen) := ⟨rfl, rfl, rfl, by decide +kernel, rfl, by decide +kernel, by decide +kernel⟩
abbrev s_require_size : Stmt := topS 18
theorem sc_require_size : FnScope ["value"] ["value"] (defScope s_require_size) := ⟨rfl, rfl, rfl, by decide +kernel, rfl, by decide +kernel, by decide +kernel⟩
abbrev s_require_seen : Stmt := topS 19
theorem sc_require_seen : FnScope ["value"] ["value"] (defScope s_require_seen) := ⟨rfl, rfl, rfl, by decide +kernel, rfl, by decide +kernel, by decide +kernel⟩
abbrev s_require_known : Stmt := topS 20
theorem sc_require_known : FnScope ["name", "seen", "one"] ["name", "seen"] (defScope s_require_known) := ⟨rfl, rfl, rfl, by decide +kernel, rfl, by decide +kernel, by decide +kernel⟩
abbrev s_members : Stmt := topS 22
theorem sc_members : FnScope ["seen", "begin", "end", "number", "found", "person", "name", "first", "last", "dense"] ["seen", "begin", "end", "number"] (defScope s_members) := ⟨rfl, rfl, rfl, by decide +kernel, rfl, by decide +kernel, by decide +kernel⟩
abbrev s_ways_on : Stmt := topS 23
theorem sc_ways_on : FnScope ["size", "seen", "places", "most", "found", "number", "begin", "total", "end", "behind", "person", "rank"] ["size", "seen"] (defScope s_ways_on) := ⟨rfl, rfl, rfl, by decide +kernel, rfl, by decide +kernel, by decide +kernel⟩
abbrev s_steps : Stmt := topS 24
theorem sc_steps : FnScope ["size", "seen", "behind", "ahead", "found", "begin", "number", "up", "end", "rest", "people"] ["size", "seen"] (defScope s_steps) := ⟨rfl, rfl, rfl, by decide +kernel, rfl, by decide +kernel, by decide +kernel⟩
abbrev s_possible_ranks : Stmt := topS 26
theorem sc_possible_ranks : FnScope ["size", "seen", "name", "system", "found", "begin", "end", "number", "people", "up", "rest"] ["size", "seen", "name", "system"] (defScope s_possible_ranks) := ⟨rfl, rfl, rfl, by decide +kernel, rfl, by decide +kernel, by decide +kernel⟩
abbrev s_law_source : Stmt := topS 28
theorem sc_law_source : FnScope ["script", "k", "cell", "primes", "seed"] ["script", "k"] (defScope s_law_source) := ⟨rfl, rfl, rfl, by decide +kernel, rfl, by decide +kernel, by decide +kernel⟩
abbrev s_law_pick : Stmt := topS 29
theorem sc_law_pick : FnScope ["source", "size", "drawn"] ["source", "size"] (defScope s_law_pick) := ⟨rfl, rfl, rfl, by decide +kernel, rfl, by decide +kernel, by decide +kernel⟩
abbrev s_law_is_integer : Stmt := topS 30
theorem sc_law_is_integer : FnScope ["value", "low", "high"] ["value", "low", "high"] (defScope s_law_is_integer) := ⟨rfl, rfl, rfl, by decide +kernel, rfl, by decide +kernel, by decide +kernel⟩
abbrev s_law_sizes : Stmt := topS 31
theorem sc_law_sizes : FnScope ["source", "top", "left", "found", "wide", "many"] ["source", "top"] (defScope s_law_sizes) := ⟨rfl, rfl, rfl, by decide +kernel, rfl, by decide +kernel, by decide +kernel⟩
abbrev s_law_rows : Stmt := topS 32
theorem sc_law_rows : FnScope ["sizes", "found", "place", "at", "many"] ["sizes"] (defScope s_law_rows) := ⟨rfl, rfl, rfl, by decide +kernel, rfl, by decide +kernel, by decide +kernel⟩
abbrev s_law_people : Stmt := topS 33
theorem sc_law_people : FnScope [] [] (defScope s_law_people) := ⟨rfl, rfl, rfl, by decide +kernel, rfl, by decide +kernel, by decide +kernel⟩
abbrev s_law_seen : Stmt := topS 34
theorem sc_law_seen : FnScope ["source", "sizes", "most", "kinds", "rows", "found", "spots", "name", "row", "kind", "at", "shift", "other", "rank"] ["source", "sizes", "most", "kinds"] (defScope s_law_seen) := ⟨rfl, rfl, rfl, by decide +kernel, rfl, by decide +kernel, by decide +kernel⟩
abbrev s_law_is_good_person : Stmt := topS 35
theorem sc_law_is_good_person : FnScope ["value", "first", "last", "dense", "sign", "rank"] ["value"] (defScope s_law_is_good_person) := ⟨rfl, rfl, rfl, by decide +kernel, rfl, by decide +kernel, by decide +kernel⟩
abbrev s_law_all_sizes : Stmt := topS 36
theorem sc_law_all_sizes : FnScope ["size", "found", "done", "longer", "sizes", "left", "many"] ["size"] (defScope s_law_all_sizes) := ⟨rfl, rfl, rfl, by decide +kernel, rfl, by decide +kernel, by decide +kernel⟩
abbrev s_law_given : Stmt := topS 37
theorem sc_law_given : FnScope ["sizes", "person", "begin", "at", "many", "row", "one", "other"] ["sizes", "person"] (defScope s_law_given) := ⟨rfl, rfl, rfl, by decide +kernel, rfl, by decide +kernel, by decide +kernel⟩
abbrev s_law_fits : Stmt := topS 38
theorem sc_law_fits : FnScope ["sizes", "seen", "spots", "person", "at", "many"] ["sizes", "seen"] (defScope s_law_fits) := ⟨rfl, rfl, rfl, by decide +kernel, rfl, by decide +kernel, by decide +kernel⟩
abbrev s_law_fitting : Stmt := topS 39
theorem sc_law_fitting : FnScope ["size", "seen", "sizes"] ["size", "seen"] (defScope s_law_fitting) := ⟨rfl, rfl, rfl, by decide +kernel, rfl, by decide +kernel, by decide +kernel⟩
abbrev s_law_kinds : Stmt := topS 40
theorem sc_law_kinds : FnScope [] [] (defScope s_law_kinds) := ⟨rfl, rfl, rfl, by decide +kernel, rfl, by decide +kernel, by decide +kernel⟩
abbrev s_law : Stmt := topS 41
theorem sc_law : FnScope ["script", "k", "source", "sizes", "seen", "size", "rows", "person", "at", "by", "due", "begin", "groups_so", "spot", "found", "people"] ["script"] (defScope s_law) := ⟨rfl, rfl, rfl, by decide +kernel, rfl, by decide +kernel, by decide +kernel⟩
/-- what the top has left -/
structure Tx (K : PySem.W.Frag) (mg : Str → Option Value) : Type where
  fd_is_integer : FuncData
  F_is_integer : Fun K "is_integer" "is_integer" s_is_integer (He.ga K "is_integer") fd_is_integer
  g_is_integer : mg "is_integer" = some (.ref (He.ga K "is_integer"))
  fd_require_system : FuncData
  F_require_system : Fun K "require_system" "require_system" s_require_system (He.ga K "require_system") fd_require_system
  g_require_system : mg "require_system" = some (.ref (He.ga K "require_system"))
  fd_is_name : FuncData
  F_is_name : Fun K "is_name" "is_name" s_is_name (He.ga K "is_name") fd_is_name
  g_is_name : mg "is_name" = some (.ref (He.ga K "is_name"))
  fd_is_person : FuncData
  F_is_person : Fun K "is_person" "is_person" s_is_person (He.ga K "is_person") fd_is_person
  g_is_person : mg "is_person" = some (.ref (He.ga K "is_person"))
  fd_is_seen : FuncData
  F_is_seen : Fun K "is_seen" "is_seen" s_is_seen (He.ga K "is_seen") fd_is_seen
  g_is_seen : mg "is_seen" = some (.ref (He.ga K "is_seen"))
  fd_require_size : FuncData
  F_require_size : Fun K "require_size" "require_size" s_require_size (He.ga K "require_size") fd_require_size
  g_require_size : mg "require_size" = some (.ref (He.ga K "require_size"))
  fd_require_seen : FuncData
  F_require_seen : Fun K "require_seen" "require_seen" s_require_seen (He.ga K "require_seen") fd_require_seen
  g_require_seen : mg "require_seen" = some (.ref (He.ga K "require_seen"))
  fd_require_known : FuncData
  F_require_known : Fun K "require_known" "require_known" s_require_known (He.ga K "require_known") fd_require_known
  g_require_known : mg "require_known" = some (.ref (He.ga K "require_known"))
  fd_members : FuncData
  F_members : Fun K "members" "members" s_members (He.ga K "members") fd_members
  g_members : mg "members" = some (.ref (He.ga K "members"))
  fd_ways_on : FuncData
  F_ways_on : Fun K "ways_on" "ways_on" s_ways_on (He.ga K "ways_on") fd_ways_on
  g_ways_on : mg "ways_on" = some (.ref (He.ga K "ways_on"))
  fd_steps : FuncData
  F_steps : Fun K "steps" "steps" s_steps (He.ga K "steps") fd_steps
  g_steps : mg "steps" = some (.ref (He.ga K "steps"))
  fd_possible_ranks : FuncData
  F_possible_ranks : Fun K "possible_ranks" "possible_ranks" s_possible_ranks (He.ga K "possible_ranks") fd_possible_ranks
  g_possible_ranks : mg "possible_ranks" = some (.ref (He.ga K "possible_ranks"))
  fd_law_source : FuncData
  F_law_source : Fun K "_law_source" "_law_source" s_law_source (He.ga K "_law_source") fd_law_source
  g_law_source : mg "_law_source" = some (.ref (He.ga K "_law_source"))
  fd_law_pick : FuncData
  F_law_pick : Fun K "_law_pick" "_law_pick" s_law_pick (He.ga K "_law_pick") fd_law_pick
  g_law_pick : mg "_law_pick" = some (.ref (He.ga K "_law_pick"))
  fd_law_is_integer : FuncData
  F_law_is_integer : Fun K "_law_is_integer" "_law_is_integer" s_law_is_integer (He.ga K "_law_is_integer") fd_law_is_integer
  g_law_is_integer : mg "_law_is_integer" = some (.ref (He.ga K "_law_is_integer"))
  fd_law_sizes : FuncData
  F_law_sizes : Fun K "_law_sizes" "_law_sizes" s_law_sizes (He.ga K "_law_sizes") fd_law_sizes
  g_law_sizes : mg "_law_sizes" = some (.ref (He.ga K "_law_sizes"))
  fd_law_rows : FuncData
  F_law_rows : Fun K "_law_rows" "_law_rows" s_law_rows (He.ga K "_law_rows") fd_law_rows
  g_law_rows : mg "_law_rows" = some (.ref (He.ga K "_law_rows"))
  fd_law_people : FuncData
  F_law_people : Fun K "_law_people" "_law_people" s_law_people (He.ga K "_law_people") fd_law_people
  g_law_people : mg "_law_people" = some (.ref (He.ga K "_law_people"))
  fd_law_seen : FuncData
  F_law_seen : Fun K "_law_seen" "_law_seen" s_law_seen (He.ga K "_law_seen") fd_law_seen
  g_law_seen : mg "_law_seen" = some (.ref (He.ga K "_law_seen"))
  fd_law_is_good_person : FuncData
  F_law_is_good_person : Fun K "_law_is_good_person" "_law_is_good_person" s_law_is_good_person (He.ga K "_law_is_good_person") fd_law_is_good_person
  g_law_is_good_person : mg "_law_is_good_person" = some (.ref (He.ga K "_law_is_good_person"))
  fd_law_all_sizes : FuncData
  F_law_all_sizes : Fun K "_law_all_sizes" "_law_all_sizes" s_law_all_sizes (He.ga K "_law_all_sizes") fd_law_all_sizes
  g_law_all_sizes : mg "_law_all_sizes" = some (.ref (He.ga K "_law_all_sizes"))
  fd_law_given : FuncData
  F_law_given : Fun K "_law_given" "_law_given" s_law_given (He.ga K "_law_given") fd_law_given
  g_law_given : mg "_law_given" = some (.ref (He.ga K "_law_given"))
  fd_law_fits : FuncData
  F_law_fits : Fun K "_law_fits" "_law_fits" s_law_fits (He.ga K "_law_fits") fd_law_fits
  g_law_fits : mg "_law_fits" = some (.ref (He.ga K "_law_fits"))
  fd_law_fitting : FuncData
  F_law_fitting : Fun K "_law_fitting" "_law_fitting" s_law_fitting (He.ga K "_law_fitting") fd_law_fitting
  g_law_fitting : mg "_law_fitting" = some (.ref (He.ga K "_law_fitting"))
  fd_law_kinds : FuncData
  F_law_kinds : Fun K "_law_kinds" "_law_kinds" s_law_kinds (He.ga K "_law_kinds") fd_law_kinds
  g_law_kinds : mg "_law_kinds" = some (.ref (He.ga K "_law_kinds"))
  fd_law : FuncData
  F_law : Fun K "law" "law" s_law (He.ga K "law") fd_law
  g_law : mg "law" = some (.ref (He.ga K "law"))
  b_all : mg "all" = none
  b_bool : mg "bool" = none
  b_enumerate : mg "enumerate" = none
  b_int : mg "int" = none
  b_isinstance : mg "isinstance" = none
  b_len : mg "len" = none
  b_list : mg "list" = none
  b_max : mg "max" = none
  b_min : mg "min" = none
  b_range : mg "range" = none
  b_set : mg "set" = none
  b_sorted : mg "sorted" = none
  b_str : mg "str" = none
  b_sum : mg "sum" = none
  b_tuple : mg "tuple" = none
  b_zip : mg "zip" = none
  c_MAX_SIZE : ∃ t, mg "MAX_SIZE" = some (.int 30 t)
  c_SYSTEMS : mg "SYSTEMS" = some (.ref (He.ga K "SYSTEMS"))
  q_SYSTEMS : ∀ H : Hp, SqT K H (He.ga K "SYSTEMS") [V.str "first", V.str "last", V.str "dense"]
  c_LETTERS : ∃ t, mg "LETTERS" = some (.str "abcdefghijklmnopqrstuvwxyz" t)
  c_MAX_SEEN : ∃ t, mg "MAX_SEEN" = some (.int 12 t)
  c_MAX_NAME : ∃ t, mg "MAX_NAME" = some (.int 8 t)
theorem bi_is_integer {K : PySem.W.Frag} {mg : Str → Option Value} (T : Tx K mg) : Binds K T.fd_is_integer ["value", "low", "high"] [] := T.F_is_integer.binds (ps := ["value", "low", "high"]) fun _ _ _ _ _ _ us hl => match us, hl with | [_, _, _], _ => rfl
theorem bi_require_system {K : PySem.W.Frag} {mg : Str → Option Value} (T : Tx K mg) : Binds K T.fd_require_system ["value"] [] := T.F_require_system.binds (ps := ["value"]) fun _ _ _ _ _ _ us hl => match us, hl with | [_], _ => rfl
theorem bi_is_name {K : PySem.W.Frag} {mg : Str → Option Value} (T : Tx K mg) : Binds K T.fd_is_name ["value"] [] := T.F_is_name.binds (ps := ["value"]) fun _ _ _ _ _ _ us hl => match us, hl with | [_], _ => rfl
theorem bi_is_person {K : PySem.W.Frag} {mg : Str → Option Value} (T : Tx K mg) : Binds K T.fd_is_person ["value"] [] := T.F_is_person.binds (ps := ["value"]) fun _ _ _ _ _ _ us hl => match us, hl with | [_], _ => rfl
theorem bi_is_seen {K : PySem.W.Frag} {mg : Str → Option Value} (T : Tx K mg) : Binds K T.fd_is_seen ["value"] [] := T.F_is_seen.binds (ps := ["value"]) fun _ _ _ _ _ _ us hl => match us, hl with | [_], _ => rfl
theorem bi_require_size {K : PySem.W.Frag} {mg : Str → Option Value} (T : Tx K mg) : Binds K T.fd_require_size ["value"] [] := T.F_require_size.binds (ps := ["value"]) fun _ _ _ _ _ _ us hl => match us, hl with | [_], _ => rfl
theorem bi_require_seen {K : PySem.W.Frag} {mg : Str → Option Value} (T : Tx K mg) : Binds K T.fd_require_seen ["value"] [] := T.F_require_seen.binds (ps := ["value"]) fun _ _ _ _ _ _ us hl => match us, hl with | [_], _ => rfl
theorem bi_require_known {K : PySem.W.Frag} {mg : Str → Option Value} (T : Tx K mg) : Binds K T.fd_require_known ["name", "seen"] [] := T.F_require_known.binds (ps := ["name", "seen"]) fun _ _ _ _ _ _ us hl => match us, hl with | [_, _], _ => rfl
theorem bi_members {K : PySem.W.Frag} {mg : Str → Option Value} (T : Tx K mg) : Binds K T.fd_members ["seen", "begin", "end", "number"] [] := T.F_members.binds (ps := ["seen", "begin", "end", "number"]) fun _ _ _ _ _ _ us hl => match us, hl with | [_, _, _, _], _ => rfl
theorem bi_ways_on {K : PySem.W.Frag} {mg : Str → Option Value} (T : Tx K mg) : Binds K T.fd_ways_on ["size", "seen"] [] := T.F_ways_on.binds (ps := ["size", "seen"]) fun _ _ _ _ _ _ us hl => match us, hl with | [_, _], _ => rfl
theorem bi_steps {K : PySem.W.Frag} {mg : Str → Option Value} (T : Tx K mg) : Binds K T.fd_steps ["size", "seen"] [] := T.F_steps.binds (ps := ["size", "seen"]) fun _ _ _ _ _ _ us hl => match us, hl with | [_, _], _ => rfl
theorem bi_possible_ranks {K : PySem.W.Frag} {mg : Str → Option Value} (T : Tx K mg) : KBn K T.fd_possible_ranks ["size", "seen", "name", "system"] 3 ["system"] (· ++ ·) (· ++ ·) := kbn_of T.F_possible_ranks (fun kV doc pm an cdv ct us ws h1 h2 => match us, ws, h1, h2 with | [_, _, _], [_], _, _ => rfl)
theorem bi_law_source {K : PySem.W.Frag} {mg : Str → Option Value} (T : Tx K mg) : Binds K T.fd_law_source ["script", "k"] [] := T.F_law_source.binds (ps := ["script", "k"]) fun _ _ _ _ _ _ us hl => match us, hl with | [_, _], _ => rfl
theorem bi_law_pick {K : PySem.W.Frag} {mg : Str → Option Value} (T : Tx K mg) : Binds K T.fd_law_pick ["source", "size"] [] := T.F_law_pick.binds (ps := ["source", "size"]) fun _ _ _ _ _ _ us hl => match us, hl with | [_, _], _ => rfl
theorem bi_law_is_integer {K : PySem.W.Frag} {mg : Str → Option Value} (T : Tx K mg) : Binds K T.fd_law_is_integer ["value", "low", "high"] [] := T.F_law_is_integer.binds (ps := ["value", "low", "high"]) fun _ _ _ _ _ _ us hl => match us, hl with | [_, _, _], _ => rfl
theorem bi_law_sizes {K : PySem.W.Frag} {mg : Str → Option Value} (T : Tx K mg) : Binds K T.fd_law_sizes ["source", "top"] [] := T.F_law_sizes.binds (ps := ["source", "top"]) fun _ _ _ _ _ _ us hl => match us, hl with | [_, _], _ => rfl
theorem bi_law_rows {K : PySem.W.Frag} {mg : Str → Option Value} (T : Tx K mg) : Binds K T.fd_law_rows ["sizes"] [] := T.F_law_rows.binds (ps := ["sizes"]) fun _ _ _ _ _ _ us hl => match us, hl with | [_], _ => rfl
theorem bi_law_people {K : PySem.W.Frag} {mg : Str → Option Value} (T : Tx K mg) : Binds K T.fd_law_people [] [] := T.F_law_people.binds (ps := []) fun _ _ _ _ _ _ us hl => match us, hl with | [], _ => rfl
theorem bi_law_seen {K : PySem.W.Frag} {mg : Str → Option Value} (T : Tx K mg) : Binds K T.fd_law_seen ["source", "sizes", "most", "kinds"] [] := T.F_law_seen.binds (ps := ["source", "sizes", "most", "kinds"]) fun _ _ _ _ _ _ us hl => match us, hl with | [_, _, _, _], _ => rfl
theorem bi_law_is_good_person {K : PySem.W.Frag} {mg : Str → Option Value} (T : Tx K mg) : Binds K T.fd_law_is_good_person ["value"] [] := T.F_law_is_good_person.binds (ps := ["value"]) fun _ _ _ _ _ _ us hl => match us, hl with | [_], _ => rfl
theorem bi_law_all_sizes {K : PySem.W.Frag} {mg : Str → Option Value} (T : Tx K mg) : Binds K T.fd_law_all_sizes ["size"] [] := T.F_law_all_sizes.binds (ps := ["size"]) fun _ _ _ _ _ _ us hl => match us, hl with | [_], _ => rfl
theorem bi_law_given {K : PySem.W.Frag} {mg : Str → Option Value} (T : Tx K mg) : Binds K T.fd_law_given ["sizes", "person"] [] := T.F_law_given.binds (ps := ["sizes", "person"]) fun _ _ _ _ _ _ us hl => match us, hl with | [_, _], _ => rfl
theorem bi_law_fits {K : PySem.W.Frag} {mg : Str → Option Value} (T : Tx K mg) : Binds K T.fd_law_fits ["sizes", "seen"] [] := T.F_law_fits.binds (ps := ["sizes", "seen"]) fun _ _ _ _ _ _ us hl => match us, hl with | [_, _], _ => rfl
theorem bi_law_fitting {K : PySem.W.Frag} {mg : Str → Option Value} (T : Tx K mg) : Binds K T.fd_law_fitting ["size", "seen"] [] := T.F_law_fitting.binds (ps := ["size", "seen"]) fun _ _ _ _ _ _ us hl => match us, hl with | [_, _], _ => rfl
theorem bi_law_kinds {K : PySem.W.Frag} {mg : Str → Option Value} (T : Tx K mg) : Binds K T.fd_law_kinds [] [] := T.F_law_kinds.binds (ps := []) fun _ _ _ _ _ _ us hl => match us, hl with | [], _ => rfl
theorem bi_law {K : PySem.W.Frag} {mg : Str → Option Value} (T : Tx K mg) : Binds K T.fd_law ["script"] [] := T.F_law.binds (ps := ["script"]) fun _ _ _ _ _ _ us hl => match us, hl with | [_], _ => rfl
/-! the readings' own lines -/
local macro_rules
  | `(tactic| wtm_at "sz") => `(tactic| first | exact Nat.le_of_ble_eq_true rfl | exact sz (by simp only [List.length_cons, List.length_nil]; omega) | exact sz' (by simp only [List.length_cons, List.length_nil]; omega) | assumption)
local macro_rules
  | `(tactic| wtm_at "call") => `(tactic| fail)
local macro_rules
  | `(tactic| wtm_at "side") => `(tactic| first | assumption | omega | (dsimp only; omega) | exact ⟨by omega, by omega⟩ | exact Or.inr ⟨by omega, by omega⟩ | exact Or.inl ⟨by omega, by omega⟩ | exact ⟨by omega, by omega, by decide⟩)
local macro_rules
  | `(tactic| wtm_at "in") => `(tactic| first | (exact notin_K (by assumption) rfl) | exact in_seq rfl rfl rfl | exact notin_seq rfl rfl rfl)
local macro_rules
  | `(tactic| wtm_at "ix") => `(tactic| first | rfl | assumption)
local macro_rules
  | `(tactic| wtm_at "shaped") => `(tactic| first | rfl | assumption)
local macro_rules
  | `(tactic| wtm_at "un") => `(tactic| exact un_negI)
local macro_rules
  | `(tactic| wtm_at "op") => `(tactic| first
    | exact add_int | exact ops_I0 | exact ops_B0
    | ((with_reducible apply ops_eqD); rfl; rfl; wtm_at "shaped"; wtm_at "shaped") | ((with_reducible apply ops_neD); rfl; rfl; wtm_at "shaped"; wtm_at "shaped")
    | exact ops_isN | exact ops_notN
    | (apply add_tup; wtm_at "sz") | (apply add_lst; rfl; rfl; wtm_at "sz") | (apply OpS.shareL; apply add_lst; rfl; rfl; wtm_at "sz") | (apply add_str; wtm_at "sz")
    | (apply mul_int; wtm_at "side")
    | (apply ops_I; wtm_at "side")
    | ((with_reducible apply ix_at); rfl; wtm_at "ix")
    | ((with_reducible apply in_G); wtm_at "in") | ((with_reducible apply notin_G); wtm_at "in"))
local macro_rules
  | `(tactic| wtm_at "cb") => `(tactic| first
    | exact isi_int | exact isi_bool | exact isi_str | exact isi_tuple | exact isi_list
    | exact len_seq rfl | (apply len_str; wtm_at "sz") | exact sum_ints rfl | exact all_bls rfl | exact max2 | exact min2 | exact int_bool
    | exact tup_lst rfl | exact lst_seq rfl | exact CallS.shareL (lst_seq rfl))
local macro_rules
  | `(tactic| wtm_at "ev") => `(tactic| first
    | ((with_reducible apply evs_var); rfl; rfl)
    | (with_reducible exact evs_int) | (with_reducible exact evs_bl) | (with_reducible exact evs_str) | (with_reducible exact evs_non) | (with_reducible exact evs_raw)
    | (with_reducible exact eva_nil) | (with_reducible exact evd_nil) | (with_reducible exact evo_no)
    | ((with_reducible apply eva_cons); wtm_at "ev"; wtm_at "ev") | ((with_reducible apply evd_cons); wtm_at "ev"; wtm_at "ev")
    | ((with_reducible apply evo_some); wtm_at "ev")
    | ((with_reducible apply evs_op); wtm_at "ev"; wtm_at "ev"; wtm_at "op")
    | ((with_reducible apply evs_un); wtm_at "ev"; wtm_at "un")
    | ((with_reducible apply evs_cb); wtm_at "ev"; wtm_at "cb")
    | ((with_reducible apply evs_tup); wtm_at "ev"; wtm_at "sz")
    | ((with_reducible apply evs_lst); wtm_at "ev"; wtm_at "sz") | ((with_reducible apply evs_share); (with_reducible apply evs_lst); wtm_at "ev"; wtm_at "sz")
    | ((with_reducible apply evs_slT); wtm_at "ev"; rfl; wtm_at "ev"; wtm_at "ev") | ((with_reducible apply evs_slL); wtm_at "ev"; rfl; wtm_at "ev"; wtm_at "ev") | ((with_reducible apply evs_share); (with_reducible apply evs_slL); wtm_at "ev"; rfl; wtm_at "ev"; wtm_at "ev")
    | ((with_reducible apply evt_B); wtm_at "ev") | ((with_reducible apply evt_test); wtm_at "ev")
    | (with_reducible exact evt_yes)
    | ((with_reducible apply evt_not); wtm_at "ev")
    | ((with_reducible apply evs_notV); wtm_at "ev")
    | ((with_reducible apply evt_and0); wtm_at "ev"; rfl) | ((with_reducible apply evt_and); wtm_at "ev"; intro _; wtm_at "ev")
    | ((with_reducible apply evt_or1); wtm_at "ev"; rfl) | ((with_reducible apply evt_or); wtm_at "ev"; intro _; wtm_at "ev")
    | ((with_reducible apply evs_andV0); wtm_at "ev"; rfl) | ((with_reducible apply evs_andV); wtm_at "ev"; intro _; wtm_at "ev")
    | ((with_reducible apply evs_orV1); wtm_at "ev"; rfl) | ((with_reducible apply evs_orV); wtm_at "ev"; intro _; wtm_at "ev")
    | ((with_reducible apply evs_chain); wtm_at "ev"; wtm_at "ev"; wtm_at "op"; intro _; wtm_at "ev"; intro _; wtm_at "op")
    | ((with_reducible apply evs_ifT); wtm_at "ev"; intro _; wtm_at "ev"; intro _; wtm_at "ev")
    | ((with_reducible apply evs_ifD); wtm_at "ev"; intro _; wtm_at "ev"; intro _; wtm_at "ev")
    | wtm_at "call")
local macro_rules
  | `(tactic| wtm_at "evis") => `(tactic| (apply evs_is; wtm_at "ev"; rfl))
local macro_rules
  | `(tactic| wtm_at "evtis") => `(tactic| (apply evt_is; wtm_at "ev"; rfl))

variable {P : Program} {w : World} {K : PySem.W.Frag} {mg : Str → Option Value} {base : Heap}
/-! ### is_integer -/
def isIntB (d : PyData) (lo hi : Int) : Bool := match d with
  | .int i => decide (lo ≤ i) && decide (i ≤ hi)
  | _ => false
abbrev con_is_integer : Con := { α := PyData × Int × Int, args := fun a => [.d a.1, .d (.int a.2.1), .d (.int a.2.2)], pre := fun _ => True, post := fun a r => r = .d (.bool (isIntB a.1 a.2.1 a.2.2)) }
theorem ok_is_integer (T : Tx K mg) : FnOk P w K mg base CX0 (0 + 1) (He.ga K "is_integer") T.fd_is_integer ["value", "low", "high"] (spP K con_is_integer) := by
  refine fn_ok T.F_is_integer sc_is_integer con_is_integer (fun _ _ => rfl) (by decide) (fun _ _ h => h) fun cdv A outer s H E hr => ⟨_, (pss_one (ps_ret (pe_and (pe_callB call_isi (by rfl) T.b_isinstance bt_isinstance (pa_cons (pv 0) (pa_cons (pe_bltn (v := .ty "int") (by rfl) T.b_int bt_int rfl) pa_nil))) (pe_and (pe_not (pe_callB call_isi (by rfl) T.b_isinstance bt_isinstance (pa_cons (pv 0) (pa_cons (pe_bltn (v := .ty "bool") (by rfl) T.b_bool bt_bool rfl) pa_nil)))) (pe_one (pe_chain op_le op_le (pv 1) (pv 0) (pv 2))))))), ?_⟩
  rintro B S0 E px ⟨d, lo, hi⟩ -
  dsimp only [L2.cxOf, L2.Cx.nox, L2.Cx.wish]
  refine wp_ret ?_
  cases d with
  | int i =>
    apply EvS.wp
    · wtm_at "ev"
    · exact ⟨rfl, rfl⟩
  | _ =>
    apply EvS.wp
    · wtm_at "ev"
    · exact ⟨rfl, rfl⟩
theorem cl_is_integer {F : Fx} {Γ : List Sl} {t : TA} {E : XK} {d : PyData} {lo hi : Int} (h : EvA F t Γ [.d d, .d (.int lo), .d (.int hi)]) : EvS F (tCall (spP F.K con_is_integer) [] E t) Γ (.d (.bool (isIntB d lo hi))) :=
  evs_call (c := con_is_integer) (d, lo, hi) h rfl trivial (fun _ h => h) fun _ h => h
local macro_rules
  | `(tactic| wtm_at "call") => `(tactic| ((with_reducible apply cl_is_integer); wtm_at "ev"))

/-! ### mathematics of groups -/
def enumAt : Nat → List PyData → List PyData
  | _, [] => []
  | i, d :: ds => .tuple [.int (i : Int), d] :: enumAt (i + 1) ds
theorem enumD_at (ds : List PyData) : enumD ds = enumAt 0 ds := by
  have h : ∀ (ds : List PyData) (i : Nat), (ds.zipIdx i).map (fun p => PyData.tuple [.int (p.2 : Int), p.1]) = enumAt i ds := by
    intro ds
    induction ds with
    | nil => intro i; rfl
    | cons d ds ih => intro i; rw [List.zipIdx_cons, List.map_cons, ih]; rfl
  exact h ds 0
/-- the ints of data -/
def intsOf : List PyData → List Int
  | [] => []
  | .int i :: ds => i :: intsOf ds
  | _ :: ds => intsOf ds
theorem intsOf_map (ns : List Int) : intsOf (ns.map PyData.int) = ns := by
  induction ns with
  | nil => rfl
  | cons n ns ih => show n :: intsOf (ns.map PyData.int) = n :: ns; rw [ih]
theorem ints_all {lo hi : Int} : ∀ {ds : List PyData}, (ds.all fun d => isIntB d lo hi) = true → ∃ ns : List Int, ds = ns.map PyData.int ∧ ∀ n ∈ ns, lo ≤ n ∧ n ≤ hi
  | [], _ => ⟨[], rfl, by simp⟩
  | d :: ds, h => by
    rw [List.all_cons, Bool.and_eq_true] at h
    obtain ⟨ns, rfl, hn⟩ := ints_all h.2
    cases d with
    | int i =>
      have h1 := h.1
      simp [isIntB] at h1
      exact ⟨i :: ns, rfl, by simpa using ⟨h1, hn⟩⟩
    | _ => exact nomatch h.1
def isGroupsB (d : PyData) : Bool := match d with
  | .tuple ds => (decide (1 ≤ (ds.length : Int)) && decide ((ds.length : Int) ≤ 30)) && ((ds.all fun d => isIntB d 1 30) && decide ((intsOf ds).sum ≤ 30))
  | _ => false
theorem isGroups_of {ns : List Int} (h1 : ns ≠ []) (h2 : ∀ n ∈ ns, 1 ≤ n) (h3 : ns.sum ≤ 30) : isGroupsB (.tuple (ns.map PyData.int)) = true := by
  have hl : ∀ (ns : List Int), (∀ n ∈ ns, 1 ≤ n) → (ns.length : Int) ≤ ns.sum ∧ ∀ n ∈ ns, n ≤ ns.sum := by
    intro ns
    induction ns with
    | nil => intro _; exact ⟨by simp, by simp⟩
    | cons n ns ih =>
      intro h
      obtain ⟨i1, i2⟩ := ih fun m hm => h m (by simp [hm])
      have h0 := h n (by simp)
      refine ⟨by rw [List.length_cons, List.sum_cons]; omega, fun m hm => ?_⟩
      rw [List.sum_cons]
      rcases List.mem_cons.mp hm with rfl | hm
      · omega
      · have := i2 m hm; omega
  obtain ⟨l1, l2⟩ := hl ns h2
  have l0 : 1 ≤ ns.length := by cases ns with | nil => exact absurd rfl h1 | cons n r => simp
  simp only [isGroupsB, List.length_map, intsOf_map, Bool.and_eq_true, decide_eq_true_eq, List.all_eq_true]
  refine ⟨⟨by omega, by omega⟩, fun d hd => ?_, h3⟩
  obtain ⟨n, hn, rfl⟩ := List.mem_map.mp hd
  have := l2 n hn
  have := h2 n hn
  simp [isIntB]; omega
theorem of_isGroups {d : PyData} (h : isGroupsB d = true) : ∃ ns : List Int, d = .tuple (ns.map PyData.int) ∧ ns ≠ [] ∧ (∀ n ∈ ns, 1 ≤ n) ∧ ns.sum ≤ 30 ∧ ns.length ≤ 30 := by
  cases d with
  | tuple ds =>
    simp only [isGroupsB, Bool.and_eq_true, decide_eq_true_eq] at h
    obtain ⟨⟨a, b⟩, c, e⟩ := h
    obtain ⟨ns, rfl, hn⟩ := ints_all c
    rw [intsOf_map] at e
    rw [List.length_map] at a b
    exact ⟨ns, rfl, by intro q; subst q; simp at a, fun n h => (hn n h).1, e, by omega⟩
  | _ => cases h
inductive Sys where
  | first | last | dense
  deriving DecidableEq
def Sys.str : Sys → Str
  | .first => "first"
  | .last => "last"
  | .dense => "dense"
def Sys.rk (sy : Sys) (a b c : PyData) : PyData := match sy with
  | .first => a
  | .last => b
  | .dense => c
theorem disp3 {a b c : PyData} (sy : Sys) : valD (mergeD [] [((.inr "first" : Key), a), (.inr "last", b), (.inr "dense", c)]) (.inr sy.str) = some (sy.rk a b c) := by
  have n1 : ¬ (("first" : Str) = "last") := by decide +kernel
  have n2 : ¬ (("first" : Str) = "dense") := by decide +kernel
  have n3 : ¬ (("last" : Str) = "dense") := by decide +kernel
  cases sy <;> simp [mergeD, putD, valD, Sys.str, Sys.rk, n1, n2, n3, Ne.symm n1, Ne.symm n2, Ne.symm n3]
def rankI (sy : Sys) (place : Int) (at' : Nat) (n : Int) : Int := match sy with
  | .first => place + 1
  | .last => place + n
  | .dense => (at' : Int) + 1
/-- the ranks at all places, from a place and an index on -/
def ranksFrom (sy : Sys) : Int → Nat → List Int → List Int
  | _, _, [] => []
  | p, a, n :: ns => List.replicate n.toNat (rankI sy p a n) ++ ranksFrom sy (p + n) (a + 1) ns
theorem ranksFrom_len (sy : Sys) : ∀ (ns : List Int) (p : Int) (a : Nat), (∀ n ∈ ns, 1 ≤ n) → ((ranksFrom sy p a ns).length : Int) = ns.sum
  | [], _, _, _ => rfl
  | n :: ns, p, a, h => by
    have ih := ranksFrom_len sy ns (p + n) (a + 1) fun m hm => h m (by simp [hm])
    have h1 := h n (by simp)
    rw [ranksFrom, List.length_append, List.length_replicate, List.sum_cons]
    omega
def encI (ns : List Int) : PyData := .tuple (ns.map PyData.int)
theorem depth_ints' (ns : List Int) : PyData.depthAll (ns.map PyData.int) = 0 := by
  induction ns with
  | nil => simp [PyData.depthAll]
  | cons n r ih => rw [List.map_cons, PyData.depthAll, ih]; simp [PyData.depth]
theorem lay_ints (ns : List Int) : PyData.canLayAll0 (ns.map PyData.int) = true := by
  induction ns with
  | nil => simp [PyData.canLayAll0]
  | cons n r ih => rw [List.map_cons, PyData.canLayAll0, ih]; simp [PyData.canLay0]
theorem sh_encI (ns : List Int) : SeqAt.shaped (.tuple (ns.map PyData.int)) = true := by
  simp [SeqAt.shaped, PyData.canLay0, PyData.depth, lay_ints, depth_ints']
theorem sh_listI (ns : List Int) : SeqAt.shaped (.list (ns.map PyData.int)) = true := by
  simp [SeqAt.shaped, PyData.canLay0, PyData.depth, lay_ints, depth_ints']
theorem sh_int (i : Int) : SeqAt.shaped (.int i) = true := by simp [SeqAt.shaped, PyData.canLay0, PyData.depth]
theorem sh_non : SeqAt.shaped .none = true := by simp [SeqAt.shaped, PyData.canLay0, PyData.depth]
theorem sh_bool (b : Bool) : SeqAt.shaped (.bool b) = true := by simp [SeqAt.shaped, PyData.canLay0, PyData.depth]
theorem sh_str {b : Str} (h : PyData.strOk b = true) : SeqAt.shaped (.str b) = true := by simp [SeqAt.shaped, PyData.canLay0, PyData.depth, h]
theorem eqv_int (i j : Int) : PyData.eqv (.int i) (.int j) = decide (i = j) := by
  rw [PyData.eqv]; by_cases h : i = j <;> simp [h]
theorem eqvAll_ints : ∀ ns ms : List Int, PyData.eqvAll (ns.map PyData.int) (ms.map PyData.int) = decide (ns = ms)
  | [], [] => by simp [PyData.eqvAll]
  | [], m :: ms => by simp [PyData.eqvAll]
  | n :: ns, [] => by simp [PyData.eqvAll]
  | n :: ns, m :: ms => by
    rw [List.map_cons, List.map_cons, PyData.eqvAll, eqvAll_ints ns ms, eqv_int]
    by_cases h1 : n = m <;> by_cases h2 : ns = ms <;> simp [h1, h2]
theorem eqv_encI (ns ms : List Int) : PyData.eqv (.tuple (ns.map PyData.int)) (.tuple (ms.map PyData.int)) = decide (ns = ms) := by
  rw [PyData.eqv]; exact eqvAll_ints ns ms
theorem sum_nonneg' : ∀ {ns : List Int}, (∀ n ∈ ns, 1 ≤ n) → (ns.length : Int) ≤ ns.sum
  | [], _ => by simp
  | n :: ns, h => by
    have := sum_nonneg' (ns := ns) fun m hm => h m (by simp [hm])
    have := h n (by simp)
    rw [List.length_cons, List.sum_cons]; omega
theorem mem_le_sum : ∀ {ns : List Int}, (∀ n ∈ ns, 1 ≤ n) → ∀ n ∈ ns, n ≤ ns.sum
  | [], _, n, hn => by simp at hn
  | m :: ns, h, n, hn => by
    have h1 := sum_nonneg' (ns := ns) fun m hm => h m (by simp [hm])
    rw [List.sum_cons]
    rcases List.mem_cons.mp hn with rfl | hn
    · omega
    · have := mem_le_sum (ns := ns) (fun m hm => h m (by simp [hm])) n hn
      have := h m (by simp)
      omega

/-! ### people -/
def letters : Str := "abcdefghijklmnopqrstuvwxyz"
def signIn : PyData → Bool
  | .str s => !(Builtin.Str.occurrences letters s 0 letters.length 1).isEmpty
  | _ => false
def isNameS (a : Str) : Bool := (decide (1 ≤ (a.length : Int)) && decide ((a.length : Int) ≤ 8)) && (signs a).all signIn
def isNameB : PyData → Bool
  | .str a => isNameS a
  | _ => false
def shortS : PyData → Prop
  | .str a => a.length ≤ 100000
  | _ => True
def oI : Option Int → PyData
  | none => .none
  | some i => .int i
def rankO : Option Int → Bool
  | none => true
  | some i => decide (1 ≤ i) && decide (i ≤ 30)
def leO : Option Int → Option Int → Bool
  | some i, some j => decide (i ≤ j)
  | _, _ => true
def okR (d : PyData) : Bool := PyData.isN d || isIntB d 1 30
theorem okR_of {d : PyData} (h : okR d = true) : ∃ o, d = oI o ∧ rankO o = true := by
  cases d with
  | none => exact ⟨none, rfl, rfl⟩
  | int i => exact ⟨some i, rfl, h⟩
  | _ => cases h
theorem okR_oI (o : Option Int) : okR (oI o) = rankO o := by cases o <;> rfl
structure Per where
  name : Str
  first : Option Int
  last : Option Int
  dense : Option Int
/-- what the checks ask of the ranks -/
def ranksOk (f l d : Option Int) : Bool := rankO f && rankO l && rankO d && !(f.isNone && l.isNone && d.isNone) && leO f l && leO d f && leO d l
def Per.ok (p : Per) : Bool := isNameS p.name && ranksOk p.first p.last p.dense
def Per.ranks (p : Per) : List PyData := [oI p.first, oI p.last, oI p.dense]
def Per.enc (p : Per) : PyData := .tuple [.str p.name, oI p.first, oI p.last, oI p.dense]
def optI : PyData → Option Int
  | .int i => some i
  | _ => none
theorem optI_oI (o : Option Int) : optI (oI o) = o := by cases o <;> rfl
def isPersonB : PyData → Bool
  | .tuple [n, a, b, c] => isNameB n && (okR a && (okR b && okR c)) && ranksOk (optI a) (optI b) (optI c)
  | _ => false
theorem isPerson_enc (p : Per) : isPersonB p.enc = p.ok := by
  show (isNameB (.str p.name) && (okR (oI p.first) && (okR (oI p.last) && okR (oI p.dense))) && ranksOk (optI (oI p.first)) (optI (oI p.last)) (optI (oI p.dense))) = _
  simp only [okR_oI, optI_oI, isNameB, Per.ok, ranksOk]
  cases isNameS p.name <;> cases rankO p.first <;> cases rankO p.last <;> cases rankO p.dense <;> rfl
theorem of_isPerson {d : PyData} (h : isPersonB d = true) : ∃ p : Per, d = p.enc ∧ p.ok = true := by
  unfold isPersonB at h
  split at h
  · rename_i n a b c
    simp only [Bool.and_eq_true] at h
    obtain ⟨⟨h1, h2, h3, h4⟩, h5⟩ := h
    obtain ⟨fa, rfl, _⟩ := okR_of h2
    obtain ⟨fb, rfl, _⟩ := okR_of h3
    obtain ⟨fc, rfl, _⟩ := okR_of h4
    cases n with
    | str nm =>
      refine ⟨⟨nm, fa, fb, fc⟩, rfl, ?_⟩
      simp only [optI_oI] at h5
      simp only [Per.ok, Bool.and_eq_true]
      exact ⟨h1, h5⟩
    | _ => cases h1
  · cases h
theorem name_short {a : Str} (h : isNameS a = true) : 1 ≤ a.length ∧ a.length ≤ 8 := by
  simp only [isNameS, Bool.and_eq_true, decide_eq_true_eq] at h
  omega
def shortP : PyData → Prop
  | .tuple (n :: _) => shortS n
  | _ => True
theorem shortP_enc {p : Per} (h : p.ok = true) : shortP p.enc := by
  simp only [Per.ok, Bool.and_eq_true] at h
  have := name_short h.1
  show p.name.length ≤ 100000
  omega
def name0 : PyData → PyData
  | .tuple (n :: _) => n
  | _ => .none
/-- the names of people -/
def namesOf : List PyData → List Str
  | [] => []
  | .tuple (.str a :: _) :: ds => a :: namesOf ds
  | _ :: ds => namesOf ds
theorem namesOf_enc (ps : List Per) : namesOf (ps.map Per.enc) = ps.map Per.name := by
  induction ps with
  | nil => rfl
  | cons p ps ih => show p.name :: namesOf _ = _; rw [ih]; rfl
def isSeenB : PyData → Bool
  | .tuple ds => decide (ds.length ≤ 12) && ds.all isPersonB && decide ((uniq ((namesOf ds).map (Sum.inr : Str → Key))).length = ds.length)
  | _ => false
def encSeen (ps : List Per) : PyData := .tuple (ps.map Per.enc)
structure SeenOk (ps : List Per) : Prop where
  few : ps.length ≤ 12
  ok : ∀ p ∈ ps, p.ok = true
  nodup : (ps.map Per.name).Nodup
theorem nodup_inr {xs : List Str} : (xs.map (Sum.inr : Str → Key)).Nodup ↔ xs.Nodup := by
  constructor
  · intro h
    induction xs with
    | nil => exact .nil
    | cons x xs ih =>
      rw [List.map_cons, List.nodup_cons] at h
      exact List.nodup_cons.mpr ⟨fun q => h.1 (List.mem_map.mpr ⟨x, q, rfl⟩), ih h.2⟩
  · intro h
    induction xs with
    | nil => exact .nil
    | cons x xs ih =>
      rw [List.nodup_cons] at h
      rw [List.map_cons, List.nodup_cons]
      refine ⟨fun q => ?_, ih h.2⟩
      obtain ⟨y, hy, e⟩ := List.mem_map.mp q
      exact h.1 (Sum.inr.inj e ▸ hy)
theorem isSeen_enc {ps : List Per} : isSeenB (encSeen ps) = true ↔ SeenOk ps := by
  simp only [encSeen, isSeenB, Bool.and_eq_true, decide_eq_true_eq, List.length_map, List.all_map, namesOf_enc, List.all_eq_true]
  have e : (uniq ((ps.map Per.name).map (Sum.inr : Str → Key))).length = ps.length ↔ (ps.map Per.name).Nodup := by
    have := uniq_len_iff ((ps.map Per.name).map (Sum.inr : Str → Key))
    rw [List.length_map, List.length_map] at this
    rw [this, nodup_inr]
  rw [e]
  exact ⟨fun ⟨⟨h1, h2⟩, h3⟩ => ⟨h1, fun p hp => (isPerson_enc p).symm.trans (h2 p hp), h3⟩, fun h => ⟨⟨h.few, fun p hp => (isPerson_enc p).trans (h.ok p hp)⟩, h.nodup⟩⟩
theorem pers_of : ∀ {ds : List PyData}, ds.all isPersonB = true → ∃ ps : List Per, ds = ps.map Per.enc ∧ ∀ p ∈ ps, p.ok = true
  | [], _ => ⟨[], rfl, by simp⟩
  | d :: ds, h => by
    rw [List.all_cons, Bool.and_eq_true] at h
    obtain ⟨ps, rfl, hp⟩ := pers_of h.2
    obtain ⟨p, rfl, h1⟩ := of_isPerson h.1
    exact ⟨p :: ps, rfl, by simpa using ⟨h1, hp⟩⟩
theorem of_isSeen {d : PyData} (h : isSeenB d = true) : ∃ ps, d = encSeen ps ∧ SeenOk ps := by
  cases d with
  | tuple ds =>
    have h' := h
    simp only [isSeenB, Bool.and_eq_true] at h'
    obtain ⟨ps, rfl, _⟩ := pers_of h'.1.2
    exact ⟨ps, rfl, isSeen_enc.mp h⟩
  | _ => cases h
theorem sh_oI (o : Option Int) : SeqAt.shaped (oI o) = true := by cases o <;> rfl
theorem eqv_oI : ∀ (a b : Option Int), PyData.eqv (oI a) (oI b) = decide (a = b)
  | none, none => rfl
  | none, some i => by simp [oI, PyData.eqv]
  | some i, none => by simp [oI, PyData.eqv]
  | some i, some j => by
    show PyData.eqv (.int i) (.int j) = _
    rw [eqv_int]
    by_cases h : i = j <;> simp [h]
theorem isN_oI (o : Option Int) : PyData.isN (oI o) = o.isNone := by cases o <;> rfl
theorem flat_oI (o : Option Int) : flatD (oI o) = true := by cases o <;> rfl

/-! ### is_name -/
abbrev con_is_name : Con := { α := PyData, args := fun a => [.d a], pre := fun a => shortS a, post := fun a r => r = .d (.bool (isNameB a)) }
theorem ok_is_name (T : Tx K mg) : FnOk P w K mg base CX0 (0 + 1) (He.ga K "is_name") T.fd_is_name ["value"] (spP K con_is_name) := by
  refine fn_ok T.F_is_name sc_is_name con_is_name (fun _ _ => rfl) (by decide) (fun _ _ h => h) fun cdv A outer s H E hr => ⟨_, (pss_one (ps_ret (pe_and (pe_callB call_isi (by rfl) T.b_isinstance bt_isinstance (pa_cons (pv 0) (pa_cons (pe_bltn (v := .ty "str") (by rfl) T.b_str bt_str rfl) pa_nil))) (pe_and (pe_chain op_le op_le pe_int (pe_callB call_lenG (by rfl) T.b_len bt_len (pa_cons (pv 0) pa_nil)) (pe_glob (v := .int 8) (by rfl) T.c_MAX_NAME.choose_spec ⟨_, rfl⟩)) (pe_one (pe_callB (cr_all rfl) (by rfl) T.b_all bt_all (pa_cons (pe_lc (own := [("sign", 1)]) rfl sc_is_name.nd (pi_seq (pv 0)) (blkOk_by (own := [("sign", 1)]) (N := ["value", "sign"]) (sc := defScope s_is_name) (by decide +kernel)) (fun _ _ _ _ _ => (pg_name (i := 1) sc_is_name.nd rfl (.inl rfl))) (fun _ _ _ _ _ => pts_nil) (fun _ _ _ _ _ => (pe_cmpR (opK rInG K op_in_G) (pv 1) (pe_glob (v := .str "abcdefghijklmnopqrstuvwxyz") (by rfl) T.c_LETTERS.choose_spec ⟨_, rfl⟩) (by with_unfolding_all rfl)))) pa_nil))))))), ?_⟩
  rintro B S0 E px d hd
  dsimp only [L2.cxOf, L2.Cx.nox, L2.Cx.wish] at hd ⊢
  refine wp_ret ?_
  cases d with
  | str a =>
    have hs : a.length ≤ 100000 := hd
    refine EvS.wp (s := .d (.bool (isNameS a))) ?_ ?_
    · have e : isNameS a = (true && isNameS a) := (Bool.true_and _).symm
      rw [e]
      apply evs_andV
      · wtm_at "ev"
      · intro _
        apply evs_andV
        · apply evs_chain
          · wtm_at "ev"
          · apply evs_cb
            · wtm_at "ev"
            · exact len_str (sz hs)
          · exact ops_B0
          · intro _; wtm_at "ev"
          · intro _; exact ops_B0
        · intro h
          rw [Bool.and_eq_true, decide_eq_true_eq, decide_eq_true_eq] at h
          have hl : (signs a).length ≤ 100000 := by simp only [signs, List.length_map, Array.length_toList]; exact hs
          refine evs_is (evs_cb (ss := [.lst (((signs a).map signIn).map PyData.bool)]) (eva_cons ?_ eva_nil) (all_bls rfl)) (by rw [List.all_map]; rfl)
          rw [List.map_map]
          refine evs_lc (items := signs a) (evi_seqS (by wtm_at "ev")) (gvs_name (by decide)) (sz' hl) ?_
          refine lcp_ds fun d hd => ?_
          obtain ⟨c, hc, rfl⟩ := List.mem_map.mp hd
          refine ⟨_, gto_name (lt_ble rfl), ?_⟩
          apply evs_op
          · wtm_at "ev"
          · wtm_at "ev"
          · exact in_strG
    · exact ⟨rfl, rfl⟩
  | _ =>
    apply EvS.wp
    · wtm_at "ev"
    · exact ⟨rfl, rfl⟩
theorem cl_is_name {F : Fx} {Γ : List Sl} {t : TA} {E : XK} {d : PyData} (h : EvA F t Γ [.d d]) (h1 : shortS d) : EvS F (tCall (spP F.K con_is_name) [] E t) Γ (.d (.bool (isNameB d))) :=
  evs_call (c := con_is_name) d h rfl h1 (fun _ h => h) fun _ h => h
local macro_rules
  | `(tactic| wtm_at "call") => `(tactic| ((with_reducible apply cl_is_name); wtm_at "ev"; first | assumption | exact trivial))

/-! ### is_person -/
theorem ranks_all {a b c : PyData} : ([a, b, c].all okR) = (okR a && (okR b && okR c)) := by simp
abbrev con_is_person : Con := { α := PyData, args := fun a => [.d a], pre := fun a => shortP a, post := fun a r => r = .d (.bool (isPersonB a)) }
theorem isPerson4 {n a b c : PyData} : isPersonB (.tuple [n, a, b, c]) = (isNameB n && (okR a && (okR b && okR c)) && ranksOk (optI a) (optI b) (optI c)) := rfl
theorem isPerson_len {ds : List PyData} (h : ds.length ≠ 4) : isPersonB (.tuple ds) = false := by
  unfold isPersonB
  split
  · rename_i e; cases e; exact absurd rfl h
  · rfl
theorem ok_is_person (T : Tx K mg) : FnOk P w K mg base CX0 (1 + 1) (He.ga K "is_person") T.fd_is_person ["value"] (spP K con_is_person) := by
  refine fn_ok T.F_is_person sc_is_person con_is_person (fun _ _ => rfl) (by decide) (fun _ _ h => h) fun cdv A outer s H E hr => ⟨_, (pss_cons (ps_if (PW.pt (pw_or (pt_not (pt_val (pe_callB call_isi (by rfl) T.b_isinstance bt_isinstance (pa_cons (pv 0) (pa_cons (pe_bltn (v := .ty "tuple") (by rfl) T.b_tuple bt_tuple rfl) pa_nil))))) (pw_or (pt_cmpR (op_neD hr.units) (pe_callB call_lenG (by rfl) T.b_len bt_len (pa_cons (pv 0) pa_nil)) pe_int (nomark _)) (pw_or1 (pt_not (pt_val (pe_call (ok_is_name T) (hr.mono (by decide)) (by rfl) T.g_is_name T.F_is_name.kp (bi_is_name T) .nil pass0 (pa_cons (pe_ix ix_seq (pv 0) pe_int (fun _ _ => rfl)) pa_nil))))))))
        (pss_one (ps_ret pe_bl))
        pss_nil)
      (pss_cons (ps_if (pt_not (pt_val (pe_callB (cr_all rfl) (by rfl) T.b_all bt_all (pa_cons (pe_lc (own := [("rank", 4)]) rfl sc_is_person.nd (pi_seq (pe_slice sl_G (pv 0) (po_some pe_int) po_none)) (blkOk_by (own := [("rank", 4)]) (N := ["value", "first", "last", "dense", "rank"]) (sc := defScope s_is_person) (by decide +kernel)) (fun _ _ _ _ _ => (pg_name (i := 4) sc_is_person.nd rfl (.inl rfl))) (fun _ _ _ _ _ => pts_nil) (fun _ _ _ _ _ => (pe_or (pe_cmpR op_isN (pv 4) pe_non (nomark _)) (pe_one (pe_call (ok_is_integer T) (hr.mono (by decide)) (by rfl) T.g_is_integer T.F_is_integer.kp (bi_is_integer T) .nil pass0 (pa_cons (pv 4) (pa_cons pe_int (pa_cons (pe_glob (v := .int 30) (by rfl) T.c_MAX_SIZE.choose_spec ⟨_, rfl⟩) pa_nil)))))))) pa_nil))))
        (pss_one (ps_ret pe_bl))
        pss_nil)
      (pss_cons (ps_if (pt_cmpR (op_eqD hr.units) (pe_slice sl_G (pv 0) (po_some pe_int) po_none) (pe_tup (pa_cons pe_non (pa_cons pe_non (pa_cons pe_non pa_nil)))) (nomark _))
        (pss_one (ps_ret pe_bl))
        pss_nil)
      (pss_cons (ps_asg (pe_slice sl_G (pv 0) (po_some pe_int) po_none) (pg_tup (by rfl) (pgs_cons (pg_name (i := 1) sc_is_person.nd rfl (.inl rfl)) (pgs_cons (pg_name (i := 2) sc_is_person.nd rfl (.inl rfl)) (pgs_cons (pg_name (i := 3) sc_is_person.nd rfl (.inr rfl)) pgs_nil)))))
      (pss_cons (ps_if (PW.pt (pw_and (pt_cmpR op_notN (pv 1) pe_non (nomark _)) (pw_and (pt_cmpR op_notN (pv 2) pe_non (nomark _)) (pw_and1 (pt_cmpR op_lt (pv 2) (pv 1) (nomark _))))))
        (pss_one (ps_ret pe_bl))
        pss_nil)
      (pss_one (ps_ret (pe_or (pe_cmpR op_isN (pv 3) pe_non (nomark _)) (pe_one (pe_callB (cr_all rfl) (by rfl) T.b_all bt_all (pa_cons (pe_lc (own := [("rank", 4)]) rfl sc_is_person.nd (pi_seq (pe_tup (pa_cons (pv 1) (pa_cons (pv 2) pa_nil)))) (blkOk_by (own := [("rank", 4)]) (N := ["value", "first", "last", "dense", "rank"]) (sc := defScope s_is_person) (by decide +kernel)) (fun _ _ _ _ _ => (pg_name (i := 4) sc_is_person.nd rfl (.inl rfl))) (fun _ _ _ _ _ => pts_nil) (fun _ _ _ _ _ => (pe_or (pe_cmpR op_isN (pv 4) pe_non (nomark _)) (pe_one (pe_cmpR op_ge (pv 4) (pv 3) (nomark _)))))) pa_nil))))))))))), ?_⟩
  rintro B S0 E px d hd
  dsimp only [L2.cxOf, L2.Cx.nox, L2.Cx.wish] at hd ⊢
  apply wp_seq
  cases d with
  | tuple ds =>
    by_cases h4 : ds.length = 4
    · obtain ⟨n, a, b, c, rfl⟩ : ∃ n a b c, ds = [n, a, b, c] := by
        match ds, h4 with
        | [n, a, b, c], _ => exact ⟨n, a, b, c, rfl⟩
      have hn : shortS n := hd
      apply wp_if (b := !isNameB n)
      · have e : (!isNameB n) = (false || (false || !isNameB n)) := by simp
        rw [e]
        apply evt_or
        · wtm_at "evtis"
        · intro _
          apply evt_or
          · apply evt_test
            refine evs_is (x := .d (.bool (!PyData.eqv (.int ([n, a, b, c] : List PyData).length) (.int 4)))) ?_ ?_
            · apply evs_op
              · wtm_at "ev"
              · wtm_at "ev"
              · exact ops_neD rfl rfl (sh_int _) (sh_int _)
            · rw [eqv_int]; rfl
          · intro _
            wtm_at "evtis"
      · intro h
        apply wp_ret
        apply EvS.wp
        · wtm_at "ev"
        · refine ⟨rfl, ?_⟩
          rw [isPerson4]
          simp only [Bool.not_eq_true'] at h
          rw [h]; rfl
      · intro hname
        simp only [Bool.not_eq_false'] at hname
        apply wp_next
        apply wp_seq
        apply wp_if (b := !(okR a && (okR b && okR c)))
        · apply evt_not
          apply evt_B
          refine evs_is (evs_cb (ss := [.lst (([a, b, c].map okR).map PyData.bool)]) (eva_cons ?_ eva_nil) (all_bls rfl)) (by rw [← ranks_all, List.all_map]; rfl)
          rw [List.map_map]
          refine evs_lc (items := [a, b, c]) (evi_seqT (by wtm_at "evis")) (gvs_name (by decide)) (sz' (Nat.le_of_ble_eq_true rfl)) ?_
          refine lcp_ds fun d hd => ?_
          refine ⟨_, gto_name (lt_ble rfl), ?_⟩
          apply evs_orV
          · wtm_at "ev"
          · intro _; wtm_at "ev"
        · intro h
          apply wp_ret
          apply EvS.wp
          · wtm_at "ev"
          · refine ⟨rfl, ?_⟩
            rw [isPerson4]
            simp only [Bool.not_eq_true'] at h
            rw [h, Bool.and_false]; rfl
        · intro hok
          simp only [Bool.not_eq_false'] at hok
          apply wp_next
          have hok' := hok
          rw [Bool.and_eq_true, Bool.and_eq_true] at hok'
          obtain ⟨fa, rfl, ra⟩ := okR_of hok'.1
          obtain ⟨fb, rfl, rb⟩ := okR_of hok'.2.1
          obtain ⟨fc, rfl, rc⟩ := okR_of hok'.2.2
          have goal : isPersonB (.tuple [n, oI fa, oI fb, oI fc]) = (!(fa.isNone && fb.isNone && fc.isNone) && leO fa fb && leO fc fa && leO fc fb) := by
            rw [isPerson4, hname, hok]
            simp only [optI_oI, ranksOk, ra, rb, rc, Bool.true_and]
          rw [goal]
          have s1 := sh_oI fa
          have s2 := sh_oI fb
          have s3 := sh_oI fc
          have sh3 : SeqAt.shaped (.tuple [oI fa, oI fb, oI fc]) = true := by
            cases fa <;> cases fb <;> cases fc <;> simp [SeqAt.shaped, oI, PyData.canLay0, PyData.canLayAll0, PyData.depth, PyData.depthAll]
          have e3 : PyData.eqv (.tuple [oI fa, oI fb, oI fc]) (.tuple [.none, .none, .none]) = (fa.isNone && fb.isNone && fc.isNone) := by
            cases fa <;> cases fb <;> cases fc <;> simp [oI, PyData.eqv, PyData.eqvAll]
          apply wp_seq
          apply wp_if (b := fa.isNone && fb.isNone && fc.isNone)
          · rw [← e3]
            apply evt_test
            apply evs_op
            · wtm_at "ev"
            · wtm_at "ev"
            · exact ops_eqD rfl rfl sh3 rfl
          · intro h
            apply wp_ret
            apply EvS.wp
            · wtm_at "ev"
            · refine ⟨rfl, ?_⟩
              rw [h]; rfl
          · intro h0
            rw [h0]
            apply wp_next
            apply wp_seq
            apply wp_asgG
            refine EvS.wp (s := .d (.tuple [oI fa, oI fb, oI fc])) (by wtm_at "evis") ?_
            refine GTo.wp (gto_tup rfl (gtos_cons (gto_name (lt_ble rfl)) (gtos_cons (gto_name (lt_ble rfl)) (gtos_cons (gto_name (lt_ble rfl)) gtos_nil)))) ?_
            apply wp_seq
            apply wp_if (b := !leO fa fb)
            · cases fa with
              | none =>
                apply evt_and0
                · wtm_at "ev"
                · rfl
              | some i =>
                cases fb with
                | none =>
                  have e : (!leO (some i) none) = (true && (false && true)) := rfl
                  rw [e]
                  apply evt_and
                  · wtm_at "ev"
                  · intro _
                    apply evt_and
                    · wtm_at "ev"
                    · intro q; cases q
                | some j =>
                  have e : (!leO (some i) (some j)) = (true && (true && decide (j < i))) := by
                    simp only [leO, Bool.true_and]
                    by_cases q : i ≤ j
                    · rw [decide_eq_true q, decide_eq_false (by omega)]; rfl
                    · rw [decide_eq_false q, decide_eq_true (by omega)]; rfl
                  rw [e]
                  wtm_at "ev"
            · intro h
              apply wp_ret
              apply EvS.wp
              · wtm_at "ev"
              · refine ⟨rfl, ?_⟩
                simp only [Bool.not_eq_true'] at h
                rw [h]; rfl
            · intro h
              simp only [Bool.not_eq_false'] at h
              rw [h]
              apply wp_next
              apply wp_ret
              refine EvS.wp (s := .d (.bool (leO fc fa && leO fc fb))) ?_ ⟨rfl, rfl⟩
              cases fc with
              | none =>
                apply evs_orV1
                · wtm_at "ev"
                · rfl
              | some k =>
                have e : (leO (some k) fa && leO (some k) fb) = (false || (leO (some k) fa && leO (some k) fb)) := (Bool.false_or _).symm
                rw [e]
                apply evs_orV
                · wtm_at "ev"
                · intro _
                  refine evs_is (evs_cb (ss := [.lst ((([fa, fb] : List (Option Int)).map (leO (some k))).map PyData.bool)]) (eva_cons ?_ eva_nil) (all_bls rfl)) (by rw [List.all_map]; simp)
                  rw [List.map_map]
                  refine evs_lc (items := [oI fa, oI fb]) (evi_seqT (by wtm_at "evis")) (gvs_name (by decide)) (sz' (Nat.le_of_ble_eq_true rfl)) ?_
                  refine lcp_all (enc := oI) (xs := [fa, fb]) (f := fun o => PyData.bool (leO (some k) o)) fun o ho => ⟨_, gto_name (lt_ble rfl), ?_⟩
                  cases o with
                  | none =>
                    apply evs_orV1
                    · wtm_at "ev"
                    · rfl
                  | some i =>
                    have e : leO (some k) (some i) = (false || decide (i ≥ k)) := (Bool.false_or _).symm
                    rw [e]
                    apply evs_orV
                    · wtm_at "ev"
                    · intro _; wtm_at "ev"
    · rw [isPerson_len h4]
      apply wp_if (b := true)
      · have e : true = (false || (true || true)) := rfl
        rw [e]
        apply evt_or
        · wtm_at "evtis"
        · intro _
          apply evt_or
          · apply evt_test
            refine evs_is (x := .d (.bool (!PyData.eqv (.int ds.length) (.int 4)))) ?_ (congrArg (fun q => Sl.d (.bool (!q))) ((eqv_int _ _).trans (decide_eq_false (by omega))))
            apply evs_op
            · wtm_at "ev"
            · wtm_at "ev"
            · exact ops_neD rfl rfl (sh_int _) (sh_int _)
          · intro q; cases q
      · intro h
        apply wp_ret
        apply EvS.wp
        · wtm_at "ev"
        · exact ⟨rfl, rfl⟩
      · intro h; cases h
  | _ =>
    apply wp_if (b := true)
    · apply evt_or1
      · wtm_at "ev"
      · rfl
    · intro h
      apply wp_ret
      apply EvS.wp
      · wtm_at "ev"
      · exact ⟨rfl, rfl⟩
    · intro h
      cases h
theorem cl_is_person {F : Fx} {Γ : List Sl} {t : TA} {E : XK} {d : PyData} (h : EvA F t Γ [.d d]) (h1 : shortP d) : EvS F (tCall (spP F.K con_is_person) [] E t) Γ (.d (.bool (isPersonB d))) :=
  evs_call (c := con_is_person) d h rfl h1 (fun _ h => h) fun _ h => h
local macro_rules
  | `(tactic| wtm_at "call") => `(tactic| ((with_reducible apply cl_is_person); wtm_at "ev"; first | assumption | exact trivial))

/-! ### is_seen -/
def shortSeen : PyData → Prop
  | .tuple ds => ∀ e ∈ ds, shortP e
  | _ => True
theorem shortSeen_enc {ps : List Per} (h : ∀ p ∈ ps, p.ok = true) : shortSeen (encSeen ps) := fun e he => by
  obtain ⟨p, hp, rfl⟩ := List.mem_map.mp he
  exact shortP_enc (h p hp)
abbrev con_is_seen : Con := { α := PyData, args := fun a => [.d a], pre := fun a => shortSeen a, post := fun a r => r = .d (.bool (isSeenB a)) }
theorem ok_is_seen (T : Tx K mg) : FnOk P w K mg base CX0 (2 + 1) (He.ga K "is_seen") T.fd_is_seen ["value"] (spP K con_is_seen) := by
  refine fn_ok T.F_is_seen sc_is_seen con_is_seen (fun _ _ => rfl) (by decide) (fun _ _ h => h) fun cdv A outer s H E hr => ⟨_, (pss_cons (ps_if (PW.pt (pw_or (pt_not (pt_val (pe_callB call_isi (by rfl) T.b_isinstance bt_isinstance (pa_cons (pv 0) (pa_cons (pe_bltn (v := .ty "tuple") (by rfl) T.b_tuple bt_tuple rfl) pa_nil))))) (pw_or (pt_cmpR op_gt (pe_callB call_lenG (by rfl) T.b_len bt_len (pa_cons (pv 0) pa_nil)) (pe_glob (v := .int 12) (by rfl) T.c_MAX_SEEN.choose_spec ⟨_, rfl⟩) (nomark _)) (pw_or1 (pt_not (pt_val (pe_callB (cr_all rfl) (by rfl) T.b_all bt_all (pa_cons (pe_lc (own := [("one", 1)]) rfl sc_is_seen.nd (pi_seq (pv 0)) (blkOk_by (own := [("one", 1)]) (N := ["value", "one"]) (sc := defScope s_is_seen) (by decide +kernel)) (fun _ _ _ _ _ => (pg_name (i := 1) sc_is_seen.nd rfl (.inl rfl))) (fun _ _ _ _ _ => pts_nil) (fun _ _ _ _ _ => (pe_call (ok_is_person T) (hr.mono (by decide)) (by rfl) T.g_is_person T.F_is_person.kp (bi_is_person T) .nil pass0 (pa_cons (pv 1) pa_nil)))) pa_nil))))))))
        (pss_one (ps_ret pe_bl))
        pss_nil)
      (pss_one (ps_ret (pe_cmpR (op_eqD hr.units) (pe_callB cr_lenK (by rfl) T.b_len bt_len (pa_cons (pe_callTy (cr_setKs rfl) (by rfl) T.b_set bt_set (pa_cons (pe_lc (own := [("one", 1)]) rfl sc_is_seen.nd (pi_seq (pv 0)) (blkOk_by (own := [("one", 1)]) (N := ["value", "one"]) (sc := defScope s_is_seen) (by decide +kernel)) (fun _ _ _ _ _ => (pg_name (i := 1) sc_is_seen.nd rfl (.inl rfl))) (fun _ _ _ _ _ => pts_nil) (fun _ _ _ _ _ => (pe_ix (ixK rIx K ix_seq) (pv 1) pe_int (fun _ _ => rfl)))) pa_nil)) pa_nil)) (pe_callB call_lenG (by rfl) T.b_len bt_len (pa_cons (pv 0) pa_nil)) (nomark _))))), ?_⟩
  rintro B S0 E px d hd
  dsimp only [L2.cxOf, L2.Cx.nox, L2.Cx.wish] at hd ⊢
  apply wp_seq
  cases d with
  | tuple ds =>
    apply wp_if (b := (decide ((ds.length : Int) > 12) || !ds.all isPersonB))
    · have e : (decide ((ds.length : Int) > 12) || !ds.all isPersonB) = (false || (decide ((ds.length : Int) > 12) || !ds.all isPersonB)) := (Bool.false_or _).symm
      rw [e]
      apply evt_or
      · wtm_at "evtis"
      · intro _
        apply evt_or
        · wtm_at "ev"
        · intro h
          rw [decide_eq_false_iff_not] at h
          apply evt_not
          apply evt_B
          refine evs_is (evs_cb (ss := [.lst ((ds.map isPersonB).map PyData.bool)]) (eva_cons ?_ eva_nil) (all_bls rfl)) (by rw [List.all_map]; rfl)
          rw [List.map_map]
          refine evs_lc (items := ds) (evi_seqT (by wtm_at "ev")) (gvs_name (by decide)) (sz' (by omega)) ?_
          refine lcp_ds fun d hd' => ?_
          have hs := hd d hd'
          refine ⟨_, gto_name (lt_ble rfl), ?_⟩
          wtm_at "evis"
    · intro h
      apply wp_ret
      apply EvS.wp
      · wtm_at "ev"
      · refine ⟨rfl, ?_⟩
        have : isSeenB (.tuple ds) = false := by
          rw [Bool.or_eq_true, decide_eq_true_eq] at h
          simp only [isSeenB]
          rcases h with h | h
          · rw [decide_eq_false (by omega)]; rfl
          · simp only [Bool.not_eq_true'] at h
            rw [h, Bool.and_false]; rfl
        rw [this]
    · intro h
      rw [Bool.or_eq_false_iff, decide_eq_false_iff_not, Bool.not_eq_false'] at h
      apply wp_next
      obtain ⟨ps, rfl, hp⟩ := pers_of h.2
      have hl : ps.length ≤ 12 := by have := h.1; rw [List.length_map] at this; omega
      apply wp_ret
      apply EvS.wp
      · apply evs_op
        · refine evs_lenSetS (x := .lst ((ps.map Per.name).map PyData.str)) ?_ rfl (by rw [List.length_map]; omega)
          rw [List.map_map]
          refine evs_lc (items := ps.map Per.enc) (evi_seqT (by wtm_at "ev")) (gvs_name (by decide)) (sz' (by rw [List.length_map]; omega)) ?_
          refine lcp_all (f := fun p : Per => PyData.str p.name) fun p _ => ⟨_, gto_name (lt_ble rfl), ?_⟩
          apply evs_op
          · wtm_at "ev"
          · wtm_at "ev"
          · exact ix_at rfl rfl
        · wtm_at "ev"
        · exact ops_eqD rfl rfl (sh_int _) (sh_int _)
      · refine ⟨rfl, ?_⟩
        rw [eqv_int]
        show Sl.d _ = Sl.d (.bool (isSeenB (.tuple (ps.map Per.enc))))
        simp only [isSeenB, h.2, List.length_map, namesOf_enc]
        rw [decide_eq_true hl]
        simp only [Bool.true_and, Int.natCast_inj]
  | _ =>
    apply wp_if (b := true)
    · apply evt_or1
      · wtm_at "ev"
      · rfl
    · intro h
      apply wp_ret
      apply EvS.wp
      · wtm_at "ev"
      · exact ⟨rfl, rfl⟩
    · intro h
      cases h
theorem cl_is_seen {F : Fx} {Γ : List Sl} {t : TA} {E : XK} {d : PyData} (h : EvA F t Γ [.d d]) (h1 : shortSeen d) : EvS F (tCall (spP F.K con_is_seen) [] E t) Γ (.d (.bool (isSeenB d))) :=
  evs_call (c := con_is_seen) d h rfl h1 (fun _ h => h) fun _ h => h
local macro_rules
  | `(tactic| wtm_at "call") => `(tactic| ((with_reducible apply cl_is_seen); wtm_at "ev"; first | assumption | exact trivial))

/-! ### require_size, of sizes -/
theorem size_ok {n : Nat} (h1 : 1 ≤ n) (h2 : n ≤ 30) : isIntB (.int (n : Int)) 1 30 = true := by
  show (decide (1 ≤ (n : Int)) && decide ((n : Int) ≤ 30)) = true
  rw [decide_eq_true (by omega), decide_eq_true (by omega)]; rfl
abbrev con_require_size : Con := { α := PyData, args := fun a => [.d a], pre := fun a => isIntB a 1 30 = true, post := fun a r => r = .d .none }
theorem ok_require_size (T : Tx K mg) : FnOk P w K mg base CX0 (1 + 1) (He.ga K "require_size") T.fd_require_size ["value"] (spP K con_require_size) := by
  refine fn_ok T.F_require_size sc_require_size con_require_size (fun _ _ => rfl) (by decide) (fun _ _ h => h) fun cdv A outer s H E hr => ⟨_, (pss_one (ps_if (pt_not (pt_val (pe_call (ok_is_integer T) (hr.mono (by decide)) (by rfl) T.g_is_integer T.F_is_integer.kp (bi_is_integer T) .nil pass0 (pa_cons (pv 0) (pa_cons pe_int (pa_cons (pe_glob (v := .int 30) (by rfl) T.c_MAX_SIZE.choose_spec ⟨_, rfl⟩) pa_nil))))))
        (pss_one ps_never)
        pss_nil)), ?_⟩
  intro B S0 E px d hd
  dsimp only [L2.cxOf, L2.Cx.nox, L2.Cx.wish]
  apply wp_if
  · wtm_at "ev"
  · intro h
    rw [hd] at h
    cases h
  · intro _
    apply wp_next
    rfl
theorem cl_require_size {F : Fx} {Γ : List Sl} {t : TA} {E : XK} {d : PyData} (h : EvA F t Γ [.d d]) (hd : isIntB d 1 30 = true) : EvS F (tCall (spP F.K con_require_size) [] E t) Γ (.d .none) :=
  evs_call (c := con_require_size) d h rfl hd (fun _ h => h) fun _ h => h
local macro_rules
  | `(tactic| wtm_at "call") => `(tactic| ((with_reducible apply cl_require_size); wtm_at "ev"; assumption))

/-! ### require_seen, of what can be seen -/
abbrev con_require_seen : Con := { α := PyData, args := fun a => [.d a], pre := fun a => shortSeen a ∧ isSeenB a = true, post := fun a r => r = .d .none }
theorem ok_require_seen (T : Tx K mg) : FnOk P w K mg base CX0 (3 + 1) (He.ga K "require_seen") T.fd_require_seen ["value"] (spP K con_require_seen) := by
  refine fn_ok T.F_require_seen sc_require_seen con_require_seen (fun _ _ => rfl) (by decide) (fun _ _ h => h) fun cdv A outer s H E hr => ⟨_, (pss_one (ps_if (pt_not (pt_val (pe_call (ok_is_seen T) (hr.mono (by decide)) (by rfl) T.g_is_seen T.F_is_seen.kp (bi_is_seen T) .nil pass0 (pa_cons (pv 0) pa_nil))))
        (pss_one ps_never)
        pss_nil)), ?_⟩
  rintro B S0 E px d ⟨hs, hd⟩
  dsimp only [L2.cxOf, L2.Cx.nox, L2.Cx.wish] at hs hd ⊢
  apply wp_if
  · wtm_at "ev"
  · intro h
    rw [hd] at h
    cases h
  · intro _
    apply wp_next
    rfl
theorem cl_require_seen {F : Fx} {Γ : List Sl} {t : TA} {E : XK} {ps : List Per} (h : EvA F t Γ [.d (encSeen ps)]) (hd : SeenOk ps) : EvS F (tCall (spP F.K con_require_seen) [] E t) Γ (.d .none) :=
  evs_call (c := con_require_seen) (encSeen ps) h rfl ⟨shortSeen_enc hd.ok, isSeen_enc.mpr hd⟩ (fun _ h => h) fun _ h => h
local macro_rules
  | `(tactic| wtm_at "call") => `(tactic| ((with_reducible apply cl_require_seen); wtm_at "ev"; assumption))

/-! ### members -/
def Per.hits (b e k : Int) (p : Per) : Bool := decide (p.first = some b) || (decide (p.last = some e) || decide (p.dense = some k))
def inO (o : Option Int) (i : Int) : Bool := decide (o = none) || decide (o = some i)
def Per.agrees (b e k : Int) (p : Per) : Bool := inO p.first b && (inO p.last e && inO p.dense k)
def Per.inside (b e : Int) (p : Per) : Bool := (match p.first with | some f => decide (b < f) && decide (f ≤ e) | none => false) || (match p.last with | some l => decide (b ≤ l) && decide (l < e) | none => false)
def Per.fine (b e k : Int) (p : Per) : Bool := if p.hits b e k then p.agrees b e k else !p.inside b e
def hitsOf (b e k : Int) (ps : List Per) : List Str := (ps.filter (Per.hits b e k)).map Per.name
/-- who is in the group from b to e, the k-th; none: it can't be one -/
def memb (b e k : Int) (ps : List Per) : Option (List Str) := if ps.all (Per.fine b e k) = true ∧ ((hitsOf b e k ps).length : Int) ≤ e - b + 1 then some (hitsOf b e k ps) else none
def membS : Option (List Str) → Sl
  | some ns => .lst (ns.map PyData.str)
  | none => .d .none
theorem memb_bad {b e k : Int} {done rest : List Per} {p : Per} (h : p.fine b e k = false) : memb b e k (done ++ p :: rest) = none := by
  unfold memb
  rw [if_neg]
  rintro ⟨h1, _⟩
  rw [List.all_eq_true] at h1
  have := h1 p (by simp)
  rw [h] at this
  cases this
theorem hits_snoc {b e k : Int} {done : List Per} {p : Per} : hitsOf b e k (done ++ [p]) = if p.hits b e k = true then hitsOf b e k done ++ [p.name] else hitsOf b e k done := by
  unfold hitsOf
  rw [List.filter_append, List.map_append]
  by_cases h : p.hits b e k = true
  · rw [if_pos h, List.filter_cons, if_pos h]; rfl
  · rw [if_neg h, List.filter_cons, if_neg h]; simp
abbrev con_members : Con := { α := List Per × Int × Int × Int, args := fun a => [.d (encSeen a.1), .d (.int a.2.1), .d (.int a.2.2.1), .d (.int a.2.2.2)], pre := fun a => a.1.length ≤ 1000, post := fun a r => r = membS (memb a.2.1 a.2.2.1 a.2.2.2 a.1) }
theorem eqv_oi (o : Option Int) (i : Int) : PyData.eqv (oI o) (.int i) = decide (o = some i) := eqv_oI o (some i)
theorem any_no (o : Option Int) (i : Int) : ([PyData.none, PyData.int i].any fun z => PyData.eqv z (oI o)) = inO o i := by
  show (PyData.eqv (oI none) (oI o) || (PyData.eqv (oI (some i)) (oI o) || false)) = _
  rw [eqv_oI, eqv_oI, Bool.or_false]
  unfold inO
  congr 1 <;> exact decide_eq_decide.mpr eq_comm
theorem ok_members (T : Tx K mg) : FnOk P w K mg base CX0 (0 + 1) (He.ga K "members") T.fd_members ["seen", "begin", "end", "number"] (spP K con_members) := by
  refine fn_ok T.F_members sc_members con_members (fun _ _ => rfl) (by decide) (fun _ _ h => h) fun cdv A outer s H E hr => ⟨_, (pss_cons (ps_set (i := 4) sc_members.nd rfl (.inl rfl) (pe_lst pa_nil))
      (pss_cons (ps_for PassesOwn.never rfl (pi_seq (pv 0)) (pg_name (i := 5) sc_members.nd rfl (.inl rfl))
        (pss_cons (ps_asg (pv 5) (pg_tup (by rfl) (pgs_cons (pg_name (i := 6) sc_members.nd rfl (.inl rfl)) (pgs_cons (pg_name (i := 7) sc_members.nd rfl (.inl rfl)) (pgs_cons (pg_name (i := 8) sc_members.nd rfl (.inl rfl)) (pgs_cons (pg_name (i := 9) sc_members.nd rfl (.inl rfl)) pgs_nil))))))
        (pss_one (ps_if (PW.pt (pw_or (pt_cmpR (op_eqD hr.units) (pv 7) (pv 1) (nomark _)) (pw_or (pt_cmpR (op_eqD hr.units) (pv 8) (pv 2) (nomark _)) (pw_or1 (pt_cmpR (op_eqD hr.units) (pv 9) (pv 3) (nomark _))))))
          (pss_cons (ps_if (PW.pt (pw_or (pt_cmpR op_notin_G (pv 7) (pe_tup (pa_cons pe_non (pa_cons (pv 1) pa_nil))) (by with_unfolding_all rfl)) (pw_or (pt_cmpR op_notin_G (pv 8) (pe_tup (pa_cons pe_non (pa_cons (pv 2) pa_nil))) (by with_unfolding_all rfl)) (pw_or1 (pt_cmpR op_notin_G (pv 9) (pe_tup (pa_cons pe_non (pa_cons (pv 3) pa_nil))) (by with_unfolding_all rfl))))))
            (pss_one (ps_ret pe_non))
            pss_nil)
          (pss_one (ps_expr (pe_bm PySem.F.plainAttrs_list PySem.F.slot_list_append PySem.F.type_list_append mt_append (pv 4) (pa_cons (pv 6) pa_nil)))))
          (pss_one (ps_if (PW.pt (pw_or (PW.pt (pw_and (pt_cmpR op_notN (pv 7) pe_non (nomark _)) (pw_and1 (pt_chain op_lt op_le (pv 1) (pv 7) (pv 2))))) (pw_or1 (PW.pt (pw_and (pt_cmpR op_notN (pv 8) pe_non (nomark _)) (pw_and1 (pt_chain op_le op_lt (pv 1) (pv 8) (pv 2))))))))
            (pss_one (ps_ret pe_non))
            pss_nil))))))
      (pss_one (ps_ret (pe_ifExp (pt_cmpR op_le (pe_callB call_lenG (by rfl) T.b_len bt_len (pa_cons (pv 4) pa_nil)) (pe_op op_addG (pe_op op_sub (pv 2) (pv 1)) pe_int) (nomark _)) (pv 4) pe_non))))), ?_⟩
  rintro B S0 E px ⟨ps, b, e, k⟩ hl
  dsimp only [L2.cxOf, L2.Cx.nox, L2.Cx.wish] at hl ⊢
  apply wp_seq
  apply wp_asg
  · wtm_at "ev"
  · exact lt_ble rfl
  · rfl
  apply wp_seq
  apply wp_forI
  · apply evi_seqT
    wtm_at "ev"
  refine forW_map (enc := Per.enc) (xs := ps) (fun i rest Γ => ∃ done g5 g6 g7 g8 g9, ps = done ++ rest ∧ done.all (Per.fine b e k) = true ∧ Γ = [.d (encSeen ps), .d (.int b), .d (.int e), .d (.int k), .lst ((hitsOf b e k done).map PyData.str), g5, g6, g7, g8, g9]) ⟨[], _, _, _, _, _, rfl, rfl, rfl⟩ ?_ ?_
  · rintro i p rest Γ ⟨done, g5, g6, g7, g8, g9, er, hd, rfl⟩
    refine GTo.wp (gto_name (lt_ble rfl)) ?_
    apply wp_seq
    apply wp_asgG
    refine EvS.wp (s := .d (.tuple [.str p.name, oI p.first, oI p.last, oI p.dense])) (by wtm_at "evis") ?_
    refine GTo.wp (gto_tup rfl (gtos_cons (gto_name (lt_ble rfl)) (gtos_cons (gto_name (lt_ble rfl)) (gtos_cons (gto_name (lt_ble rfl)) (gtos_cons (gto_name (lt_ble rfl)) gtos_nil))))) ?_
    have s1 := sh_oI p.first
    have s2 := sh_oI p.last
    have s3 := sh_oI p.dense
    have bad : p.fine b e k = false → Sl.d .none = membS (memb b e k ps) := fun h => by rw [er, memb_bad h]; rfl
    have hlen : (hitsOf b e k done).length ≤ 1000 := by
      unfold hitsOf
      rw [List.length_map]
      have h1 := List.length_filter_le (Per.hits b e k) done
      have h2 : ps.length = done.length + (rest.length + 1) := by rw [er, List.length_append]; rfl
      omega
    apply wp_if (b := p.hits b e k)
    · have q : ∀ {te : TE} {o : Option Int} {j : Int} {Γ : List Sl} {F : Fx}, EvT F (tTest te) Γ (PyData.eqv (oI o) (.int j)) → EvT F (tTest te) Γ (decide (o = some j)) := fun h => by rwa [eqv_oi] at h
      apply evt_or
      · apply q
        wtm_at "ev"
      · intro _
        apply evt_or
        · apply q
          wtm_at "ev"
        · intro _
          apply q
          wtm_at "ev"
    · intro hh
      apply wp_seq
      apply wp_if (b := !p.agrees b e k)
      · have q : ∀ {te : TE} {o : Option Int} {j : Int} {Γ : List Sl} {F : Fx}, EvT F (tTest te) Γ (!([PyData.none, PyData.int j].any fun z => PyData.eqv z (oI o))) → EvT F (tTest te) Γ (!inO o j) := fun h => by rwa [any_no] at h
        have en : (!p.agrees b e k) = (!inO p.first b || (!inO p.last e || !inO p.dense k)) := by unfold Per.agrees; rw [Bool.not_and, Bool.not_and]
        rw [en]
        apply evt_or
        · apply q
          apply evt_test
          apply evs_op
          · wtm_at "ev"
          · wtm_at "ev"
          · exact notin_G (notin_seq rfl (flat_oI _) rfl)
        · intro _
          apply evt_or
          · apply q
            apply evt_test
            apply evs_op
            · wtm_at "ev"
            · wtm_at "ev"
            · exact notin_G (notin_seq rfl (flat_oI _) rfl)
          · intro _
            apply q
            apply evt_test
            apply evs_op
            · wtm_at "ev"
            · wtm_at "ev"
            · exact notin_G (notin_seq rfl (flat_oI _) rfl)
      · intro h
        apply wp_ret
        apply EvS.wp
        · wtm_at "ev"
        · refine ⟨rfl, bad ?_⟩
          unfold Per.fine
          rw [if_pos hh]
          simpa using h
      · intro h
        apply wp_next
        apply wp_append (s0 := .lst ((hitsOf b e k done).map PyData.str)) rfl rfl (by wtm_at "ev") (sz' (by rw [List.length_map]; omega))
        refine ⟨done ++ [p], .d p.enc, .d (.str p.name), .d (oI p.first), .d (oI p.last), .d (oI p.dense), by rw [er, List.append_assoc]; rfl, ?_, ?_⟩
        · rw [List.all_append, hd, Bool.true_and, List.all_cons, List.all_nil, Bool.and_true]
          unfold Per.fine
          rw [if_pos hh]
          simpa using h
        · rw [hits_snoc, if_pos hh, List.map_append]; rfl
    · intro hh
      apply wp_if (b := p.inside b e)
      · unfold Per.inside
        apply evt_or
        · cases hf : p.first with
          | none =>
            apply evt_and0
            · wtm_at "ev"
            · rfl
          | some f =>
            refine evt_is (b := true && (decide (b < f) && decide (f ≤ e))) ?_ rfl
            apply evt_and
            · wtm_at "evtis"
            · intro _
              wtm_at "ev"
        · intro _
          cases hf : p.last with
          | none =>
            apply evt_and0
            · wtm_at "ev"
            · rfl
          | some f =>
            refine evt_is (b := true && (decide (b ≤ f) && decide (f < e))) ?_ rfl
            apply evt_and
            · wtm_at "evtis"
            · intro _
              wtm_at "ev"
      · intro h
        apply wp_ret
        apply EvS.wp
        · wtm_at "ev"
        · refine ⟨rfl, bad ?_⟩
          unfold Per.fine
          rw [if_neg (by rw [hh]; exact Bool.false_ne_true), h]; rfl
      · intro h
        apply wp_next
        refine ⟨done ++ [p], .d p.enc, .d (.str p.name), .d (oI p.first), .d (oI p.last), .d (oI p.dense), by rw [er, List.append_assoc]; rfl, ?_, ?_⟩
        · rw [List.all_append, hd, Bool.true_and, List.all_cons, List.all_nil, Bool.and_true]
          unfold Per.fine
          rw [if_neg (by rw [hh]; exact Bool.false_ne_true), h]; rfl
        · rw [hits_snoc, if_neg (by rw [hh]; exact Bool.false_ne_true)]; rfl
  · rintro i Γ ⟨done, g5, g6, g7, g8, g9, er, hd, rfl⟩
    rw [List.append_nil] at er
    subst er
    have hlen : (hitsOf b e k ps).length ≤ 1000 := by
      unfold hitsOf
      rw [List.length_map]
      have h1 := List.length_filter_le (Per.hits b e k) ps
      omega
    apply wp_retIf (b := decide (((hitsOf b e k ps).length : Int) ≤ e - b + 1))
    · have q : (((hitsOf b e k ps).map PyData.str).length : Int) = ((hitsOf b e k ps).length : Int) := by rw [List.length_map]
      rw [← q]
      wtm_at "ev"
    · intro h
      rw [decide_eq_true_eq] at h
      apply wp_retOwn rfl
      refine ⟨rfl, ?_⟩
      show _ = membS (memb b e k ps)
      unfold memb
      rw [if_pos ⟨hd, h⟩]; rfl
    · intro h
      rw [decide_eq_false_iff_not] at h
      apply wp_ret
      apply EvS.wp
      · wtm_at "ev"
      · refine ⟨rfl, ?_⟩
        show _ = membS (memb b e k ps)
        unfold memb
        rw [if_neg fun q => h q.2]; rfl
theorem cl_members {F : Fx} {Γ : List Sl} {t : TA} {E : XK} {ps : List Per} {b e k : Int} (h : EvA F t Γ [.d (encSeen ps), .d (.int b), .d (.int e), .d (.int k)]) (h1 : ps.length ≤ 1000) : EvS F (tCall (spP F.K con_members) [] E t) Γ (membS (memb b e k ps)) :=
  evs_call (c := con_members) (ps, b, e, k) h rfl h1 (fun _ h => h) fun _ h => h

/-! ### ways -/
section
variable {κ : Type} [DecidableEq κ]
theorem valD_nil (k : κ) : valD ([] : List (κ × PyData)) k = none := rfl
theorem valD_cons (a : κ) (v : PyData) (kvs : List (κ × PyData)) (k : κ) : valD ((a, v) :: kvs) k = if a = k then some v else valD kvs k := by
  unfold valD
  rw [List.find?_cons]
  by_cases h : a = k
  · simp [h]
  · simp [h]
theorem valD_app : ∀ (kvs : List (κ × PyData)) (a : κ) (v : PyData) (k : κ), valD (kvs ++ [(a, v)]) k = match valD kvs k with | some u => some u | none => if a = k then some v else none
  | [], a, v, k => by rw [List.nil_append, valD_cons, valD_nil]
  | (b, w) :: kvs, a, v, k => by
    rw [List.cons_append, valD_cons, valD_cons, valD_app kvs a v k]
    by_cases h : b = k
    · rw [if_pos h, if_pos h]
    · rw [if_neg h, if_neg h]
theorem valD_map (k : κ) (v : PyData) (k' : κ) : ∀ kvs : List (κ × PyData), valD (kvs.map fun kv => if kv.1 = k then (kv.1, v) else kv) k' = if k' = k then (valD kvs k').map fun _ => v else valD kvs k'
  | [] => by rw [List.map_nil, valD_nil]; split <;> rfl
  | (a, w) :: kvs => by
    rw [List.map_cons]
    by_cases ha : a = k
    · subst ha
      simp only [if_true]
      rw [valD_cons, valD_cons, valD_map a v k' kvs]
      by_cases h : a = k'
      · subst h; simp
      · have h' : ¬ k' = a := fun e => h e.symm
        simp [h, h']
    · simp only [ha, if_false]
      rw [valD_cons, valD_cons, valD_map k v k' kvs]
      by_cases h : a = k'
      · subst h; simp [ha]
      · simp [h]
theorem valD_any (k : κ) : ∀ kvs : List (κ × PyData), (kvs.any fun kv => decide (kv.1 = k)) = (valD kvs k).isSome
  | [] => rfl
  | (a, w) :: kvs => by
    rw [List.any_cons, valD_cons, valD_any k kvs]
    by_cases h : a = k
    · simp [h]
    · simp [h]
theorem valD_put (kvs : List (κ × PyData)) (k : κ) (v : PyData) (k' : κ) : valD (putD kvs k v) k' = if k' = k then some v else valD kvs k' := by
  unfold putD
  rw [valD_any]
  by_cases ha : (valD kvs k).isSome = true
  · rw [if_pos ha, valD_map]
    by_cases h : k' = k
    · subst h
      rw [if_pos rfl, if_pos rfl]
      cases q : valD kvs k' with
      | none => rw [q] at ha; cases ha
      | some u => rfl
    · rw [if_neg h, if_neg h]
  · rw [if_neg ha, valD_app]
    have hn : valD kvs k = none := by cases q : valD kvs k with | none => rfl | some u => rw [q] at ha; exact absurd rfl ha
    by_cases h : k' = k
    · subst h; simp only [hn, if_true]
    · rw [if_neg h]
      have h' : ¬ k = k' := fun e => h e.symm
      cases valD kvs k' with
      | none => simp [h']
      | some u => rfl
theorem putD_len (kvs : List (κ × PyData)) (k : κ) (v : PyData) : (putD kvs k v).length ≤ kvs.length + 1 := by
  unfold putD
  split
  · rw [List.length_map]; omega
  · rw [List.length_append]; simp
end
abbrev KV : Type := List (List Key × PyData)
def key2 (a b : Int) : List Key := [.inl a, .inl b]
theorem key2_inj {a b c d : Int} : key2 a b = key2 c d ↔ a = c ∧ b = d := by simp [key2]
/-- the ways on from a place with m places left, the next group the k-th -/
def wayR (ok : Int → Int → Int → Bool) (fin : Int → Int) (n : Int) (m : Nat) (k : Int) : Int := match m with
  | 0 => fin k
  | m + 1 => ((List.range (m + 1)).attach.map fun j => if ok (n - m) (n - m + (j.1 : Int)) k then wayR ok fin n (m - j.1) (k + 1) else 0).sum
termination_by m
decreasing_by have := List.mem_range.mp j.2; omega
theorem wayR_zero (ok : Int → Int → Int → Bool) (fin : Int → Int) (n k : Int) : wayR ok fin n 0 k = fin k := by rw [wayR]
theorem wayR_succ (ok : Int → Int → Int → Bool) (fin : Int → Int) (n : Int) (m : Nat) (k : Int) : wayR ok fin n (m + 1) k = ((List.range (m + 1)).map fun j : Nat => if ok (n - m) (n - m + (j : Int)) k then wayR ok fin n (m - j) (k + 1) else 0).sum := by
  rw [wayR]
  have e : ((List.range (m + 1)).attach.map ((fun j : Nat => if ok (n - m) (n - m + (j : Int)) k then wayR ok fin n (m - j) (k + 1) else 0) ∘ Subtype.val)) = (List.range (m + 1)).map fun j : Nat => if ok (n - m) (n - m + (j : Int)) k then wayR ok fin n (m - j) (k + 1) else 0 := by
    rw [← List.map_map, List.attach_map_subtype_val]
  exact congrArg List.sum e
theorem sum_nonneg0 : ∀ {ns : List Int}, (∀ n ∈ ns, 0 ≤ n) → 0 ≤ ns.sum
  | [], _ => by simp
  | n :: ns, h => by
    have := sum_nonneg0 (ns := ns) fun m hm => h m (by simp [hm])
    have := h n (by simp)
    rw [List.sum_cons]; omega
theorem wayR_nonneg {ok : Int → Int → Int → Bool} {fin : Int → Int} {n : Int} (hf : ∀ k, 0 ≤ fin k) : ∀ (m : Nat) (k : Int), 0 ≤ wayR ok fin n m k := by
  intro m
  induction m using Nat.strongRecOn with
  | ind m ih =>
    intro k
    cases m with
    | zero => rw [wayR_zero]; exact hf k
    | succ m =>
      rw [wayR_succ]
      refine sum_nonneg0 fun x hx => ?_
      obtain ⟨j, hj, rfl⟩ := List.mem_map.mp hx
      split
      · exact ih (m - j) (by omega) _
      · exact Int.le_refl _
def wd0 (fin : Int → Int) (n : Int) : Nat → KV
  | 0 => []
  | j + 1 => putD (wd0 fin n j) (key2 (n + 1) (j + 2)) (.int (fin (j + 2)))
def wdI (way : Nat → Int → Int) (base : KV) (b : Int) (i : Nat) : Nat → KV
  | 0 => base
  | k + 1 => putD (wdI way base b i k) (key2 b (k + 1)) (.int (way (i + 1) (k + 1)))
def wd (fin : Int → Int) (way : Nat → Int → Int) (n : Nat) : Nat → KV
  | 0 => wd0 fin n n
  | i + 1 => wdI way (wd fin way n i) ((n : Int) - i) i (n - i)
section
variable {fin : Int → Int} {way : Nat → Int → Int} {n : Nat}
theorem wd0_at {N : Int} {j : Nat} : ∀ {i : Nat}, i < j → valD (wd0 fin N j) (key2 (N + 1) (i + 2)) = some (.int (fin (i + 2))) := by
  induction j with
  | zero => intro i h; omega
  | succ j ih =>
    intro i h
    rw [wd0, valD_put]
    by_cases e : i = j
    · subst e; rw [if_pos rfl]
    · rw [if_neg (fun q => e (by have := (key2_inj.mp q).2; omega))]
      exact ih (by omega)
theorem wd0_len {N : Int} (j : Nat) : (wd0 fin N j).length ≤ j := by
  induction j with
  | zero => exact Nat.le_refl _
  | succ j ih => exact Nat.le_trans (putD_len _ _ _) (by omega)
theorem wdI_other {base : KV} {b : Int} {i : Nat} {a c : Int} (h : a ≠ b) (j : Nat) : valD (wdI way base b i j) (key2 a c) = valD base (key2 a c) := by
  induction j with
  | zero => rfl
  | succ j ih => rw [wdI, valD_put, if_neg (fun q => h (key2_inj.mp q).1), ih]
theorem wdI_at {base : KV} {b : Int} {i j : Nat} : ∀ {k : Nat}, k < j → valD (wdI way base b i j) (key2 b (k + 1)) = some (.int (way (i + 1) (k + 1))) := by
  induction j with
  | zero => intro i h; omega
  | succ j ih =>
    intro k h
    rw [wdI, valD_put]
    by_cases e : k = j
    · subst e; rw [if_pos rfl]
    · rw [if_neg (fun q => e (by have := (key2_inj.mp q).2; omega))]
      exact ih (by omega)
theorem wdI_len {base : KV} {b : Int} {i : Nat} (j : Nat) : (wdI way base b i j).length ≤ base.length + j := by
  induction j with
  | zero => exact Nat.le_refl _
  | succ j ih => exact Nat.le_trans (putD_len _ _ _) (by omega)
theorem wd_len (i : Nat) : (wd fin way n i).length ≤ n + i * n := by
  induction i with
  | zero => exact Nat.le_trans (wd0_len n) (by omega)
  | succ i ih =>
    refine Nat.le_trans (wdI_len _) ?_
    rw [Nat.succ_mul]; omega
theorem wd_end {i : Nat} : ∀ {j : Nat}, j < n → valD (wd fin way n i) (key2 ((n : Int) + 1) (j + 2)) = some (.int (fin (j + 2))) := by
  induction i with
  | zero => intro j h; exact wd0_at h
  | succ i ih => intro j h; rw [wd, wdI_other (by omega)]; exact ih h
theorem wd_at {i : Nat} : ∀ {m k : Nat}, m < i → m < n → k < n - m → valD (wd fin way n i) (key2 ((n : Int) - m) (k + 1)) = some (.int (way (m + 1) (k + 1))) := by
  induction i with
  | zero => intro m k h; omega
  | succ i ih =>
    intro m k h h1 h2
    rw [wd]
    by_cases e : m = i
    · subst e; exact wdI_at h2
    · rw [wdI_other (by omega)]
      exact ih (by omega) h1 h2
end
/-- the places that are seen, the most different ranks -/
def placesOf (ps : List Per) : List Int := (ps.flatMap fun p => [p.first, p.last]).filterMap id
def mostOf (ps : List Per) : Int := maxI (0 :: ps.filterMap Per.dense)
def finB (n : Int) (ps : List Per) (k : Int) : Bool := decide (maxI (0 :: placesOf ps) ≤ n) && decide (mostOf ps ≤ k - 1)
def finW (n : Int) (ps : List Per) (k : Int) : Int := b2n (finB n ps k)
def okG (ps : List Per) (b e k : Int) : Bool := (memb b e k ps).isSome
def wayW (n : Nat) (ps : List Per) (m : Nat) (k : Int) : Int := wayR (okG ps) (finW n ps) n m k
def waysD (n : Nat) (ps : List Per) : KV := wd (finW n ps) (wayW n ps) n n
theorem finW_nonneg (n : Int) (ps : List Per) (k : Int) : 0 ≤ finW n ps k := by unfold finW; cases finB n ps k <;> decide
theorem wayW_nonneg (n : Nat) (ps : List Per) (m : Nat) (k : Int) : 0 ≤ wayW n ps m k := wayR_nonneg (finW_nonneg _ _) m k
/-- what stands for the ways from b on, the k-th group next -/
theorem waysD_at {n : Nat} {ps : List Per} {b k : Int} (h1 : 1 ≤ k) (h2 : k ≤ b) (h3 : b ≤ n) : valD (waysD n ps) (key2 b k) = some (.int (wayW n ps ((n : Int) + 1 - b).toNat k)) := by
  have e := wd_at (fin := finW n ps) (way := wayW n ps) (n := n) (i := n) (m := ((n : Int) - b).toNat) (k := (k - 1).toNat) (by omega) (by omega) (by omega)
  rw [show ((n : Int) - (((n : Int) - b).toNat : Nat)) = b by omega, show (((k - 1).toNat : Nat) : Int) + 1 = k by omega] at e
  rw [waysD, e, show ((n : Int) + 1 - b).toNat = ((n : Int) - b).toNat + 1 by omega]
theorem waysD_end {n : Nat} {ps : List Per} {k : Int} (h1 : 2 ≤ k) (h2 : k ≤ n + 1) : valD (waysD n ps) (key2 ((n : Int) + 1) k) = some (.int (wayW n ps 0 k)) := by
  have e := wd_end (fin := finW n ps) (way := wayW n ps) (n := n) (i := n) (j := (k - 2).toNat) (by omega)
  rw [show (((k - 2).toNat : Nat) : Int) + 2 = k by omega] at e
  rw [waysD, e, wayW, wayR_zero]
theorem places_map (ps : List Per) : ((ps.flatMap fun p => [p.first, p.last]).filter Option.isSome).map oI = (placesOf ps).map PyData.int := by
  unfold placesOf
  induction (ps.flatMap fun p => [p.first, p.last]) with
  | nil => rfl
  | cons o os ih => cases o with
    | none => simpa using ih
    | some i => simpa [oI] using ih
theorem dense_map (ps : List Per) : (ps.filter fun p => p.dense.isSome).map (fun p => oI p.dense) = (ps.filterMap Per.dense).map PyData.int := by
  induction ps with
  | nil => rfl
  | cons p ps ih =>
    rw [List.filter_cons, List.filterMap_cons]
    cases h : p.dense with
    | none => simpa [h] using ih
    | some i => simpa [h, oI] using ih

/-! ### ways_on -/
theorem ops_notM {F : Fx} {o : Option (List Str)} : OpS F (fun x y H Q => y = .non ∧ Q (.bl (!decide (x = .non))) H) (membS o) (.d .none) (.d (.bool o.isSome)) := by
  cases o with
  | none => exact ops_notN (d := .none)
  | some ns =>
    intro z v w Q hz hv hw c
    obtain ⟨a, xs, rfl, _⟩ := hv
    exact ⟨hw.d_none, c _ z (Add.refl z) hz (Dt.bl true) trivial⟩
abbrev con_ways_on : Con := { α := Nat × List Per, args := fun a => [.d (.int (a.1 : Int)), .d (encSeen a.2)], pre := fun a => 1 ≤ a.1 ∧ a.1 ≤ 30 ∧ a.2.length ≤ 1000, post := fun a r => r = .dT (waysD a.1 a.2) }
theorem ok_ways_on (T : Tx K mg) : FnOk P w K mg base CX0 (1 + 1) (He.ga K "ways_on") T.fd_ways_on ["size", "seen"] (spP K con_ways_on) := by
  refine fn_ok T.F_ways_on sc_ways_on con_ways_on (fun _ _ => rfl) (by decide) (fun _ _ h => h) fun cdv A outer s H E hr => ⟨_, (pss_cons (ps_setLc2 (i := 2) (own := [("person", 10), ("rank", 11)]) (vs1 := [11]) rfl sc_ways_on.nd rfl rfl (sw_true rfl rfl rfl (by decide +kernel)) (pi_seq (pv 1)) (blkOk_by (own := [("person", 10), ("rank", 11)]) (N := ["size", "seen", "places", "most", "found", "number", "begin", "total", "end", "behind", "person", "rank"]) (sc := defScope s_ways_on) (by decide +kernel)) (by decide) (fun _ _ _ _ _ => (pg_name (i := 10) sc_ways_on.nd rfl (.inl rfl))) (fun _ _ _ _ _ => pts_nil) (fun _ _ _ _ _ => (piSeqK K (pi_seq (pe_slice (slK rSlG K sl_G) (pv 10) (po_some pe_int) (po_some pe_int))))) (fun _ _ _ _ _ => (pg_name (i := 11) sc_ways_on.nd rfl (.inl rfl))) (fun _ _ _ _ _ => (pts_one (pt_cmpR op_notN (pv 11) pe_non (nomark _)))) (fun _ _ _ _ _ => (pv 11)))
      (pss_cons (ps_set (i := 3) sc_ways_on.nd rfl (.inl rfl) (pe_callB (cr_max rfl) (by rfl) T.b_max bt_max (pa_cons (pe_op op_addG (pe_lst (pa_cons pe_int pa_nil)) (pe_lc (own := [("person", 10)]) rfl sc_ways_on.nd (pi_seq (pv 1)) (blkOk_by (own := [("person", 10)]) (N := ["size", "seen", "places", "most", "found", "number", "begin", "total", "end", "behind", "person", "rank"]) (sc := defScope s_ways_on) (by decide +kernel)) (fun _ _ _ _ _ => (pg_name (i := 10) sc_ways_on.nd rfl (.inl rfl))) (fun _ _ _ _ _ => (pts_one (pt_cmpR op_notN (pe_ix (ixK rIx K ix_seq) (pv 10) pe_int (fun _ _ => rfl)) pe_non (nomark _)))) (fun _ _ _ _ _ => (pe_ix (ixK rIx K ix_seq) (pv 10) pe_int (fun _ _ => rfl))))) pa_nil)))
      (pss_cons (ps_set (i := 4) sc_ways_on.nd rfl (.inl rfl) pe_dnewT)
      (pss_cons (ps_for PassesOwn.never rfl (pi_range2 (by rfl) T.b_range (pa_cons pe_int (pa_cons (pe_op op_addG (pv 0) pe_int) pa_nil))) (pg_name (i := 5) sc_ways_on.nd rfl (.inl rfl))
        (pss_one (ps_asg (pe_callTy call_int1 (by rfl) T.b_int bt_int (pa_cons (pe_and (pe_cmpR op_le (pe_callB (cr_max rfl) (by rfl) T.b_max bt_max (pa_cons (pe_op op_addG (pe_lst (pa_cons pe_int pa_nil)) (pv 2)) pa_nil)) (pv 0) (nomark _)) (pe_one (pe_cmpR op_le (pv 3) (pv 5) (nomark _)))) pa_nil)) (pg_sub (pv 4) (pe_tup (pa_cons (pe_op op_addG (pv 0) pe_int) (pa_cons (pe_op op_addG (pv 5) pe_int) pa_nil))) (set_dict (hu_of hr))))))
      (pss_cons (ps_for PassesOwn.never rfl (pi_range3 (by rfl) T.b_range (pa_cons (pv 0) (pa_cons pe_int (pa_cons (pe_un un_neg pe_int) pa_nil)))) (pg_name (i := 6) sc_ways_on.nd rfl (.inl rfl))
        (pss_one (ps_for PassesOwn.never rfl (pi_range2 (by rfl) T.b_range (pa_cons pe_int (pa_cons (pe_op op_addG (pv 6) pe_int) pa_nil))) (pg_name (i := 5) sc_ways_on.nd rfl (.inl rfl))
          (pss_cons (ps_set (i := 7) sc_ways_on.nd rfl (.inl rfl) pe_int)
          (pss_cons (ps_for PassesOwn.never rfl (pi_range2 (by rfl) T.b_range (pa_cons (pv 6) (pa_cons (pe_op op_addG (pv 0) pe_int) pa_nil))) (pg_name (i := 8) sc_ways_on.nd rfl (.inl rfl))
            (pss_cons (ps_set (i := 9) sc_ways_on.nd rfl (.inl rfl) (pe_dget2 (hu_of hr) (pv 4) (pe_tup (pa_cons (pe_op op_addG (pv 8) pe_int) (pa_cons (pe_op op_addG (pv 5) pe_int) pa_nil))) pe_int ⟨rfl, rfl, rfl, rfl⟩))
            (pss_one (ps_if (PW.pt (pw_and (pt_cmpR op_gt (pv 9) pe_int (nomark _)) (pw_and1 (pt_cmpR op_notN (pe_call (ok_members T) (hr.mono (by decide)) (by rfl) T.g_members T.F_members.kp (bi_members T) .nil pass0 (pa_cons (pv 1) (pa_cons (pv 6) (pa_cons (pv 8) (pa_cons (pv 5) pa_nil))))) pe_non (nomark _)))))
              (pss_one (ps_set (i := 7) sc_ways_on.nd rfl (.inl rfl) (pe_op op_addG (pv 7) (pv 9))))
              pss_nil))))
          (pss_one (ps_asg (pv 7) (pg_sub (pv 4) (pe_tup (pa_cons (pv 6) (pa_cons (pv 5) pa_nil))) (set_dict (hu_of hr))))))))))
      (pss_one (ps_ret (pv 4)))))))), ?_⟩
  rintro B S0 E px ⟨n, ps⟩ ⟨h1, h2, h3⟩
  dsimp only [L2.cxOf, L2.Cx.nox, L2.Cx.wish] at h1 h2 h3 ⊢
  have pl : (placesOf ps).length ≤ 2000 := by
    unfold placesOf
    refine Nat.le_trans (List.length_filterMap_le _ _) ?_
    have : (ps.flatMap fun p => [p.first, p.last]).length = 2 * ps.length := by
      clear h3
      induction ps with
      | nil => rfl
      | cons p ps ih => rw [List.flatMap_cons, List.length_append, ih]; simp only [List.length_cons, List.length_nil]; omega
    omega
  -- places
  apply wp_seq
  apply wp_asg (s := .lst ((placesOf ps).map PyData.int))
  · rw [← places_map]
    apply evs_lc2
    · apply evi_seqT (ds := ps.map Per.enc)
      wtm_at "ev"
    · exact gvs_name (by decide)
    · exact gvs_name (by decide)
    · exact sz' (by rw [places_map, List.length_map]; omega)
    · refine lcp2_map (f := fun p : Per => [p.first, p.last]) (enc1 := oI) (p := Option.isSome) (o := oI) fun p _ => ⟨_, gto_name (lt_ble rfl), evi_seqT (ds := [oI p.first, oI p.last]) (by wtm_at "evis"), fun y _ => ⟨_, gto_name (lt_ble rfl), ?_, fun _ => by wtm_at "ev"⟩⟩
      refine evt_is (b := !PyData.isN (oI y)) (by wtm_at "ev") ?_
      rw [isN_oI]; cases y <;> rfl
  · exact lt_ble rfl
  · rfl
  -- most
  apply wp_seq
  apply wp_asg (s := .d (.int (mostOf ps)))
  · apply evs_cb (ss := [.lst ((0 :: ps.filterMap Per.dense).map PyData.int)])
    · apply eva_cons
      · apply evs_op (x := .lst [.int 0]) (y := .lst ((ps.filterMap Per.dense).map PyData.int))
        · wtm_at "ev"
        · rw [← dense_map]
          apply evs_lc
          · apply evi_seqT (ds := ps.map Per.enc)
            wtm_at "ev"
          · exact gvs_name (by decide)
          · exact sz' (by rw [List.length_map]; omega)
          · refine lcp_map (p := fun p : Per => p.dense.isSome) (f := fun p : Per => oI p.dense) fun p _ => ⟨_, gto_name (lt_ble rfl), ?_, fun _ => ?_⟩
            · refine evt_is (b := !PyData.isN (oI p.dense)) ?_ (by rw [isN_oI]; cases p.dense <;> rfl)
              apply evt_test
              apply evs_op (x := .d (oI p.dense))
              · apply evs_op
                · wtm_at "ev"
                · wtm_at "ev"
                · exact ix_at rfl rfl
              · wtm_at "ev"
              · exact ops_notN
            · apply evs_op
              · wtm_at "ev"
              · wtm_at "ev"
              · exact ix_at rfl rfl
        · have := List.length_filterMap_le Per.dense ps
          exact add_lst (ds := [.int 0]) (es := (ps.filterMap Per.dense).map PyData.int) rfl rfl (sz (by rw [List.length_map]; show 1 + _ ≤ _; omega))
      · exact eva_nil
    · exact max_ints (ns := 0 :: ps.filterMap Per.dense) rfl (by simp)
  · exact lt_ble rfl
  · rfl
  apply wp_seq
  apply wp_asg
  · exact evs_newT
  · exact lt_ble rfl
  · rfl
  -- the end's row
  apply wp_seq
  apply wp_forI
  · apply evi_range2
    · wtm_at "ev"
    · exact ⟨by omega, by omega, by omega, by omega⟩
  rw [show ((n : Int) + 1 - 1).toNat = n by omega]
  refine forW_range (fun j Γ => ∃ g5 g6 g7 g8 g9 g10 g11, Γ = [.d (.int (n : Int)), .d (encSeen ps), .lst ((placesOf ps).map PyData.int), .d (.int (mostOf ps)), .dT (wd0 (finW n ps) n j), g5, g6, g7, g8, g9, g10, g11]) ⟨_, _, _, _, _, _, _, rfl⟩ ?_ ?_
  · rintro j Γ hj ⟨g5, g6, g7, g8, g9, g10, g11, rfl⟩
    refine GTo.wp (gto_name (lt_ble rfl)) ?_
    have hl := wd0_len (fin := finW n ps) (N := n) j
    refine wp_setDT (ks := key2 ((n : Int) + 1) (j + 2)) (kvs := wd0 (finW n ps) n j) (d := .int (finW n ps (j + 2))) rfl ?_ ?_ (sz' (by omega)) ⟨.d (.int (1 + (j : Int))), g6, g7, g8, g9, g10, g11, rfl⟩
    · refine evs_cb (ss := [.d (.bool (finB n ps (j + 2)))]) (eva_cons ?_ eva_nil) int_bool
      have e : finB n ps (j + 2) = (decide (maxI (0 :: placesOf ps) ≤ n) && decide (mostOf ps ≤ 1 + (j : Int))) := by
        unfold finB
        rw [show ((j : Int) + 2 - 1) = 1 + j by omega]
      rw [e]
      apply evs_andV
      · apply evs_op (x := .d (.int (maxI (0 :: placesOf ps))))
        · apply evs_cb (ss := [.lst ((0 :: placesOf ps).map PyData.int)])
          · apply eva_cons
            · apply evs_op (x := .lst [.int 0])
              · wtm_at "ev"
              · wtm_at "ev"
              · exact add_lst (ds := [.int 0]) (es := (placesOf ps).map PyData.int) rfl rfl (sz (by rw [List.length_map]; show 1 + _ ≤ _; omega))
            · exact eva_nil
          · exact max_ints (ns := 0 :: placesOf ps) rfl (by simp)
        · wtm_at "ev"
        · exact ops_B0
      · intro _; wtm_at "ev"
    · refine evs_is (x := .d (.tuple [.int ((n : Int) + 1), .int (1 + (j : Int) + 1)])) (by wtm_at "ev") ?_
      show _ = Sl.d (.tuple [.int ((n : Int) + 1), .int ((j : Int) + 2)])
      rw [show 1 + (j : Int) + 1 = j + 2 by omega]
  rintro Γ ⟨g5, g6, g7, g8, g9, g10, g11, rfl⟩
  apply wp_seq
  apply wp_forI
  · refine evi_down (i := (n : Int)) (j := 0) ?_ ⟨by omega, by omega, by omega, by omega⟩
    apply eva_cons
    · wtm_at "ev"
    apply eva_cons
    · wtm_at "ev"
    apply eva_cons
    · exact evs_is (x := .d (.int (-1))) (by wtm_at "ev") rfl
    · exact eva_nil
  rw [show ((n : Int) - 0).toNat = n by omega]
  refine forW_down (fun i Γ => ∃ g5 g6 g7 g8 g9 g10 g11, Γ = [.d (.int (n : Int)), .d (encSeen ps), .lst ((placesOf ps).map PyData.int), .d (.int (mostOf ps)), .dT (wd (finW n ps) (wayW n ps) n i), g5, g6, g7, g8, g9, g10, g11]) ⟨_, _, _, _, _, _, _, rfl⟩ ?_ ?_
  · rintro i Γ hi ⟨g5, g6, g7, g8, g9, g10, g11, rfl⟩
    refine GTo.wp (gto_name (lt_ble rfl)) ?_
    apply wp_forI
    · apply evi_range2
      · wtm_at "ev"
      · exact ⟨by omega, by omega, by omega, by omega⟩
    rw [show ((n : Int) - i + 1 - 1).toNat = n - i by omega]
    have hw := wd_len (fin := finW n ps) (way := wayW n ps) (n := n) i
    have hw2 : n + i * n ≤ 1000 := by
      have : i * n ≤ 30 * 30 := Nat.mul_le_mul (by omega) h2
      omega
    refine forW_range (fun k Γ => ∃ g5 g7 g8 g9 g10 g11, Γ = [.d (.int (n : Int)), .d (encSeen ps), .lst ((placesOf ps).map PyData.int), .d (.int (mostOf ps)), .dT (wdI (wayW n ps) (wd (finW n ps) (wayW n ps) n i) ((n : Int) - i) i k), g5, .d (.int ((n : Int) - i)), g7, g8, g9, g10, g11]) ⟨_, _, _, _, _, _, rfl⟩ ?_ ?_
    · rintro k Γ hk ⟨g5, g7, g8, g9, g10, g11, rfl⟩
      refine GTo.wp (gto_name (lt_ble rfl)) ?_
      apply wp_seq
      apply wp_asg
      · wtm_at "ev"
      · exact lt_ble rfl
      · rfl
      apply wp_seq
      apply wp_forI
      · apply evi_range2
        · wtm_at "ev"
        · exact ⟨by omega, by omega, by omega, by omega⟩
      rw [show ((n : Int) + 1 - ((n : Int) - i)).toNat = i + 1 by omega]
      let term : Nat → Int := fun j => if okG ps ((n : Int) - i) ((n : Int) - i + (j : Int)) (1 + (k : Int)) then wayW n ps (i - j) (1 + (k : Int) + 1) else 0
      refine forW_range (fun j Γ => ∃ g8 g9 g10 g11, Γ = [.d (.int (n : Int)), .d (encSeen ps), .lst ((placesOf ps).map PyData.int), .d (.int (mostOf ps)), .dT (wdI (wayW n ps) (wd (finW n ps) (wayW n ps) n i) ((n : Int) - i) i k), .d (.int (1 + (k : Int))), .d (.int ((n : Int) - i)), .d (.int (((List.range j).map term).sum)), g8, g9, g10, g11]) ⟨_, _, _, _, rfl⟩ ?_ ?_
      · rintro j Γ hj ⟨g8, g9, g10, g11, rfl⟩
        refine GTo.wp (gto_name (lt_ble rfl)) ?_
        apply wp_seq
        -- behind
        have look : valD (wdI (wayW n ps) (wd (finW n ps) (wayW n ps) n i) ((n : Int) - i) i k) (key2 ((n : Int) - i + j + 1) (1 + (k : Int) + 1)) = some (.int (wayW n ps (i - j) (1 + (k : Int) + 1))) := by
          rw [wdI_other (by omega)]
          by_cases e : j = i
          · subst e
            have := wd_end (fin := finW n ps) (way := wayW n ps) (n := n) (i := j) (j := k) (by omega)
            rw [show ((n : Int) - j + j + 1) = (n : Int) + 1 by omega, show (1 + (k : Int) + 1) = (k : Int) + 2 by omega, this, Nat.sub_self, wayW, wayR_zero]
          · have := wd_at (fin := finW n ps) (way := wayW n ps) (n := n) (i := i) (m := i - j - 1) (k := k + 1) (by omega) (by omega) (by omega)
            rw [show ((n : Int) - ((i - j - 1 : Nat) : Int)) = (n : Int) - i + j + 1 by omega, show (((k + 1 : Nat) : Int) + 1) = 1 + (k : Int) + 1 by omega, show i - j - 1 + 1 = i - j by omega] at this
            exact this
        apply wp_asg (s := .d (.int (wayW n ps (i - j) (1 + (k : Int) + 1))))
        · refine evs_is (evs_dget2T (ks := key2 ((n : Int) - i + j + 1) (1 + (k : Int) + 1)) (by wtm_at "ev") rfl ?_ (by wtm_at "ev")) (by rw [look]; rfl)
          wtm_at "evis"
        · exact lt_ble rfl
        · rfl
        have snoc : (((List.range (j + 1)).map term).sum) = ((List.range j).map term).sum + term j := by
          rw [List.range_succ, List.map_append, List.sum_append]; simp
        apply wp_if (b := decide (wayW n ps (i - j) (1 + (k : Int) + 1) > 0) && okG ps ((n : Int) - i) ((n : Int) - i + (j : Int)) (1 + (k : Int)))
        · apply evt_and
          · wtm_at "ev"
          · intro _
            apply evt_test
            apply evs_op
            · exact cl_members (by wtm_at "ev") h3
            · wtm_at "ev"
            · exact ops_notM
        · intro h
          rw [Bool.and_eq_true, decide_eq_true_eq] at h
          apply wp_asg
          · wtm_at "ev"
          · exact lt_ble rfl
          · rfl
          refine ⟨.d (.int ((n : Int) - i + (j : Int))), .d (.int (wayW n ps (i - j) (1 + (k : Int) + 1))), g10, g11, ?_⟩
          rw [snoc, show term j = wayW n ps (i - j) (1 + (k : Int) + 1) from if_pos h.2]
          rfl
        · intro h
          apply wp_next
          refine ⟨.d (.int ((n : Int) - i + (j : Int))), .d (.int (wayW n ps (i - j) (1 + (k : Int) + 1))), g10, g11, ?_⟩
          have e0 : term j = 0 := by
            show (if okG ps ((n : Int) - i) ((n : Int) - i + (j : Int)) (1 + (k : Int)) = true then _ else _) = (0 : Int)
            split
            · rename_i q
              rw [q, Bool.and_true, decide_eq_false_iff_not] at h
              have := wayW_nonneg n ps (i - j) (1 + (k : Int) + 1)
              omega
            · rfl
          rw [snoc, e0, Int.add_zero]
          rfl
      · rintro Γ ⟨g8, g9, g10, g11, rfl⟩
        have hl := wdI_len (way := wayW n ps) (base := wd (finW n ps) (wayW n ps) n i) (b := (n : Int) - i) (i := i) k
        have e : ((List.range (i + 1)).map term).sum = wayW n ps (i + 1) ((k : Int) + 1) := by
          rw [wayW, wayR_succ]
          show ((List.range (i + 1)).map fun j : Nat => if okG ps ((n : Int) - i) ((n : Int) - i + (j : Int)) (1 + (k : Int)) then wayW n ps (i - j) (1 + (k : Int) + 1) else 0).sum = _
          rw [show 1 + (k : Int) = k + 1 by omega]; rfl
        refine wp_setDT (ks := key2 ((n : Int) - i) (k + 1)) (kvs := wdI (wayW n ps) (wd (finW n ps) (wayW n ps) n i) ((n : Int) - i) i k) (d := .int (wayW n ps (i + 1) ((k : Int) + 1))) rfl ?_ ?_ (sz' (by omega)) ⟨.d (.int (1 + (k : Int))), _, g8, g9, g10, g11, rfl⟩
        · rw [← e]
          wtm_at "ev"
        · refine evs_is (x := .d (.tuple [.int ((n : Int) - i), .int (1 + (k : Int))])) (by wtm_at "ev") ?_
          show _ = Sl.d (.tuple [.int ((n : Int) - i), .int ((k : Int) + 1)])
          rw [show 1 + (k : Int) = k + 1 by omega]
    · rintro Γ ⟨g5, g7, g8, g9, g10, g11, rfl⟩
      exact ⟨_, _, _, _, _, _, _, rfl⟩
  · rintro Γ ⟨g5, g6, g7, g8, g9, g10, g11, rfl⟩
    exact wp_retO rfl rfl ⟨rfl, rfl⟩
theorem cl_ways_on {F : Fx} {Γ : List Sl} {t : TA} {E : XK} {n : Nat} {ps : List Per} (h : EvA F t Γ [.d (.int (n : Int)), .d (encSeen ps)]) (h1 : 1 ≤ n) (h2 : n ≤ 30) (h3 : ps.length ≤ 1000) : EvS F (tCall (spP F.K con_ways_on) [] E t) Γ (.dT (waysD n ps)) :=
  evs_call (c := con_ways_on) (n, ps) h rfl ⟨h1, h2, h3⟩ (fun _ h => h) fun _ h => h

/- no counted here -/
/-! ### lists of sizes -/
/-- all lists of sizes with this sum, ascending (n: fuel) -/
def compsF : Nat → Nat → List (List Nat)
  | _, 0 => [[]]
  | 0, _ + 1 => []
  | f + 1, m + 1 => (List.range (m + 1)).flatMap fun j => (compsF f (m - j)).map fun c => (j + 1) :: c
def comps (m : Nat) : List (List Nat) := compsF m m
theorem compsF_fuel : ∀ (f : Nat) (g : Nat) (m : Nat), m ≤ f → m ≤ g → compsF f m = compsF g m
  | 0, 0, m, h, _ => rfl
  | 0, g + 1, m, h, _ => by
    have : m = 0 := by omega
    subst this; rfl
  | f + 1, 0, m, _, h => by
    have : m = 0 := by omega
    subst this; rfl
  | f + 1, g + 1, 0, _, _ => rfl
  | f + 1, g + 1, m + 1, h1, h2 => by
    show List.flatMap _ _ = List.flatMap _ _
    congr 1
    funext j
    rw [compsF_fuel f g (m - j) (by omega) (by omega)]
theorem comps_zero : comps 0 = [[]] := rfl
theorem comps_succ (m : Nat) : comps (m + 1) = (List.range (m + 1)).flatMap fun j => (comps (m - j)).map fun c => (j + 1) :: c := by
  show List.flatMap _ _ = List.flatMap _ _
  congr 1
  funext j
  rw [comps, compsF_fuel m (m - j) (m - j) (by omega) (by omega)]
theorem mem_comps : ∀ {c : List Nat} {m : Nat}, c ∈ comps m ↔ (∀ a ∈ c, 1 ≤ a) ∧ c.sum = m
  | [], 0 => by simp [comps_zero]
  | [], m + 1 => by rw [comps_succ]; simp
  | a :: c, 0 => by
    rw [comps_zero]
    simp
    intro h _ h0
    omega
  | a :: c, m + 1 => by
    rw [comps_succ, List.mem_flatMap]
    constructor
    · rintro ⟨j, hj, h⟩
      obtain ⟨d, hd, e⟩ := List.mem_map.mp h
      cases e
      rw [List.mem_range] at hj
      obtain ⟨h1, h2⟩ := (mem_comps (c := c) (m := m - j)).mp hd
      refine ⟨fun x hx => ?_, by rw [List.sum_cons, h2]; omega⟩
      rcases List.mem_cons.mp hx with rfl | hx
      · omega
      · exact h1 x hx
    · rintro ⟨h1, h2⟩
      rw [List.sum_cons] at h2
      have ha := h1 a (by simp)
      refine ⟨a - 1, List.mem_range.mpr (by omega), List.mem_map.mpr ⟨c, ?_, by rw [Nat.sub_add_cancel ha]⟩⟩
      exact (mem_comps (c := c)).mpr ⟨fun x hx => h1 x (by simp [hx]), by omega⟩
theorem nodup_flatMap {α β : Type} {f : α → List β} : ∀ {l : List α}, l.Nodup → (∀ a ∈ l, (f a).Nodup) → (∀ a ∈ l, ∀ b ∈ l, ∀ x, x ∈ f a → x ∈ f b → a = b) → (l.flatMap f).Nodup
  | [], _, _, _ => List.nodup_nil
  | a :: l, h, h1, h2 => by
    rw [List.flatMap_cons, List.nodup_append]
    rw [List.nodup_cons] at h
    refine ⟨h1 a (by simp), nodup_flatMap h.2 (fun b hb => h1 b (by simp [hb])) (fun b hb c hc => h2 b (by simp [hb]) c (by simp [hc])), ?_⟩
    rintro x hx y hy rfl
    obtain ⟨b, hb, hxb⟩ := List.mem_flatMap.mp hy
    have := h2 a (by simp) b (by simp [hb]) x hx hxb
    subst this
    exact h.1 hb
theorem nodup_map {α β : Type} {f : α → β} (hf : ∀ a b, f a = f b → a = b) {l : List α} (h : l.Nodup) : (l.map f).Nodup := by
  induction l with
  | nil => exact List.nodup_nil
  | cons a l ih =>
    rw [List.nodup_cons] at h
    rw [List.map_cons, List.nodup_cons]
    refine ⟨fun q => ?_, ih h.2⟩
    obtain ⟨b, hb, e⟩ := List.mem_map.mp q
    exact h.1 (hf b a e ▸ hb)
theorem nodup_comps (m : Nat) : (comps m).Nodup := by
  induction m using Nat.strongRecOn with
  | ind m ih =>
    cases m with
    | zero => exact List.nodup_cons.mpr ⟨by simp, List.nodup_nil⟩
    | succ m =>
      rw [comps_succ]
      refine nodup_flatMap List.nodup_range (fun j hj => nodup_map (fun a b e => (List.cons.inj e).2) (ih (m - j) (by omega))) ?_
      intro a _ b _ x hx hy
      obtain ⟨c, _, rfl⟩ := List.mem_map.mp hx
      obtain ⟨d, _, e⟩ := List.mem_map.mp hy
      have := (List.cons.inj e).1
      omega
theorem nodup_filter {α : Type} (p : α → Bool) {l : List α} (h : l.Nodup) : (l.filter p).Nodup := List.Nodup.sublist List.filter_sublist h
/-- lists without repeats that hold the same -/
theorem perm_mem {α : Type} [DecidableEq α] {as bs : List α} (h1 : as.Nodup) (h2 : bs.Nodup) (h : ∀ x, x ∈ as ↔ x ∈ bs) : as.Perm bs := by
  induction as generalizing bs with
  | nil =>
    cases bs with
    | nil => exact .nil
    | cons b bs => exact absurd ((h b).mpr (by simp)) (by simp)
  | cons a as ih =>
    rw [List.nodup_cons] at h1
    have hb : a ∈ bs := (h a).mp (by simp)
    have e := List.perm_cons_erase hb
    refine List.Perm.trans ?_ e.symm
    refine List.Perm.cons a (ih h1.2 (h2.erase a) fun x => ?_)
    rw [List.Nodup.mem_erase_iff h2]
    constructor
    · intro hx
      exact ⟨fun q => h1.1 (q ▸ hx), (h x).mp (by simp [hx])⟩
    · rintro ⟨hx, hx2⟩
      rcases List.mem_cons.mp ((h x).mpr hx2) with q | q
      · exact absurd q hx
      · exact q
/-- how many lists of sizes there are with a property -/
def cnt (p : List Nat → Bool) (m : Nat) : Nat := ((comps m).filter p).length
theorem cnt_congr {p q : List Nat → Bool} {m : Nat} (h : ∀ c ∈ comps m, p c = q c) : cnt p m = cnt q m := by
  unfold cnt; rw [List.filter_congr h]
theorem flatMap_len {α β : Type} (f : α → List β) : ∀ l : List α, (l.flatMap f).length = (l.map fun a => (f a).length).sum
  | [] => rfl
  | a :: l => by rw [List.flatMap_cons, List.length_append, flatMap_len f l]; simp
theorem filter_flatMap {α β : Type} (f : α → List β) (p : β → Bool) : ∀ l : List α, (l.flatMap f).filter p = l.flatMap fun a => (f a).filter p
  | [] => rfl
  | a :: l => by rw [List.flatMap_cons, List.filter_append, filter_flatMap f p l, List.flatMap_cons]
theorem cnt_first (p : List Nat → Bool) (m : Nat) : cnt p (m + 1) = ((List.range (m + 1)).map fun j => cnt (fun c => p ((j + 1) :: c)) (m - j)).sum := by
  unfold cnt
  rw [comps_succ, filter_flatMap, flatMap_len]
  congr 1
  refine List.map_congr_left fun j _ => ?_
  rw [List.filter_map, List.length_map]
  rfl
theorem cnt_perm {p : List Nat → Bool} {m : Nat} {l : List (List Nat)} (hl : l.Nodup) (h : ∀ c, c ∈ l ↔ c ∈ comps m ∧ p c = true) : l.length = cnt p m := by
  unfold cnt
  refine (perm_mem hl (nodup_filter p (nodup_comps m)) fun c => ?_).length_eq
  rw [h, List.mem_filter]
theorem snoc_inj {α : Type} {c d : List α} {a b : α} (e : c ++ [a] = d ++ [b]) : c = d ∧ a = b := by
  have := List.append_inj' e rfl
  exact ⟨this.1, (List.cons.inj this.2).1⟩
theorem last_of {α : Type} {c : List α} (h : c ≠ []) : ∃ d a, c = d ++ [a] := ⟨c.dropLast, c.getLast h, (List.dropLast_concat_getLast h).symm⟩
theorem sum_snoc (c : List Nat) (a : Nat) : (c ++ [a]).sum = c.sum + a := by rw [List.sum_append]; simp
theorem cnt_last (p : List Nat → Bool) (m : Nat) : cnt p (m + 1) = ((List.range (m + 1)).map fun j => cnt (fun c => p (c ++ [j + 1])) (m - j)).sum := by
  have e : ((List.range (m + 1)).flatMap fun j => ((comps (m - j)).filter fun c => p (c ++ [j + 1])).map fun c => c ++ [j + 1]).length = ((List.range (m + 1)).map fun j => cnt (fun c => p (c ++ [j + 1])) (m - j)).sum := by
    rw [flatMap_len]
    congr 1
    refine List.map_congr_left fun j _ => ?_
    rw [List.length_map]; rfl
  rw [← e]
  symm
  refine cnt_perm ?_ fun c => ?_
  · refine nodup_flatMap List.nodup_range (fun j _ => nodup_map (fun a b e => (snoc_inj e).1) (nodup_filter _ (nodup_comps _))) ?_
    intro a _ b _ x hx hy
    obtain ⟨c, _, rfl⟩ := List.mem_map.mp hx
    obtain ⟨d, _, e⟩ := List.mem_map.mp hy
    have := (snoc_inj e).2
    omega
  · rw [List.mem_flatMap]
    constructor
    · rintro ⟨j, hj, h⟩
      obtain ⟨d, hd, rfl⟩ := List.mem_map.mp h
      rw [List.mem_filter] at hd
      rw [List.mem_range] at hj
      obtain ⟨h1, h2⟩ := mem_comps.mp hd.1
      refine ⟨mem_comps.mpr ⟨fun a ha => ?_, by rw [sum_snoc, h2]; omega⟩, hd.2⟩
      rcases List.mem_append.mp ha with q | q
      · exact h1 a q
      · rw [List.mem_singleton] at q; omega
    · rintro ⟨hc, hp⟩
      obtain ⟨h1, h2⟩ := mem_comps.mp hc
      have hne : c ≠ [] := fun q => by subst q; simp at h2
      obtain ⟨d, a, rfl⟩ := last_of hne
      rw [sum_snoc] at h2
      have ha := h1 a (by simp)
      refine ⟨a - 1, List.mem_range.mpr (by omega), List.mem_map.mpr ⟨d, ?_, by rw [Nat.sub_add_cancel ha]⟩⟩
      rw [List.mem_filter, Nat.sub_add_cancel ha]
      exact ⟨mem_comps.mpr ⟨fun x hx => h1 x (by simp [hx]), by omega⟩, hp⟩
/-- the lists of sizes that are cut at a place: m places before it -/
theorem cnt_cut (p : List Nat → Bool) (m n : Nat) (q : List Nat → Bool) (hq : ∀ c ∈ comps (m + n), q c = true ↔ ∃ d ∈ comps m, ∃ e ∈ comps n, c = d ++ e) : cnt (fun c => q c && p c) (m + n) = ((comps m).map fun d => cnt (fun e => p (d ++ e)) n).sum := by
  have e : ((comps m).flatMap fun d => ((comps n).filter fun e => p (d ++ e)).map fun e => d ++ e).length = ((comps m).map fun d => cnt (fun e => p (d ++ e)) n).sum := by
    rw [flatMap_len]
    congr 1
    refine List.map_congr_left fun j _ => ?_
    rw [List.length_map]; rfl
  rw [← e]
  symm
  refine cnt_perm ?_ fun c => ?_
  · refine nodup_flatMap (nodup_comps m) (fun d _ => nodup_map (fun a b e => List.append_cancel_left e) (nodup_filter _ (nodup_comps _))) ?_
    intro a ha b hb x hx hy
    obtain ⟨c, _, rfl⟩ := List.mem_map.mp hx
    obtain ⟨d, _, e⟩ := List.mem_map.mp hy
    have sa := (mem_comps.mp ha).2
    have sb := (mem_comps.mp hb).2
    -- prefixes with the same sum of positive numbers
    have key : ∀ {a b u v : List Nat}, (∀ x ∈ a, 1 ≤ x) → (∀ x ∈ b, 1 ≤ x) → a.sum = b.sum → a ++ u = b ++ v → a = b := by
      intro a
      induction a with
      | nil =>
        intro b u v _ hb hs _
        cases b with
        | nil => rfl
        | cons x b => have := hb x (by simp); rw [List.sum_cons] at hs; simp at hs; omega
      | cons x a ih =>
        intro b u v ha hb hs he
        cases b with
        | nil => have := ha x (by simp); rw [List.sum_cons] at hs; simp at hs; omega
        | cons y b =>
          rw [List.cons_append, List.cons_append] at he
          obtain ⟨e1, e2⟩ := List.cons.inj he
          subst e1
          rw [List.sum_cons, List.sum_cons] at hs
          rw [ih (fun z hz => ha z (by simp [hz])) (fun z hz => hb z (by simp [hz])) (by omega) e2]
    exact (key (mem_comps.mp hb).1 (mem_comps.mp ha).1 (by omega) e).symm
  · rw [List.mem_flatMap]
    constructor
    · rintro ⟨d, hd, h⟩
      obtain ⟨f, hf, rfl⟩ := List.mem_map.mp h
      rw [List.mem_filter] at hf
      have hc : d ++ f ∈ comps (m + n) := by
        obtain ⟨h1, h2⟩ := mem_comps.mp hd
        obtain ⟨h3, h4⟩ := mem_comps.mp hf.1
        exact mem_comps.mpr ⟨fun a ha => (List.mem_append.mp ha).elim (h1 a) (h3 a), by rw [List.sum_append]; omega⟩
      refine ⟨hc, ?_⟩
      rw [Bool.and_eq_true]
      exact ⟨(hq _ hc).mpr ⟨d, hd, f, hf.1, rfl⟩, hf.2⟩
    · rintro ⟨hc, h⟩
      rw [Bool.and_eq_true] at h
      obtain ⟨d, hd, f, hf, rfl⟩ := (hq c hc).mp h.1
      exact ⟨d, hd, List.mem_map.mpr ⟨f, List.mem_filter.mpr ⟨hf, h.2⟩, rfl⟩⟩

/-! ### sums -/
theorem isum_cast : ∀ l : List Nat, ((l.sum : Nat) : Int) = (l.map fun x : Nat => (x : Int)).sum
  | [] => rfl
  | a :: l => by rw [List.sum_cons, List.map_cons, List.sum_cons, ← isum_cast l]; omega
/-! ### rankings by their groups -/
/-- the groups from the place b, the k-th, on are fine, and the end too -/
def goodC (ok : Int → Int → Int → Bool) (fin : Int → Bool) : Int → Int → List Nat → Bool
  | _, k, [] => fin k
  | b, k, a :: c => ok b (b + a - 1) k && goodC ok fin (b + a) (k + 1) c
def pathC (ok : Int → Int → Int → Bool) : Int → Int → List Nat → Bool
  | _, _, [] => true
  | b, k, a :: c => ok b (b + a - 1) k && pathC ok (b + a) (k + 1) c
section
variable {ok : Int → Int → Int → Bool} {fin : Int → Bool}
theorem good_app : ∀ (c d : List Nat) (b k : Int), goodC ok fin b k (c ++ d) = (pathC ok b k c && goodC ok fin (b + (c.sum : Nat)) (k + (c.length : Nat)) d)
  | [], d, b, k => by simp [pathC]
  | a :: c, d, b, k => by
    rw [List.cons_append, goodC, pathC, good_app c d, Bool.and_assoc, List.sum_cons, List.length_cons]
    congr 3 <;> omega
theorem path_app : ∀ (c d : List Nat) (b k : Int), pathC ok b k (c ++ d) = (pathC ok b k c && pathC ok (b + (c.sum : Nat)) (k + (c.length : Nat)) d)
  | [], d, b, k => by simp [pathC]
  | a :: c, d, b, k => by
    rw [List.cons_append, pathC, pathC, path_app c d, Bool.and_assoc, List.sum_cons, List.length_cons]
    congr 3 <;> omega
theorem path_snoc (c : List Nat) (a : Nat) (b k : Int) : pathC ok b k (c ++ [a]) = (pathC ok b k c && ok (b + (c.sum : Nat)) (b + (c.sum : Nat) + a - 1) (k + (c.length : Nat))) := by
  rw [path_app]; simp [pathC]
theorem good_path (c : List Nat) (b k : Int) : goodC ok fin b k c = (pathC ok b k c && fin (k + (c.length : Nat))) := by
  have := good_app (ok := ok) (fin := fin) c [] b k
  rw [List.append_nil] at this
  rw [this, goodC]
theorem way_cnt (n : Int) : ∀ (m : Nat) (k : Int), wayR ok (fun k => b2n (fin k)) n m k = (cnt (goodC ok fin (n + 1 - m) k) m : Nat) := by
  intro m
  induction m using Nat.strongRecOn with
  | ind m ih =>
    intro k
    cases m with
    | zero =>
      rw [wayR_zero, cnt, comps_zero, List.filter_cons]
      unfold b2n goodC
      cases fin k <;> rfl
    | succ m =>
      rw [wayR_succ, cnt_first, isum_cast, List.map_map]
      congr 1
      refine List.map_congr_left fun j hj => ?_
      rw [List.mem_range] at hj
      show _ = ((cnt _ (m - j) : Nat) : Int)
      have e1 : n + 1 - ((m + 1 : Nat) : Int) = n - m := by omega
      rw [e1]
      have e2 : (fun c => goodC ok fin (n - m) k ((j + 1) :: c)) = fun c => ok (n - m) (n - m + (j : Int)) k && goodC ok fin (n + 1 - ((m - j : Nat) : Int)) (k + 1) c := by
        funext c
        rw [goodC]
        congr 2 <;> omega
      rw [e2]
      cases ok (n - m) (n - m + (j : Int)) k
      · rw [if_neg Bool.false_ne_true]
        have e3 : (comps (m - j)).filter (fun c => false && goodC ok fin (n + 1 - ((m - j : Nat) : Int)) (k + 1) c) = [] := List.filter_eq_nil_iff.mpr fun c _ => by simp
        unfold cnt
        rw [e3]; rfl
      · rw [if_pos rfl, ih (m - j) (by omega)]
        simp only [Bool.true_and]
end
/-! ### pushing values along edges -/
section
variable {N : Type} [DecidableEq N]
def setF (val : N → Int) (v : N) (i : Int) : N → Int := fun u => if u = v then i else val u
def push (val : N → Int) : List (N × N) → N → Int
  | [] => val
  | x :: L => push (setF val x.2 (val x.2 + val x.1)) L
/-- no edge writes where an earlier one has read -/
def Topo (L : List (N × N)) : Prop := L.Pairwise (fun x y => y.2 ≠ x.1) ∧ ∀ x ∈ L, x.2 ≠ x.1
theorem Topo.tl {x : N × N} {L : List (N × N)} (h : Topo (x :: L)) : Topo L := ⟨(List.pairwise_cons.mp h.1).2, fun y hy => h.2 y (by simp [hy])⟩
theorem push_off {L : List (N × N)} : ∀ {val : N → Int} {v : N}, (∀ x ∈ L, x.2 ≠ v) → push val L v = val v := by
  induction L with
  | nil => intro val v _; rfl
  | cons x L ih =>
    intro val v h
    rw [push, ih fun y hy => h y (by simp [hy])]
    exact if_neg fun q => h x (by simp) q.symm
theorem push_sum {L : List (N × N)} : ∀ {val : N → Int}, Topo L → ∀ v, push val L v = val v + ((L.filter fun x => decide (x.2 = v)).map fun x => push val L x.1).sum := by
  induction L with
  | nil => intro val _ v; simp [push]
  | cons x L ih =>
    intro val h v
    have hx : ∀ y ∈ L, y.2 ≠ x.1 := (List.pairwise_cons.mp h.1).1
    have ex : push val (x :: L) x.1 = val x.1 := by
      rw [push, push_off hx]
      exact if_neg fun q => h.2 x (by simp) q.symm
    rw [push, ih h.tl v]
    have e1 : setF val x.2 (val x.2 + val x.1) v = val v + if decide (x.2 = v) = true then val x.1 else 0 := by
      unfold setF
      by_cases q : v = x.2
      · subst q; simp
      · have q' : ¬ x.2 = v := fun e => q e.symm
        simp [q, q']
    rw [e1, List.filter_cons]
    by_cases q : x.2 = v
    · rw [if_pos (decide_eq_true q), if_pos (decide_eq_true q), List.map_cons, List.sum_cons]
      have : push (setF val x.2 (val x.2 + val x.1)) L x.1 = val x.1 := ex
      rw [this]; omega
    · rw [if_neg (by simp [q]), if_neg (by simp [q])]; omega
theorem push_app : ∀ (L M : List (N × N)) (val : N → Int), push val (L ++ M) = push (push val L) M
  | [], _, _ => rfl
  | x :: L, M, val => by rw [List.cons_append, push, push, push_app L M]
/-- at an edge's turn its source has its last value -/
theorem push_turn {L M : List (N × N)} {x : N × N} {val : N → Int} (h : Topo (L ++ x :: M)) : push val (L ++ x :: M) x.1 = push val L x.1 := by
  rw [push_app]
  refine push_off fun y hy => ?_
  have h2 := (List.pairwise_append.mp h.1).2.1
  rcases List.mem_cons.mp hy with rfl | hy
  · exact h.2 y (by simp)
  · exact (List.pairwise_cons.mp h2).1 y hy
end

/-! ### tables of numbers -/
section
variable {κ : Type} [DecidableEq κ]
def valI (m : List (κ × Int)) (k : κ) : Int := ((m.find? fun kv => decide (kv.1 = k)).map (·.2)).getD 0
def putI (m : List (κ × Int)) (k : κ) (i : Int) : List (κ × Int) := if (m.any fun kv => decide (kv.1 = k)) = true then m.map fun kv => if kv.1 = k then (kv.1, i) else kv else m ++ [(k, i)]
theorem valI_nil (k : κ) : valI ([] : List (κ × Int)) k = 0 := rfl
theorem valI_cons (a : κ) (v : Int) (m : List (κ × Int)) (k : κ) : valI ((a, v) :: m) k = if a = k then v else valI m k := by
  unfold valI
  rw [List.find?_cons]
  by_cases h : a = k <;> simp [h]
theorem valI_none {m : List (κ × Int)} {k : κ} (h : (m.any fun kv => decide (kv.1 = k)) = false) : valI m k = 0 := by
  induction m with
  | nil => rfl
  | cons a m ih =>
    obtain ⟨a, v⟩ := a
    rw [List.any_cons, Bool.or_eq_false_iff] at h
    rw [valI_cons, if_neg (of_decide_eq_false h.1), ih h.2]
theorem valI_app (m : List (κ × Int)) (k : κ) (i : Int) (h : (m.any fun kv => decide (kv.1 = k)) = false) (k' : κ) : valI (m ++ [(k, i)]) k' = if k' = k then i else valI m k' := by
  induction m with
  | nil =>
    rw [List.nil_append, valI_cons, valI_nil]
    by_cases q : k = k'
    · rw [if_pos q, if_pos q.symm]
    · rw [if_neg q, if_neg fun e => q e.symm]
  | cons a m ih =>
    obtain ⟨a, v⟩ := a
    rw [List.any_cons, Bool.or_eq_false_iff] at h
    rw [List.cons_append, valI_cons, valI_cons, ih h.2]
    by_cases q : a = k'
    · subst q
      rw [if_pos rfl, if_pos rfl, if_neg (of_decide_eq_false h.1)]
    · rw [if_neg q, if_neg q]
theorem valI_map (k : κ) (i : Int) (k' : κ) : ∀ m : List (κ × Int), (m.any fun kv => decide (kv.1 = k)) = true → valI (m.map fun kv => if kv.1 = k then (kv.1, i) else kv) k' = if k' = k then i else valI m k'
  | [], h => by simp at h
  | (a, v) :: m, h => by
    rw [List.map_cons]
    by_cases q : a = k
    · subst q
      simp only [if_true]
      rw [valI_cons, valI_cons]
      by_cases q' : a = k'
      · subst q'; simp
      · have q2 : ¬ k' = a := fun e => q' e.symm
        rw [if_neg q', if_neg q2, if_neg q']
        by_cases h2 : (m.any fun kv => decide (kv.1 = a)) = true
        · rw [valI_map a i k' m h2, if_neg q2]
        · have e : m.map (fun kv => if kv.1 = a then (kv.1, i) else kv) = m := by
            rw [List.map_congr_left (g := id) fun kv hkv => ?_, List.map_id]
            rw [if_neg fun e => h2 (List.any_eq_true.mpr ⟨kv, hkv, decide_eq_true e⟩)]; rfl
          rw [e]
    · simp only [q, if_false]
      rw [valI_cons, valI_cons, valI_map k i k' m (by rw [List.any_cons] at h; simpa [q] using h)]
      by_cases q' : a = k'
      · subst q'; simp [q]
      · rw [if_neg q', if_neg q']
theorem valI_put (m : List (κ × Int)) (k : κ) (i : Int) (k' : κ) : valI (putI m k i) k' = if k' = k then i else valI m k' := by
  unfold putI
  by_cases h : (m.any fun kv => decide (kv.1 = k)) = true
  · rw [if_pos h, valI_map k i k' m h]
  · rw [if_neg h, valI_app m k i (by cases q : m.any fun kv => decide (kv.1 = k) with | false => rfl | true => exact absurd q h)]
theorem putI_len (m : List (κ × Int)) (k : κ) (i : Int) : (putI m k i).length ≤ m.length + 1 := by
  unfold putI
  split
  · rw [List.length_map]; omega
  · rw [List.length_append]; exact Nat.le_refl _
theorem valI_putF (m : List (κ × Int)) (k : κ) (i : Int) : valI (putI m k i) = setF (valI m) k i := by
  funext k'; rw [valI_put]; rfl
/-- rows made and values pushed, edge by edge -/
def stF {X : Type} (src tgt : X → κ) (st : List (X × Int) × List (κ × Int)) (x : X) : List (X × Int) × List (κ × Int) :=
  if valI st.2 (src x) > 0 then (st.1 ++ [(x, valI st.2 (src x))], putI st.2 (tgt x) (valI st.2 (tgt x) + valI st.2 (src x))) else st
theorem stF_fold {X : Type} {src tgt : X → κ} : ∀ (L : List X) (st : List (X × Int) × List (κ × Int)), Topo (L.map fun x => (src x, tgt x)) → (∀ k, 0 ≤ valI st.2 k) →
    (L.foldl (stF src tgt) st).1 = st.1 ++ (L.filter fun x => decide (push (valI st.2) (L.map fun x => (src x, tgt x)) (src x) > 0)).map (fun x => (x, push (valI st.2) (L.map fun x => (src x, tgt x)) (src x))) ∧
    valI (L.foldl (stF src tgt) st).2 = push (valI st.2) (L.map fun x => (src x, tgt x))
  | [], st, _, _ => by simp [push]
  | x :: L, st, h, h0 => by
    rw [List.map_cons] at h
    have hx : ∀ y ∈ L.map (fun x => (src x, tgt x)), y.2 ≠ src x := (List.pairwise_cons.mp h.1).1
    have ne : tgt x ≠ src x := h.2 (src x, tgt x) (List.mem_cons_self ..)
    have e0 : push (valI st.2) ((x :: L).map fun x => (src x, tgt x)) (src x) = valI st.2 (src x) := by
      rw [List.map_cons, push, push_off hx]
      exact if_neg fun q => ne q.symm
    have same : push (valI st.2) ((x :: L).map fun x => (src x, tgt x)) = push (valI (stF src tgt st x).2) (L.map fun x => (src x, tgt x)) := by
      rw [List.map_cons, push]
      congr 1
      unfold stF
      by_cases q : valI st.2 (src x) > 0
      · rw [if_pos q, valI_putF]
      · rw [if_neg q]
        have : valI st.2 (src x) = 0 := by have := h0 (src x); omega
        funext v
        show setF _ _ _ v = _
        unfold setF
        rw [this, Int.add_zero]
        by_cases q : v = tgt x
        · rw [if_pos q, q]
        · rw [if_neg q]
    have h1 : ∀ k, 0 ≤ valI (stF src tgt st x).2 k := fun k => by
      unfold stF
      by_cases q : valI st.2 (src x) > 0
      · rw [if_pos q]
        show 0 ≤ valI (putI _ _ _) k
        rw [valI_put]
        split
        · have := h0 (tgt x); omega
        · exact h0 k
      · rw [if_neg q]; exact h0 k
    obtain ⟨i1, i2⟩ := stF_fold L (stF src tgt st x) h.tl h1
    rw [List.foldl_cons]
    refine ⟨?_, by rw [i2, same]⟩
    rw [i1, ← same, List.filter_cons, e0]
    unfold stF
    by_cases q : valI st.2 (src x) > 0
    · rw [if_pos q, if_pos (decide_eq_true q)]
      generalize hV : push (valI st.2) ((x :: L).map fun x => (src x, tgt x)) = W at e0 ⊢
      rw [List.map_cons, e0, List.append_assoc]; rfl
    · rw [if_neg q, if_neg (by simpa using q)]
end
/-! ### the groups of rankings that fit -/
abbrev Gr : Type := Int × Int × Int
def srcG (x : Gr) : List Key := key2 x.1 x.2.1
def tgtG (x : Gr) : List Key := key2 (x.2.2 + 1) (x.2.1 + 1)
def T3 (b k : Int) (j : Nat) : List Gr := (List.range j).map fun j : Nat => (b, k, b + (j : Int))
def T2 (n : Nat) (l : Nat) (i : Nat) : List Gr := (List.range i).flatMap fun i : Nat => T3 (1 + (l : Int)) (1 + (i : Int)) (n - l)
def T1 (n : Nat) (l : Nat) : List Gr := (List.range l).flatMap fun l => T2 n l (l + 1)
section
variable (ok : Int → Int → Int → Bool) (fin : Int → Bool) (n : Nat)
def restR (e k : Int) : Int := wayR ok (fun k => b2n (fin k)) n ((n : Int) - e).toNat k
def condG (x : Gr) : Bool := ok x.1 x.2.2 x.2.1 && decide (restR ok fin n x.2.2 (x.2.1 + 1) > 0)
def stG (st : List (Gr × Int) × List (List Key × Int)) (x : Gr) : List (Gr × Int) × List (List Key × Int) := if condG ok fin n x = true then stF srcG tgtG st x else st
def st0 : List (Gr × Int) × List (List Key × Int) := ([], [(key2 1 1, 1)])
def E0 : List Gr := (T1 n n).filter (condG ok fin n)
def upV : List Key → Int := push (valI st0.2) ((E0 ok fin n).map fun x => (srcG x, tgtG x))
/-- what steps returns: the groups and in how many ways one comes to each -/
def rowsE : List (Gr × Int) := ((E0 ok fin n).filter fun x => decide (upV ok fin n (srcG x) > 0)).map fun x => (x, upV ok fin n (srcG x))
end
section
variable {ok : Int → Int → Int → Bool} {fin : Int → Bool} {n : Nat}
theorem stG_fold (L : List Gr) : ∀ st, L.foldl (stG ok fin n) st = (L.filter (condG ok fin n)).foldl (stF srcG tgtG) st := by
  induction L with
  | nil => intro st; rfl
  | cons x L ih =>
    intro st
    rw [List.foldl_cons, List.filter_cons, ih]
    unfold stG
    by_cases h : condG ok fin n x = true
    · rw [if_pos h, if_pos h]; rfl
    · rw [if_neg h, if_neg h]
theorem mem_T3 {b k : Int} {j : Nat} {x : Gr} : x ∈ T3 b k j ↔ x.1 = b ∧ x.2.1 = k ∧ b ≤ x.2.2 ∧ x.2.2 < b + j := by
  obtain ⟨b', k', e⟩ := x
  unfold T3
  rw [List.mem_map]
  constructor
  · rintro ⟨i, hi, h⟩
    rw [List.mem_range] at hi
    cases h
    exact ⟨rfl, rfl, by show b ≤ b + (i : Int); omega, by show b + (i : Int) < b + j; omega⟩
  · rintro ⟨h1, h2, h3, h4⟩
    dsimp only at h1 h2 h3 h4
    subst h1 h2
    exact ⟨(e - b').toNat, List.mem_range.mpr (by omega), by congr 2; omega⟩
theorem mem_T2 {l i : Nat} {x : Gr} : x ∈ T2 n l i ↔ x.1 = 1 + l ∧ 1 ≤ x.2.1 ∧ x.2.1 ≤ i ∧ x.1 ≤ x.2.2 ∧ x.2.2 < 1 + (l : Int) + (n - l : Nat) := by
  unfold T2
  rw [List.mem_flatMap]
  constructor
  · rintro ⟨a, ha, h⟩
    rw [List.mem_range] at ha
    obtain ⟨h1, h2, h3, h4⟩ := mem_T3.mp h
    exact ⟨h1, by omega, by omega, by omega, by omega⟩
  · rintro ⟨h1, h2, h3, h4, h5⟩
    exact ⟨(x.2.1 - 1).toNat, List.mem_range.mpr (by omega), mem_T3.mpr ⟨h1, by omega, by omega, by omega⟩⟩
theorem mem_T1 {l : Nat} {x : Gr} (hl : l ≤ n) : x ∈ T1 n l ↔ 1 ≤ x.1 ∧ x.1 ≤ l ∧ 1 ≤ x.2.1 ∧ x.2.1 ≤ x.1 ∧ x.1 ≤ x.2.2 ∧ x.2.2 ≤ n := by
  unfold T1
  rw [List.mem_flatMap]
  constructor
  · rintro ⟨a, ha, h⟩
    rw [List.mem_range] at ha
    obtain ⟨h1, h2, h3, h4, h5⟩ := mem_T2.mp h
    exact ⟨by omega, by omega, h2, by omega, h4, by omega⟩
  · rintro ⟨h1, h2, h3, h4, h5, h6⟩
    exact ⟨(x.1 - 1).toNat, List.mem_range.mpr (by omega), mem_T2.mpr ⟨by omega, h3, by omega, h5, by omega⟩⟩
theorem pair_flat {α β : Type} {R : β → β → Prop} {f : α → List β} : ∀ {l : List α}, (∀ a ∈ l, (f a).Pairwise R) → l.Pairwise (fun a b => ∀ x ∈ f a, ∀ y ∈ f b, R x y) → (l.flatMap f).Pairwise R
  | [], _, _ => .nil
  | a :: l, h, h2 => by
    rw [List.flatMap_cons, List.pairwise_append]
    rw [List.pairwise_cons] at h2
    refine ⟨h a (by simp), pair_flat (fun b hb => h b (by simp [hb])) h2.2, fun x hx y hy => ?_⟩
    obtain ⟨b, hb, hy⟩ := List.mem_flatMap.mp hy
    exact h2.1 b hb x hx y hy
theorem pair_range {R : Nat → Nat → Prop} (h : ∀ a b, a < b → R a b) (m : Nat) : (List.range m).Pairwise R := List.Pairwise.imp (fun {a b} q => h a b q) List.pairwise_lt_range
/-- the order of the groups: by begins, numbers, ends -/
def ltG (x y : Gr) : Prop := x.1 < y.1 ∨ x.1 = y.1 ∧ (x.2.1 < y.2.1 ∨ x.2.1 = y.2.1 ∧ x.2.2 < y.2.2)
theorem T1_lt (l : Nat) (hl : l ≤ n) : (T1 n l).Pairwise ltG := by
  refine pair_flat (fun a _ => pair_flat (fun b _ => ?_) (pair_range (fun b c h x hx y hy => ?_) _)) (pair_range (fun b c h x hx y hy => ?_) _)
  · refine List.pairwise_map.mpr (pair_range (fun b c h => .inr ⟨rfl, .inr ⟨rfl, ?_⟩⟩) _)
    dsimp only
    omega
  · obtain ⟨h1, h2, _⟩ := mem_T3.mp hx
    obtain ⟨h3, h4, _⟩ := mem_T3.mp hy
    exact .inr ⟨by omega, .inl (by omega)⟩
  · obtain ⟨h1, _⟩ := mem_T2.mp hx
    obtain ⟨h3, _⟩ := mem_T2.mp hy
    exact .inl (by omega)
theorem E0_lt : (E0 ok fin n).Pairwise ltG := List.Pairwise.filter _ (T1_lt n (Nat.le_refl _))
theorem mem_E0 {x : Gr} : x ∈ E0 ok fin n ↔ (1 ≤ x.2.1 ∧ x.2.1 ≤ x.1 ∧ x.1 ≤ x.2.2 ∧ x.2.2 ≤ n) ∧ ok x.1 x.2.2 x.2.1 = true ∧ restR ok fin n x.2.2 (x.2.1 + 1) > 0 := by
  unfold E0
  rw [List.mem_filter, mem_T1 (Nat.le_refl _)]
  unfold condG
  rw [Bool.and_eq_true, decide_eq_true_eq]
  constructor
  · rintro ⟨⟨h1, h2, h3, h4, h5, h6⟩, h⟩; exact ⟨⟨h3, h4, h5, h6⟩, h⟩
  · rintro ⟨⟨h3, h4, h5, h6⟩, h⟩; exact ⟨⟨by omega, by omega, h3, h4, h5, h6⟩, h⟩
theorem topo_of {L : List Gr} (h : L.Pairwise ltG) (hm : ∀ x ∈ L, x.1 ≤ x.2.2) : Topo (L.map fun x => (srcG x, tgtG x)) := by
  constructor
  · refine List.pairwise_map.mpr ?_
    refine List.Pairwise.imp_of_mem (fun {x y} hx hy q e => ?_) h
    have := hm y hy
    have e' := key2_inj.mp e
    unfold ltG at q
    omega
  · intro p hp e
    obtain ⟨x, hx, rfl⟩ := List.mem_map.mp hp
    have := hm x hx
    have e' := key2_inj.mp e
    omega
theorem E0_topo : Topo ((E0 ok fin n).map fun x => (srcG x, tgtG x)) := topo_of E0_lt fun x hx => (mem_E0.mp hx).1.2.2.1
theorem st0_nonneg (k : List Key) : 0 ≤ valI st0.2 k := by
  show 0 ≤ valI [(key2 1 1, 1)] k
  rw [valI_cons, valI_nil]; split <;> decide
/-- what the three loops make -/
theorem steps_rows : ((T1 n n).foldl (stG ok fin n) st0).1 = rowsE ok fin n := by
  rw [stG_fold]
  exact (stF_fold (E0 ok fin n) st0 E0_topo st0_nonneg).1.trans (List.nil_append _)
end

/-! ### sums over lists -/
theorem perm_isum {l m : List Int} (h : l.Perm m) : l.sum = m.sum := by
  induction h with
  | nil => rfl
  | cons a _ ih => rw [List.sum_cons, List.sum_cons, ih]
  | swap a b l => rw [List.sum_cons, List.sum_cons, List.sum_cons, List.sum_cons]; omega
  | trans _ _ h1 h2 => exact h1.trans h2
theorem isum_app (l m : List Int) : (l ++ m).sum = l.sum + m.sum := by
  induction l with
  | nil => simp
  | cons a l ih => rw [List.cons_append, List.sum_cons, List.sum_cons, ih]; omega
theorem isum_flat {α : Type} (f : α → List Int) : ∀ l : List α, (l.flatMap f).sum = (l.map fun a => (f a).sum).sum
  | [] => rfl
  | a :: l => by rw [List.flatMap_cons, isum_app, isum_flat f l]; rfl
theorem isum_filter {α : Type} (p : α → Bool) (f : α → Int) : ∀ l : List α, ((l.filter p).map f).sum = (l.map fun a => if p a = true then f a else 0).sum
  | [] => rfl
  | a :: l => by
    rw [List.filter_cons, List.map_cons, List.sum_cons, ← isum_filter p f l]
    by_cases h : p a = true
    · rw [if_pos h, if_pos h, List.map_cons, List.sum_cons]
    · rw [if_neg h, if_neg h]; omega
theorem isum_congr {α : Type} {f g : α → Int} {l : List α} (h : ∀ a ∈ l, f a = g a) : (l.map f).sum = (l.map g).sum := by rw [List.map_congr_left h]
theorem isum_zero {α : Type} {f : α → Int} {l : List α} (h : ∀ a ∈ l, f a = 0) : (l.map f).sum = 0 := by
  rw [isum_congr (g := fun _ => 0) h]
  induction l with
  | nil => rfl
  | cons a l ih => rw [List.map_cons, List.sum_cons, ih fun b hb => h b (by simp [hb])]; rfl
theorem isum_add {α : Type} (f g : α → Int) : ∀ l : List α, (l.map fun a => f a + g a).sum = (l.map f).sum + (l.map g).sum
  | [] => rfl
  | a :: l => by rw [List.map_cons, List.map_cons, List.map_cons, List.sum_cons, List.sum_cons, List.sum_cons, isum_add f g l]; omega
theorem isum_mul {α : Type} (f : α → Int) (c : Int) : ∀ l : List α, (l.map fun a => c * f a).sum = c * (l.map f).sum
  | [] => by simp
  | a :: l => by rw [List.map_cons, List.map_cons, List.sum_cons, List.sum_cons, isum_mul f c l, Int.mul_add]
theorem isum_swap {α β : Type} (f : α → β → Int) (m : List β) : ∀ l : List α, (l.map fun a => (m.map fun b => f a b).sum).sum = (m.map fun b => (l.map fun a => f a b).sum).sum
  | [] => (isum_zero fun _ _ => rfl).symm
  | a :: l => by
    rw [List.map_cons, List.sum_cons, isum_swap f m l, ← isum_add]
    exact isum_congr fun b _ => by rw [List.map_cons, List.sum_cons]
theorem isum_one {α : Type} [DecidableEq α] {f : α → Int} {a : α} : ∀ {l : List α}, l.Nodup → a ∈ l → (∀ b ∈ l, b ≠ a → f b = 0) → (l.map f).sum = f a
  | [], _, h, _ => nomatch h
  | b :: l, hn, h, h0 => by
    rw [List.nodup_cons] at hn
    rw [List.map_cons, List.sum_cons]
    by_cases q : b = a
    · subst q
      rw [isum_zero fun c hc => h0 c (by simp [hc]) fun e => hn.1 (e ▸ hc)]; omega
    · rw [h0 b (by simp) q, isum_one hn.2 ((List.mem_cons.mp h).resolve_left fun e => q e.symm) fun c hc => h0 c (by simp [hc])]; omega
theorem cnt_sum (p : List Nat → Bool) (m : Nat) : ((cnt p m : Nat) : Int) = ((comps m).map fun c => if p c = true then (1 : Int) else 0).sum := by
  unfold cnt
  induction comps m with
  | nil => rfl
  | cons c l ih =>
    rw [List.filter_cons, List.map_cons, List.sum_cons, ← ih]
    by_cases h : p c = true
    · rw [if_pos h, if_pos h, List.length_cons]; omega
    · rw [if_neg h, if_neg h]; omega
theorem cnt_pos {p : List Nat → Bool} {m : Nat} : 0 < cnt p m ↔ ∃ c ∈ comps m, p c = true := by
  unfold cnt
  rw [List.length_pos_iff_exists_mem]
  constructor
  · rintro ⟨c, hc⟩; rw [List.mem_filter] at hc; exact ⟨c, hc⟩
  · rintro ⟨c, hc⟩; exact ⟨c, List.mem_filter.mpr hc⟩
theorem cnt_zero_of {p : List Nat → Bool} {m : Nat} (h : ∀ c ∈ comps m, p c = false) : cnt p m = 0 := by
  have : ¬ 0 < cnt p m := fun q => by obtain ⟨c, hc, e⟩ := cnt_pos.mp q; rw [h c hc] at e; cases e
  omega
theorem len_le_sum : ∀ {c : List Nat}, (∀ a ∈ c, 1 ≤ a) → c.length ≤ c.sum
  | [], _ => Nat.le_refl _
  | a :: c, h => by
    have := len_le_sum (c := c) fun x hx => h x (by simp [hx])
    have := h a (by simp)
    rw [List.length_cons, List.sum_cons]; omega
/-! ### the groups of a list of sizes -/
def grpsC : Int → Int → List Nat → List Gr
  | _, _, [] => []
  | b, k, a :: c => (b, k, b + a - 1) :: grpsC (b + a) (k + 1) c
theorem grps_app : ∀ (c d : List Nat) (b k : Int), grpsC b k (c ++ d) = grpsC b k c ++ grpsC (b + (c.sum : Nat)) (k + (c.length : Nat)) d
  | [], d, b, k => by simp [grpsC]
  | a :: c, d, b, k => by
    rw [List.cons_append, grpsC, grpsC, grps_app c d, List.cons_append, List.sum_cons, List.length_cons]
    congr 3 <;> omega
theorem path_grps {ok : Int → Int → Int → Bool} : ∀ (c : List Nat) (b k : Int), pathC ok b k c = (grpsC b k c).all fun x => ok x.1 x.2.2 x.2.1
  | [], _, _ => rfl
  | a :: c, b, k => by rw [pathC, grpsC, List.all_cons, path_grps c]
theorem mem_grps : ∀ {c : List Nat} {b k : Int} {x : Gr}, x ∈ grpsC b k c ↔ ∃ (d : List Nat) (a : Nat) (e : List Nat), c = d ++ a :: e ∧ x = (b + (d.sum : Nat), k + (d.length : Nat), b + (d.sum : Nat) + a - 1)
  | [], b, k, x => by simp [grpsC]
  | a :: c, b, k, x => by
    rw [grpsC, List.mem_cons, mem_grps (c := c)]
    constructor
    · rintro (rfl | ⟨d, a', e, rfl, rfl⟩)
      · exact ⟨[], a, c, rfl, by simp⟩
      · refine ⟨a :: d, a', e, rfl, ?_⟩
        rw [List.sum_cons, List.length_cons, Prod.mk.injEq, Prod.mk.injEq]
        omega
    · rintro ⟨d, a', e, h, rfl⟩
      cases d with
      | nil => cases h; left; simp
      | cons z d =>
        cases h
        refine .inr ⟨d, a', e, rfl, ?_⟩
        rw [List.sum_cons, List.length_cons, Prod.mk.injEq, Prod.mk.injEq]
        omega
/-! ### what the values count -/
section
variable {ok : Int → Int → Int → Bool} {fin : Int → Bool} {n : Nat}
theorem restR_cnt {m : Nat} (h : m ≤ n) (k : Int) : restR ok fin n m k = (cnt (goodC ok fin (m + 1) k) (n - m) : Nat) := by
  unfold restR
  rw [way_cnt]
  congr 2
  · congr 1; omega
  · omega
theorem rest_pos {m : Nat} (h : m ≤ n) {k : Int} : restR ok fin n m k > 0 ↔ ∃ c ∈ comps (n - m), goodC ok fin (m + 1) k c = true := by
  rw [restR_cnt h, ← cnt_pos]; omega
theorem rest_nonneg {m : Nat} (h : m ≤ n) (k : Int) : 0 ≤ restR ok fin n m k := by rw [restR_cnt h]; omega
theorem rest_back {m a : Nat} (h : m + a ≤ n) (ha : 1 ≤ a) {k : Int} (h1 : ok (m + 1) (m + a) k = true) (h2 : restR ok fin n ((m + a : Nat) : Int) (k + 1) > 0) : restR ok fin n m k > 0 := by
  obtain ⟨c, hc, hg⟩ := (rest_pos h).mp h2
  obtain ⟨c1, c2⟩ := mem_comps.mp hc
  refine (rest_pos (by omega)).mpr ⟨a :: c, mem_comps.mpr ⟨fun x hx => ?_, by rw [List.sum_cons, c2]; omega⟩, ?_⟩
  · rcases List.mem_cons.mp hx with rfl | hx
    · exact ha
    · exact c1 x hx
  · rw [goodC, Bool.and_eq_true]
    refine ⟨?_, ?_⟩
    · rw [show ((m : Int) + 1 + a - 1) = m + a by omega]; exact h1
    · rw [show ((m : Int) + 1 + a) = ((m + a : Nat) : Int) + 1 by omega]; exact hg
def pathN (ok : Int → Int → Int → Bool) (k : Int) (c : List Nat) : Bool := pathC ok 1 1 c && decide ((c.length : Int) = k - 1)
variable {κ W : Type} [DecidableEq κ] [DecidableEq W] {key : Int → Int → W → κ} {words : List W} {later : W → Gr → W} {w0 : W}
/-- where a list of sizes leads -/
def wordC (later : W → Gr → W) (w0 : W) (c : List Nat) : W := (grpsC 1 1 c).foldl later w0
theorem word_snoc (c : List Nat) (a : Nat) : wordC later w0 (c ++ [a]) = later (wordC later w0 c) (1 + (c.sum : Nat), 1 + (c.length : Nat), 1 + (c.sum : Nat) + a - 1) := by
  unfold wordC
  rw [grps_app, List.foldl_append]; rfl
def edgesW (key : Int → Int → W → κ) (words : List W) (later : W → Gr → W) (L : List Gr) : List (κ × κ) := L.flatMap fun x => words.map fun w => (key x.1 x.2.1 w, key (x.2.2 + 1) (x.2.1 + 1) (later w x))
structure Keyed3 (key : Int → Int → W → κ) (words : List W) (later : W → Gr → W) (w0 : W) : Prop where
  inj : ∀ {a b w a' b' w'}, key a b w = key a' b' w' → a = a' ∧ b = b' ∧ w = w'
  nd : words.Nodup
  w0 : w0 ∈ words
  st : ∀ w x, w ∈ words → later w x ∈ words
theorem edges_topo (hk : Keyed3 key words later w0) {L : List Gr} (h : L.Pairwise ltG) (hm : ∀ x ∈ L, x.1 ≤ x.2.2) : Topo (edgesW key words later L) := by
  constructor
  · refine pair_flat (fun x hx => ?_) ?_
    · refine List.pairwise_map.mpr (List.Pairwise.imp (R := fun _ _ => True) (fun _ e => ?_) ?_)
      · have := hm x hx
        have := (hk.inj e).1
        omega
      · exact List.pairwise_of_forall fun _ _ => trivial
    · refine List.Pairwise.imp_of_mem (fun {x y} hx hy q p hp p' hp' e => ?_) h
      obtain ⟨w, _, rfl⟩ := List.mem_map.mp hp
      obtain ⟨w', _, rfl⟩ := List.mem_map.mp hp'
      have := hm y hy
      have e1 := (hk.inj e).1
      unfold ltG at q
      omega
  · intro p hp e
    obtain ⟨x, hx, hp⟩ := List.mem_flatMap.mp hp
    obtain ⟨w, _, rfl⟩ := List.mem_map.mp hp
    have := hm x hx
    have := (hk.inj e).1
    omega
theorem wordC_mem (hk : Keyed3 key words later w0) (c : List Nat) : wordC later w0 c ∈ words := by
  unfold wordC
  have : ∀ (l : List Gr) (w : W), w ∈ words → l.foldl later w ∈ words := by
    intro l
    induction l with
    | nil => intro w h; exact h
    | cons x l ih => intro w h; exact ih _ (hk.st w x h)
  exact this _ _ hk.w0
/-- the value at a place, a number and a word -/
theorem push_val (hk : Keyed3 key words later w0) {L : List Gr} (hL : L.Pairwise ltG) (h1 : ∀ x ∈ L, x ∈ E0 ok fin n) (h2 : ∀ x ∈ E0 ok fin n, (∃ d ∈ comps (x.1 - 1).toNat, pathN ok x.2.1 d = true) → x ∈ L) :
    ∀ (m : Nat) (k : Int) (w : W), m ≤ n → push (valI [(key 1 1 w0, 1)]) (edgesW key words later L) (key (m + 1) k w) = if m = 0 ∨ restR ok fin n m k > 0 then ((cnt (fun c => pathN ok k c && decide (wordC later w0 c = w)) m : Nat) : Int) else 0 := by
  have hT : Topo (edgesW key words later L) := edges_topo hk hL fun x hx => (mem_E0.mp (h1 x hx)).1.2.2.1
  have nL : L.Nodup := List.Pairwise.imp (fun {x y} q e => by subst e; unfold ltG at q; omega) hL
  intro m
  induction m using Nat.strongRecOn with
  | ind m ih =>
    intro k w hm
    rw [push_sum hT]
    cases m with
    | zero =>
      have e0 : ((edgesW key words later L).filter fun x => decide (x.2 = key ((0 : Nat) + 1) k w)) = [] := by
        refine List.filter_eq_nil_iff.mpr fun p hp q => ?_
        obtain ⟨x, hx, hp⟩ := List.mem_flatMap.mp hp
        obtain ⟨w', _, rfl⟩ := List.mem_map.mp hp
        have := (hk.inj (of_decide_eq_true q)).1
        have := (mem_E0.mp (h1 x hx)).1
        omega
      rw [e0, if_pos (.inl rfl), valI_cons, valI_nil]
      show (if key 1 1 w0 = key ((0 : Nat) + 1) k w then (1 : Int) else 0) + 0 = _
      unfold cnt
      rw [comps_zero, List.filter_cons]
      unfold pathN wordC grpsC
      show _ = (((if (pathC ok 1 1 [] && decide (((0 : Nat) : Int) = k - 1) && decide (w0 = w)) = true then [[]] else []).length : Nat) : Int)
      by_cases q : k = 1 ∧ w0 = w
      · obtain ⟨rfl, rfl⟩ := q
        rw [if_pos (show key 1 1 w0 = key ((0 : Nat) + 1) 1 w0 by simp), if_pos (by simp [pathC])]; rfl
      · rw [if_neg, if_neg]
        · rfl
        · intro e
          rw [Bool.and_eq_true, Bool.and_eq_true, decide_eq_true_eq, decide_eq_true_eq] at e
          exact q ⟨by omega, e.2⟩
        · intro e
          obtain ⟨_, e1, e2⟩ := hk.inj e
          exact q ⟨e1.symm, e2⟩
    | succ m =>
      have ev : valI [(key 1 1 w0, (1 : Int))] (key ((m + 1 : Nat) + 1) k w) = 0 := by
        rw [valI_cons, valI_nil, if_neg fun e => by have := (hk.inj e).1; omega]
      rw [ev, Int.zero_add]
      -- the edges into here
      let xs : Nat → Gr := fun j => ((m : Int) + 1 - j, k - 1, (m : Int) + 1)
      have perm : ((edgesW key words later L).filter fun x => decide (x.2 = key ((m + 1 : Nat) + 1) k w)).Perm ((List.range (m + 1)).flatMap fun j => (words.filter fun w' => decide (xs j ∈ L) && decide (later w' (xs j) = w)).map fun w' => (key (xs j).1 (k - 1) w', key ((m + 1 : Nat) + 1) k w)) := by
        refine perm_mem ?_ ?_ fun p => ?_
        · refine nodup_filter _ (nodup_flatMap nL (fun x _ => nodup_map (fun a b e => ?_) hk.nd) fun x hx y hy p hp hp' => ?_)
          · exact (hk.inj (Prod.mk.inj e).1).2.2
          · obtain ⟨w1, _, rfl⟩ := List.mem_map.mp hp
            obtain ⟨w2, _, e⟩ := List.mem_map.mp hp'
            obtain ⟨e1, e2⟩ := Prod.mk.inj e
            have a1 := hk.inj e1
            have a2 := (hk.inj e2).1
            obtain ⟨x1, x2, x3⟩ := x
            obtain ⟨y1, y2, y3⟩ := y
            dsimp only at a1 a2
            rw [a1.1, a1.2.1, show x3 = y3 by omega]
        · refine nodup_flatMap List.nodup_range (fun j _ => nodup_map (fun a b e => (hk.inj (Prod.mk.inj e).1).2.2) (nodup_filter _ hk.nd)) fun i hi j hj p hp hp' => ?_
          obtain ⟨w1, _, rfl⟩ := List.mem_map.mp hp
          obtain ⟨w2, _, e⟩ := List.mem_map.mp hp'
          have : (m : Int) + 1 - j = (m : Int) + 1 - i := (hk.inj (Prod.mk.inj e).1).1
          omega
        · rw [List.mem_filter, decide_eq_true_eq, List.mem_flatMap]
          constructor
          · rintro ⟨hp, e⟩
            obtain ⟨x, hx, hp⟩ := List.mem_flatMap.mp hp
            obtain ⟨w', hw', rfl⟩ := List.mem_map.mp hp
            obtain ⟨e1, e2, e3⟩ := hk.inj e
            obtain ⟨⟨q1, q2, q3, q4⟩, _⟩ := mem_E0.mp (h1 x hx)
            have ex : x = xs ((m : Int) + 1 - x.1).toNat := by
              obtain ⟨x1, x2, x3⟩ := x
              dsimp only at e1 e2 q1 q2 q3 q4
              show (x1, x2, x3) = ((m : Int) + 1 - (((m : Int) + 1 - x1).toNat : Nat), k - 1, (m : Int) + 1)
              rw [show ((m : Int) + 1 - (((m : Int) + 1 - x1).toNat : Nat)) = x1 by omega, show x2 = k - 1 by omega, show x3 = (m : Int) + 1 by omega]
            refine ⟨((m : Int) + 1 - x.1).toNat, List.mem_range.mpr (by omega), List.mem_map.mpr ⟨w', ?_, ?_⟩⟩
            · rw [List.mem_filter, ← ex, Bool.and_eq_true, decide_eq_true_eq, decide_eq_true_eq]
              exact ⟨hw', hx, e3⟩
            · rw [← ex]
              refine Prod.ext ?_ e.symm
              show key x.1 (k - 1) w' = key x.1 x.2.1 w'
              rw [show x.2.1 = k - 1 by omega]
          · rintro ⟨j, hj, hp⟩
            obtain ⟨w', hw', rfl⟩ := List.mem_map.mp hp
            rw [List.mem_filter, Bool.and_eq_true, decide_eq_true_eq, decide_eq_true_eq] at hw'
            obtain ⟨hw1, hx, hl⟩ := hw'
            refine ⟨List.mem_flatMap.mpr ⟨xs j, hx, List.mem_map.mpr ⟨w', hw1, ?_⟩⟩, rfl⟩
            refine Prod.ext rfl ?_
            show key ((m : Int) + 1 + 1) (k - 1 + 1) (later w' (xs j)) = key ((m + 1 : Nat) + 1) k w
            rw [hl, show k - 1 + 1 = k by omega]
            rfl
      rw [perm_isum (perm.map _), List.map_flatMap, isum_flat, cnt_last, isum_cast, List.map_map]
      have term : ∀ j ∈ List.range (m + 1), ((((words.filter fun w' => decide (xs j ∈ L) && decide (later w' (xs j) = w)).map fun w' => (key (xs j).1 (k - 1) w', key ((m + 1 : Nat) + 1) k w)).map fun x => push (valI [(key 1 1 w0, (1 : Int))]) (edgesW key words later L) x.1).sum) =
          if restR ok fin n ((m + 1 : Nat) : Int) k > 0 then ((cnt (fun c => pathN ok k (c ++ [j + 1]) && decide (wordC later w0 (c ++ [j + 1]) = w)) (m - j) : Nat) : Int) else 0 := by
        intro j hj
        rw [List.mem_range] at hj
        rw [List.map_map]
        have eV : ∀ w', push (valI [(key 1 1 w0, (1 : Int))]) (edgesW key words later L) (key (xs j).1 (k - 1) w') = if m - j = 0 ∨ restR ok fin n ((m - j : Nat) : Int) (k - 1) > 0 then ((cnt (fun c => pathN ok (k - 1) c && decide (wordC later w0 c = w')) (m - j) : Nat) : Int) else 0 := by
          intro w'
          have := ih (m - j) (by omega) (k - 1) w' (by omega)
          rw [← this]
          congr 2
          show (m : Int) + 1 - j = ((m - j : Nat) : Int) + 1
          omega
        have body : ∀ c ∈ comps (m - j), (pathN ok k (c ++ [j + 1]) && decide (wordC later w0 (c ++ [j + 1]) = w)) = (ok (xs j).1 (xs j).2.2 (xs j).2.1 && (pathN ok (k - 1) c && decide (later (wordC later w0 c) (xs j) = w))) := by
          intro c hc
          have cs := (mem_comps.mp hc).2
          unfold pathN
          rw [path_snoc, word_snoc, cs, List.length_append]
          have e1 : ((c.length + [j + 1].length : Nat) : Int) = k - 1 ↔ (c.length : Int) = k - 1 - 1 := by
            show ((c.length + 1 : Nat) : Int) = k - 1 ↔ _
            omega
          rw [show decide (((c.length + [j + 1].length : Nat) : Int) = k - 1) = decide ((c.length : Int) = k - 1 - 1) from decide_eq_decide.mpr e1]
          by_cases q : (c.length : Int) = k - 1 - 1
          · have ex : ((1 : Int) + ((m - j : Nat) : Int), (1 : Int) + (c.length : Nat), (1 : Int) + ((m - j : Nat) : Int) + ((j + 1 : Nat) : Int) - 1) = xs j := by
              show _ = ((m : Int) + 1 - j, k - 1, (m : Int) + 1)
              rw [show (1 : Int) + ((m - j : Nat) : Int) = (m : Int) + 1 - j by omega, show (1 : Int) + (c.length : Nat) = k - 1 by omega, show (m : Int) + 1 - j + ((j + 1 : Nat) : Int) - 1 = (m : Int) + 1 by omega]
            have ok1 : ok (1 + ((m - j : Nat) : Int)) (1 + ((m - j : Nat) : Int) + ((j + 1 : Nat) : Int) - 1) (1 + (c.length : Nat)) = ok (xs j).1 (xs j).2.2 (xs j).2.1 := by rw [← ex]
            rw [ex, ok1]
            cases pathC ok 1 1 c <;> cases ok (xs j).1 (xs j).2.2 (xs j).2.1 <;> simp
          · rw [decide_eq_false q]
            simp
        rw [cnt_congr body]
        by_cases hR : restR ok fin n ((m + 1 : Nat) : Int) k > 0
        · rw [if_pos hR]
          by_cases hok : ok (xs j).1 (xs j).2.2 (xs j).2.1 = true
          · simp only [hok, Bool.true_and]
            have hback : restR ok fin n ((m - j : Nat) : Int) (k - 1) > 0 := by
              refine rest_back (a := j + 1) (by omega) (by omega) (k := k - 1) ?_ ?_
              · have e1 : ((m - j : Nat) : Int) + 1 = (xs j).1 := by show _ = (m : Int) + 1 - j; omega
                have e2 : ((m - j : Nat) : Int) + ((j + 1 : Nat) : Int) = (xs j).2.2 := by show _ = (m : Int) + 1; omega
                rw [e1, e2]; exact hok
              · rw [show k - 1 + 1 = k by omega, show m - j + (j + 1) = m + 1 by omega]; exact hR
            -- as a sum over words
            have sp : ((cnt (fun c => pathN ok (k - 1) c && decide (later (wordC later w0 c) (xs j) = w)) (m - j) : Nat) : Int) = (words.map fun w' => if decide (later w' (xs j) = w) = true then ((cnt (fun c => pathN ok (k - 1) c && decide (wordC later w0 c = w')) (m - j) : Nat) : Int) else 0).sum := by
              have e1 : ∀ w' ∈ words, (if decide (later w' (xs j) = w) = true then ((cnt (fun c => pathN ok (k - 1) c && decide (wordC later w0 c = w')) (m - j) : Nat) : Int) else 0) = ((comps (m - j)).map fun c => if decide (later w' (xs j) = w) = true ∧ (pathN ok (k - 1) c && decide (wordC later w0 c = w')) = true then (1 : Int) else 0).sum := by
                intro w' _
                by_cases q : decide (later w' (xs j) = w) = true
                · rw [if_pos q, cnt_sum]
                  exact isum_congr fun c _ => by simp only [q, true_and]
                · rw [if_neg q]
                  exact (isum_zero fun c _ => if_neg fun h => q h.1).symm
              rw [isum_congr e1, isum_swap, cnt_sum]
              refine isum_congr fun c _ => ?_
              rw [isum_one hk.nd (wordC_mem hk c) fun w' _ hne => if_neg fun h => hne ?_]
              · by_cases q : (pathN ok (k - 1) c && decide (later (wordC later w0 c) (xs j) = w)) = true
                · rw [if_pos q]
                  rw [Bool.and_eq_true] at q
                  rw [if_pos ⟨q.2, by rw [q.1]; simp⟩]
                · rw [if_neg q, if_neg]
                  rintro ⟨a, b⟩
                  rw [Bool.and_eq_true] at b
                  exact q (by rw [b.1, a]; rfl)
              · have := h.2
                rw [Bool.and_eq_true, decide_eq_true_eq] at this
                exact this.2.symm
            rw [sp]
            by_cases hx : xs j ∈ L
            · have ew : (words.filter fun w' => decide (xs j ∈ L) && decide (later w' (xs j) = w)) = words.filter fun w' => decide (later w' (xs j) = w) := List.filter_congr fun w' _ => by rw [decide_eq_true hx, Bool.true_and]
              rw [ew, isum_filter]
              refine isum_congr fun w' _ => ?_
              have e := eV w'
              rw [if_pos (.inr hback)] at e
              show (if decide (later w' (xs j) = w) = true then push (valI [(key 1 1 w0, (1 : Int))]) (edgesW key words later L) (key (xs j).1 (k - 1) w') else 0) = _
              rw [e]
            · -- no way leads there
              have ew : (words.filter fun w' => decide (xs j ∈ L) && decide (later w' (xs j) = w)) = [] := List.filter_eq_nil_iff.mpr fun w' _ => by rw [decide_eq_false hx]; simp
              rw [ew]
              symm
              refine isum_zero fun w' _ => ?_
              split
              · rw [cnt_zero_of]
                · rfl
                intro c hc
                cases hp : pathN ok (k - 1) c with
                | false => rfl
                | true =>
                  exfalso
                  obtain ⟨c1, c2⟩ := mem_comps.mp hc
                  have hlen := len_le_sum c1
                  have hpk : (c.length : Int) = k - 1 - 1 := by
                    unfold pathN at hp
                    rw [Bool.and_eq_true, decide_eq_true_eq] at hp
                    exact hp.2
                  refine hx (h2 _ (mem_E0.mpr ⟨?_, hok, ?_⟩) ⟨c, ?_, hp⟩)
                  · show 1 ≤ k - 1 ∧ k - 1 ≤ (m : Int) + 1 - j ∧ (m : Int) + 1 - j ≤ (m : Int) + 1 ∧ (m : Int) + 1 ≤ n
                    omega
                  · show restR ok fin n ((m : Int) + 1) (k - 1 + 1) > 0
                    rw [show k - 1 + 1 = k by omega]
                    exact hR
                  · show c ∈ comps ((m : Int) + 1 - j - 1).toNat
                    rw [show ((m : Int) + 1 - j - 1).toNat = m - j by omega]
                    exact hc
              · rfl
          · have hx : xs j ∉ L := fun q => hok (mem_E0.mp (h1 _ q)).2.1
            have ew : (words.filter fun w' => decide (xs j ∈ L) && decide (later w' (xs j) = w)) = [] := List.filter_eq_nil_iff.mpr fun w' _ => by rw [decide_eq_false hx]; simp
            rw [ew, cnt_zero_of]
            · rfl
            · intro c _
              cases q : ok (xs j).1 (xs j).2.2 (xs j).2.1 with
              | true => exact absurd q hok
              | false => rfl
        · rw [if_neg hR]
          have hx : xs j ∉ L := fun q => hR (by
            have := (mem_E0.mp (h1 _ q)).2.2
            rw [show (xs j).2.1 + 1 = k by show k - 1 + 1 = k; omega] at this
            exact this)
          have ew : (words.filter fun w' => decide (xs j ∈ L) && decide (later w' (xs j) = w)) = [] := List.filter_eq_nil_iff.mpr fun w' _ => by rw [decide_eq_false hx]; simp
          rw [ew]; rfl
      rw [isum_congr term]
      by_cases hR : restR ok fin n ((m + 1 : Nat) : Int) k > 0
      · rw [if_pos (.inr hR)]
        exact isum_congr fun j _ => if_pos hR
      · rw [if_neg fun q => q.elim (fun q => by omega) hR]
        exact isum_zero fun j _ => if_neg hR
end

section
variable {ok : Int → Int → Int → Bool} {fin : Int → Bool} {n : Nat}
theorem edges_unit (L : List Gr) : edgesW (fun a b (_ : Unit) => key2 a b) [()] (fun _ _ => ()) L = L.map fun x => (srcG x, tgtG x) := by
  unfold edgesW
  induction L with
  | nil => rfl
  | cons x L ih => rw [List.flatMap_cons, ih]; rfl
theorem unit_keyed : Keyed3 (fun a b (_ : Unit) => key2 a b) [()] (fun _ _ => ()) () := ⟨fun e => ⟨(key2_inj.mp e).1, (key2_inj.mp e).2, rfl⟩, by simp, by simp, by simp⟩
theorem V_val (m : Nat) (k : Int) (hm : m ≤ n) : upV ok fin n (key2 (m + 1) k) = if m = 0 ∨ restR ok fin n m k > 0 then ((cnt (pathN ok k) m : Nat) : Int) else 0 := by
  have := push_val (ok := ok) (fin := fin) (n := n) unit_keyed E0_lt (fun _ h => h) (fun _ h _ => h) m k () hm
  rw [edges_unit] at this
  refine this.trans ?_
  have e : (fun c => pathN ok k c && decide (wordC (fun _ _ => ()) () c = ())) = pathN ok k := by funext c; simp
  rw [e]
theorem V_nonneg (m : Nat) (k : Int) (hm : m ≤ n) : 0 ≤ upV ok fin n (key2 (m + 1) k) := by
  rw [V_val m k hm]; split <;> omega
theorem mem_rows {x : Gr} {u : Int} : (x, u) ∈ rowsE ok fin n ↔ x ∈ E0 ok fin n ∧ upV ok fin n (srcG x) > 0 ∧ u = upV ok fin n (srcG x) := by
  unfold rowsE
  rw [List.mem_map]
  constructor
  · rintro ⟨y, hy, e⟩
    rw [List.mem_filter, decide_eq_true_eq] at hy
    cases e
    exact ⟨hy.1, hy.2, rfl⟩
  · rintro ⟨h1, h2, rfl⟩
    exact ⟨x, by rw [List.mem_filter, decide_eq_true_eq]; exact ⟨h1, h2⟩, rfl⟩
/-- the rows are the groups of rankings that fit -/
theorem row_iff {x : Gr} : (∃ u, (x, u) ∈ rowsE ok fin n) ↔ ∃ c ∈ comps n, goodC ok fin 1 1 c = true ∧ x ∈ grpsC 1 1 c := by
  obtain ⟨b, k, e⟩ := x
  constructor
  · rintro ⟨u, h⟩
    obtain ⟨h1, h2, _⟩ := mem_rows.mp h
    obtain ⟨⟨q1, q2, q3, q4⟩, q5, q6⟩ := mem_E0.mp h1
    dsimp only at q1 q2 q3 q4 q5 q6
    obtain ⟨m, rfl⟩ : ∃ m : Nat, b = m + 1 := ⟨(b - 1).toNat, by omega⟩
    obtain ⟨l, rfl⟩ : ∃ l : Nat, e = l := ⟨e.toNat, by omega⟩
    rw [show srcG ((m : Int) + 1, k, (l : Int)) = key2 (m + 1) k from rfl, V_val m k (by omega)] at h2
    split at h2
    · obtain ⟨d, hd, hp⟩ := cnt_pos.mp (show 0 < cnt (pathN ok k) m by omega)
      obtain ⟨f, hf, hg⟩ := (rest_pos (by omega)).mp q6
      obtain ⟨d1, d2⟩ := mem_comps.mp hd
      obtain ⟨f1, f2⟩ := mem_comps.mp hf
      unfold pathN at hp
      rw [Bool.and_eq_true, decide_eq_true_eq] at hp
      refine ⟨d ++ (l - m) :: f, mem_comps.mpr ⟨fun a ha => ?_, by rw [List.sum_append, List.sum_cons]; omega⟩, ?_, mem_grps.mpr ⟨d, l - m, f, rfl, ?_⟩⟩
      · rcases List.mem_append.mp ha with h | h
        · exact d1 a h
        · rcases List.mem_cons.mp h with rfl | h
          · omega
          · exact f1 a h
      · rw [good_app, hp.1, Bool.true_and, goodC, Bool.and_eq_true]
        rw [show (1 : Int) + (d.sum : Nat) = m + 1 by omega, show (1 : Int) + (d.length : Nat) = k by omega, show (m : Int) + 1 + ((l - m : Nat) : Int) - 1 = l by omega, show (m : Int) + 1 + ((l - m : Nat) : Int) = l + 1 by omega]
        exact ⟨q5, hg⟩
      · rw [Prod.mk.injEq, Prod.mk.injEq]; omega
    · omega
  · rintro ⟨c, hc, hg, hx⟩
    obtain ⟨d, a, f, rfl, ex⟩ := mem_grps.mp hx
    obtain ⟨c1, c2⟩ := mem_comps.mp hc
    rw [Prod.mk.injEq, Prod.mk.injEq] at ex
    obtain ⟨rfl, rfl, rfl⟩ := ex
    have ha : 1 ≤ a := c1 a (by simp)
    have hd : d ∈ comps d.sum := mem_comps.mpr ⟨fun x hx => c1 x (by simp [hx]), rfl⟩
    have hf : f ∈ comps (n - (d.sum + a)) := mem_comps.mpr ⟨fun x hx => c1 x (by simp [hx]), by rw [List.sum_append, List.sum_cons] at c2; omega⟩
    have hle := len_le_sum (mem_comps.mp hd).1
    rw [List.sum_append, List.sum_cons] at c2
    rw [good_app, goodC, Bool.and_eq_true, Bool.and_eq_true] at hg
    obtain ⟨g1, g2, g3⟩ := hg
    have hr : restR ok fin n ((d.sum + a : Nat) : Int) (1 + (d.length : Int) + 1) > 0 := (rest_pos (by omega)).mpr ⟨f, hf, by rw [show ((d.sum + a : Nat) : Int) + 1 = 1 + (d.sum : Nat) + a by omega]; exact g3⟩
    have hb : restR ok fin n (d.sum : Nat) (1 + (d.length : Int)) > 0 := by
      refine rest_back (a := a) (by omega) ha ?_ hr
      rw [show (d.sum : Int) + 1 = 1 + (d.sum : Nat) by omega, show (d.sum : Int) + a = 1 + (d.sum : Nat) + a - 1 by omega]
      exact g2
    refine ⟨_, mem_rows.mpr ⟨mem_E0.mpr ⟨?_, g2, ?_⟩, ?_, rfl⟩⟩
    · dsimp only; omega
    · rw [show (1 : Int) + (d.sum : Nat) + a - 1 = ((d.sum + a : Nat) : Int) by omega]; exact hr
    · rw [show srcG ((1 : Int) + (d.sum : Nat), 1 + (d.length : Int), (1 : Int) + (d.sum : Nat) + a - 1) = key2 (1 + (d.sum : Nat)) (1 + (d.length : Int)) from rfl, show (1 : Int) + (d.sum : Nat) = (d.sum : Nat) + 1 by omega, V_val _ _ (by omega), if_pos (.inr hb)]
      have : 0 < cnt (pathN ok (1 + (d.length : Int))) d.sum := cnt_pos.mpr ⟨d, hd, by unfold pathN; rw [g1, Bool.true_and, decide_eq_true_eq]; omega⟩
      omega
/-- a group begins there -/
def hasB (b : Int) (c : List Nat) : Bool := (grpsC 1 1 c).any fun x => decide (x.1 = b)
theorem hasB_cut {m : Nat} (hm : m < n) {c : List Nat} (hc : c ∈ comps n) : hasB (m + 1) c = true ↔ ∃ d ∈ comps m, ∃ e ∈ comps (n - m), c = d ++ e := by
  obtain ⟨c1, c2⟩ := mem_comps.mp hc
  unfold hasB
  rw [List.any_eq_true]
  constructor
  · rintro ⟨x, hx, e⟩
    obtain ⟨d, a, f, rfl, rfl⟩ := mem_grps.mp hx
    have e := of_decide_eq_true e
    dsimp only at e
    rw [List.sum_append] at c2
    refine ⟨d, mem_comps.mpr ⟨fun x hx => c1 x (by simp [hx]), by omega⟩, a :: f, mem_comps.mpr ⟨fun x hx => c1 x (by simp at hx ⊢; exact .inr hx), by omega⟩, rfl⟩
  · rintro ⟨d, hd, e, he, rfl⟩
    obtain ⟨d1, d2⟩ := mem_comps.mp hd
    obtain ⟨e1, e2⟩ := mem_comps.mp he
    cases e with
    | nil => simp at e2; omega
    | cons a f => exact ⟨_, mem_grps.mpr ⟨d, a, f, rfl, rfl⟩, decide_eq_true (by dsimp only; omega)⟩
theorem restR_succ {m : Nat} (hm : m < n) (k : Int) : restR ok fin n m k = ((List.range (n - m)).map fun j : Nat => if ok (m + 1) (m + 1 + (j : Int)) k = true then restR ok fin n ((m : Int) + 1 + j) (k + 1) else 0).sum := by
  obtain ⟨q, hq⟩ : ∃ q, n - m = q + 1 := ⟨n - m - 1, by omega⟩
  unfold restR
  rw [show ((n : Int) - (m : Nat)).toNat = q + 1 by omega, wayR_succ, hq]
  refine isum_congr fun j hj => ?_
  rw [List.mem_range] at hj
  rw [show ((n : Int) - (q : Nat)) = m + 1 by omega, show ((n : Int) - ((m : Int) + 1 + j)).toNat = q - j by omega]
/-- in how many rankings that fit a group begins at a place -/
theorem ways_place {m : Nat} (hm : m < n) : (((rowsE ok fin n).filter fun r => decide (r.1.1 = (m : Int) + 1)).map fun r => r.2 * restR ok fin n r.1.2.2 (r.1.2.1 + 1)).sum = ((cnt (fun c => hasB (m + 1) c && goodC ok fin 1 1 c) n : Nat) : Int) := by
  have s1 : (((rowsE ok fin n).filter fun r => decide (r.1.1 = (m : Int) + 1)).map fun r => r.2 * restR ok fin n r.1.2.2 (r.1.2.1 + 1)).sum = ((List.range (m + 1)).map fun i : Nat => upV ok fin n (key2 (m + 1) (1 + (i : Int))) * restR ok fin n m (1 + (i : Int))).sum := by
    rw [isum_filter]
    unfold rowsE E0
    rw [List.map_map, isum_filter, isum_filter]
    unfold T1
    rw [List.map_flatMap, isum_flat]
    rw [isum_one (a := m) List.nodup_range (List.mem_range.mpr hm) ?_]
    · unfold T2
      rw [List.map_flatMap, isum_flat]
      refine isum_congr fun i _ => ?_
      unfold T3
      rw [List.map_map, restR_succ hm, ← isum_mul]
      refine isum_congr fun j hj => ?_
      rw [List.mem_range] at hj
      have hv := V_nonneg (ok := ok) (fin := fin) (n := n) m (1 + (i : Int)) (by omega)
      have hr := rest_nonneg (ok := ok) (fin := fin) (n := n) (m := m + 1 + j) (by omega) (1 + (i : Int) + 1)
      show (if condG ok fin n (1 + (m : Int), 1 + (i : Int), 1 + (m : Int) + (j : Int)) = true then if decide (upV ok fin n (key2 (1 + (m : Int)) (1 + (i : Int))) > 0) = true then if decide (1 + (m : Int) = (m : Int) + 1) = true then upV ok fin n (key2 (1 + (m : Int)) (1 + (i : Int))) * restR ok fin n (1 + (m : Int) + (j : Int)) (1 + (i : Int) + 1) else 0 else 0 else 0) = _
      rw [show (1 : Int) + m = m + 1 by omega, decide_eq_true (rfl : (m : Int) + 1 = m + 1), if_pos rfl]
      rw [show ((m + 1 + j : Nat) : Int) = (m : Int) + 1 + j by omega] at hr
      unfold condG
      dsimp only
      by_cases h1 : ok (m + 1) ((m : Int) + 1 + j) (1 + (i : Int)) = true
      · rw [h1, Bool.true_and, if_pos rfl]
        by_cases h2 : restR ok fin n ((m : Int) + 1 + j) (1 + (i : Int) + 1) > 0
        · rw [if_pos (decide_eq_true h2)]
          by_cases h3 : upV ok fin n (key2 (m + 1) (1 + (i : Int))) > 0
          · rw [if_pos (decide_eq_true h3)]
          · rw [if_neg (by simpa using h3), show upV ok fin n (key2 (m + 1) (1 + (i : Int))) = 0 by omega, Int.zero_mul]
        · rw [if_neg (by simpa using h2), show restR ok fin n ((m : Int) + 1 + j) (1 + (i : Int) + 1) = 0 by omega, Int.mul_zero]
      · rw [if_neg (by simp [h1]), if_neg h1, Int.mul_zero]
    · intro l _ hl
      refine isum_zero fun x hx => ?_
      have h1 := (mem_T2.mp hx).1
      show (if condG ok fin n x = true then if decide (upV ok fin n (srcG x) > 0) = true then if decide (x.1 = (m : Int) + 1) = true then _ else 0 else 0 else 0) = _
      rw [decide_eq_false (show ¬ x.1 = (m : Int) + 1 by omega), if_neg Bool.false_ne_true]
      split
      · split <;> rfl
      · rfl
  rw [s1]
  have cut := cnt_cut (goodC ok fin 1 1) m (n - m) (hasB (m + 1)) fun c hc => by
    rw [show m + (n - m) = n by omega] at hc
    exact hasB_cut hm hc
  rw [show m + (n - m) = n by omega] at cut
  rw [cut, isum_cast, List.map_map]
  have s2 : ∀ i ∈ List.range (m + 1), upV ok fin n (key2 (m + 1) (1 + (i : Int))) * restR ok fin n m (1 + (i : Int)) = ((comps m).map fun d => if pathN ok (1 + (i : Int)) d = true then restR ok fin n m (1 + (i : Int)) else 0).sum := by
    intro i _
    rw [V_val m _ (by omega)]
    have e : (((cnt (pathN ok (1 + (i : Int))) m : Nat) : Int)) * restR ok fin n m (1 + (i : Int)) = ((comps m).map fun d => if pathN ok (1 + (i : Int)) d = true then restR ok fin n m (1 + (i : Int)) else 0).sum := by
      rw [cnt_sum, Int.mul_comm, ← isum_mul]
      exact isum_congr fun d _ => by split <;> omega
    rw [← e]
    by_cases q : m = 0 ∨ restR ok fin n m (1 + (i : Int)) > 0
    · rw [if_pos q]
    · have := rest_nonneg (ok := ok) (fin := fin) (n := n) (m := m) (by omega) (1 + (i : Int))
      have e0 : restR ok fin n m (1 + (i : Int)) = 0 := by
        have : ¬ restR ok fin n m (1 + (i : Int)) > 0 := fun h => q (.inr h)
        omega
      rw [if_neg q, e0]; omega
  rw [isum_congr s2, isum_swap]
  refine isum_congr fun d hd => ?_
  obtain ⟨d1, d2⟩ := mem_comps.mp hd
  have hle := len_le_sum d1
  rw [isum_one (a := d.length) List.nodup_range (List.mem_range.mpr (by omega)) ?_]
  · show _ = ((cnt (fun e => goodC ok fin 1 1 (d ++ e)) (n - m) : Nat) : Int)
    have e1 : (fun e => goodC ok fin 1 1 (d ++ e)) = fun e => pathC ok 1 1 d && goodC ok fin (m + 1) (1 + (d.length : Int)) e := by
      funext e
      rw [good_app, d2, show (1 : Int) + (m : Nat) = m + 1 by omega]
    rw [e1, restR_cnt (by omega)]
    unfold pathN
    rw [decide_eq_true (show (d.length : Int) = 1 + (d.length : Int) - 1 by omega), Bool.and_true]
    cases pathC ok 1 1 d
    · rw [if_neg Bool.false_ne_true, cnt_zero_of fun _ _ => by simp]; rfl
    · rw [if_pos rfl]
      congr 2
  · intro i _ hi
    refine if_neg fun h => hi ?_
    unfold pathN at h
    rw [Bool.and_eq_true, decide_eq_true_eq] at h
    omega
theorem cnt_all {p q : List Nat → Bool} {m : Nat} : cnt (fun c => q c && p c) m = cnt p m ↔ ∀ c ∈ comps m, p c = true → q c = true := by
  have e : (comps m).filter (fun c => q c && p c) = ((comps m).filter p).filter q := by rw [List.filter_filter]
  unfold cnt
  rw [e]
  constructor
  · intro h c hc hp
    have := (List.length_filter_eq_length_iff).mp h c (List.mem_filter.mpr ⟨hc, hp⟩)
    exact this
  · intro h
    exact List.length_filter_eq_length_iff.mpr fun c hc => by rw [List.mem_filter] at hc; exact h c hc.1 hc.2
end

/-! ### steps -/
section
variable {κ : Type} [DecidableEq κ]
def encM (m : List (κ × Int)) : List (κ × PyData) := m.map fun kv => (kv.1, .int kv.2)
theorem encM_val (m : List (κ × Int)) (k : κ) : (valD (encM m) k).getD (.int 0) = .int (valI m k) := by
  induction m with
  | nil => rfl
  | cons a m ih =>
    obtain ⟨a, v⟩ := a
    show (valD ((a, PyData.int v) :: encM m) k).getD (.int 0) = _
    rw [valD_cons, valI_cons]
    by_cases h : a = k
    · rw [if_pos h, if_pos h]; rfl
    · rw [if_neg h, if_neg h, ih]
theorem encM_put (m : List (κ × Int)) (k : κ) (i : Int) : putD (encM m) k (.int i) = encM (putI m k i) := by
  unfold putD putI encM
  rw [List.any_map]
  have e : ((fun kv : κ × PyData => decide (kv.1 = k)) ∘ fun kv : κ × Int => (kv.1, PyData.int kv.2)) = fun kv : κ × Int => decide (kv.1 = k) := rfl
  rw [e]
  split
  · rw [List.map_map, List.map_map]
    refine List.map_congr_left fun kv _ => ?_
    show (if kv.1 = k then (kv.1, PyData.int i) else (kv.1, PyData.int kv.2)) = ((if kv.1 = k then (kv.1, i) else kv).1, PyData.int (if kv.1 = k then (kv.1, i) else kv).2)
    split <;> rfl
  · rw [List.map_append]; rfl
theorem encM_len (m : List (κ × Int)) : (encM m).length = m.length := List.length_map ..
end
/-- a row of steps -/
def encR (n : Nat) (ps : List Per) (r : Gr × Int) : PyData := .tuple [.int r.1.1, .int r.1.2.2, .int r.1.2.1, .list ((hitsOf r.1.1 r.1.2.2 r.1.2.1 ps).map PyData.str), .int r.2, .int (wayW n ps ((n : Int) - r.1.2.2).toNat (r.1.2.1 + 1))]
def rowsW (n : Nat) (ps : List Per) : List (Gr × Int) := rowsE (okG ps) (finB n ps) n
theorem rest_way (n : Nat) (ps : List Per) (e k : Int) : restR (okG ps) (finB n ps) n e k = wayW n ps ((n : Int) - e).toNat k := rfl
theorem ways_get {n : Nat} {ps : List Per} {e k : Int} (h1 : 1 ≤ k) (h2 : k ≤ e) (h3 : 1 ≤ e) (h4 : e ≤ n) : (valD (waysD n ps) (key2 (e + 1) (k + 1))).getD (.int 0) = .int (wayW n ps ((n : Int) - e).toNat (k + 1)) := by
  by_cases q : e = n
  · subst q
    rw [waysD_end (by omega) (by omega), show ((n : Int) - n).toNat = 0 by omega]; rfl
  · rw [waysD_at (by omega) (by omega) (by omega), show ((n : Int) + 1 - (e + 1)).toNat = ((n : Int) - e).toNat by omega]; rfl
section
variable {ok : Int → Int → Int → Bool} {fin : Int → Bool} {n : Nat}
theorem T3_succ (b k : Int) (j : Nat) : T3 b k (j + 1) = T3 b k j ++ [(b, k, b + (j : Int))] := by unfold T3; rw [List.range_succ, List.map_append]; rfl
theorem T2_succ (l i : Nat) : T2 n l (i + 1) = T2 n l i ++ T3 (1 + (l : Int)) (1 + (i : Int)) (n - l) := by unfold T2; rw [List.range_succ, List.flatMap_append]; simp
theorem T1_succ (l : Nat) : T1 n (l + 1) = T1 n l ++ T2 n l (l + 1) := by unfold T1; rw [List.range_succ, List.flatMap_append]; simp
theorem stG_keep {st : List (Gr × Int) × List (List Key × Int)} {b k : Int} : ∀ (j : Nat), valI ((T3 b k j).foldl (stG ok fin n) st).2 (key2 b k) = valI st.2 (key2 b k)
  | 0 => rfl
  | j + 1 => by
    rw [T3_succ, List.foldl_append]
    show valI (stG ok fin n _ (b, k, b + (j : Int))).2 _ = _
    unfold stG stF
    split
    · split
      · show valI (putI _ _ _) _ = _
        rw [valI_put, if_neg (fun e => by have e1 : b = b + (j : Int) + 1 := (key2_inj.mp e).1; omega)]
        exact stG_keep j
      · exact stG_keep j
    · exact stG_keep j
theorem stG_len (L : List Gr) : ∀ (st : List (Gr × Int) × List (List Key × Int)), (L.foldl (stG ok fin n) st).2.length ≤ st.2.length + L.length ∧ (L.foldl (stG ok fin n) st).1.length ≤ st.1.length + L.length := by
  induction L with
  | nil => intro st; exact ⟨Nat.le_refl _, Nat.le_refl _⟩
  | cons x L ih =>
    intro st
    have h := ih (stG ok fin n st x)
    have h2 : (stG ok fin n st x).2.length ≤ st.2.length + 1 ∧ (stG ok fin n st x).1.length ≤ st.1.length + 1 := by
      unfold stG stF
      split
      · split
        · exact ⟨putI_len _ _ _, by rw [List.length_append]; exact Nat.le_refl _⟩
        · exact ⟨by omega, by omega⟩
      · exact ⟨by omega, by omega⟩
    rw [List.foldl_cons, List.length_cons]
    omega
theorem T3_len (b k : Int) (j : Nat) : (T3 b k j).length = j := by unfold T3; simp
theorem T2_len (l i : Nat) : (T2 n l i).length = i * (n - l) := by
  induction i with
  | zero => simp [T2]
  | succ i ih => rw [T2_succ, List.length_append, ih, T3_len, Nat.succ_mul]
theorem T1_len (l : Nat) (hl : l ≤ n) : (T1 n l).length ≤ l * (n * n) := by
  induction l with
  | zero => simp [T1]
  | succ l ih =>
    rw [T1_succ, List.length_append, T2_len]
    have h1 := ih (by omega)
    have h2 : (l + 1) * (n - l) ≤ n * n := Nat.mul_le_mul hl (by omega)
    rw [Nat.succ_mul l (n * n)]
    exact Nat.add_le_add h1 h2
end
theorem n3_le {n l : Nat} (hn : n ≤ 30) (hl : l ≤ n) : l * (n * n) ≤ 27000 := Nat.mul_le_mul (Nat.le_trans hl hn) (Nat.mul_le_mul hn hn)
abbrev con_steps : Con := { α := Nat × List Per, args := fun a => [.d (.int (a.1 : Int)), .d (encSeen a.2)], pre := fun a => 1 ≤ a.1 ∧ a.1 ≤ 30 ∧ a.2.length ≤ 1000, post := fun a r => r = .lst ((rowsW a.1 a.2).map (encR a.1 a.2)) }
theorem ok_steps (T : Tx K mg) : FnOk P w K mg base CX0 (2 + 1) (He.ga K "steps") T.fd_steps ["size", "seen"] (spP K con_steps) := by
  refine fn_ok T.F_steps sc_steps con_steps (fun _ _ => rfl) (by decide) (fun _ _ h => h) fun cdv A outer s H E hr => ⟨_, (pss_cons (ps_par3 (i := 2) (j := 3) (l := 4) (by rfl) sc_steps.nd rfl rfl rfl (by decide) (by decide) (by decide) rfl rfl rfl (pa_cons (pe_call (ok_ways_on T) (hr.mono (by decide)) (by rfl) T.g_ways_on T.F_ways_on.kp (bi_ways_on T) .nil pass0 (pa_cons (pv 0) (pa_cons (pv 1) pa_nil))) (pa_cons (pe_disp1T (hu_of hr) (pe_tup (pa_cons pe_int (pa_cons pe_int pa_nil))) pe_int) (pa_cons (pe_lst pa_nil) pa_nil))) (by rfl))
      (pss_cons (ps_for PassesOwn.never rfl (pi_range2 (by rfl) T.b_range (pa_cons pe_int (pa_cons (pe_op op_addG (pv 0) pe_int) pa_nil))) (pg_name (i := 5) sc_steps.nd rfl (.inl rfl))
        (pss_one (ps_for PassesOwn.never rfl (pi_range2 (by rfl) T.b_range (pa_cons pe_int (pa_cons (pe_op op_addG (pv 5) pe_int) pa_nil))) (pg_name (i := 6) sc_steps.nd rfl (.inl rfl))
          (pss_cons (ps_set (i := 7) sc_steps.nd rfl (.inl rfl) (pe_dget2 (hu_of hr) (pv 3) (pe_tup (pa_cons (pv 5) (pa_cons (pv 6) pa_nil))) pe_int ⟨rfl, rfl, rfl, rfl⟩))
          (pss_one (ps_for PassesOwn.never rfl (pi_range2 (by rfl) T.b_range (pa_cons (pv 5) (pa_cons (pe_op op_addG (pv 0) pe_int) pa_nil))) (pg_name (i := 8) sc_steps.nd rfl (.inl rfl))
            (pss_cons (ps_set (i := 9) sc_steps.nd rfl (.inl rfl) (pe_dget2 (hu_of hr) (pv 2) (pe_tup (pa_cons (pe_op op_addG (pv 8) pe_int) (pa_cons (pe_op op_addG (pv 6) pe_int) pa_nil))) pe_int ⟨rfl, rfl, rfl, rfl⟩))
            (pss_cons (ps_set (i := 10) sc_steps.nd rfl (.inl rfl) (pe_ifExp (PW.pt (pw_and (pt_cmpR op_gt (pv 7) pe_int (nomark _)) (pw_and1 (pt_cmpR op_gt (pv 9) pe_int (nomark _))))) (pe_call (ok_members T) (hr.mono (by decide)) (by rfl) T.g_members T.F_members.kp (bi_members T) .nil pass0 (pa_cons (pv 1) (pa_cons (pv 5) (pa_cons (pv 8) (pa_cons (pv 6) pa_nil))))) pe_non))
            (pss_one (ps_if (pt_cmpR op_notN (pv 10) pe_non (nomark _))
              (pss_cons (ps_expr (pe_bm PySem.F.plainAttrs_list PySem.F.slot_list_append PySem.F.type_list_append mt_append (pv 4) (pa_cons (pe_tup (pa_cons (pv 5) (pa_cons (pv 8) (pa_cons (pv 6) (pa_cons (pv 10) (pa_cons (pv 7) (pa_cons (pv 9) pa_nil))))))) pa_nil)))
              (pss_one (ps_asg (pe_op op_addG (pe_dget2 (hu_of hr) (pv 3) (pe_tup (pa_cons (pe_op op_addG (pv 8) pe_int) (pa_cons (pe_op op_addG (pv 6) pe_int) pa_nil))) pe_int ⟨rfl, rfl, rfl, rfl⟩) (pv 7)) (pg_sub (pv 3) (pe_tup (pa_cons (pe_op op_addG (pv 8) pe_int) (pa_cons (pe_op op_addG (pv 6) pe_int) pa_nil))) (set_dict (hu_of hr))))))
              pss_nil))))))))))
      (pss_one (ps_ret (pv 4))))), ?_⟩
  rintro B S0 E px ⟨n, ps⟩ ⟨h1, h2, h3⟩
  dsimp only [L2.cxOf, L2.Cx.nox, L2.Cx.wish] at h1 h2 h3 ⊢
  let S : List Gr → List (Gr × Int) × List (List Key × Int) := fun L => L.foldl (stG (okG ps) (finB n ps) n) st0
  have Slen : ∀ L : List Gr, L.length ≤ 30000 → (S L).2.length ≤ 40000 ∧ (S L).1.length ≤ 40000 := fun L hL => by
    have h := stG_len (ok := okG ps) (fin := finB n ps) (n := n) L st0
    have h0 : st0.2.length = 1 := rfl
    have h0' : st0.1.length = 0 := rfl
    show (L.foldl _ st0).2.length ≤ _ ∧ (L.foldl _ st0).1.length ≤ _
    omega
  apply wp_seq
  apply wp_par3 (s1 := .dT (waysD n ps)) (s2 := .dT (encM (S []).2)) (s3 := .lst ((S []).1.map (encR n ps)))
  · exact cl_ways_on (by wtm_at "ev") h1 h2 h3
  · refine evs_is (x := .dT [(key2 1 1, .int 1)]) ?_ rfl
    apply evs_disp1T
    · wtm_at "evis"
    · wtm_at "ev"
  · wtm_at "evis"
  · rfl
  · rfl
  · rfl
  · exact lt_ble rfl
  · exact lt_ble rfl
  · exact lt_ble rfl
  apply wp_seq
  apply wp_forI
  · apply evi_range2
    · wtm_at "ev"
    · exact ⟨by omega, by omega, by omega, by omega⟩
  rw [show ((n : Int) + 1 - 1).toNat = n by omega]
  refine forW_range (fun l Γ => ∃ g5 g6 g7 g8 g9 g10, Γ = [.d (.int (n : Int)), .d (encSeen ps), .dT (waysD n ps), .dT (encM (S (T1 n l)).2), .lst ((S (T1 n l)).1.map (encR n ps)), g5, g6, g7, g8, g9, g10]) ⟨_, _, _, _, _, _, rfl⟩ ?_ ?_
  · rintro l Γ hl ⟨g5, g6, g7, g8, g9, g10, rfl⟩
    refine GTo.wp (gto_name (lt_ble rfl)) ?_
    apply wp_forI
    · apply evi_range2
      · wtm_at "ev"
      · exact ⟨by omega, by omega, by omega, by omega⟩
    rw [show (1 + (l : Int) + 1 - 1).toNat = l + 1 by omega]
    have hT1 := T1_len (n := n) l (by omega)
    have hn3 := n3_le h2 (show l ≤ n by omega)
    refine forW_range (fun i Γ => ∃ g6 g7 g8 g9 g10, Γ = [.d (.int (n : Int)), .d (encSeen ps), .dT (waysD n ps), .dT (encM (S (T1 n l ++ T2 n l i)).2), .lst ((S (T1 n l ++ T2 n l i)).1.map (encR n ps)), .d (.int (1 + (l : Int))), g6, g7, g8, g9, g10]) ⟨_, _, _, _, _, by rw [show T2 n l 0 = [] from rfl, List.append_nil]; rfl⟩ ?_ ?_
    · rintro i Γ hi ⟨g6, g7, g8, g9, g10, rfl⟩
      refine GTo.wp (gto_name (lt_ble rfl)) ?_
      have hT2 := T2_len (n := n) l i
      have hT2' : i * (n - l) ≤ 30 * 30 := Nat.mul_le_mul (by omega) (by omega)
      let u : Int := valI (S (T1 n l ++ T2 n l i)).2 (key2 (1 + (l : Int)) (1 + (i : Int)))
      apply wp_seq
      apply wp_asg (s := .d (.int u))
      · refine evs_is (evs_dget2T (ks := key2 (1 + (l : Int)) (1 + (i : Int))) (by wtm_at "ev") rfl (by wtm_at "evis") (by wtm_at "ev")) (by rw [encM_val])
      · exact lt_ble rfl
      · rfl
      apply wp_forI
      · apply evi_range2
        · wtm_at "ev"
        · exact ⟨by omega, by omega, by omega, by omega⟩
      rw [show ((n : Int) + 1 - (1 + (l : Int))).toNat = n - l by omega]
      let S3 : Nat → List (Gr × Int) × List (List Key × Int) := fun j => S ((T1 n l ++ T2 n l i) ++ T3 (1 + (l : Int)) (1 + (i : Int)) j)
      have S3u : ∀ j, valI (S3 j).2 (key2 (1 + (l : Int)) (1 + (i : Int))) = u := fun j => by
        show valI (List.foldl (stG (okG ps) (finB n ps) n) st0 ((T1 n l ++ T2 n l i) ++ T3 (1 + (l : Int)) (1 + (i : Int)) j)).2 _ = _
        rw [List.foldl_append]
        exact stG_keep j
      have S3s : ∀ j, S3 (j + 1) = stG (okG ps) (finB n ps) n (S3 j) (1 + (l : Int), 1 + (i : Int), 1 + (l : Int) + (j : Int)) := fun j => by
        show List.foldl _ _ (_ ++ T3 _ _ (j + 1)) = _
        rw [T3_succ, ← List.append_assoc, List.foldl_append]; rfl
      refine forW_range (fun j Γ => ∃ g8 g9 g10, Γ = [.d (.int (n : Int)), .d (encSeen ps), .dT (waysD n ps), .dT (encM (S3 j).2), .lst ((S3 j).1.map (encR n ps)), .d (.int (1 + (l : Int))), .d (.int (1 + (i : Int))), .d (.int u), g8, g9, g10]) ⟨_, _, _, by
        show _ = [_, _, _, Sl.dT (encM (S ((T1 n l ++ T2 n l i) ++ [])).2), Sl.lst ((S ((T1 n l ++ T2 n l i) ++ [])).1.map (encR n ps)), _, _, _, _, _, _]
        rw [List.append_nil]; rfl⟩ ?_ ?_
      · rintro j Γ hj ⟨g8, g9, g10, rfl⟩
        refine GTo.wp (gto_name (lt_ble rfl)) ?_
        have hlen : (S3 j).2.length ≤ 40000 ∧ (S3 j).1.length ≤ 40000 := Slen ((T1 n l ++ T2 n l i) ++ T3 (1 + (l : Int)) (1 + (i : Int)) j) (by rw [List.length_append, List.length_append, T3_len]; omega)
        let R : Int := wayW n ps ((n : Int) - (1 + (l : Int) + (j : Int))).toNat (1 + (i : Int) + 1)
        have R0 : 0 ≤ R := wayW_nonneg _ _ _ _
        apply wp_seq
        apply wp_asg (s := .d (.int R))
        · refine evs_is (evs_dget2T (ks := key2 (1 + (l : Int) + (j : Int) + 1) (1 + (i : Int) + 1)) (by wtm_at "ev") rfl (by wtm_at "evis") (by wtm_at "ev")) (by rw [ways_get (by omega) (by omega) (by omega) (by omega)])
        · exact lt_ble rfl
        · rfl
        let ppl : PyData := if decide (u > 0) && decide (R > 0) && okG ps (1 + (l : Int)) (1 + (l : Int) + (j : Int)) (1 + (i : Int)) then .list ((hitsOf (1 + (l : Int)) (1 + (l : Int) + (j : Int)) (1 + (i : Int)) ps).map PyData.str) else .none
        apply wp_seq
        apply wp_asg (s := .d ppl)
        · apply evs_if (b := decide (u > 0) && decide (R > 0))
          · wtm_at "ev"
          · intro hc
            show EvS _ _ _ (.d (if decide (u > 0) && decide (R > 0) && okG ps (1 + (l : Int)) (1 + (l : Int) + (j : Int)) (1 + (i : Int)) then _ else _))
            rw [hc, Bool.true_and]
            by_cases ho : okG ps (1 + (l : Int)) (1 + (l : Int) + (j : Int)) (1 + (i : Int)) = true
            · rw [if_pos ho]
              have em : memb (1 + (l : Int)) (1 + (l : Int) + (j : Int)) (1 + (i : Int)) ps = some (hitsOf (1 + (l : Int)) (1 + (l : Int) + (j : Int)) (1 + (i : Int)) ps) := by
                unfold okG memb at ho
                unfold memb
                split
                · rfl
                · rename_i q; rw [if_neg q] at ho; cases ho
              apply evs_share
              refine evs_is (cl_members (ps := ps) (b := 1 + (l : Int)) (e := 1 + (l : Int) + (j : Int)) (k := 1 + (i : Int)) (by wtm_at "ev") h3) ?_
              rw [em]; rfl
            · rw [if_neg ho]
              have em : memb (1 + (l : Int)) (1 + (l : Int) + (j : Int)) (1 + (i : Int)) ps = none := by
                unfold okG at ho
                cases q : memb (1 + (l : Int)) (1 + (l : Int) + (j : Int)) (1 + (i : Int)) ps with
                | none => rfl
                | some _ => rw [q] at ho; exact absurd rfl ho
              refine evs_is (cl_members (ps := ps) (b := 1 + (l : Int)) (e := 1 + (l : Int) + (j : Int)) (k := 1 + (i : Int)) (by wtm_at "ev") h3) ?_
              rw [em]; rfl
          · intro hc
            show EvS _ _ _ (.d (if decide (u > 0) && decide (R > 0) && okG ps (1 + (l : Int)) (1 + (l : Int) + (j : Int)) (1 + (i : Int)) then _ else _))
            rw [hc, Bool.false_and, if_neg Bool.false_ne_true]
            wtm_at "ev"
        · exact lt_ble rfl
        · rfl
        have hcond : condG (okG ps) (finB n ps) n (1 + (l : Int), 1 + (i : Int), 1 + (l : Int) + (j : Int)) = (okG ps (1 + (l : Int)) (1 + (l : Int) + (j : Int)) (1 + (i : Int)) && decide (R > 0)) := rfl
        have hsrc : valI (S3 j).2 (srcG (1 + (l : Int), 1 + (i : Int), 1 + (l : Int) + (j : Int))) = u := S3u j
        apply wp_if (b := decide (u > 0) && decide (R > 0) && okG ps (1 + (l : Int)) (1 + (l : Int) + (j : Int)) (1 + (i : Int)))
        · refine evt_is (b := !PyData.isN ppl) (by wtm_at "ev") ?_
          show (!PyData.isN (if decide (u > 0) && decide (R > 0) && okG ps (1 + (l : Int)) (1 + (l : Int) + (j : Int)) (1 + (i : Int)) then _ else _)) = _
          by_cases q : (decide (u > 0) && decide (R > 0) && okG ps (1 + (l : Int)) (1 + (l : Int) + (j : Int)) (1 + (i : Int))) = true
          · rw [if_pos q, q]; rfl
          · rw [if_neg q]
            cases q2 : (decide (u > 0) && decide (R > 0) && okG ps (1 + (l : Int)) (1 + (l : Int) + (j : Int)) (1 + (i : Int))) with
            | true => exact absurd q2 q
            | false => rfl
        · intro hc
          have hc' := hc
          rw [Bool.and_eq_true, Bool.and_eq_true, decide_eq_true_eq, decide_eq_true_eq] at hc'
          obtain ⟨⟨c1, c2⟩, c3⟩ := hc'
          have es : S3 (j + 1) = ((S3 j).1 ++ [((1 + (l : Int), 1 + (i : Int), 1 + (l : Int) + (j : Int)), u)], putI (S3 j).2 (key2 (1 + (l : Int) + (j : Int) + 1) (1 + (i : Int) + 1)) (valI (S3 j).2 (key2 (1 + (l : Int) + (j : Int) + 1) (1 + (i : Int) + 1)) + u)) := by
            rw [S3s]
            unfold stG
            rw [hcond, if_pos (by rw [c3, decide_eq_true c2]; rfl)]
            unfold stF
            rw [hsrc, if_pos c1]; rfl
          have ep : ppl = .list ((hitsOf (1 + (l : Int)) (1 + (l : Int) + (j : Int)) (1 + (i : Int)) ps).map PyData.str) := if_pos hc
          apply wp_seq
          apply wp_append (s0 := .lst ((S3 j).1.map (encR n ps))) (d := encR n ps ((1 + (l : Int), 1 + (i : Int), 1 + (l : Int) + (j : Int)), u)) rfl rfl ?_ (sz' (by rw [List.length_map]; omega))
          · refine wp_setDT (ks := key2 (1 + (l : Int) + (j : Int) + 1) (1 + (i : Int) + 1)) (kvs := encM (S3 j).2) (d := .int (valI (S3 j).2 (key2 (1 + (l : Int) + (j : Int) + 1) (1 + (i : Int) + 1)) + u)) rfl ?_ (by wtm_at "evis") (sz' (by rw [encM_len]; omega)) ?_
            · apply evs_op
              · exact evs_is (evs_dget2T (ks := key2 (1 + (l : Int) + (j : Int) + 1) (1 + (i : Int) + 1)) (by wtm_at "ev") rfl (by wtm_at "evis") (by wtm_at "ev")) (by rw [encM_val])
              · wtm_at "ev"
              · exact add_int
            · refine ⟨.d (.int (1 + (l : Int) + (j : Int))), .d (.int R), .d ppl, ?_⟩
              rw [encM_put, es, List.map_append]; rfl
          · refine evs_is (x := .d (.tuple [.int (1 + (l : Int)), .int (1 + (l : Int) + (j : Int)), .int (1 + (i : Int)), ppl, .int u, .int R])) (by wtm_at "ev") ?_
            rw [ep]; rfl
        · intro hc
          apply wp_next
          have es : S3 (j + 1) = S3 j := by
            rw [S3s]
            unfold stG
            rw [hcond]
            by_cases q : (okG ps (1 + (l : Int)) (1 + (l : Int) + (j : Int)) (1 + (i : Int)) && decide (R > 0)) = true
            · rw [if_pos q]
              unfold stF
              rw [hsrc, if_neg]
              intro c1
              rw [Bool.and_eq_true, decide_eq_true_eq] at q
              rw [decide_eq_true c1, decide_eq_true q.2, q.1] at hc
              cases hc
            · rw [if_neg q]
          refine ⟨.d (.int (1 + (l : Int) + (j : Int))), .d (.int R), .d ppl, ?_⟩
          rw [es]; rfl
      · rintro Γ ⟨g8, g9, g10, rfl⟩
        refine ⟨.d (.int (1 + (i : Int))), .d (.int u), g8, g9, g10, ?_⟩
        rw [T2_succ, ← List.append_assoc]
    · rintro Γ ⟨g6, g7, g8, g9, g10, rfl⟩
      refine ⟨.d (.int (1 + (l : Int))), g6, g7, g8, g9, g10, ?_⟩
      rw [T1_succ]
  · rintro Γ ⟨g5, g6, g7, g8, g9, g10, rfl⟩
    refine wp_retO rfl rfl ⟨rfl, ?_⟩
    show _ = Sl.lst ((rowsE (okG ps) (finB n ps) n).map (encR n ps))
    rw [← steps_rows]
theorem cl_steps {F : Fx} {Γ : List Sl} {t : TA} {E : XK} {n : Nat} {ps : List Per} (h : EvA F t Γ [.d (.int (n : Int)), .d (encSeen ps)]) (h1 : 1 ≤ n) (h2 : n ≤ 30) (h3 : ps.length ≤ 1000) : EvS F (tCall (spP F.K con_steps) [] E t) Γ (.lst ((rowsW n ps).map (encR n ps))) :=
  evs_call (c := con_steps) (n, ps) h rfl ⟨h1, h2, h3⟩ (fun _ h => h) fun _ h => h

theorem pow_sum (m : Nat) : ((List.range m).map fun j => 2 ^ (m - 1 - j)).sum + 1 = 2 ^ m := by
  induction m with
  | zero => rfl
  | succ m ih =>
    have e : ((List.range (m + 1)).map fun j => 2 ^ (m + 1 - 1 - j)) = 2 ^ m :: (List.range m).map fun j => 2 ^ (m - 1 - j) := by
      rw [List.range_succ_eq_map, List.map_cons, List.map_map]
      congr 1
      refine List.map_congr_left fun j _ => ?_
      show 2 ^ (m + 1 - 1 - (j + 1)) = 2 ^ (m - 1 - j)
      congr 1; omega
    rw [e, List.sum_cons, Nat.pow_succ]
    omega
theorem sum_le {α : Type} {f g : α → Nat} : ∀ {l : List α}, (∀ a ∈ l, f a ≤ g a) → (l.map f).sum ≤ (l.map g).sum
  | [], _ => Nat.le_refl _
  | a :: l, h => by
    rw [List.map_cons, List.map_cons, List.sum_cons, List.sum_cons]
    have := h a (by simp)
    have := sum_le (l := l) fun b hb => h b (by simp [hb])
    omega
theorem comps_le (m : Nat) : (comps m).length ≤ 2 ^ m := by
  induction m using Nat.strongRecOn with
  | ind m ih =>
    cases m with
    | zero => exact Nat.le_refl _
    | succ m =>
      rw [comps_succ, flatMap_len]
      have h1 : ((List.range (m + 1)).map fun j => ((comps (m - j)).map fun c => (j + 1) :: c).length).sum ≤ ((List.range (m + 1)).map fun j => 2 ^ (m + 1 - 1 - j)).sum := by
        refine sum_le fun j hj => ?_
        rw [List.length_map]
        have := ih (m - j) (by omega)
        exact this
      have := pow_sum (m + 1)
      omega
theorem cnt_le (p : List Nat → Bool) (m : Nat) : cnt p m ≤ 2 ^ m := Nat.le_trans (List.length_filter_le _ _) (comps_le m)
theorem cnt_le30 (p : List Nat → Bool) {m : Nat} (h : m ≤ 30) : cnt p m ≤ 1073741824 := Nat.le_trans (cnt_le p m) (Nat.pow_le_pow_right (by decide) h)
/-! ### the rankings that fit -/
section
variable {ok : Int → Int → Int → Bool} {fin : Int → Bool} {n : Nat}
theorem row_small {x : Gr} {u : Int} (hn : n ≤ 30) (h : (x, u) ∈ rowsE ok fin n) : (0 ≤ u ∧ u ≤ 1073741824) ∧ 0 ≤ restR ok fin n x.2.2 (x.2.1 + 1) ∧ restR ok fin n x.2.2 (x.2.1 + 1) ≤ 1073741824 := by
  obtain ⟨h1, h2, rfl⟩ := mem_rows.mp h
  obtain ⟨⟨q1, q2, q3, q4⟩, _⟩ := mem_E0.mp h1
  constructor
  · have e : srcG x = key2 (((x.1 - 1).toNat : Nat) + 1) x.2.1 := by show key2 x.1 x.2.1 = _; rw [show (((x.1 - 1).toNat : Nat) : Int) + 1 = x.1 by omega]
    rw [e, V_val _ _ (by omega)]
    have := cnt_le30 (pathN ok x.2.1) (m := (x.1 - 1).toNat) (by omega)
    split <;> omega
  · rw [show x.2.2 = ((x.2.2.toNat : Nat) : Int) by omega, restR_cnt (by omega)]
    have := cnt_le30 (goodC ok fin (((x.2.2.toNat : Nat) : Int) + 1) (x.2.1 + 1)) (m := n - x.2.2.toNat) (by omega)
    omega
end

/-! ### the rankings that fit -/
def goodP (n : Nat) (ps : List Per) (c : List Nat) : Bool := goodC (okG ps) (finB n ps) 1 1 c
/-- the rankings that fit, ascending -/
def fitL (n : Nat) (ps : List Per) : List (List Nat) := (comps n).filter (goodP n ps)
theorem way_fitL (n : Nat) (ps : List Per) : wayW n ps n 1 = ((fitL n ps).length : Nat) := by
  have := restR_cnt (ok := okG ps) (fin := finB n ps) (n := n) (m := 0) (by omega) 1
  rw [show n - 0 = n by omega, rest_way, show ((n : Int) - ((0 : Nat) : Int)).toNat = n by omega] at this
  rw [this]
  rfl
theorem rowsW_len {n : Nat} {ps : List Per} (h2 : n ≤ 30) : (rowsW n ps).length ≤ 30000 := by
  unfold rowsW rowsE
  rw [List.length_map]
  refine Nat.le_trans (List.length_filter_le _ _) ?_
  unfold E0
  refine Nat.le_trans (List.length_filter_le _ _) (Nat.le_trans (T1_len n (Nat.le_refl _)) ?_)
  exact Nat.le_trans (n3_le h2 (Nat.le_refl _)) (by decide)

/-! ### rankings that fit, as the laws see them -/
theorem grps_facts : ∀ (c : List Nat) (b k : Int), (∀ a ∈ c, 1 ≤ a) → (grpsC b k c).Pairwise (fun x y => x.2.2 < y.1 ∧ x.2.1 < y.2.1) ∧ ∀ x ∈ grpsC b k c, b ≤ x.1 ∧ k ≤ x.2.1 ∧ x.1 ≤ x.2.2 ∧ x.2.2 < b + (c.sum : Nat) ∧ x.2.1 < k + (c.length : Nat)
  | [], b, k, _ => ⟨.nil, fun x hx => nomatch hx⟩
  | a :: c, b, k, h => by
    obtain ⟨h1, h2⟩ := grps_facts c (b + a) (k + 1) fun x hx => h x (by simp [hx])
    have ha := h a (by simp)
    rw [grpsC, List.sum_cons, List.length_cons]
    refine ⟨List.pairwise_cons.mpr ⟨fun y hy => ?_, h1⟩, fun x hx => ?_⟩
    · have := h2 y hy
      dsimp only
      omega
    · rcases List.mem_cons.mp hx with rfl | hx
      · dsimp only; omega
      · have := h2 x hx; omega
theorem grps_place : ∀ {c : List Nat} {b k f : Int}, b ≤ f → f < b + (c.sum : Nat) → ∃ x ∈ grpsC b k c, x.1 ≤ f ∧ f ≤ x.2.2
  | [], b, k, f, h1, h2 => by simp at h2; omega
  | a :: c, b, k, f, h1, h2 => by
    by_cases q : f < b + a
    · exact ⟨_, .head _, h1, by dsimp only; omega⟩
    · rw [List.sum_cons] at h2
      obtain ⟨x, hx, h3⟩ := grps_place (c := c) (b := b + a) (k := k + 1) (f := f) (by omega) (by omega)
      exact ⟨x, .tail _ hx, h3⟩
theorem grps_number : ∀ {c : List Nat} {b k d : Int}, k ≤ d → d < k + (c.length : Nat) → ∃ x ∈ grpsC b k c, x.2.1 = d
  | [], b, k, d, h1, h2 => by simp at h2; omega
  | a :: c, b, k, d, h1, h2 => by
    by_cases q : d = k
    · exact ⟨_, .head _, q.symm⟩
    · rw [List.length_cons] at h2
      obtain ⟨x, hx, h3⟩ := grps_number (c := c) (b := b + a) (k := k + 1) (d := d) (by omega) (by omega)
      exact ⟨x, .tail _ hx, h3⟩
theorem pw_mem {α : Type} {R : α → α → Prop} : ∀ {l : List α}, l.Pairwise R → ∀ {x y : α}, x ∈ l → y ∈ l → x = y ∨ R x y ∨ R y x
  | [], _, x, y, hx, _ => nomatch hx
  | a :: l, h, x, y, hx, hy => by
    rw [List.pairwise_cons] at h
    rcases List.mem_cons.mp hx with e | hx'
    · rcases List.mem_cons.mp hy with e' | hy'
      · exact .inl (e.trans e'.symm)
      · exact .inr (.inl (e ▸ h.1 y hy'))
    · rcases List.mem_cons.mp hy with e' | hy'
      · exact .inr (.inr (e' ▸ h.1 x hx'))
      · exact pw_mem h.2 hx' hy'
def Per.agG (p : Per) (x : Gr) : Bool := p.agrees x.1 x.2.2 x.2.1
theorem agG_iff {p : Per} {x : Gr} : p.agG x = true ↔ (∀ f, p.first = some f → f = x.1) ∧ (∀ l, p.last = some l → l = x.2.2) ∧ ∀ d, p.dense = some d → d = x.2.1 := by
  have q : ∀ (o : Option Int) (i : Int), inO o i = true ↔ ∀ f, o = some f → f = i := fun o i => by
    unfold inO
    rw [Bool.or_eq_true, decide_eq_true_eq, decide_eq_true_eq]
    cases o with
    | none => simp
    | some j => simp
  unfold Per.agG Per.agrees
  rw [Bool.and_eq_true, Bool.and_eq_true, q, q, q]
theorem hits_iff {p : Per} {b e k : Int} : p.hits b e k = true ↔ p.first = some b ∨ p.last = some e ∨ p.dense = some k := by
  unfold Per.hits
  rw [Bool.or_eq_true, Bool.or_eq_true, decide_eq_true_eq, decide_eq_true_eq, decide_eq_true_eq]
structure RanksOk (p : Per) : Prop where
  has : p.first.isSome = true ∨ p.last.isSome = true ∨ p.dense.isSome = true
  f : ∀ f, p.first = some f → 1 ≤ f ∧ f ≤ 30
  l : ∀ f, p.last = some f → 1 ≤ f ∧ f ≤ 30
  d : ∀ f, p.dense = some f → 1 ≤ f ∧ f ≤ 30
theorem rankO_iff {o : Option Int} : rankO o = true ↔ ∀ f, o = some f → 1 ≤ f ∧ f ≤ 30 := by
  cases o with
  | none => simp [rankO]
  | some i => simp [rankO]
theorem ranks_ok {p : Per} (h : p.ok = true) : RanksOk p := by
  simp only [Per.ok, ranksOk, Bool.and_eq_true] at h
  obtain ⟨_, ⟨⟨⟨⟨⟨h1, h2⟩, h3⟩, h4⟩, _⟩, _⟩, _⟩ := h
  refine ⟨?_, rankO_iff.mp h1, rankO_iff.mp h2, rankO_iff.mp h3⟩
  cases q1 : p.first <;> cases q2 : p.last <;> cases q3 : p.dense <;> simp [q1, q2, q3] at h4 ⊢
section
variable {n : Nat} {c : List Nat} {p : Per}
theorem agG_uniq (hc : c ∈ comps n) (hp : RanksOk p) {x y : Gr} (hx : x ∈ grpsC 1 1 c) (hy : y ∈ grpsC 1 1 c) (h1 : p.agG x = true) (h2 : p.hits y.1 y.2.2 y.2.1 = true) : x = y := by
  obtain ⟨c1, c2⟩ := mem_comps.mp hc
  obtain ⟨g1, g2⟩ := grps_facts c 1 1 c1
  obtain ⟨a1, a2, a3⟩ := agG_iff.mp h1
  have bx := g2 x hx
  have bh := g2 y hy
  rcases pw_mem g1 hx hy with e | e | e
  · exact e
  · exfalso
    rcases hits_iff.mp h2 with q | q | q
    · have := a1 _ q; omega
    · have := a2 _ q; omega
    · have := a3 _ q; omega
  · exfalso
    rcases hits_iff.mp h2 with q | q | q
    · have := a1 _ q; omega
    · have := a2 _ q; omega
    · have := a3 _ q; omega
theorem agG_hits (hp : RanksOk p) {x : Gr} (h : p.agG x = true) : p.hits x.1 x.2.2 x.2.1 = true := by
  obtain ⟨a1, a2, a3⟩ := agG_iff.mp h
  refine hits_iff.mpr ?_
  rcases hp.has with q | q | q <;> obtain ⟨i, hi⟩ := Option.isSome_iff_exists.mp q
  · exact .inl (by rw [hi, a1 _ hi])
  · exact .inr (.inl (by rw [hi, a2 _ hi]))
  · exact .inr (.inr (by rw [hi, a3 _ hi]))
theorem inside_iff {b e : Int} : p.inside b e = true ↔ (∃ f, p.first = some f ∧ b < f ∧ f ≤ e) ∨ ∃ l, p.last = some l ∧ b ≤ l ∧ l < e := by
  unfold Per.inside
  rw [Bool.or_eq_true]
  constructor
  · rintro (h | h)
    · cases q : p.first with
      | none => rw [q] at h; cases h
      | some f => rw [q] at h; simp at h; exact .inl ⟨f, rfl, h.1, h.2⟩
    · cases q : p.last with
      | none => rw [q] at h; cases h
      | some f => rw [q] at h; simp at h; exact .inr ⟨f, rfl, h.1, h.2⟩
  · rintro (⟨f, q, h⟩ | ⟨f, q, h⟩)
    · left; rw [q]; simpa using h
    · right; rw [q]; simpa using h
/-- a person who is fine everywhere has a group, and the other way round -/
theorem fine_iff (hc : c ∈ comps n) (hp : RanksOk p) : ((∀ x ∈ grpsC 1 1 c, p.fine x.1 x.2.2 x.2.1 = true) ∧ (∀ f, p.first = some f → f ≤ n) ∧ (∀ f, p.last = some f → f ≤ n) ∧ ∀ d, p.dense = some d → d ≤ (c.length : Nat)) ↔ ∃ x ∈ grpsC 1 1 c, p.agG x = true := by
  obtain ⟨c1, c2⟩ := mem_comps.mp hc
  obtain ⟨g1, g2⟩ := grps_facts c 1 1 c1
  constructor
  · rintro ⟨h1, h2, h3, h4⟩
    have done : ∀ x ∈ grpsC 1 1 c, p.hits x.1 x.2.2 x.2.1 = true → p.agG x = true := fun x hx hh => by
      have := h1 x hx
      unfold Per.fine at this
      rw [if_pos hh] at this
      exact this
    have out : ∀ x ∈ grpsC 1 1 c, p.hits x.1 x.2.2 x.2.1 = false → p.inside x.1 x.2.2 = false := fun x hx hh => by
      have := h1 x hx
      unfold Per.fine at this
      rw [if_neg (by rw [hh]; exact Bool.false_ne_true)] at this
      simpa using this
    cases q1 : p.first with
    | some f =>
      obtain ⟨x, hx, e1, e2⟩ := grps_place (c := c) (b := 1) (k := 1) (f := f) (hp.f f q1).1 (by have := h2 f q1; omega)
      refine ⟨x, hx, done x hx ?_⟩
      cases hh : p.hits x.1 x.2.2 x.2.1 with
      | true => rfl
      | false =>
        have := out x hx hh
        have ne : f ≠ x.1 := fun e => by rw [hits_iff.mpr (.inl (by rw [q1, e]))] at hh; cases hh
        rw [inside_iff.mpr (.inl ⟨f, q1, by omega, e2⟩)] at this
        cases this
    | none =>
      cases q2 : p.last with
      | some l =>
        obtain ⟨x, hx, e1, e2⟩ := grps_place (c := c) (b := 1) (k := 1) (f := l) (hp.l l q2).1 (by have := h3 l q2; omega)
        refine ⟨x, hx, done x hx ?_⟩
        cases hh : p.hits x.1 x.2.2 x.2.1 with
        | true => rfl
        | false =>
          have := out x hx hh
          have ne : l ≠ x.2.2 := fun e => by rw [hits_iff.mpr (.inr (.inl (by rw [q2, e])))] at hh; cases hh
          rw [inside_iff.mpr (.inr ⟨l, q2, e1, by omega⟩)] at this
          cases this
      | none =>
        cases q3 : p.dense with
        | none => have := hp.has; rw [q1, q2, q3] at this; simp at this
        | some d =>
          obtain ⟨x, hx, e⟩ := grps_number (c := c) (b := 1) (k := 1) (d := d) (hp.d d q3).1 (by have := h4 d q3; omega)
          exact ⟨x, hx, done x hx (hits_iff.mpr (.inr (.inr (by rw [q3, e]))))⟩
  · rintro ⟨x, hx, hag⟩
    obtain ⟨a1, a2, a3⟩ := agG_iff.mp hag
    have bx := g2 x hx
    refine ⟨fun y hy => ?_, fun f hf => by have := a1 f hf; omega, fun f hf => by have := a2 f hf; omega, fun f hf => by have := a3 f hf; omega⟩
    have bh := g2 y hy
    unfold Per.fine
    split
    · rename_i hh
      have e := agG_uniq hc hp hx hy hag hh
      subst e
      exact hag
    · rename_i hh
      rw [Bool.not_eq_true']
      cases hi : p.inside y.1 y.2.2 with
      | false => rfl
      | true =>
        exfalso
        rcases inside_iff.mp hi with ⟨f, q, b1, b2⟩ | ⟨f, q, b1, b2⟩
        · have e := a1 f q
          rcases pw_mem g1 hx hy with w | w | w
          · subst w; omega
          · omega
          · omega
        · have e := a2 f q
          rcases pw_mem g1 hx hy with w | w | w
          · subst w; omega
          · omega
          · omega
end
/-- the index of a person's group -/
def givenR (p : Per) : Int → Int → List Nat → Option Int
  | _, _, [] => none
  | b, i, a :: c => if p.agrees b (b + a - 1) (i + 1) = true then some i else givenR p (b + a) (i + 1) c
def givenC (p : Per) (c : List Nat) : Option Int := givenR p 1 0 c
theorem givenR_find (p : Per) : ∀ (c : List Nat) (b i : Int), givenR p b i c = ((grpsC b (i + 1) c).find? p.agG).map fun x => x.2.1 - 1
  | [], _, _ => rfl
  | a :: c, b, i => by
    rw [givenR, grpsC, List.find?_cons, givenR_find p c]
    show _ = Option.map _ (match p.agrees b (b + a - 1) (i + 1) with | true => _ | false => _)
    cases p.agrees b (b + a - 1) (i + 1)
    · rfl
    · show some i = some (i + 1 - 1)
      congr 1; omega
/-- the law's own look -/
def lawFits (c : List Nat) (ps : List Per) : Bool := ps.all (fun p => (givenC p c).isSome) && (grpsC 1 1 c).all fun x => decide (((ps.filter fun p => decide (givenC p c = some (x.2.1 - 1))).length : Int) ≤ x.2.2 - x.1 + 1)
theorem given_some {n : Nat} {c : List Nat} {p : Per} (hc : c ∈ comps n) : (givenC p c).isSome = true ↔ ∃ x ∈ grpsC 1 1 c, p.agG x = true := by
  unfold givenC
  rw [givenR_find, Option.isSome_map, List.find?_isSome]
  exact Iff.rfl
theorem given_at {n : Nat} {c : List Nat} {p : Per} (hc : c ∈ comps n) (hp : RanksOk p) {x : Gr} (hx : x ∈ grpsC 1 1 c) : givenC p c = some (x.2.1 - 1) ↔ p.agG x = true := by
  obtain ⟨c1, c2⟩ := mem_comps.mp hc
  obtain ⟨g1, g2⟩ := grps_facts c 1 1 c1
  unfold givenC
  rw [givenR_find, show (0 : Int) + 1 = 1 by omega, Option.map_eq_some_iff]
  constructor
  · rintro ⟨y, hy, e⟩
    have hm := List.mem_of_find?_eq_some hy
    have ha : p.agG y = true := List.find?_some hy
    have : y = x := by
      rcases pw_mem g1 hm hx with w | w | w
      · exact w
      · omega
      · omega
    rw [← this]; exact ha
  · intro ha
    cases q : (grpsC 1 1 c).find? p.agG with
    | none => exact absurd ha (List.find?_eq_none.mp q x hx)
    | some y =>
      have hm := List.mem_of_find?_eq_some q
      have hy : p.agG y = true := List.find?_some q
      have := agG_uniq hc hp hx hm ha (agG_hits hp hy)
      subst this
      exact ⟨x, rfl, rfl⟩
theorem okG_iff {ps : List Per} {b e k : Int} : okG ps b e k = true ↔ (∀ p ∈ ps, p.fine b e k = true) ∧ (((ps.filter (Per.hits b e k)).length : Nat) : Int) ≤ e - b + 1 := by
  have hl : (hitsOf b e k ps).length = (ps.filter (Per.hits b e k)).length := by unfold hitsOf; rw [List.length_map]
  unfold okG memb
  rw [hl]
  split
  · rename_i h
    rw [List.all_eq_true] at h
    simpa using h
  · rename_i h
    rw [List.all_eq_true] at h
    constructor
    · intro q; cases q
    · intro q; exact absurd q h
theorem goodC_iff {ok : Int → Int → Int → Bool} {fin : Int → Bool} {c : List Nat} : goodC ok fin 1 1 c = true ↔ (∀ x ∈ grpsC 1 1 c, ok x.1 x.2.2 x.2.1 = true) ∧ fin (1 + (c.length : Nat)) = true := by
  rw [good_path, Bool.and_eq_true, path_grps, List.all_eq_true]
theorem finB_iff {n : Int} {ps : List Per} {k : Int} (hn : 0 ≤ n) (hk : 1 ≤ k) : finB n ps k = true ↔ ∀ p ∈ ps, (∀ f, p.first = some f → f ≤ n) ∧ (∀ f, p.last = some f → f ≤ n) ∧ ∀ d, p.dense = some d → d ≤ k - 1 := by
  have mx : ∀ (ns : List Int) (m : Int), 0 ≤ m → (maxI (0 :: ns) ≤ m ↔ ∀ x ∈ ns, x ≤ m) := fun ns m hm => by
    obtain ⟨h1, h2⟩ := maxI_spec (ns := 0 :: ns) (by simp)
    constructor
    · intro h x hx
      have := h2 x (by simp [hx])
      omega
    · intro h
      rcases List.mem_cons.mp h1 with q | q
      · omega
      · exact h _ q
  have pm : ∀ x : Int, x ∈ placesOf ps ↔ ∃ p ∈ ps, p.first = some x ∨ p.last = some x := fun x => by
    unfold placesOf
    rw [List.mem_filterMap]
    constructor
    · rintro ⟨o, ho, e⟩
      obtain ⟨p, hp, h⟩ := List.mem_flatMap.mp ho
      have e' : o = some x := e
      subst e'
      simp at h
      exact ⟨p, hp, h.elim (fun h => .inl h.symm) fun h => .inr h.symm⟩
    · rintro ⟨p, hp, h⟩
      refine ⟨some x, List.mem_flatMap.mpr ⟨p, hp, ?_⟩, rfl⟩
      rcases h with h | h <;> simp [h]
  unfold finB mostOf
  rw [Bool.and_eq_true, decide_eq_true_eq, decide_eq_true_eq, mx _ _ hn, mx _ _ (by omega)]
  constructor
  · rintro ⟨h1, h2⟩ p hp
    exact ⟨fun f hf => h1 f ((pm f).mpr ⟨p, hp, .inl hf⟩), fun f hf => h1 f ((pm f).mpr ⟨p, hp, .inr hf⟩), fun d hd => h2 d (List.mem_filterMap.mpr ⟨p, hp, hd⟩)⟩
  · intro h
    refine ⟨fun x hx => ?_, fun x hx => ?_⟩
    · obtain ⟨p, hp, q | q⟩ := (pm x).mp hx
      · exact (h p hp).1 x q
      · exact (h p hp).2.1 x q
    · obtain ⟨p, hp, q⟩ := List.mem_filterMap.mp hx
      exact (h p hp).2.2 x q
/-- the program's view and the law's are one -/
theorem good_law {n : Nat} {c : List Nat} {ps : List Per} (hc : c ∈ comps n) (hps : ∀ p ∈ ps, RanksOk p) : goodC (okG ps) (finB n ps) 1 1 c = lawFits c ps := by
  have key : goodC (okG ps) (finB n ps) 1 1 c = true ↔ lawFits c ps = true := by
    rw [goodC_iff, finB_iff (by omega) (by omega)]
    unfold lawFits
    rw [Bool.and_eq_true, List.all_eq_true, List.all_eq_true]
    have split1 : (∀ p ∈ ps, (givenC p c).isSome = true) ↔ ∀ p ∈ ps, ((∀ x ∈ grpsC 1 1 c, p.fine x.1 x.2.2 x.2.1 = true) ∧ (∀ f, p.first = some f → f ≤ n) ∧ (∀ f, p.last = some f → f ≤ n) ∧ ∀ d, p.dense = some d → d ≤ (c.length : Nat)) :=
      ⟨fun h p hp => (fine_iff hc (hps p hp)).mpr ((given_some hc).mp (h p hp)), fun h p hp => (given_some hc).mpr ((fine_iff hc (hps p hp)).mp (h p hp))⟩
    have cnts : (∀ p ∈ ps, (givenC p c).isSome = true) → ∀ x ∈ grpsC 1 1 c, (ps.filter (Per.hits x.1 x.2.2 x.2.1)).length = (ps.filter fun p => decide (givenC p c = some (x.2.1 - 1))).length := fun h x hx => by
      congr 1
      refine List.filter_congr fun p hp => ?_
      have h1 := split1.mp h p hp
      have fx := h1.1 x hx
      by_cases q : p.hits x.1 x.2.2 x.2.1 = true
      · rw [q]
        unfold Per.fine at fx
        rw [if_pos q] at fx
        exact (decide_eq_true ((given_at hc (hps p hp) hx).mpr fx)).symm
      · have : ¬ givenC p c = some (x.2.1 - 1) := fun e => q (agG_hits (hps p hp) ((given_at hc (hps p hp) hx).mp e))
        rw [decide_eq_false this]
        simpa using q
    constructor
    · rintro ⟨h1, h2⟩
      have h3 : ∀ p ∈ ps, (givenC p c).isSome = true := split1.mpr fun p hp => ⟨fun x hx => (okG_iff.mp (h1 x hx)).1 p hp, (h2 p hp).1, (h2 p hp).2.1, fun d hd => by have := (h2 p hp).2.2 d hd; omega⟩
      refine ⟨h3, fun x hx => decide_eq_true ?_⟩
      rw [← cnts h3 x hx]
      exact (okG_iff.mp (h1 x hx)).2
    · rintro ⟨h1, h2⟩
      have h3 := split1.mp h1
      refine ⟨fun x hx => okG_iff.mpr ⟨fun p hp => (h3 p hp).1 x hx, ?_⟩, fun p hp => ⟨(h3 p hp).2.1, (h3 p hp).2.2.1, fun d hd => by have := (h3 p hp).2.2.2 d hd; omega⟩⟩
      rw [cnts h1 x hx]
      exact of_decide_eq_true (h2 x hx)
  cases q : lawFits c ps with
  | true => exact key.mpr q
  | false =>
    cases q2 : goodC (okG ps) (finB n ps) 1 1 c with
    | false => rfl
    | true => rw [key.mp q2] at q; cases q

/-! ### all lists of sizes, by their lengths -/
def lev (n : Nat) : Nat → List (List Nat)
  | 0 => [[]]
  | t + 1 => (lev n t).flatMap fun s => (List.range (n - s.sum)).map fun j => s ++ [j + 1]
def doneL (n t : Nat) : List (List Nat) := (List.range t).flatMap fun i => (lev n i).filter fun c => decide (c.sum = n)
section
variable {n : Nat}
theorem mem_lev : ∀ {t : Nat} {c : List Nat}, c ∈ lev n t ↔ (∀ a ∈ c, 1 ≤ a) ∧ c.sum ≤ n ∧ c.length = t
  | 0, c => by
    rw [lev, List.mem_singleton]
    constructor
    · rintro rfl; simp
    · rintro ⟨_, _, h⟩; exact List.length_eq_zero_iff.mp h
  | t + 1, c => by
    rw [lev, List.mem_flatMap]
    constructor
    · rintro ⟨s, hs, h⟩
      obtain ⟨j, hj, rfl⟩ := List.mem_map.mp h
      obtain ⟨h1, h2, h3⟩ := mem_lev.mp hs
      rw [List.mem_range] at hj
      refine ⟨fun a ha => ?_, by rw [sum_snoc]; omega, by rw [List.length_append, h3]; rfl⟩
      rcases List.mem_append.mp ha with q | q
      · exact h1 a q
      · rw [List.mem_singleton] at q; omega
    · rintro ⟨h1, h2, h3⟩
      have hne : c ≠ [] := fun q => by subst q; simp at h3
      obtain ⟨d, a, rfl⟩ := last_of hne
      rw [sum_snoc] at h2
      have ha := h1 a (by simp)
      refine ⟨d, mem_lev.mpr ⟨fun x hx => h1 x (by simp [hx]), by omega, by simpa using h3⟩, List.mem_map.mpr ⟨a - 1, List.mem_range.mpr (by omega), by rw [Nat.sub_add_cancel ha]⟩⟩
theorem nodup_lev : ∀ t, (lev n t).Nodup
  | 0 => by simp [lev]
  | t + 1 => by
    rw [lev]
    refine nodup_flatMap (nodup_lev t) (fun s _ => nodup_map (fun a b e => by have := (snoc_inj e).2; omega) List.nodup_range) ?_
    intro a _ b _ x hx hy
    obtain ⟨i, _, rfl⟩ := List.mem_map.mp hx
    obtain ⟨j, _, e⟩ := List.mem_map.mp hy
    exact (snoc_inj e).1.symm
theorem lev_end {t : Nat} (h : n < t) : lev n t = [] := List.eq_nil_iff_forall_not_mem.mpr fun c hc => by
  obtain ⟨h1, h2, h3⟩ := mem_lev.mp hc
  have := len_le_sum h1
  omega
theorem lev_nil {t u : Nat} (h : lev n t = []) (hu : t ≤ u) : lev n u = [] := by
  induction u with
  | zero => rw [show t = 0 by omega] at h; exact h
  | succ u ih =>
    by_cases q : t = u + 1
    · subst q; exact h
    · rw [lev, ih (by omega)]; rfl
theorem nodup_len {α : Type} [DecidableEq α] {as bs : List α} (h : as.Nodup) (hb : bs.Nodup) (hs : ∀ x ∈ as, x ∈ bs) : as.length ≤ bs.length := by
  have p : as.Perm (bs.filter fun x => decide (x ∈ as)) := perm_mem h (nodup_filter _ hb) fun x => by
    rw [List.mem_filter, decide_eq_true_eq]
    exact ⟨fun q => ⟨hs x q, q⟩, fun q => q.2⟩
  rw [p.length_eq]
  exact List.length_filter_le _ _
theorem lev_len (t : Nat) : (lev n t).length ≤ 2 ^ (n + 1) := by
  have h1 : ((lev n t).map fun c => c ++ [n + 1 - c.sum]).Nodup := nodup_map (fun a b e => (snoc_inj e).1) (nodup_lev t)
  have h2 := nodup_len h1 (nodup_comps (n + 1)) fun x hx => by
    obtain ⟨c, hc, rfl⟩ := List.mem_map.mp hx
    obtain ⟨q1, q2, _⟩ := mem_lev.mp hc
    refine mem_comps.mpr ⟨fun a ha => ?_, by rw [sum_snoc]; omega⟩
    rcases List.mem_append.mp ha with q | q
    · exact q1 a q
    · rw [List.mem_singleton] at q; omega
  rw [List.length_map] at h2
  exact Nat.le_trans h2 (comps_le _)
theorem nodup_done (t : Nat) : (doneL n t).Nodup := by
  unfold doneL
  refine nodup_flatMap List.nodup_range (fun i _ => nodup_filter _ (nodup_lev i)) ?_
  intro a _ b _ x hx hy
  rw [List.mem_filter] at hx hy
  have h1 := (mem_lev.mp hx.1).2.2
  have h2 := (mem_lev.mp hy.1).2.2
  omega
theorem done_perm {t : Nat} (h : lev n t = []) : (comps n).Perm (doneL n t) := perm_mem (nodup_comps n) (nodup_done t) fun c => by
  unfold doneL
  rw [List.mem_flatMap, mem_comps]
  constructor
  · rintro ⟨h1, h2⟩
    refine ⟨c.length, List.mem_range.mpr (Classical.byContradiction fun q => ?_), ?_⟩
    · have := lev_nil h (u := c.length) (by omega)
      have hc : c ∈ lev n c.length := mem_lev.mpr ⟨h1, by omega, rfl⟩
      rw [this] at hc; cases hc
    · rw [List.mem_filter, decide_eq_true_eq]
      exact ⟨mem_lev.mpr ⟨h1, by omega, rfl⟩, h2⟩
  · rintro ⟨i, _, h⟩
    rw [List.mem_filter, decide_eq_true_eq] at h
    exact ⟨(mem_lev.mp h.1).1, h.2⟩
theorem done_len (t : Nat) : (doneL n t).length ≤ 2 ^ n := by
  have := nodup_len (nodup_done (n := n) t) (nodup_comps n) fun c hc => by
    unfold doneL at hc
    obtain ⟨i, _, h⟩ := List.mem_flatMap.mp hc
    rw [List.mem_filter, decide_eq_true_eq] at h
    exact mem_comps.mpr ⟨(mem_lev.mp h.1).1, h.2⟩
  exact Nat.le_trans this (comps_le n)
/-- they ascend -/
def toI (c : List Nat) : List Int := c.map fun a : Nat => (a : Int)
theorem toI_inj : ∀ {a b : List Nat}, toI a = toI b → a = b
  | [], [], _ => rfl
  | [], b :: bs, h => by simp [toI] at h
  | a :: as, [], h => by simp [toI] at h
  | a :: as, b :: bs, h => by
    have h' : (a : Int) :: toI as = (b : Int) :: toI bs := h
    obtain ⟨h1, h2⟩ := List.cons.inj h'
    rw [toI_inj h2, show a = b by omega]
theorem toI_sum (c : List Nat) : (toI c).sum = (c.sum : Nat) := (isum_cast c).symm
theorem toI_len (c : List Nat) : (toI c).length = c.length := List.length_map ..
theorem comps_sorted (m : Nat) : (comps m).Pairwise fun a b => toI a ≤ toI b := by
  induction m using Nat.strongRecOn with
  | ind m ih =>
    cases m with
    | zero => exact List.pairwise_singleton _ _
    | succ m =>
      rw [comps_succ]
      refine pair_flat (fun j _ => List.pairwise_map.mpr (List.Pairwise.imp (fun {a b} h => ?_) (ih (m - j) (by omega)))) (pair_range (fun i j h x hx y hy => ?_) _)
      · show ((j + 1 : Nat) : Int) :: toI a ≤ ((j + 1 : Nat) : Int) :: toI b
        exact List.cons_le_cons_iff.mpr (.inr ⟨rfl, h⟩)
      · obtain ⟨a, _, rfl⟩ := List.mem_map.mp hx
        obtain ⟨b, _, rfl⟩ := List.mem_map.mp hy
        show ((i + 1 : Nat) : Int) :: toI a ≤ ((j + 1 : Nat) : Int) :: toI b
        exact List.cons_le_cons_iff.mpr (.inl (by omega))
theorem sort_comps {L : List (List Nat)} (h : (comps n).Perm L) : L.mergeSort (fun a b => decide (toI a ≤ toI b)) = comps n := by
  refine List.Perm.eq_of_pairwise (le := fun a b => toI a ≤ toI b) (fun a b _ _ h1 h2 => toI_inj (List.le_antisymm h1 h2)) ?_ (comps_sorted n) ((List.mergeSort_perm L _).trans h.symm)
  have := List.pairwise_mergeSort (le := fun a b => decide (toI a ≤ toI b)) (fun a b c h1 h2 => by
    rw [decide_eq_true_eq] at h1 h2 ⊢; exact List.le_trans h1 h2) (fun a b => by
    rw [Bool.or_eq_true, decide_eq_true_eq, decide_eq_true_eq]; exact List.le_total ..) L
  simpa using this
end

/-! ### _law_all_sizes -/
def encC (c : List Nat) : PyData := .tuple ((toI c).map PyData.int)
theorem encC_snoc (s : List Nat) (a : Nat) : encC (s ++ [a]) = .tuple ((toI s).map PyData.int ++ [.int (a : Int)]) := by unfold encC toI; simp
theorem dataLt_encC (a b : List Nat) : PySem.W.dataLt (encC a) (encC b) = decide (toI a < toI b) := by
  unfold encC
  rw [PySem.W.dataLt_tuple]
  exact PySem.W.dataLt_ints _ _
theorem sortD_comps {n : Nat} {L : List (List Nat)} (h : (comps n).Perm L) : sortD (L.map encC) = (comps n).map encC := by
  unfold sortD
  rw [← sort_comps h]
  refine (List.map_mergeSort (f := encC) fun a _ b _ => ?_).symm
  rw [PySem.W.dataLe_eq]
  show decide (toI a ≤ toI b) = !PySem.W.dataLt (encC b) (encC a)
  rw [dataLt_encC]
  by_cases q : toI b < toI a
  · rw [decide_eq_true q, decide_eq_false (fun w => List.not_lt.mpr w q)]; rfl
  · rw [decide_eq_false q, decide_eq_true (List.not_lt.mp q)]; rfl
theorem canLay_ints : ∀ ns : List Int, PyData.canLayAll0 (ns.map PyData.int) = true
  | [] => by simp [PyData.canLayAll0]
  | n :: ns => by simp [PyData.canLayAll0, PyData.canLay0, canLay_ints ns]
theorem sh_encCs (L : List (List Nat)) : SeqAt.shaped (.list (L.map encC)) = true := by
  have h1 : PyData.canLayAll0 (L.map encC) = true := by
    induction L with
    | nil => simp [PyData.canLayAll0]
    | cons c L ih =>
      rw [List.map_cons, PyData.canLayAll0, ih, Bool.and_true]
      unfold encC
      rw [PyData.canLay0]; exact canLay_ints _
  have h2 : PyData.depthAll (L.map encC) ≤ 1 := by
    induction L with
    | nil => simp [PyData.depthAll]
    | cons c L ih =>
      rw [List.map_cons, PyData.depthAll]
      have : (encC c).depth ≤ 1 := by
        unfold encC
        rw [PyData.depth, PySem.W.depth_ints]; exact Nat.le_refl _
      have h3 := ih (by rw [List.map_cons, PyData.canLayAll0, Bool.and_eq_true] at h1; exact h1.2)
      exact Nat.max_le.mpr ⟨this, h3⟩
  unfold SeqAt.shaped
  rw [Bool.and_eq_true]
  refine ⟨by rw [PyData.canLay0]; exact h1, ?_⟩
  rw [PyData.depth]
  exact decide_eq_true (by omega)
theorem sh_intsL (ns : List Int) : SeqAt.shaped (.list (ns.map PyData.int)) = true := by
  unfold SeqAt.shaped
  rw [Bool.and_eq_true, PyData.canLay0, PyData.depth, PySem.W.depth_ints]
  exact ⟨canLay_ints _, by decide⟩
theorem encC_depth (c : List Nat) : (encC c).depth ≤ 50 := by
  unfold encC
  rw [PyData.depth, PySem.W.depth_ints]; decide
theorem eqv_nilL (L : List PyData) : PyData.eqv (.list L) (.list []) = L.isEmpty := by cases L <;> simp [PyData.eqv, PyData.eqvAll]
abbrev con_law_all_sizes : Con := { α := Nat, args := fun n => [.d (.int (n : Int))], pre := fun n => 1 ≤ n ∧ n ≤ 9, post := fun n r => r = .lst ((comps n).map encC) }
theorem ok_law_all_sizes (T : Tx K mg) : FnOk P w K mg base CX0 (0 + 1) (He.ga K "_law_all_sizes") T.fd_law_all_sizes ["size"] (spP K con_law_all_sizes) := by
  refine fn_ok T.F_law_all_sizes sc_law_all_sizes con_law_all_sizes (fun _ _ => rfl) (by decide) (fun _ _ h => h) fun cdv A outer s H E hr => ⟨_, (pss_cons (ps_par (i := 1) (j := 2) (by rfl) sc_law_all_sizes.nd rfl rfl (by decide) rfl rfl (pa_cons (pe_lst (pa_cons (pe_tup pa_nil) pa_nil)) (pa_cons (pe_lst pa_nil) pa_nil)) (by rfl))
      (pss_cons (ps_while PassesOwn.never (pt_cmpR (op_neD hr.units) (pv 1) (pe_lst pa_nil) (nomark _))
        (pss_cons (ps_set (i := 3) sc_law_all_sizes.nd rfl (.inl rfl) (pe_lst pa_nil))
        (pss_cons (ps_for PassesOwn.never rfl (pi_seq (pv 1)) (pg_name (i := 4) sc_law_all_sizes.nd rfl (.inr rfl))
          (pss_cons (ps_set (i := 5) sc_law_all_sizes.nd rfl (.inl rfl) (pe_op op_sub (pv 0) (pe_callB (call_sumG rfl) (by rfl) T.b_sum bt_sum (pa_cons (pv 4) pa_nil))))
          (pss_cons (ps_if (pt_cmpR (op_eqD hr.units) (pv 5) pe_int (nomark _))
            (pss_one (ps_expr (pe_bm PySem.F.plainAttrs_list PySem.F.slot_list_append PySem.F.type_list_append mt_append (pv 2) (pa_cons (pv 4) pa_nil))))
            pss_nil)
          (pss_one (ps_set (i := 3) sc_law_all_sizes.nd rfl (.inl rfl) (pe_op op_addG (pv 3) (pe_lc (own := [("many", 6)]) rfl sc_law_all_sizes.nd (pi_range2 (by rfl) T.b_range (pa_cons pe_int (pa_cons (pe_op op_addG (pv 5) pe_int) pa_nil))) (blkOk_by (own := [("many", 6)]) (N := ["size", "found", "done", "longer", "sizes", "left", "many"]) (sc := defScope s_law_all_sizes) (by decide +kernel)) (fun _ _ _ _ _ => (pg_name (i := 6) sc_law_all_sizes.nd rfl (.inl rfl))) (fun _ _ _ _ _ => pts_nil) (fun _ _ _ _ _ => (pe_op (opK rAddG K op_addG) (pv 4) (pe_tup (pa_cons (pv 6) pa_nil)))))))))))
        (pss_one (ps_set (i := 1) sc_law_all_sizes.nd rfl (.inl rfl) (pv 3))))))
      (pss_one (ps_ret (pe_callB (cr_sortedD hr.units) (by rfl) T.b_sorted bt_sorted (pa_cons (pv 2) pa_nil)))))), ?_⟩
  rintro B S0 E px (n : Nat) ⟨h1, h2⟩
  dsimp only [L2.cxOf, L2.Cx.nox, L2.Cx.wish] at h1 h2 ⊢
  have pw : 2 ^ (n + 1) ≤ 1024 := Nat.pow_le_pow_right (by decide) (show n + 1 ≤ 10 by omega)
  have pw2 : 2 ^ n ≤ 1024 := Nat.pow_le_pow_right (by decide) (show n ≤ 10 by omega)
  apply wp_seq
  apply wp_parE (s1 := .d (.list ((lev n 0).map encC))) (s2 := .lst ((doneL n 0).map encC))
  · refine evs_is (x := .d (.list [.tuple []])) (by wtm_at "ev") rfl
  · wtm_at "evis"
  · rfl
  · rfl
  · decide
  · exact lt_ble rfl
  · exact lt_ble rfl
  apply wp_seq
  refine wp_while (fun m Γ => ∃ t g3 g4 g5 g6, m = n + 2 - t ∧ t ≤ n + 1 ∧ Γ = [.d (.int (n : Int)), .d (.list ((lev n t).map encC)), .lst ((doneL n t).map encC), g3, g4, g5, g6]) (n := n + 2) ⟨0, _, _, _, _, rfl, by omega, rfl⟩ ?_
  rintro m Γ ⟨t, g3, g4, g5, g6, rfl, ht, rfl⟩
  have hL := lev_len (n := n) t
  have hL1 := lev_len (n := n) (t + 1)
  have hD := done_len (n := n) (t + 1)
  have s1 := sh_encCs (lev n t)
  have s2 : SeqAt.shaped (.list []) = true := rfl
  refine EvT.wp (b := !((lev n t).map encC).isEmpty) (by rw [← eqv_nilL]; wtm_at "ev") ⟨fun hc => ?_, fun hc => ?_⟩
  · -- one more turn
    have hne : lev n t ≠ [] := fun q => by rw [q] at hc; cases hc
    have htn : t < n + 1 := Classical.byContradiction fun q => hne (lev_end (by omega))
    apply wp_seq
    apply wp_asg (s := .lst [])
    · wtm_at "ev"
    · exact lt_ble rfl
    · rfl
    apply wp_seq
    apply wp_forI
    · apply evi_seqL
      wtm_at "ev"
    refine forW_map (enc := encC) (xs := lev n t) (fun i rest Γ => ∃ pre g4 g5 g6, lev n t = pre ++ rest ∧ Γ = [.d (.int (n : Int)), .d (.list ((lev n t).map encC)), .lst ((doneL n t ++ pre.filter fun c => decide (c.sum = n)).map encC), .lst ((pre.flatMap fun s => (List.range (n - s.sum)).map fun j => s ++ [j + 1]).map encC), g4, g5, g6]) ⟨[], _, _, _, rfl, by rw [List.filter_nil, List.append_nil]; rfl⟩ ?_ ?_
    · rintro i c rest Γ ⟨pre, g4, g5, g6, er, rfl⟩
      have hcm : c ∈ lev n t := by rw [er]; simp
      obtain ⟨c1, c2, c3⟩ := mem_lev.mp hcm
      have hdl : doneL n (t + 1) = doneL n t ++ (pre ++ c :: rest).filter fun c => decide (c.sum = n) := by
        rw [← er]; unfold doneL; rw [List.range_succ, List.flatMap_append]; simp
      have lD : (doneL n t ++ pre.filter fun c => decide (c.sum = n)).length + 1 ≤ 2000 := by
        have : (doneL n t ++ pre.filter fun c => decide (c.sum = n)).length ≤ (doneL n (t + 1)).length := by
          rw [hdl, List.filter_append, ← List.append_assoc, List.length_append (bs := (c :: rest).filter _)]; omega
        omega
      have hlv : lev n (t + 1) = (pre.flatMap fun s => (List.range (n - s.sum)).map fun j => s ++ [j + 1]) ++ ((c :: rest).flatMap fun s => (List.range (n - s.sum)).map fun j => s ++ [j + 1]) := by
        rw [← List.flatMap_append, ← er]; rfl
      have lL : (pre.flatMap fun s => (List.range (n - s.sum)).map fun j => s ++ [j + 1]).length ≤ 1024 := by
        have := congrArg List.length hlv
        rw [List.length_append] at this
        omega
      refine GTo.wp (gto_name (lt_ble rfl)) ?_
      apply wp_seq
      apply wp_asg (s := .d (.int ((n : Int) - (toI c).sum)))
      · apply evs_op
        · wtm_at "ev"
        · exact evs_cb (ss := [.d (encC c)]) (by wtm_at "ev") (sum_ints (ns := toI c) rfl)
        · exact ops_I0
      · exact lt_ble rfl
      · rfl
      have hsum := toI_sum c
      have i1 := sh_int ((n : Int) - (toI c).sum)
      have i2 := sh_int 0
      apply wp_seq
      -- done
      refine wp_if (b := decide (c.sum = n)) (nx := fun Γ => ∃ g5, Γ = [.d (.int (n : Int)), .d (.list ((lev n t).map encC)), .lst ((doneL n t ++ (pre ++ [c]).filter fun c => decide (c.sum = n)).map encC), .lst ((pre.flatMap fun s => (List.range (n - s.sum)).map fun j => s ++ [j + 1]).map encC), .d (encC c), .d (.int ((n : Int) - (toI c).sum)), g5]) ?_ ?_ ?_ |> fun h => h.mono ?_ (fun _ _ h => h) (fun _ h => h) (fun _ h => h)
      · refine evt_is (b := PyData.eqv (.int ((n : Int) - (toI c).sum)) (.int 0)) (by wtm_at "ev") ?_
        rw [eqv_int]
        exact decide_eq_decide.mpr (by omega)
      · intro h
        apply wp_append (s0 := .lst ((doneL n t ++ pre.filter fun c => decide (c.sum = n)).map encC)) (d := encC c) rfl rfl (by wtm_at "ev") (sz' (by rw [List.length_map]; omega))
        refine ⟨g6, ?_⟩
        rw [List.filter_append, List.filter_cons, if_pos h, List.filter_nil, ← List.append_assoc, List.map_append (l₁ := doneL n t ++ _)]; rfl
      · intro h
        apply wp_next
        refine ⟨g6, ?_⟩
        rw [List.filter_append, List.filter_cons, if_neg (by rw [h]; exact Bool.false_ne_true), List.filter_nil, List.append_nil]; rfl
      · rintro Γ ⟨g6, rfl⟩
        -- longer
        apply wp_asg (s := .lst ((pre.flatMap fun s => (List.range (n - s.sum)).map fun j => s ++ [j + 1]).map encC ++ (((List.range (n - c.sum)).map fun j => c ++ [j + 1]).map encC)))
        · apply evs_op (x := .bor ((pre.flatMap fun s => (List.range (n - s.sum)).map fun j => s ++ [j + 1]).map encC)) (y := .lst (((List.range (n - c.sum)).map fun j => c ++ [j + 1]).map encC))
          · wtm_at "ev"
          · rw [List.map_map]
            refine evs_lc (items := (List.range (n - c.sum)).map fun i : Nat => PyData.int (1 + (i : Int))) ?_ (gvs_name (by decide)) (sz' (by rw [List.length_map, List.length_range]; omega)) ?_
            · refine EvI.is (evi_range2 (i := 1) (j := (n : Int) - (toI c).sum + 1) (by wtm_at "ev") ⟨by omega, by omega, by omega, by omega⟩) ?_
              rw [show ((n : Int) - (toI c).sum + 1 - 1).toNat = n - c.sum by omega]; rfl
            · refine lcp_all (enc := fun i : Nat => PyData.int (1 + (i : Int))) (xs := List.range (n - c.sum)) (f := encC ∘ fun j => c ++ [j + 1]) fun j hj => ⟨_, gto_name (lt_ble rfl), ?_⟩
              show EvS _ _ _ (.d (encC (c ++ [j + 1])))
              rw [encC_snoc, show (((j + 1 : Nat) : Int)) = 1 + (j : Int) by omega]
              apply evs_op (x := .d (.tuple ((toI c).map PyData.int))) (y := .d (.tuple [.int (1 + (j : Int))]))
              · exact evs_var (t := .d (encC c)) rfl rfl
              · wtm_at "ev"
              · exact add_tup (sz (by rw [List.length_map, toI_len, c3]; simp only [List.length_cons, List.length_nil]; omega))
          · exact add_lst rfl rfl (sz (by rw [List.length_map, List.length_map, List.length_map, List.length_range]; omega))
        · exact lt_ble rfl
        · rfl
        refine ⟨pre ++ [c], .d (encC c), .d (.int ((n : Int) - (toI c).sum)), g6, by rw [er, List.append_assoc]; rfl, ?_⟩
        rw [List.flatMap_append, List.map_append (l₁ := pre.flatMap _)]
        simp
    · rintro i Γ ⟨pre, g4, g5, g6, er, rfl⟩
      rw [List.append_nil] at er
      subst er
      refine wp_share (i := 3) rfl ?_
      apply wp_asg (s := .d (.list ((lev n (t + 1)).map encC)))
      · wtm_at "ev"
      · exact lt_ble rfl
      · rfl
      refine ⟨n + 2 - (t + 1), by omega, t + 1, .d (.list ((lev n (t + 1)).map encC)), g4, g5, g6, rfl, by omega, ?_⟩
      have : doneL n (t + 1) = doneL n t ++ (lev n t).filter fun c => decide (c.sum = n) := by unfold doneL; rw [List.range_succ, List.flatMap_append]; simp
      rw [this]; rfl
  · -- the end
    have hnil : lev n t = [] := by
      cases q : lev n t with
      | nil => rfl
      | cons _ _ => rw [q] at hc; cases hc
    apply wp_ret
    refine EvS.wp (s := .lst ((comps n).map encC)) ?_ ⟨rfl, rfl⟩
    rw [← sortD_comps (done_perm hnil)]
    refine evs_cb (ss := [.bor ((doneL n t).map encC)]) (by wtm_at "ev") (sorted_data rfl ?_ ?_ (sz ?_) ?_)
    · exact PySem.W.AllAlike.of fun a b => by show PySem.W.alike (.tuple _) (.tuple _) = true; rw [PySem.W.alike]; exact PySem.W.alike_ints _ _
    · refine .inl fun d hd => ?_
      obtain ⟨c, hc, rfl⟩ := List.mem_map.mp hd
      have hcm : c ∈ comps n := (done_perm hnil).mem_iff.mpr hc
      obtain ⟨_, q⟩ := mem_comps.mp hcm
      cases c with
      | nil => simp at q; omega
      | cons a c => exact ⟨_, _, rfl⟩
    · rw [List.length_map]
      have := done_len (n := n) t
      omega
    · intro d hd
      obtain ⟨c, hc, rfl⟩ := List.mem_map.mp hd
      exact encC_depth c
theorem cl_law_all_sizes {F : Fx} {Γ : List Sl} {t : TA} {E : XK} {n : Nat} (h : EvA F t Γ [.d (.int (n : Int))]) (h1 : 1 ≤ n) (h2 : n ≤ 9) : EvS F (tCall (spP F.K con_law_all_sizes) [] E t) Γ (.lst ((comps n).map encC)) :=
  evs_call (c := con_law_all_sizes) n h rfl ⟨h1, h2⟩ (fun _ h => h) fun _ h => h

/-! ### _law_given -/
theorem find3_empty (b e k : Int) (p : Per) : (([(p.first, b), (p.last, e), (p.dense, k)] : List (Option Int × Int)).filter fun q => q.1.isSome && !decide (q.1 = some q.2)).isEmpty = p.agrees b e k := by
  have h : ∀ (o : Option Int) (i : Int), (o.isSome && !decide (o = some i)) = !inO o i := fun o i => by
    unfold inO
    cases o with
    | none => simp
    | some j => simp
  simp only [List.filter_cons, List.filter_nil, h]
  unfold Per.agrees
  cases inO p.first b <;> cases inO p.last e <;> cases inO p.dense k <;> rfl
abbrev con_law_given : Con := { α := List Nat × Per, args := fun a => [.d (encC a.1), .d a.2.enc], pre := fun a => True, post := fun a r => r = .d (oI (givenC a.2 a.1)) }
theorem ok_law_given (T : Tx K mg) : FnOk P w K mg base CX0 (0 + 1) (He.ga K "_law_given") T.fd_law_given ["sizes", "person"] (spP K con_law_given) := by
  refine fn_ok T.F_law_given sc_law_given con_law_given (fun _ _ => rfl) (by decide) (fun _ _ h => h) fun cdv A outer s H E hr => ⟨_, (pss_cons (ps_set (i := 2) sc_law_given.nd rfl (.inl rfl) pe_int)
      (pss_cons (ps_for PassesOwn.never rfl (pi_enumG (by rfl) T.b_enumerate (pa_cons (pv 0) pa_nil)) (pg_tup (by rfl) (pgs_cons (pg_name (i := 3) sc_law_given.nd rfl (.inl rfl)) (pgs_cons (pg_name (i := 4) sc_law_given.nd rfl (.inl rfl)) pgs_nil)))
        (pss_cons (ps_set (i := 5) sc_law_given.nd rfl (.inl rfl) (pe_tup (pa_cons (pv 2) (pa_cons (pe_op op_sub (pe_op op_addG (pv 2) (pv 4)) pe_int) (pa_cons (pe_op op_addG (pv 3) pe_int) pa_nil)))))
        (pss_cons (ps_if (pt_cmpR (op_eqD hr.units) (pe_lc (own := [("one", 6), ("other", 7)]) rfl sc_law_given.nd (RZ.pi_zipA (by rfl) T.b_zip (pa_cons (pe_slice sl_G (pv 1) (po_some pe_int) po_none) (pa_cons (pv 5) pa_nil))) (blkOk_by (own := [("one", 6), ("other", 7)]) (N := ["sizes", "person", "begin", "at", "many", "row", "one", "other"]) (sc := defScope s_law_given) (by decide +kernel)) (fun _ _ _ _ _ => (pgTupK (n := 2) K (pg_tup (by rfl) (pgs_cons (pg_name (i := 6) sc_law_given.nd rfl (.inl rfl)) (pgs_cons (pg_name (i := 7) sc_law_given.nd rfl (.inl rfl)) pgs_nil))))) (fun _ _ _ _ _ => (pts_one (PW.pt (pw_and (pt_cmpR op_notN (pv 6) pe_non (nomark _)) (pw_and1 (pt_cmpR (opK rNeD K (op_neD hr.units)) (pv 6) (pv 7) (nomark _))))))) (fun _ _ _ _ _ => pe_int)) (pe_lst pa_nil) (nomark _))
          (pss_one (ps_ret (pv 3)))
          pss_nil)
        (pss_one (ps_set (i := 2) sc_law_given.nd rfl (.inl rfl) (pe_op op_addG (pv 2) (pv 4)))))))
      (pss_one (ps_ret pe_non)))), ?_⟩
  rintro B S0 E px ⟨c, p⟩ -
  dsimp only [L2.cxOf, L2.Cx.nox, L2.Cx.wish]
  apply wp_seq
  apply wp_asg
  · wtm_at "ev"
  · exact lt_ble rfl
  · rfl
  apply wp_seq
  apply wp_forI
  · apply evi_enumT (ds := c.map fun a : Nat => PyData.int (a : Int))
    refine evs_is (x := .d (encC c)) (by wtm_at "ev") ?_
    unfold encC toI; rw [List.map_map]; rfl
  refine forW_enum (enc := fun a : Nat => PyData.int (a : Int)) (xs := c) (fun i rest Γ => ∃ (b : Int) (g3 g4 g5 g6 g7 : Sl), Γ = [.d (encC c), .d p.enc, .d (.int b), g3, g4, g5, g6, g7] ∧ givenC p c = givenR p b (i : Int) rest) ⟨1, _, _, _, _, _, rfl, rfl⟩ ?_ ?_
  · rintro i a rest Γ ⟨b, g3, g4, g5, g6, g7, rfl, er⟩
    refine GTo.wp (gto_tup rfl (gtos_cons (gto_name (lt_ble rfl)) (gtos_cons (gto_name (lt_ble rfl)) gtos_nil))) ?_
    apply wp_seq
    apply wp_asg
    · wtm_at "ev"
    · exact lt_ble rfl
    · rfl
    apply wp_seq
    apply wp_if (b := p.agrees b (b + (a : Int) - 1) ((i : Int) + 1))
    · rw [← find3_empty]
      refine evt_is (b := PyData.eqv (.list ((([(p.first, b), (p.last, b + (a : Int) - 1), (p.dense, (i : Int) + 1)] : List (Option Int × Int)).filter fun q => q.1.isSome && !decide (q.1 = some q.2)).map fun _ => PyData.int 1)) (.list [])) ?_ (by rw [eqv_nilL]; cases (List.filter _ _) <;> rfl)
      apply evt_test
      apply evs_op (x := .lst ((([(p.first, b), (p.last, b + (a : Int) - 1), (p.dense, (i : Int) + 1)] : List (Option Int × Int)).filter fun q => q.1.isSome && !decide (q.1 = some q.2)).map fun _ => PyData.int 1))
      · refine evs_lc (items := zipD [oI p.first, oI p.last, oI p.dense] [.int b, .int (b + (a : Int) - 1), .int ((i : Int) + 1)]) ?_ (gvs_tup (gvss_names [6, 7] (by decide))) (sz' (Nat.le_of_ble_eq_true rfl)) ?_
        · apply evi_zipT
          apply eva_cons
          · refine evs_is (x := .d (.tuple (cutD [.str p.name, oI p.first, oI p.last, oI p.dense] (some 1) none))) ?_ rfl
            refine evs_slT (x := .d (.tuple [.str p.name, oI p.first, oI p.last, oI p.dense])) (by wtm_at "evis") rfl (evo_some (by wtm_at "ev")) evo_no
          · wtm_at "ev"
        · refine lcp_map (enc := fun q : Option Int × Int => PyData.tuple [oI q.1, .int q.2]) (xs := [(p.first, b), (p.last, b + (a : Int) - 1), (p.dense, (i : Int) + 1)]) (p := fun q => q.1.isSome && !decide (q.1 = some q.2)) (f := fun _ => PyData.int 1) fun q _ => ?_
          refine ⟨_, gto_tup rfl (gtos_names [6, 7] [oI q.1, .int q.2] _ rfl (names_lt rfl)), ?_, fun _ => ?_⟩
          · apply evt_and
            · refine evt_is (b := !PyData.isN (oI q.1)) (by wtm_at "ev") ?_
              rw [isN_oI]; cases q.1 <;> rfl
            · intro _
              rw [← eqv_oi]
              have s1 := sh_oI q.1
              have s2 := sh_int q.2
              wtm_at "ev"
          · wtm_at "ev"
      · wtm_at "ev"
      · refine ops_eqD rfl rfl ?_ rfl
        generalize (([(p.first, b), (p.last, b + (a : Int) - 1), (p.dense, (i : Int) + 1)] : List (Option Int × Int)).filter fun q => q.1.isSome && !decide (q.1 = some q.2)) = L
        have e : (L.map fun _ => PyData.int 1) = (L.map fun _ => (1 : Int)).map PyData.int := by rw [List.map_map]; rfl
        rw [e]
        exact sh_intsL _
    · intro h
      apply wp_ret
      apply EvS.wp
      · wtm_at "ev"
      · refine ⟨rfl, ?_⟩
        rw [er, givenR, if_pos h]; rfl
    · intro h
      apply wp_next
      apply wp_asg
      · wtm_at "ev"
      · exact lt_ble rfl
      · rfl
      refine ⟨b + (a : Int), _, _, _, _, _, rfl, ?_⟩
      rw [er, givenR, if_neg (by rw [h]; exact Bool.false_ne_true)]
      congr 1
  · rintro i Γ ⟨b, g3, g4, g5, g6, g7, rfl, er⟩
    apply wp_ret
    apply EvS.wp
    · wtm_at "ev"
    · refine ⟨rfl, ?_⟩
      rw [er]; rfl
theorem cl_law_given {F : Fx} {Γ : List Sl} {t : TA} {E : XK} {c : List Nat} {p : Per} (h : EvA F t Γ [.d (encC c), .d p.enc]) : EvS F (tCall (spP F.K con_law_given) [] E t) Γ (.d (oI (givenC p c))) :=
  evs_call (c := con_law_given) (c, p) h rfl trivial (fun _ h => h) fun _ h => h

/-! ### _law_fits -/
theorem grps_zip (P : Int → Int → Bool) : ∀ (c : List Nat) (b : Int) (i : Nat), ((grpsC b ((i : Int) + 1) c).all fun x => P (x.2.1 - 1) (x.2.2 - x.1 + 1)) = (c.zipIdx i).all fun q => P (q.2 : Int) (q.1 : Int)
  | [], _, _ => rfl
  | a :: c, b, i => by
    rw [grpsC, List.all_cons, List.zipIdx_cons, List.all_cons]
    dsimp only
    rw [show (i : Int) + 1 - 1 = i by omega, show b + (a : Int) - 1 - b + 1 = a by omega]
    congr 1
    have := grps_zip P c (b + a) (i + 1)
    rw [show ((i + 1 : Nat) : Int) + 1 = (i : Int) + 1 + 1 by omega] at this
    exact this
theorem none_in (os : List (Option Int)) : ((os.map oI).any fun z => PyData.eqv z .none) = os.any Option.isNone := by
  rw [List.any_map]
  congr 1
  funext o
  show PyData.eqv (oI o) .none = _
  rw [show PyData.none = oI none from rfl, eqv_oI]
  cases o <;> simp
theorem flat_oIs (os : List (Option Int)) : (os.map oI).all flatD = true := by
  rw [List.all_map, List.all_eq_true]
  exact fun o _ => flat_oI o
abbrev con_law_fits : Con := { α := List Nat × List Per, args := fun a => [.d (encC a.1), .d (encSeen a.2)], pre := fun a => a.1.length ≤ 1000 ∧ a.2.length ≤ 1000, post := fun a r => r = .d (.bool (lawFits a.1 a.2)) }
theorem ok_law_fits (T : Tx K mg) : FnOk P w K mg base CX0 (1 + 1) (He.ga K "_law_fits") T.fd_law_fits ["sizes", "seen"] (spP K con_law_fits) := by
  refine fn_ok T.F_law_fits sc_law_fits con_law_fits (fun _ _ => rfl) (by decide) (fun _ _ h => h) fun cdv A outer s H E hr => ⟨_, (pss_cons (ps_set (i := 2) sc_law_fits.nd rfl (.inr rfl) (pe_lc (own := [("person", 3)]) rfl sc_law_fits.nd (pi_seq (pv 1)) (blkOk_by (own := [("person", 3)]) (N := ["sizes", "seen", "spots", "person", "at", "many"]) (sc := defScope s_law_fits) (by decide +kernel)) (fun _ _ _ _ _ => (pg_name (i := 3) sc_law_fits.nd rfl (.inl rfl))) (fun _ _ _ _ _ => pts_nil) (fun _ _ _ _ _ => (pe_call (ok_law_given T) (hr.mono (by decide)) (by rfl) T.g_law_given T.F_law_given.kp (bi_law_given T) .nil pass0 (pa_cons (pv 0) (pa_cons (pv 3) pa_nil))))))
      (pss_cons (ps_if (pt_cmpR op_in_G pe_non (pv 2) (by with_unfolding_all rfl))
        (pss_one (ps_ret pe_bl))
        pss_nil)
      (pss_one (ps_ret (pe_cmpR (op_eqD hr.units) (pe_lc (own := [("at", 4), ("many", 5)]) rfl sc_law_fits.nd (pi_enumG (by rfl) T.b_enumerate (pa_cons (pv 0) pa_nil)) (blkOk_by (own := [("at", 4), ("many", 5)]) (N := ["sizes", "seen", "spots", "person", "at", "many"]) (sc := defScope s_law_fits) (by decide +kernel)) (fun _ _ _ _ _ => (pgTupK (n := 2) K (pg_tup (by rfl) (pgs_cons (pg_name (i := 4) sc_law_fits.nd rfl (.inl rfl)) (pgs_cons (pg_name (i := 5) sc_law_fits.nd rfl (.inl rfl)) pgs_nil))))) (fun _ _ _ _ _ => (pts_one (pt_cmpR op_gt (bmK rCntI K (pe_bm PySem.F.plainAttrs_list PySem.F.slot_list_count PySem.F.type_list_count mt_lcount (pv 2) (pa_cons (pv 4) pa_nil))) (pv 5) (nomark _)))) (fun _ _ _ _ _ => (pv 4))) (pe_lst pa_nil) (nomark _)))))), ?_⟩
  rintro B S0 E px ⟨c, ps⟩ ⟨h1, h2⟩
  dsimp only [L2.cxOf, L2.Cx.nox, L2.Cx.wish] at h1 h2 ⊢
  apply wp_seq
  apply wp_asg (s := .lst ((ps.map fun p => givenC p c).map oI))
  · rw [List.map_map]
    refine evs_lc (items := ps.map Per.enc) (evi_seqT (by wtm_at "ev")) (gvs_name (by decide)) (sz' (by rw [List.length_map]; omega)) ?_
    refine lcp_all (f := oI ∘ fun p => givenC p c) fun p _ => ⟨_, gto_name (lt_ble rfl), ?_⟩
    exact cl_law_given (by wtm_at "ev")
  · exact lt_ble rfl
  · rfl
  apply wp_seq
  have hall : ps.all (fun p => (givenC p c).isSome) = !((ps.map fun p => givenC p c).any Option.isNone) := by
    rw [List.any_map, List.not_any_eq_all_not]
    congr 1
    funext p
    show _ = !(givenC p c).isNone
    cases givenC p c <;> rfl
  apply wp_if (b := (ps.map fun p => givenC p c).any Option.isNone)
  · rw [← none_in]
    apply evt_test
    apply evs_op
    · wtm_at "ev"
    · wtm_at "ev"
    · exact in_G (r' := rInG K) (in_seq rfl rfl (flat_oIs _))
  · intro h
    apply wp_ret
    apply EvS.wp
    · wtm_at "ev"
    · refine ⟨rfl, ?_⟩
      unfold lawFits
      rw [hall, h]; rfl
  · intro h
    apply wp_next
    -- all are numbers
    let ns : List Int := ps.map fun p => (givenC p c).getD 0
    have hns : (ps.map fun p => givenC p c).map oI = ns.map PyData.int := by
      rw [List.map_map, List.map_map]
      refine List.map_congr_left fun p hp => ?_
      have := List.any_eq_false.mp h (givenC p c) (List.mem_map.mpr ⟨p, hp, rfl⟩)
      show oI (givenC p c) = PyData.int ((givenC p c).getD 0)
      cases q : givenC p c with
      | none => rw [q] at this; exact absurd rfl this
      | some i => rfl
    have hcnt : ∀ i : Int, ((ns.count i : Nat) : Int) = ((ps.filter fun p => decide (givenC p c = some i)).length : Nat) := fun i => by
      show (((ps.map fun p => (givenC p c).getD 0).count i : Nat) : Int) = _
      rw [List.count_eq_countP, List.countP_map, List.countP_eq_length_filter]
      congr 2
      refine List.filter_congr fun p hp => ?_
      have := List.any_eq_false.mp h (givenC p c) (List.mem_map.mpr ⟨p, hp, rfl⟩)
      show ((givenC p c).getD 0 == i) = _
      cases q : givenC p c with
      | none => rw [q] at this; exact absurd rfl this
      | some j =>
        show (j == i) = _
        by_cases w : j = i <;> simp [w]
    rw [hns]
    apply wp_ret
    refine EvS.wp (s := .d (.bool (lawFits c ps))) ?_ ⟨rfl, rfl⟩
    have eL : lawFits c ps = (((c.zipIdx 0).filter fun q => decide (((ns.count (q.2 : Int) : Nat) : Int) > (q.1 : Int))).map fun q : Nat × Nat => PyData.int (q.2 : Int)).isEmpty := by
      have g := grps_zip (fun i m => decide ((((ps.filter fun p => decide (givenC p c = some i)).length : Nat) : Int) ≤ m)) c 1 0
      unfold lawFits
      rw [hall, h]
      show (true && _) = _
      rw [Bool.true_and]
      refine g.trans ?_
      have : ∀ L : List (Nat × Nat), (L.all fun q => decide ((((ps.filter fun p => decide (givenC p c = some (q.2 : Int))).length : Nat) : Int) ≤ (q.1 : Int))) = ((L.filter fun q => decide (((ns.count (q.2 : Int) : Nat) : Int) > (q.1 : Int))).map fun q : Nat × Nat => PyData.int (q.2 : Int)).isEmpty := by
        intro L
        induction L with
        | nil => rfl
        | cons q L ih =>
          rw [List.all_cons, ih, List.filter_cons, hcnt]
          by_cases w : (((ps.filter fun p => decide (givenC p c = some (q.2 : Int))).length : Nat) : Int) ≤ (q.1 : Int)
          · rw [decide_eq_true w, decide_eq_false (by omega)]; rfl
          · rw [decide_eq_false w, decide_eq_true (by omega)]; rfl
      exact this _
    rw [eL, ← eqv_nilL]
    apply evs_op (x := .lst (((c.zipIdx 0).filter fun q => decide (((ns.count (q.2 : Int) : Nat) : Int) > (q.1 : Int))).map fun q : Nat × Nat => PyData.int (q.2 : Int)))
    · refine evs_lc (items := (c.zipIdx 0).map fun q : Nat × Nat => PyData.tuple [.int (q.2 : Int), .int (q.1 : Int)]) ?_ (gvs_tup (gvss_names [4, 5] (by decide))) (sz' (by rw [List.length_map, List.length_zipIdx]; omega)) ?_
      · refine EvI.is (evi_enumT (ds := c.map fun a : Nat => PyData.int (a : Int)) (evs_is (x := .d (encC c)) (by wtm_at "ev") (by unfold encC toI; rw [List.map_map]; rfl))) ?_
        unfold enumD
        rw [List.zipIdx_map, List.map_map]; rfl
      · refine lcp_map (enc := fun q : Nat × Nat => PyData.tuple [.int (q.2 : Int), .int (q.1 : Int)]) (xs := c.zipIdx 0) (p := fun q => decide (((ns.count (q.2 : Int) : Nat) : Int) > (q.1 : Int))) (f := fun q : Nat × Nat => PyData.int (q.2 : Int)) fun q _ => ?_
        refine ⟨_, gto_tup rfl (gtos_names [4, 5] [.int (q.2 : Int), .int (q.1 : Int)] _ rfl (names_lt rfl)), ?_, fun _ => by wtm_at "ev"⟩
        apply evt_test
        apply evs_op
        · exact evs_lcount (x := .bor (ns.map PyData.int)) (by wtm_at "ev") rfl (by wtm_at "ev")
        · wtm_at "ev"
        · exact ops_B0
    · wtm_at "ev"
    · refine ops_eqD rfl rfl ?_ rfl
      have e : (((c.zipIdx 0).filter fun q => decide (((ns.count (q.2 : Int) : Nat) : Int) > (q.1 : Int))).map fun q : Nat × Nat => PyData.int (q.2 : Int)) = (((c.zipIdx 0).filter fun q => decide (((ns.count (q.2 : Int) : Nat) : Int) > (q.1 : Int))).map fun q : Nat × Nat => (q.2 : Int)).map PyData.int := by rw [List.map_map]; rfl
      rw [e]
      exact sh_intsL _
theorem cl_law_fits {F : Fx} {Γ : List Sl} {t : TA} {E : XK} {c : List Nat} {ps : List Per} (h : EvA F t Γ [.d (encC c), .d (encSeen ps)]) (h1 : c.length ≤ 1000) (h2 : ps.length ≤ 1000) : EvS F (tCall (spP F.K con_law_fits) [] E t) Γ (.d (.bool (lawFits c ps))) :=
  evs_call (c := con_law_fits) (c, ps) h rfl ⟨h1, h2⟩ (fun _ h => h) fun _ h => h

/-! ### _law_source, _law_pick -/
def srcD (a : Int × Int × Int) : List PyData := [.int a.1, .int a.2.1, .int a.2.2]
def SrcOk (a : Int × Int × Int) : Prop := 0 < a.2.2 ∧ a.2.2 ≤ 2147483647
abbrev con_law_source : Con := { α := List Int × Nat, args := fun a => [.sq (a.1.map PyData.int), .d (.int (a.2 : Int))], pre := fun a => a.2 ≤ 1000, post := fun a r => ∃ b, r = .lst (srcD b) ∧ SrcOk b }
theorem ok_law_source (T : Tx K mg) : FnOk P w K mg base CX0 (0 + 1) (He.ga K "_law_source") T.fd_law_source ["script", "k"] (spP K con_law_source) := by
  refine fn_ok T.F_law_source sc_law_source con_law_source (fun _ _ => rfl) (by decide) (fun _ _ h => h) fun cdv A outer s H E hr => ⟨_, (pss_cons (ps_set (i := 2) sc_law_source.nd rfl (.inl rfl) pe_int)
      (pss_cons (ps_if (pt_cmpR op_lt (pv 1) (pe_callB call_lenG (by rfl) T.b_len bt_len (pa_cons (pv 0) pa_nil)) (nomark _))
        (pss_one (ps_set (i := 2) sc_law_source.nd rfl (.inl rfl) (pe_ix ix_seq (pv 0) (pv 1) (fun _ _ => rfl))))
        pss_nil)
      (pss_cons (ps_set (i := 3) sc_law_source.nd rfl (.inl rfl) (pe_lst (pa_cons pe_int (pa_cons pe_int (pa_cons pe_int (pa_cons pe_int (pa_cons pe_int (pa_cons pe_int (pa_cons pe_int (pa_cons pe_int pa_nil))))))))))
      (pss_cons (ps_set (i := 4) sc_law_source.nd rfl (.inl rfl) (pe_op op_mod (pe_op op_mulG (pe_op op_addG (pe_op op_mod (pv 2) pe_int) pe_int) (pe_op op_addG pe_int (pe_op op_mulG pe_int (pv 1)))) pe_int))
      (pss_cons (ps_set (i := 4) sc_law_source.nd rfl (.inl rfl) (pe_op op_addG (pe_op op_addG (pe_op op_mod (pe_op op_mulG (pv 4) (pv 4)) pe_int) (pv 1)) pe_int))
      (pss_cons (ps_if (pt_cmpR op_ge (pv 2) (pe_op op_pow pe_int pe_int) (nomark _))
        (pss_one (ps_ret (pe_lst (pa_cons (pv 2) (pa_cons (pv 4) (pa_cons (pe_ix ix_seq (pv 3) (pe_op op_mod (pv 1) pe_int) (fun _ _ => rfl)) pa_nil))))))
        pss_nil)
      (pss_one (ps_ret (pe_lst (pa_cons pe_int (pa_cons (pv 4) (pa_cons (pe_ix ix_seq (pv 3) (pe_op op_mod (pv 1) pe_int) (fun _ _ => rfl)) pa_nil)))))))))))), ?_⟩
  rintro B S0 E px ⟨ns, k⟩ hk
  dsimp only [L2.cxOf, L2.Cx.nox, L2.Cx.wish] at hk ⊢
  apply wp_seq
  apply wp_asg (by wtm_at "ev") (lt_ble rfl) rfl
  apply wp_seqI (fun Γ => ∃ cell : Int, Γ = [.sq (ns.map PyData.int), .d (.int (k : Int)), .d (.int cell), .un, .un])
  · apply wp_if
    · wtm_at "ev"
    · intro h
      rw [decide_eq_true_eq, List.length_map] at h
      have hi : k < ns.length := by omega
      have hx : atI (ns.map PyData.int) (k : Int) = some (.int ns[k]) := atI_nat' (by rw [List.getElem?_map, List.getElem?_eq_getElem hi]; rfl)
      apply wp_asg
      · wtm_at "ev"
      · exact lt_ble rfl
      · rfl
      exact ⟨_, rfl⟩
    · intro _
      exact wp_next ⟨0, rfl⟩
  rintro Γ ⟨cell, rfl⟩
  apply wp_seq
  apply wp_asg
  · wtm_at "ev"
  · exact lt_ble rfl
  · rfl
  apply wp_seq
  apply wp_asg
  · wtm_at "ev"
  · exact lt_ble rfl
  · rfl
  have a1 := Int.emod_nonneg ((cell % 2147483489 + 1) * (48271 + 2 * (k : Int))) (show (2147483489 : Int) ≠ 0 by decide)
  have a2 := Int.emod_lt_of_pos ((cell % 2147483489 + 1) * (48271 + 2 * (k : Int))) (show (0 : Int) < 2147483489 by decide)
  generalize (cell % 2147483489 + 1) * (48271 + 2 * (k : Int)) % 2147483489 = seed at *
  apply wp_seq
  apply wp_asg
  · wtm_at "ev"
  · exact lt_ble rfl
  · rfl
  have hx : ∃ p : Int, atI [PyData.int 2147483647, .int 2147483629, .int 2147483587, .int 2147483579, .int 2147483563, .int 2147483549, .int 2147483543, .int 2147483497] ((k : Int) % 8) = some (.int p) ∧ 0 < p ∧ p ≤ 2147483647 := by
    have e : (k : Int) % 8 = ((k % 8 : Nat) : Int) := by omega
    have hk8 : k % 8 < 8 := Nat.mod_lt _ (by decide)
    rw [e]
    generalize k % 8 = j at hk8
    match j, hk8 with
    | 0, _ => exact ⟨_, rfl, by decide, by decide⟩
    | 1, _ => exact ⟨_, rfl, by decide, by decide⟩
    | 2, _ => exact ⟨_, rfl, by decide, by decide⟩
    | 3, _ => exact ⟨_, rfl, by decide, by decide⟩
    | 4, _ => exact ⟨_, rfl, by decide, by decide⟩
    | 5, _ => exact ⟨_, rfl, by decide, by decide⟩
    | 6, _ => exact ⟨_, rfl, by decide, by decide⟩
    | 7, _ => exact ⟨_, rfl, by decide, by decide⟩
  obtain ⟨p, hx, p1, p2⟩ := hx
  apply wp_seq
  apply wp_if
  · wtm_at "ev"
  · intro _
    apply wp_ret
    apply EvS.wp
    · wtm_at "ev"
    · exact ⟨rfl, (_, _, p), rfl, p1, p2⟩
  · intro _
    apply wp_next
    apply wp_ret
    apply EvS.wp
    · wtm_at "ev"
    · exact ⟨rfl, (_, _, p), rfl, p1, p2⟩
theorem cw_law_source {F : Fx} {Γ : List Sl} {t : TA} {E : XK} {k : Sl → List Sl → Prop} {ns : List Int} {n : Nat} (h : EvA F t Γ [.sq (ns.map PyData.int), .d (.int (n : Int))]) (h1 : n ≤ 1000) (hk : ∀ b, SrcOk b → k (.lst (srcD b)) Γ) : WpE F (tCall (spP F.K con_law_source) [] E t) Γ k :=
  wpe_call (c := con_law_source) (h.wp ⟨(ns, n), rfl, rfl, h1, fun r ⟨b, e, hb⟩ => by subst e; exact hk b hb, fun _ h => h⟩)

abbrev con_law_pick : ConS := { α := (Int × Int × Int) × Int, src := fun a => srcD a.1, args := fun a => [.d (.int a.2)], pre := fun a => SrcOk a.1 ∧ 0 < a.2 ∧ a.2 < 1000000, post := fun a r ds => ∃ x b, r = .d (.int x) ∧ 0 ≤ x ∧ x < a.2 ∧ ds = srcD b ∧ SrcOk b }
theorem ok_law_pick (T : Tx K mg) : FnOk P w K mg base CX0 (0 + 1) (He.ga K "_law_pick") T.fd_law_pick ["source", "size"] (spS K con_law_pick) := by
  refine fn_okS T.F_law_pick sc_law_pick con_law_pick (fun _ _ => rfl) (by decide) fun cdv A outer s H E hr => ⟨_, (pss_cons (ps_if (pt_cmpR op_gt (pe_ix ix_seq (pv 0) pe_int (fun _ _ => rfl)) pe_int (nomark _))
        (pss_cons (ps_set (i := 2) sc_law_pick.nd rfl (.inl rfl) (pe_op op_mod (pe_ix ix_seq (pv 0) pe_int (fun _ _ => rfl)) (pv 1)))
        (pss_cons (ps_asg (pe_op op_fdiv (pe_ix ix_seq (pv 0) pe_int (fun _ _ => rfl)) (pv 1)) (pg_sub (pv 0) pe_int set_list))
        (pss_one (ps_ret (pv 2)))))
        pss_nil)
      (pss_cons (ps_asg (pe_op op_addG (pe_op op_mod (pe_op op_mulG (pe_ix ix_seq (pv 0) pe_int (fun _ _ => rfl)) pe_int) (pe_ix ix_seq (pv 0) pe_int (fun _ _ => rfl))) pe_int) (pg_sub (pv 0) pe_int set_list))
      (pss_one (ps_ret (pe_op op_mod (pe_op op_fdiv (pe_op op_mod (pe_op op_mulG (pe_ix ix_seq (pv 0) pe_int (fun _ _ => rfl)) (pe_ix ix_seq (pv 0) pe_int (fun _ _ => rfl))) pe_int) pe_int) (pv 1)))))), ?_⟩
  rintro B S0 E px a ⟨⟨c, s, p⟩, n⟩ ⟨⟨h1, h2⟩, h3, h4⟩
  dsimp only [L2.cxOf, L2.Cx.nox, L2.Cx.wish] at h1 h2 h3 h4 ⊢
  apply wp_seq
  apply wp_if
  · wtm_at "ev"
  · intro _
    apply wp_seq
    apply wp_asg
    · wtm_at "ev"
    · exact lt_ble rfl
    · rfl
    apply wp_seq
    apply wp_setL (s0 := .src a (srcD (c, s, p))) (ds := srcD (c, s, p)) rfl rfl
    · wtm_at "ev"
    · wtm_at "ev"
    · rfl
    apply wp_ret
    apply EvS.wp
    · wtm_at "ev"
    · exact ⟨rfl, _, rfl, _, (c / n, s, p), rfl, Int.emod_nonneg _ (by omega), Int.emod_lt_of_pos _ h3, rfl, h1, h2⟩
  · intro _
    apply wp_next
    apply wp_seq
    apply wp_setL (s0 := .src a (srcD (c, s, p))) (ds := srcD (c, s, p)) rfl rfl
    · wtm_at "ev"
    · wtm_at "ev"
    · rfl
    have q1 := Int.emod_nonneg (s * 48271) (show p ≠ 0 by omega)
    have q2 := Int.emod_lt_of_pos (s * 48271) h1
    generalize hs' : s * 48271 % p = s' at *
    apply wp_ret
    apply EvS.wp
    · wtm_at "ev"
    · exact ⟨rfl, _, rfl, _, (c, s' + 1, p), rfl, Int.emod_nonneg _ (by omega), Int.emod_lt_of_pos _ h3, rfl, h1, h2⟩
theorem cw_law_pick {F : Fx} {Γ : List Sl} {t : TA} {E : XK} {k : Sl → List Sl → Prop} {i : Nat} {s0 : Sl} {b : Int × Int × Int} {n : Int} (hi : Γ[i]? = some s0) (ho : s0.ownL = some (srcD b)) (hb : SrcOk b) (h : EvA F t Γ [.d (.int n)]) (h1 : 0 < n) (h2 : n < 1000000)
    (hk : ∀ x b', 0 ≤ x → x < n → SrcOk b' → k (.d (.int x)) (Γ.set i (s0.withL (srcD b')))) : WpE F (tCall (spS F.K con_law_pick) [] E (tCons (tVar i) t)) Γ k :=
  wpe_callS (c := con_law_pick) (b, n) hi ho h rfl ⟨hb, h1, h2⟩ fun r ds' ⟨x, b', e1, q1, q2, e2, q3⟩ => by subst e1 e2; exact hk x b' q1 q2 q3

/-! ### _law_sizes -/
def GoodNs (ns : List Int) (top : Int) : Prop := ns ≠ [] ∧ (∀ n ∈ ns, 1 ≤ n) ∧ ns.sum ≤ top
abbrev con_law_sizes : ConS := { α := (Int × Int × Int) × Int, src := fun a => srcD a.1, args := fun a => [.d (.int a.2)], pre := fun a => SrcOk a.1 ∧ 1 ≤ a.2 ∧ a.2 ≤ 30, post := fun a r ds => ∃ ns b, r = .d (.tuple (ns.map PyData.int)) ∧ GoodNs ns a.2 ∧ ds = srcD b ∧ SrcOk b }
theorem ok_law_sizes (T : Tx K mg) : FnOk P w K mg base CX0 (1 + 1) (He.ga K "_law_sizes") T.fd_law_sizes ["source", "top"] (spS K con_law_sizes) := by
  refine fn_okS T.F_law_sizes sc_law_sizes con_law_sizes (fun _ _ => rfl) (by decide) fun cdv A outer s H E hr => ⟨_, (pss_cons (ps_par (i := 2) (j := 3) (by rfl) sc_law_sizes.nd rfl rfl (by decide) rfl rfl (pa_cons (pe_op op_addG pe_int (pe_call (ok_law_pick T) (hr.mono (by decide)) (by rfl) T.g_law_pick T.F_law_pick.kp (bi_law_pick T) .nil pass0 (pa_cons (pv 0) (pa_cons (pv 1) pa_nil)))) (pa_cons (pe_tup pa_nil) pa_nil)) (by rfl))
      (pss_cons (ps_set (i := 4) sc_law_sizes.nd rfl (.inl rfl) (pe_ix ix_seq (pe_lst (pa_cons pe_int (pa_cons pe_int (pa_cons pe_int (pa_cons pe_int pa_nil))))) (pe_call (ok_law_pick T) (hr.mono (by decide)) (by rfl) T.g_law_pick T.F_law_pick.kp (bi_law_pick T) .nil pass0 (pa_cons (pv 0) (pa_cons pe_int pa_nil))) (fun _ _ => rfl)))
      (pss_cons (ps_while PassesOwn.never (pt_cmpR op_gt (pv 2) pe_int (nomark _))
        (pss_cons (ps_set (i := 5) sc_law_sizes.nd rfl (.inl rfl) (pe_op op_addG pe_int (pe_call (ok_law_pick T) (hr.mono (by decide)) (by rfl) T.g_law_pick T.F_law_pick.kp (bi_law_pick T) .nil pass0 (pa_cons (pv 0) (pa_cons (pe_callB (call_min2 rfl) (by rfl) T.b_min bt_min (pa_cons (pv 4) (pa_cons (pv 2) pa_nil))) pa_nil)))))
        (pss_one (ps_par (i := 3) (j := 2) (by rfl) sc_law_sizes.nd rfl rfl (by decide) rfl rfl (pa_cons (pe_op op_addG (pv 3) (pe_tup (pa_cons (pv 5) pa_nil))) (pa_cons (pe_op op_sub (pv 2) (pv 5)) pa_nil)) (by rfl)))))
      (pss_one (ps_ret (pv 3)))))), ?_⟩
  rintro B S0 E px a ⟨b, top⟩ ⟨hb, h3, h4⟩
  dsimp only [L2.cxOf, L2.Cx.nox, L2.Cx.wish] at hb h3 h4 ⊢
  apply wp_seq
  apply wp_parW (by decide)
  apply wpa_consW
  apply wpe_opR evs_int rfl
  apply cw_law_pick (s0 := .src a (srcD b)) (b := b) (n := top) rfl rfl hb (by wtm_at "ev") (by omega) (by omega)
  intro x b1 x1 x2 hb1
  refine ⟨_, add_int, rfl, ?_⟩
  apply wpa_one
  apply EvS.wp
  · wtm_at "ev"
  refine ⟨_, _, rfl, rfl, rfl, lt_ble rfl, lt_ble rfl, ?_⟩
  apply wp_seq
  apply wp_asgW
  apply wpe_opR (by wtm_at "ev") rfl
  apply cw_law_pick (s0 := .src a (srcD b1)) (b := b1) (n := 4) rfl rfl hb1 (by wtm_at "ev") (by omega) (by omega)
  intro y b2 y1 y2 hb2
  have hw : ∃ wd : Int, atI [PyData.int 1, .int 2, .int 4, .int 30] y = some (.int wd) ∧ 1 ≤ wd ∧ wd ≤ 30 := by
    have e : y = ((y.toNat : Nat) : Int) := by omega
    have hk8 : y.toNat < 4 := by omega
    rw [e]
    generalize y.toNat = j at hk8
    match j, hk8 with
    | 0, _ => exact ⟨_, rfl, by decide, by decide⟩
    | 1, _ => exact ⟨_, rfl, by decide, by decide⟩
    | 2, _ => exact ⟨_, rfl, by decide, by decide⟩
    | 3, _ => exact ⟨_, rfl, by decide, by decide⟩
  obtain ⟨wd, hx, w1, w2⟩ := hw
  refine ⟨_, ix_at rfl hx, rfl, lt_ble rfl, ?_⟩
  apply wp_seq
  apply wp_while (n := (1 + x).toNat) (fun n Γ => ∃ (b : Int × Int × Int) (left : Int) (ns : List Int) (g : Sl), Γ = [.src a (srcD b), .d (.int top), .d (.int left), .d (.tuple (ns.map PyData.int)), .d (.int wd), g] ∧ n = left.toNat ∧ 0 ≤ left ∧ SrcOk b ∧ (∀ n ∈ ns, 1 ≤ n) ∧ ns.sum + left = 1 + x)
  · exact ⟨b2, 1 + x, [], .un, rfl, rfl, by omega, hb2, by simp, by simp⟩
  rintro n Γ ⟨b3, left, ns, g, rfl, rfl, hl, hb3, hn, hs⟩
  apply EvT.wp
  · wtm_at "ev"
  have hlen := sum_nonneg' hn
  constructor
  · intro h
    rw [decide_eq_true_eq] at h
    apply wp_seq
    apply wp_asgW
    apply wpe_opR evs_int rfl
    apply cw_law_pick (s0 := .src a (srcD b3)) (b := b3) (n := if left < wd then left else wd) rfl rfl hb3 (by wtm_at "ev") (by split <;> omega) (by split <;> omega)
    intro m b4 m1 m2 hb4
    refine ⟨_, add_int, rfl, lt_ble rfl, ?_⟩
    apply wp_parW (by decide)
    refine EvA.wp (ss := [.d (.tuple ((ns ++ [1 + m]).map PyData.int)), .d (.int (left - (1 + m)))]) ?_ ?_
    · rw [List.map_append]
      apply eva_cons
      · apply evs_op
        · wtm_at "ev"
        · wtm_at "ev"
        · apply add_tup
          refine sz ?_
          simp; omega
      · wtm_at "ev"
    refine ⟨_, _, rfl, rfl, rfl, lt_ble rfl, lt_ble rfl, (left - (1 + m)).toNat, ?_, b4, left - (1 + m), ns ++ [1 + m], _, rfl, rfl, ?_, hb4, ?_, ?_⟩
    · split at m2 <;> omega
    · split at m2 <;> omega
    · intro k hk
      rcases List.mem_append.mp hk with h | h
      · exact hn k h
      · simp at h; omega
    · rw [List.sum_append]; simp; omega
  · intro h
    rw [decide_eq_false_iff_not] at h
    apply wp_ret
    apply EvS.wp
    · wtm_at "ev"
    · refine ⟨rfl, _, rfl, ns, b3, rfl, ⟨?_, hn, by omega⟩, rfl, hb3⟩
      intro q
      subst q
      simp at hs; omega
theorem cw_law_sizes {F : Fx} {Γ : List Sl} {t : TA} {E : XK} {k : Sl → List Sl → Prop} {i : Nat} {s0 : Sl} {b : Int × Int × Int} {n : Int} (hi : Γ[i]? = some s0) (ho : s0.ownL = some (srcD b)) (hb : SrcOk b) (h : EvA F t Γ [.d (.int n)]) (h1 : 1 ≤ n) (h2 : n ≤ 30)
    (hk : ∀ ns b', GoodNs ns n → SrcOk b' → k (.d (.tuple (ns.map PyData.int))) (Γ.set i (s0.withL (srcD b')))) : WpE F (tCall (spS F.K con_law_sizes) [] E (tCons (tVar i) t)) Γ k :=
  wpe_callS (c := con_law_sizes) (b, n) hi ho h rfl ⟨hb, h1, h2⟩ fun r ds' ⟨ns, b', e1, q1, e2, q3⟩ => by subst e1 e2; exact hk ns b' q1 q3

/-! ### _law_rows -/
/-- each place's first, last and dense rank -/
def rowsF : Int → Nat → List Int → List (Int × Int × Int)
  | _, _, [] => []
  | p, a, m :: ms => List.replicate m.toNat (p + 1, p + m, (a : Int) + 1) ++ rowsF (p + m) (a + 1) ms
def encRow (r : Int × Int × Int) : PyData := .tuple [.int r.1, .int r.2.1, .int r.2.2]
theorem rowsF_len : ∀ (ns : List Int) (p : Int) (a : Nat), (∀ n ∈ ns, 1 ≤ n) → ((rowsF p a ns).length : Int) = ns.sum
  | [], _, _, _ => rfl
  | m :: ms, p, a, h => by
    have ih := rowsF_len ms (p + m) (a + 1) fun n hn => h n (by simp [hn])
    have := h m (by simp)
    rw [rowsF, List.length_append, List.length_replicate, List.sum_cons]
    omega
theorem rowsF_ok : ∀ (ns : List Int) (p : Int) (a : Nat), (∀ n ∈ ns, 1 ≤ n) → (a : Int) ≤ p → ∀ r ∈ rowsF p a ns, 1 ≤ r.2.2 ∧ r.2.2 ≤ r.1 ∧ r.1 ≤ r.2.1 ∧ r.2.1 ≤ p + ns.sum
  | [], _, _, _, _, r, hr => by simp [rowsF] at hr
  | m :: ms, p, a, h, ha, r, hr => by
    have h1 := h m (by simp)
    have h2 : 0 ≤ ms.sum := by have := sum_nonneg' (ns := ms) fun n hn => h n (by simp [hn]); omega
    rw [rowsF] at hr
    rw [List.sum_cons]
    rcases List.mem_append.mp hr with hr | hr
    · have e := (List.mem_replicate.mp hr).2
      subst e
      dsimp only
      omega
    · have := rowsF_ok ms (p + m) (a + 1) (fun n hn => h n (by simp [hn])) (by omega) r hr
      omega
abbrev con_law_rows : Con := { α := List Int, args := fun a => [.d (.tuple (a.map PyData.int))], pre := fun a => (∀ n ∈ a, 1 ≤ n) ∧ a.sum ≤ 30, post := fun a r => r = .lst ((rowsF 0 0 a).map encRow) }
theorem ok_law_rows (T : Tx K mg) : FnOk P w K mg base CX0 (0 + 1) (He.ga K "_law_rows") T.fd_law_rows ["sizes"] (spP K con_law_rows) := by
  refine fn_ok T.F_law_rows sc_law_rows con_law_rows (fun _ _ => rfl) (by decide) (fun _ _ h => h) fun cdv A outer s H E hr => ⟨_, (pss_cons (ps_par (i := 1) (j := 2) (by rfl) sc_law_rows.nd rfl rfl (by decide) rfl rfl (pa_cons (pe_lst pa_nil) (pa_cons pe_int pa_nil)) (by rfl))
      (pss_cons (ps_for PassesOwn.never rfl (pi_enumG (by rfl) T.b_enumerate (pa_cons (pv 0) pa_nil)) (pg_tup (by rfl) (pgs_cons (pg_name (i := 3) sc_law_rows.nd rfl (.inl rfl)) (pgs_cons (pg_name (i := 4) sc_law_rows.nd rfl (.inl rfl)) pgs_nil)))
        (pss_cons (ps_set (i := 1) sc_law_rows.nd rfl (.inl rfl) (pe_op op_addG (pv 1) (pe_op op_mulG (pe_lst (pa_cons (pe_tup (pa_cons (pe_op op_addG (pv 2) pe_int) (pa_cons (pe_op op_addG (pv 2) (pv 4)) (pa_cons (pe_op op_addG (pv 3) pe_int) pa_nil)))) pa_nil)) (pv 4))))
        (pss_one (ps_set (i := 2) sc_law_rows.nd rfl (.inl rfl) (pe_op op_addG (pv 2) (pv 4))))))
      (pss_one (ps_ret (pv 1))))), ?_⟩
  rintro B S0 E px ns ⟨h1, h2⟩
  dsimp only [L2.cxOf, L2.Cx.nox, L2.Cx.wish] at h1 h2 ⊢
  apply wp_seq
  apply wp_parE (s1 := .lst []) (s2 := .d (.int 0)) (by wtm_at "ev") (by wtm_at "ev") rfl rfl (by decide) (lt_ble rfl) (lt_ble rfl)
  apply wp_seq
  apply wp_forI
  · apply evi_enumT
    wtm_at "ev"
  refine forW_enum (enc := PyData.int) (xs := ns) (fun i rest Γ => ∃ (acc : List (Int × Int × Int)) (place : Int) (g3 g4 : Sl), Γ = [.d (.tuple (ns.map PyData.int)), .lst (acc.map encRow), .d (.int place), g3, g4] ∧ rowsF 0 0 ns = acc ++ rowsF place i rest ∧ (acc.length : Int) + rest.sum ≤ 30 ∧ ∀ n ∈ rest, 1 ≤ n) ⟨[], 0, _, _, rfl, rfl, by simpa using h2, h1⟩ ?_ ?_
  · rintro i n rest Γ ⟨acc, place, g3, g4, rfl, e1, e2, e3⟩
    have hn1 := e3 n (by simp)
    rw [List.sum_cons] at e2
    have hs2 := sum_nonneg' (ns := rest) fun m h => e3 m (by simp [h])
    refine GTo.wp (gto_tup rfl (gtos_cons (gto_name (lt_ble rfl)) (gtos_cons (gto_name (lt_ble rfl)) gtos_nil))) ?_
    apply wp_seq
    apply wp_asg (s := .lst (acc.map encRow ++ (List.replicate n.toNat ((place + 1, place + n, (i : Int) + 1) : Int × Int × Int)).map encRow))
    · apply evs_op
      · wtm_at "ev"
      · refine evs_is (evs_op (evs_lst (evd_cons (by wtm_at "ev") evd_nil) (Nat.le_of_ble_eq_true rfl)) (by wtm_at "ev") (mul_lst rfl (by omega) (by omega) (sz (by simp; omega)))) rfl
      · rw [flat1, List.map_replicate]
        exact add_lst (ds := acc.map encRow) (es := List.replicate n.toNat (encRow (place + 1, place + n, (i : Int) + 1))) rfl rfl (sz (by simp only [List.length_map, List.length_replicate]; omega))
    · exact lt_ble rfl
    · rfl
    apply wp_asg
    · wtm_at "ev"
    · exact lt_ble rfl
    · rfl
    refine ⟨acc ++ List.replicate n.toNat (place + 1, place + n, (i : Int) + 1), place + n, _, _, by rw [List.map_append]; rfl, by rw [e1, rowsF, List.append_assoc], ?_, fun m h => e3 m (by simp [h])⟩
    rw [List.length_append, List.length_replicate]; omega
  · rintro i Γ ⟨acc, place, g3, g4, rfl, e1, e2, e3⟩
    rw [rowsF, List.append_nil] at e1
    subst e1
    exact wp_retO rfl rfl ⟨rfl, rfl⟩
theorem cl_law_rows {F : Fx} {Γ : List Sl} {t : TA} {E : XK} {ns : List Int} (h : EvA F t Γ [.d (.tuple (ns.map PyData.int))]) (h1 : ∀ n ∈ ns, 1 ≤ n) (h2 : ns.sum ≤ 30) : EvS F (tCall (spP F.K con_law_rows) [] E t) Γ (.lst ((rowsF 0 0 ns).map encRow)) :=
  evs_call (c := con_law_rows) ns h rfl ⟨h1, h2⟩ (fun _ h => h) fun _ h => h

/-! ### _law_people -/
def manyNames : List Str := ["ann", "ben", "cem", "dan", "eva", "fay", "gus", "ida", "jo", "kim", "leo", "mia"]
theorem manyNames_ok : ∀ a ∈ manyNames, isNameS a = true := by decide +kernel
theorem manyNames_nodup : manyNames.Nodup := by decide +kernel
abbrev con_law_people : Con := { α := Unit, args := fun _ => [], pre := fun _ => True, post := fun _ r => r = .lst (manyNames.map PyData.str) }
theorem ok_law_people (T : Tx K mg) : FnOk P w K mg base CX0 (0 + 1) (He.ga K "_law_people") T.fd_law_people [] (spP K con_law_people) := by
  refine fn_ok T.F_law_people sc_law_people con_law_people (fun _ _ => rfl) (by decide) (fun _ _ h => h) fun cdv A outer s H E hr => ⟨_, (pss_one (ps_ret (pe_lst (pa_cons pe_str (pa_cons pe_str (pa_cons pe_str (pa_cons pe_str (pa_cons pe_str (pa_cons pe_str (pa_cons pe_str (pa_cons pe_str (pa_cons pe_str (pa_cons pe_str (pa_cons pe_str (pa_cons pe_str pa_nil))))))))))))))), ?_⟩
  rintro B S0 E px ⟨⟩ -
  dsimp only [L2.cxOf, L2.Cx.nox, L2.Cx.wish]
  apply wp_ret
  apply EvS.wp
  · wtm_at "ev"
  · exact ⟨rfl, rfl⟩
theorem cl_law_people {F : Fx} {Γ : List Sl} {E : XK} : EvS F (tCall (spP F.K con_law_people) [] E tNil) Γ (.lst (manyNames.map PyData.str)) :=
  evs_call (c := con_law_people) () eva_nil rfl trivial (fun _ h => h) fun _ h => h

/-! ### _law_is_integer -/
abbrev con_law_is_integer : Con := { α := PyData × Int × Int, args := fun a => [.d a.1, .d (.int a.2.1), .d (.int a.2.2)], pre := fun _ => True, post := fun a r => r = .d (.bool (isIntB a.1 a.2.1 a.2.2)) }
theorem ok_law_is_integer (T : Tx K mg) : FnOk P w K mg base CX0 (0 + 1) (He.ga K "_law_is_integer") T.fd_law_is_integer ["value", "low", "high"] (spP K con_law_is_integer) := by
  refine fn_ok T.F_law_is_integer sc_law_is_integer con_law_is_integer (fun _ _ => rfl) (by decide) (fun _ _ h => h) fun cdv A outer s H E hr => ⟨_, (pss_one (ps_ret (pe_and (pe_callB call_isi (by rfl) T.b_isinstance bt_isinstance (pa_cons (pv 0) (pa_cons (pe_bltn (v := .ty "int") (by rfl) T.b_int bt_int rfl) pa_nil))) (pe_and (pe_not (pe_callB call_isi (by rfl) T.b_isinstance bt_isinstance (pa_cons (pv 0) (pa_cons (pe_bltn (v := .ty "bool") (by rfl) T.b_bool bt_bool rfl) pa_nil)))) (pe_and (pe_cmpR op_le (pv 1) (pv 0) (nomark _)) (pe_one (pe_cmpR op_le (pv 0) (pv 2) (nomark _)))))))), ?_⟩
  rintro B S0 E px ⟨d, lo, hi⟩ -
  dsimp only [L2.cxOf, L2.Cx.nox, L2.Cx.wish]
  refine wp_ret ?_
  cases d with
  | int i =>
    apply EvS.wp
    · wtm_at "ev"
    · exact ⟨rfl, rfl⟩
  | _ =>
    apply EvS.wp
    · wtm_at "ev"
    · exact ⟨rfl, rfl⟩
theorem cl_law_is_integer {F : Fx} {Γ : List Sl} {t : TA} {E : XK} {d : PyData} {lo hi : Int} (h : EvA F t Γ [.d d, .d (.int lo), .d (.int hi)]) : EvS F (tCall (spP F.K con_law_is_integer) [] E t) Γ (.d (.bool (isIntB d lo hi))) :=
  evs_call (c := con_law_is_integer) (d, lo, hi) h rfl trivial (fun _ h => h) fun _ h => h
local macro_rules
  | `(tactic| wtm_at "call") => `(tactic| ((with_reducible apply cl_law_is_integer); wtm_at "ev"))

/-! ### _law_is_good_person -/
theorem eqv_nil (L : List PyData) : PyData.eqv (.list L) (.list []) = L.isEmpty := by cases L <;> simp [PyData.eqv, PyData.eqvAll]
theorem sh_nil : SeqAt.shaped (.list []) = true := rfl
theorem lay_os (os : List (Option Int)) : PyData.canLayAll0 (os.map oI) = true := by
  induction os with
  | nil => simp [PyData.canLayAll0]
  | cons n r ih => rw [List.map_cons, PyData.canLayAll0, ih]; cases n <;> simp [oI, PyData.canLay0]
theorem depth_os (os : List (Option Int)) : PyData.depthAll (os.map oI) = 0 := by
  induction os with
  | nil => simp [PyData.depthAll]
  | cons n r ih => rw [List.map_cons, PyData.depthAll, ih]; cases n <;> simp [oI, PyData.depth]
theorem sh_listO (os : List (Option Int)) : SeqAt.shaped (.list (os.map oI)) = true := by
  simp [SeqAt.shaped, PyData.canLay0, PyData.depth, lay_os, depth_os]
theorem sh_tup3 (fa fb fc : Option Int) : SeqAt.shaped (.tuple [oI fa, oI fb, oI fc]) = true := by
  cases fa <;> cases fb <;> cases fc <;> simp [SeqAt.shaped, oI, PyData.canLay0, PyData.canLayAll0, PyData.depth, PyData.depthAll]
theorem eqv_tup3 (fa fb fc : Option Int) : PyData.eqv (.tuple [oI fa, oI fb, oI fc]) (.tuple [.none, .none, .none]) = (fa.isNone && fb.isNone && fc.isNone) := by
  cases fa <;> cases fb <;> cases fc <;> simp [oI, PyData.eqv, PyData.eqvAll]
abbrev con_law_is_good_person : Con := { α := Per, args := fun a => [.d a.enc], pre := fun a => isNameS a.name = true, post := fun a r => r = .d (.bool (ranksOk a.first a.last a.dense)) }
theorem ok_law_is_good_person (T : Tx K mg) : FnOk P w K mg base CX0 (1 + 1) (He.ga K "_law_is_good_person") T.fd_law_is_good_person ["value"] (spP K con_law_is_good_person) := by
  refine fn_ok T.F_law_is_good_person sc_law_is_good_person con_law_is_good_person (fun _ _ => rfl) (by decide) (fun _ _ h => h) fun cdv A outer s H E hr => ⟨_, (pss_cons (ps_if (PW.pt (pw_or (pt_not (pt_val (pe_callB call_isi (by rfl) T.b_isinstance bt_isinstance (pa_cons (pv 0) (pa_cons (pe_bltn (v := .ty "tuple") (by rfl) T.b_tuple bt_tuple rfl) pa_nil))))) (pw_or (pt_cmpR (op_neD hr.units) (pe_callB call_lenG (by rfl) T.b_len bt_len (pa_cons (pv 0) pa_nil)) pe_int (nomark _)) (pw_or (pt_not (pt_val (pe_callB call_isi (by rfl) T.b_isinstance bt_isinstance (pa_cons (pe_ix ix_seq (pv 0) pe_int (fun _ _ => rfl)) (pa_cons (pe_bltn (v := .ty "str") (by rfl) T.b_str bt_str rfl) pa_nil))))) (pw_or1 (pt_not (pt_chain op_le op_le pe_int (pe_callB call_lenG (by rfl) T.b_len bt_len (pa_cons (pe_ix ix_seq (pv 0) pe_int (fun _ _ => rfl)) pa_nil)) pe_int)))))))
        (pss_one (ps_ret pe_bl))
        pss_nil)
      (pss_cons (ps_if (PW.pt (pw_or (pt_cmpR (op_neD hr.units) (pe_lc (own := [("sign", 4)]) rfl sc_law_is_good_person.nd (pi_seq (pe_ix ix_seq (pv 0) pe_int (fun _ _ => rfl))) (blkOk_by (own := [("sign", 4)]) (N := ["value", "first", "last", "dense", "sign", "rank"]) (sc := defScope s_law_is_good_person) (by decide +kernel)) (fun _ _ _ _ _ => (pg_name (i := 4) sc_law_is_good_person.nd rfl (.inl rfl))) (fun _ _ _ _ _ => (pts_one (pt_cmpR (opK rNotInG K op_notin_G) (pv 4) pe_str (by with_unfolding_all rfl)))) (fun _ _ _ _ _ => (pv 4))) (pe_lst pa_nil) (nomark _)) (pw_or1 (pt_cmpR (op_eqD hr.units) (pe_slice sl_G (pv 0) (po_some pe_int) po_none) (pe_tup (pa_cons pe_non (pa_cons pe_non (pa_cons pe_non pa_nil)))) (nomark _)))))
        (pss_one (ps_ret pe_bl))
        pss_nil)
      (pss_cons (ps_if (pt_cmpR (op_neD hr.units) (pe_lc (own := [("rank", 5)]) rfl sc_law_is_good_person.nd (pi_seq (pe_slice sl_G (pv 0) (po_some pe_int) po_none)) (blkOk_by (own := [("rank", 5)]) (N := ["value", "first", "last", "dense", "sign", "rank"]) (sc := defScope s_law_is_good_person) (by decide +kernel)) (fun _ _ _ _ _ => (pg_name (i := 5) sc_law_is_good_person.nd rfl (.inl rfl))) (fun _ _ _ _ _ => (pts_one (PW.pt (pw_and (pt_cmpR op_notN (pv 5) pe_non (nomark _)) (pw_and1 (pt_not (pt_val (pe_call (ok_law_is_integer T) (hr.mono (by decide)) (by rfl) T.g_law_is_integer T.F_law_is_integer.kp (bi_law_is_integer T) .nil pass0 (pa_cons (pv 5) (pa_cons pe_int (pa_cons pe_int pa_nil))))))))))) (fun _ _ _ _ _ => (pv 5))) (pe_lst pa_nil) (nomark _))
        (pss_one (ps_ret pe_bl))
        pss_nil)
      (pss_cons (ps_asg (pe_slice sl_G (pv 0) (po_some pe_int) po_none) (pg_tup (by rfl) (pgs_cons (pg_name (i := 1) sc_law_is_good_person.nd rfl (.inl rfl)) (pgs_cons (pg_name (i := 2) sc_law_is_good_person.nd rfl (.inl rfl)) (pgs_cons (pg_name (i := 3) sc_law_is_good_person.nd rfl (.inr rfl)) pgs_nil)))))
      (pss_cons (ps_if (PW.pt (pw_and (pt_cmpR op_notN (pv 1) pe_non (nomark _)) (pw_and (pt_cmpR op_notN (pv 2) pe_non (nomark _)) (pw_and1 (pt_cmpR op_lt (pv 2) (pv 1) (nomark _))))))
        (pss_one (ps_ret pe_bl))
        pss_nil)
      (pss_cons (ps_if (pt_cmpR op_isN (pv 3) pe_non (nomark _))
        (pss_one (ps_ret pe_bl))
        pss_nil)
      (pss_one (ps_ret (pe_cmpR (op_eqD hr.units) (pe_lc (own := [("rank", 5)]) rfl sc_law_is_good_person.nd (pi_seq (pe_tup (pa_cons (pv 1) (pa_cons (pv 2) pa_nil)))) (blkOk_by (own := [("rank", 5)]) (N := ["value", "first", "last", "dense", "sign", "rank"]) (sc := defScope s_law_is_good_person) (by decide +kernel)) (fun _ _ _ _ _ => (pg_name (i := 5) sc_law_is_good_person.nd rfl (.inl rfl))) (fun _ _ _ _ _ => (pts_one (PW.pt (pw_and (pt_cmpR op_notN (pv 5) pe_non (nomark _)) (pw_and1 (pt_cmpR op_lt (pv 5) (pv 3) (nomark _))))))) (fun _ _ _ _ _ => (pv 5))) (pe_lst pa_nil) (nomark _)))))))))), ?_⟩
  rintro B S0 E px ⟨nm, f, l, d⟩ hn
  dsimp only [L2.cxOf, L2.Cx.nox, L2.Cx.wish] at hn ⊢
  have hlen := name_short hn
  show Wp _ _ (entry _ [.d (.tuple [.str nm, oI f, oI l, oI d])]) _ _ _ _
  -- the form of the value
  apply wp_seq
  apply wp_if (b := false)
  · refine evt_is (b := false || (false || (false || false))) ?_ rfl
    apply evt_or
    · wtm_at "evtis"
    · intro _
      apply evt_or
      · apply evt_test
        refine evs_is (x := .d (.bool (!PyData.eqv (.int ([PyData.str nm, oI f, oI l, oI d] : List PyData).length) (.int 4)))) ?_ (by rw [eqv_int]; rfl)
        apply evs_op
        · wtm_at "ev"
        · wtm_at "ev"
        · exact ops_neD rfl rfl (sh_int _) (sh_int _)
      · intro _
        apply evt_or
        · refine evt_is (b := !isS (.str nm)) ?_ rfl
          apply evt_not
          apply evt_B
          apply evs_cb
          · apply eva_cons
            · apply evs_op
              · wtm_at "ev"
              · wtm_at "ev"
              · exact ix_at rfl rfl
            · wtm_at "ev"
          · exact isi_str
        · intro _
          refine evt_is (b := !(decide (1 ≤ (nm.length : Int)) && decide ((nm.length : Int) ≤ 8))) ?_ (by rw [decide_eq_true (by omega), decide_eq_true (by omega)]; rfl)
          apply evt_not
          apply evt_test
          apply evs_chain
          · wtm_at "ev"
          · apply evs_cb
            · apply eva_cons
              · apply evs_op
                · wtm_at "ev"
                · wtm_at "ev"
                · exact ix_at rfl rfl
              · exact eva_nil
            · exact len_str (sz (by omega))
          · exact ops_B0
          · intro _; wtm_at "ev"
          · intro _; exact ops_B0
  · intro h; cases h
  intro _
  apply wp_next
  -- its name, no ranks at all
  have hsig : (signs nm).filter (fun d => !signIn d) = [] := by
    rw [List.filter_eq_nil_iff]
    intro a ha
    simp only [isNameS, Bool.and_eq_true, List.all_eq_true] at hn
    simp [hn.2 a ha]
  apply wp_seq
  apply wp_if (b := f.isNone && l.isNone && d.isNone)
  · refine evt_is (b := false || (f.isNone && l.isNone && d.isNone)) ?_ (Bool.false_or _)
    apply evt_or
    · apply evt_test
      refine evs_is (x := .d (.bool (!PyData.eqv (.list []) (.list [])))) ?_ (by rw [eqv_nil]; rfl)
      apply evs_op (x := .lst [])
      · refine evs_is (x := .lst (((signs nm).filter (fun d => !signIn d)).map id)) ?_ (by rw [hsig]; rfl)
        refine evs_lc (items := signs nm) (evi_seqS ?_) (gvs_name (by decide)) (sz' (by simp only [signs, List.length_map, Array.length_toList]; show nm.length ≤ 100000; omega)) ?_
        · apply evs_op
          · wtm_at "ev"
          · wtm_at "ev"
          · exact ix_at rfl rfl
        · refine lcp_dsF (p := fun d => !signIn d) (f := id) fun d hd => ?_
          obtain ⟨c, hc, rfl⟩ := List.mem_map.mp hd
          refine ⟨_, gto_name (lt_ble rfl), ?_, fun _ => by wtm_at "ev"⟩
          apply evt_test
          apply evs_op
          · wtm_at "ev"
          · wtm_at "ev"
          · exact notin_strG
      · wtm_at "ev"
      · exact ops_neD rfl rfl sh_nil sh_nil
    · intro _
      rw [← eqv_tup3]
      apply evt_test
      apply evs_op (x := .d (.tuple [oI f, oI l, oI d]))
      · wtm_at "evis"
      · wtm_at "ev"
      · exact ops_eqD rfl rfl (sh_tup3 _ _ _) rfl
  · intro h
    apply wp_ret
    apply EvS.wp
    · wtm_at "ev"
    · refine ⟨rfl, ?_⟩
      show _ = Sl.d (.bool (ranksOk f l d))
      unfold ranksOk
      rw [h]; simp
  intro h0
  apply wp_next
  -- ranks out of bounds
  have hemp : (([f, l, d].filter fun o => o.isSome && !rankO o).map oI).isEmpty = (rankO f && rankO l && rankO d) := by
    have q : ∀ o : Option Int, (o.isSome && !rankO o) = !rankO o := fun o => by cases o <;> rfl
    simp only [q]
    cases hf : rankO f <;> cases hl : rankO l <;> cases hd : rankO d <;> simp [hf, hl, hd]
  apply wp_seq
  apply wp_if (b := !(rankO f && rankO l && rankO d))
  · rw [← hemp, ← eqv_nil]
    apply evt_test
    apply evs_op (x := .lst (([f, l, d].filter fun o => o.isSome && !rankO o).map oI))
    · refine evs_lc (items := [oI f, oI l, oI d]) (evi_seqT (by wtm_at "evis")) (gvs_name (by decide)) (sz' (Nat.le_of_ble_eq_true rfl)) ?_
      refine lcp_map (enc := oI) (xs := [f, l, d]) (p := fun o => o.isSome && !rankO o) (f := oI) fun o _ => ⟨_, gto_name (lt_ble rfl), ?_, fun _ => by wtm_at "ev"⟩
      cases o with
      | none =>
        apply evt_and0
        · wtm_at "ev"
        · rfl
      | some i =>
        refine evt_is (b := true && !isIntB (.int i) 1 30) ?_ rfl
        apply evt_and
        · wtm_at "evtis"
        · intro _; wtm_at "ev"
    · wtm_at "ev"
    · exact ops_neD rfl rfl (sh_listO _) sh_nil
  · intro h
    rw [Bool.not_eq_true'] at h
    apply wp_ret
    apply EvS.wp
    · wtm_at "ev"
    · refine ⟨rfl, ?_⟩
      show _ = Sl.d (.bool (ranksOk f l d))
      unfold ranksOk
      rw [h]; rfl
  intro h1
  rw [Bool.not_eq_false'] at h1
  apply wp_next
  have goal : ranksOk f l d = (leO f l && leO d f && leO d l) := by
    unfold ranksOk
    rw [h1, h0]; simp
  rw [goal]
  apply wp_seq
  apply wp_asgG
  refine EvS.wp (s := .d (.tuple [oI f, oI l, oI d])) (by wtm_at "evis") ?_
  refine GTo.wp (gto_tup rfl (gtos_cons (gto_name (lt_ble rfl)) (gtos_cons (gto_name (lt_ble rfl)) (gtos_cons (gto_name (lt_ble rfl)) gtos_nil)))) ?_
  apply wp_seq
  apply wp_if (b := !leO f l)
  · cases f with
    | none =>
      apply evt_and0
      · wtm_at "ev"
      · rfl
    | some i =>
      cases l with
      | none =>
        have e : (!leO (some i) none) = (true && (false && true)) := rfl
        rw [e]
        apply evt_and
        · wtm_at "ev"
        · intro _
          apply evt_and
          · wtm_at "ev"
          · intro q; cases q
      | some j =>
        have e : (!leO (some i) (some j)) = (true && (true && decide (j < i))) := by
          simp only [leO, Bool.true_and]
          by_cases q : i ≤ j
          · rw [decide_eq_true q, decide_eq_false (by omega)]; rfl
          · rw [decide_eq_false q, decide_eq_true (by omega)]; rfl
        rw [e]
        wtm_at "ev"
  · intro h
    apply wp_ret
    apply EvS.wp
    · wtm_at "ev"
    · refine ⟨rfl, ?_⟩
      simp only [Bool.not_eq_true'] at h
      rw [h]; rfl
  intro h2
  simp only [Bool.not_eq_false'] at h2
  rw [h2]
  apply wp_next
  apply wp_seq
  cases d with
  | none =>
    apply wp_if (b := true)
    · wtm_at "evtis"
    · intro _
      apply wp_ret
      apply EvS.wp
      · wtm_at "ev"
      · exact ⟨rfl, rfl⟩
    · intro h; cases h
  | some k =>
    apply wp_if (b := false)
    · wtm_at "evtis"
    · intro h; cases h
    intro _
    apply wp_next
    apply wp_ret
    have hemp2 : (([f, l].filter fun o => o.isSome && !leO (some k) o).map oI).isEmpty = (leO (some k) f && leO (some k) l) := by
      have q : ∀ o : Option Int, (o.isSome && !leO (some k) o) = !leO (some k) o := fun o => by cases o <;> rfl
      simp only [q]
      cases hf : leO (some k) f <;> cases hl : leO (some k) l <;> simp [hf, hl]
    refine EvS.wp (s := .d (.bool (leO (some k) f && leO (some k) l))) ?_ ⟨rfl, by rw [Bool.true_and]⟩
    rw [← hemp2, ← eqv_nil]
    apply evs_op (x := .lst (([f, l].filter fun o => o.isSome && !leO (some k) o).map oI))
    · refine evs_lc (items := [oI f, oI l]) (evi_seqT (by wtm_at "evis")) (gvs_name (by decide)) (sz' (Nat.le_of_ble_eq_true rfl)) ?_
      refine lcp_map (enc := oI) (xs := [f, l]) (p := fun o => o.isSome && !leO (some k) o) (f := oI) fun o _ => ⟨_, gto_name (lt_ble rfl), ?_, fun _ => by wtm_at "ev"⟩
      cases o with
      | none =>
        apply evt_and0
        · wtm_at "ev"
        · rfl
      | some i =>
        have e : ((some i : Option Int).isSome && !leO (some k) (some i)) = (true && decide (i < k)) := by
          simp only [leO, Option.isSome_some, Bool.true_and]
          by_cases q : k ≤ i
          · rw [decide_eq_true q, decide_eq_false (by omega)]; rfl
          · rw [decide_eq_false q, decide_eq_true (by omega)]; rfl
        show EvT _ _ _ ((some i : Option Int).isSome && !leO (some k) (some i))
        rw [e]
        apply evt_and
        · wtm_at "evtis"
        · intro _; wtm_at "ev"
    · wtm_at "ev"
    · exact ops_eqD rfl rfl (sh_listO _) sh_nil
theorem cl_law_is_good_person {F : Fx} {Γ : List Sl} {t : TA} {E : XK} {p : Per} (h : EvA F t Γ [.d p.enc]) (h1 : isNameS p.name = true) : EvS F (tCall (spP F.K con_law_is_good_person) [] E t) Γ (.d (.bool (ranksOk p.first p.last p.dense))) :=
  evs_call (c := con_law_is_good_person) p h rfl h1 (fun _ h => h) fun _ h => h

/-! ### _law_seen -/
theorem manyNames_strs : ∀ a ∈ manyNames, PyData.strOk a = true := by decide +kernel
def encK (kd : List Int) : PyData := .tuple (kd.map PyData.int)
/-- the ranks that a kind tells -/
structure Pat (kd : List Int) (p : Per) : Prop where
  f : p.first.isSome = hasL kd 0
  l : p.last.isSome = hasL kd 1
  d : p.dense.isSome = hasL kd 2
def KindsOk (kinds : List (List Int)) : Prop := kinds ≠ [] ∧ kinds.length ≤ 1000 ∧ ∀ kd ∈ kinds, kd ≠ [] ∧ ∀ i ∈ kd, i = 0 ∨ i = 1 ∨ i = 2
def pickR (kd : List Int) (i j : Int) : Option Int := if hasL kd i = true then some j else none
theorem pickR_some {kd : List Int} {i j : Int} : (pickR kd i j).isSome = hasL kd i := by
  unfold pickR; cases hasL kd i <;> rfl
theorem any_kd (kd : List Int) (i : Int) : ((kd.map PyData.int).any fun z => PyData.eqv z (.int i)) = hasL kd i := by
  rw [List.any_map]
  unfold hasL
  exact congrArg (fun f => kd.any f) (funext fun j => eqv_int j i)
theorem flat_ints' : ∀ ns : List Int, (ns.map PyData.int).all flatD = true
  | [] => rfl
  | n :: ns => by rw [List.map_cons, List.all_cons, flat_ints' ns]; rfl
def shiftO (sh : Int) (o : Option Int) : Option Int := o.map fun r => if r + sh > 1 then r + sh else 1
theorem shiftO_some {sh : Int} {o : Option Int} : (shiftO sh o).isSome = o.isSome := by cases o <;> rfl
def Per.shift (sh : Int) (p : Per) : Per := ⟨p.name, shiftO sh p.first, shiftO sh p.last, shiftO sh p.dense⟩
theorem sh_pers {ps : List Per} (h : ∀ p ∈ ps, p.name ∈ manyNames) : SeqAt.shaped (.list (ps.map Per.enc)) = true := by
  have h1 : PyData.canLayAll0 (ps.map Per.enc) = true := by
    induction ps with
    | nil => simp [PyData.canLayAll0]
    | cons p ps ih =>
      rw [List.map_cons, PyData.canLayAll0, ih fun q hq => h q (.tail _ hq)]
      have := manyNames_strs _ (h p (.head _))
      obtain ⟨nm, f, l, d⟩ := p
      cases f <;> cases l <;> cases d <;> simp_all [Per.enc, oI, PyData.canLay0, PyData.canLayAll0]
  have h2 : PyData.depthAll (ps.map Per.enc) ≤ 1 := by
    clear h h1
    induction ps with
    | nil => simp [PyData.depthAll]
    | cons p ps ih =>
      rw [List.map_cons, PyData.depthAll]
      obtain ⟨nm, f, l, d⟩ := p
      have : PyData.depth (Per.enc ⟨nm, f, l, d⟩) = 1 := by
        cases f <;> cases l <;> cases d <;> simp [Per.enc, oI, PyData.depth, PyData.depthAll]
      omega
  simp [SeqAt.shaped, PyData.canLay0, PyData.depth, h1]
  first | done | omega
structure SeenW (kinds : List (List Int)) (ps : List Per) : Prop where
  ok : ∀ p ∈ ps, p.ok = true
  names : ∀ p ∈ ps, p.name ∈ manyNames
  pat : ∀ p ∈ ps, ∃ kd ∈ kinds, Pat kd p
abbrev con_law_seen : ConS := { α := (Int × Int × Int) × List Int × Int × List (List Int), src := fun a => srcD a.1, args := fun a => [.d (.tuple (a.2.1.map PyData.int)), .d (.int a.2.2.1), .d (.list (a.2.2.2.map encK))], pre := fun a => SrcOk a.1 ∧ GoodNs a.2.1 30 ∧ 0 ≤ a.2.2.1 ∧ a.2.2.1 ≤ 12 ∧ KindsOk a.2.2.2, post := fun a r ds => ∃ ps b, r = .d (encSeen ps) ∧ SeenOk ps ∧ SeenW a.2.2.2 ps ∧ (ps.length : Int) ≤ a.2.2.1 ∧ ds = srcD b ∧ SrcOk b }
theorem row_ok {kd : List Int} {nm : Str} {r : Int × Int × Int} (hn : isNameS nm = true) (hk : kd ≠ []) (hs : ∀ i ∈ kd, i = 0 ∨ i = 1 ∨ i = 2) (h : 1 ≤ r.2.2 ∧ r.2.2 ≤ r.1 ∧ r.1 ≤ r.2.1 ∧ r.2.1 ≤ 30) : (⟨nm, pickR kd 0 r.1, pickR kd 1 r.2.1, pickR kd 2 r.2.2⟩ : Per).ok = true := by
  have hex : hasL kd 0 = true ∨ hasL kd 1 = true ∨ hasL kd 2 = true := by
    cases kd with
    | nil => exact absurd rfl hk
    | cons i is =>
      rcases hs i (.head _) with e | e | e
      · exact .inl (hasL_iff.mpr (e ▸ .head _))
      · exact .inr (.inl (hasL_iff.mpr (e ▸ .head _)))
      · exact .inr (.inr (hasL_iff.mpr (e ▸ .head _)))
  simp only [Per.ok, hn, Bool.true_and, ranksOk, pickR]
  obtain ⟨r1, r2, r3⟩ := r
  dsimp only at h ⊢
  cases h0 : hasL kd 0 <;> cases h1 : hasL kd 1 <;> cases h2 : hasL kd 2 <;> simp [h0, h1, h2, rankO, leO] at hex ⊢ <;> omega

theorem ok_law_seen (T : Tx K mg) : FnOk P w K mg base CX0 (2 + 1) (He.ga K "_law_seen") T.fd_law_seen ["source", "sizes", "most", "kinds"] (spS K con_law_seen) := by
  refine fn_okS T.F_law_seen sc_law_seen con_law_seen (fun _ _ => rfl) (by decide) fun cdv A outer s H E hr => ⟨_, (pss_cons (ps_par (i := 4) (j := 5) (by rfl) sc_law_seen.nd rfl rfl (by decide) rfl rfl (pa_cons (pe_call (ok_law_rows T) (hr.mono (by decide)) (by rfl) T.g_law_rows T.F_law_rows.kp (bi_law_rows T) .nil pass0 (pa_cons (pv 1) pa_nil)) (pa_cons (pe_lst pa_nil) pa_nil)) (by rfl))
      (pss_cons (ps_set (i := 6) sc_law_seen.nd rfl (.inl rfl) (pe_listRg rfl (by rfl) T.b_list (prg_1 (by rfl) T.b_range (pe_callB call_lenG (by rfl) T.b_len bt_len (pa_cons (pv 4) pa_nil)))))
      (pss_cons (ps_for PassesOwn.never rfl (pi_seq (pe_slice sl_G (pe_call0 (ok_law_people T) (hr.mono (by decide)) (by rfl) T.g_law_people T.F_law_people.kp (bi_law_people T) .nil pass0) po_none (po_some (pe_call (ok_law_pick T) (hr.mono (by decide)) (by rfl) T.g_law_pick T.F_law_pick.kp (bi_law_pick T) .nil pass0 (pa_cons (pv 0) (pa_cons (pe_op op_addG pe_int (pe_callB (call_min2 rfl) (by rfl) T.b_min bt_min (pa_cons (pv 2) (pa_cons (pe_callB call_lenG (by rfl) T.b_len bt_len (pa_cons (pv 4) pa_nil)) pa_nil)))) pa_nil)))))) (pg_name (i := 7) sc_law_seen.nd rfl (.inl rfl))
        (pss_cons (ps_set (i := 8) sc_law_seen.nd rfl (.inr rfl) (pe_ix ix_seq (pv 4) (pe_bm PySem.F.plainAttrs_list PySem.F.slot_list_pop PySem.F.type_list_pop mt_popAt (pv 6) (pa_cons (pe_call (ok_law_pick T) (hr.mono (by decide)) (by rfl) T.g_law_pick T.F_law_pick.kp (bi_law_pick T) .nil pass0 (pa_cons (pv 0) (pa_cons (pe_callB call_lenG (by rfl) T.b_len bt_len (pa_cons (pv 6) pa_nil)) pa_nil))) pa_nil)) (fun _ _ => rfl)))
        (pss_cons (ps_set (i := 9) sc_law_seen.nd rfl (.inr rfl) (pe_ix ix_seq (pv 3) (pe_call (ok_law_pick T) (hr.mono (by decide)) (by rfl) T.g_law_pick T.F_law_pick.kp (bi_law_pick T) .nil pass0 (pa_cons (pv 0) (pa_cons (pe_callB call_lenG (by rfl) T.b_len bt_len (pa_cons (pv 3) pa_nil)) pa_nil))) (fun _ _ => rfl)))
        (pss_one (ps_expr (pe_bm PySem.F.plainAttrs_list PySem.F.slot_list_append PySem.F.type_list_append mt_append (pv 5) (pa_cons (pe_op op_addG (pe_tup (pa_cons (pv 7) pa_nil)) (pe_callTy call_tuple_of (by rfl) T.b_tuple bt_tuple (pa_cons (pe_lc (own := [("at", 10)]) rfl sc_law_seen.nd (pi_range1 (by rfl) T.b_range (pa_cons pe_int pa_nil)) (blkOk_by (own := [("at", 10)]) (N := ["source", "sizes", "most", "kinds", "rows", "found", "spots", "name", "row", "kind", "at", "shift", "other", "rank"]) (sc := defScope s_law_seen) (by decide +kernel)) (fun _ _ _ _ _ => (pg_name (i := 10) sc_law_seen.nd rfl (.inl rfl))) (fun _ _ _ _ _ => pts_nil) (fun _ _ _ _ _ => (pe_ifExp (pt_cmpR (opK rInG K op_in_G) (pv 10) (pv 9) (by with_unfolding_all rfl)) (pe_ix (ixK rIx K ix_seq) (pv 8) (pv 10) (fun _ _ => rfl)) pe_non))) pa_nil))) pa_nil)))))))
      (pss_cons (ps_if (PW.pt (pw_and (pt_cmpR (op_neD hr.units) (pv 5) (pe_lst pa_nil) (nomark _)) (pw_and1 (pt_cmpR (op_eqD hr.units) (pe_call (ok_law_pick T) (hr.mono (by decide)) (by rfl) T.g_law_pick T.F_law_pick.kp (bi_law_pick T) .nil pass0 (pa_cons (pv 0) (pa_cons pe_int pa_nil))) pe_int (nomark _)))))
        (pss_cons (ps_set (i := 10) sc_law_seen.nd rfl (.inl rfl) (pe_call (ok_law_pick T) (hr.mono (by decide)) (by rfl) T.g_law_pick T.F_law_pick.kp (bi_law_pick T) .nil pass0 (pa_cons (pv 0) (pa_cons (pe_callB call_lenG (by rfl) T.b_len bt_len (pa_cons (pv 5) pa_nil)) pa_nil))))
        (pss_cons (ps_set (i := 11) sc_law_seen.nd rfl (.inr rfl) (pe_op op_sub (pe_call (ok_law_pick T) (hr.mono (by decide)) (by rfl) T.g_law_pick T.F_law_pick.kp (bi_law_pick T) .nil pass0 (pa_cons (pv 0) (pa_cons pe_int pa_nil))) pe_int))
        (pss_cons (ps_set (i := 12) sc_law_seen.nd rfl (.inl rfl) (pe_op op_addG (pe_slice sl_G (pe_ix ix_seq (pv 5) (pv 10) (fun _ _ => rfl)) po_none (po_some pe_int)) (pe_callTy call_tuple_of (by rfl) T.b_tuple bt_tuple (pa_cons (pe_lc (own := [("rank", 13)]) rfl sc_law_seen.nd (pi_seq (pe_slice sl_G (pe_ix ix_seq (pv 5) (pv 10) (fun _ _ => rfl)) (po_some pe_int) po_none)) (blkOk_by (own := [("rank", 13)]) (N := ["source", "sizes", "most", "kinds", "rows", "found", "spots", "name", "row", "kind", "at", "shift", "other", "rank"]) (sc := defScope s_law_seen) (by decide +kernel)) (fun _ _ _ _ _ => (pg_name (i := 13) sc_law_seen.nd rfl (.inl rfl))) (fun _ _ _ _ _ => pts_nil) (fun _ _ _ _ _ => (pe_ifExp (pt_cmpR op_isN (pv 13) pe_non (nomark _)) pe_non (pe_callB (call_max2 rfl) (by rfl) T.b_max bt_max (pa_cons pe_int (pa_cons (pe_op (opK rAddG K op_addG) (pv 13) (pv 11)) pa_nil)))))) pa_nil))))
        (pss_one (ps_asg (pe_ifExp (pt_val (pe_call (ok_law_is_good_person T) (hr.mono (by decide)) (by rfl) T.g_law_is_good_person T.F_law_is_good_person.kp (bi_law_is_good_person T) .nil pass0 (pa_cons (pv 12) pa_nil))) (pv 12) (pe_ix ix_seq (pv 5) (pv 10) (fun _ _ => rfl))) (pg_sub (pv 5) (pv 10) set_list))))))
        pss_nil)
      (pss_one (ps_ret (pe_callTy call_tuple_of (by rfl) T.b_tuple bt_tuple (pa_cons (pv 5) pa_nil)))))))), ?_⟩
  rintro B S0 E px a ⟨b, ns, most, kinds⟩ ⟨hb, hns, hm0, hm1, hk0, hk1, hk2⟩
  dsimp only [L2.cxOf, L2.Cx.nox, L2.Cx.wish] at hb hns hm0 hm1 hk0 hk1 hk2 ⊢
  have hs := hns.2.2
  have hrl := rowsF_len ns 0 0 hns.2.1
  have hr1 : 1 ≤ (rowsF 0 0 ns).length := by
    have h1 := sum_nonneg' hns.2.1
    have h2 : 1 ≤ ns.length := by cases ns with | nil => exact absurd rfl hns.1 | cons _ _ => simp
    omega
  have hrow : ∀ r ∈ rowsF 0 0 ns, 1 ≤ r.2.2 ∧ r.2.2 ≤ r.1 ∧ r.1 ≤ r.2.1 ∧ r.2.1 ≤ 30 := fun r hr => by
    have := rowsF_ok ns 0 0 hns.2.1 (Int.le_refl _) r hr
    omega
  apply wp_seq
  apply wp_parE (s1 := .lst ((rowsF 0 0 ns).map encRow)) (s2 := .lst []) (cl_law_rows (by wtm_at "ev") hns.2.1 hs) (by wtm_at "ev") rfl rfl (by decide) (lt_ble rfl) (lt_ble rfl)
  refine wp_share (i := 4) rfl ?_
  generalize hrows : rowsF 0 0 ns = rows at *
  have hL : (rows.map encRow).length = rows.length := List.length_map ..
  apply wp_seq
  apply wp_asg (s := .lst (rangeD 0 rows.length))
  · refine evs_is (evs_rg1 (n := (rows.length : Nat)) ?_ (by omega) (by omega)) (by rw [Int.toNat_natCast])
    refine evs_is (by wtm_at "ev") (by rw [List.length_map])
  · exact lt_ble rfl
  · rfl
  apply wp_seq
  apply wp_for
  apply wpi_seqL
  refine wpe_slD (x := .lst (manyNames.map PyData.str)) cl_law_people rfl rfl ?_
  apply cw_law_pick (s0 := .src a (srcD b)) (b := b) (n := 1 + (if ((rows.map encRow).length : Int) < most then ((rows.map encRow).length : Int) else most)) rfl rfl hb (by wtm_at "ev") (by split <;> omega) (by split <;> omega)
  intro x b1 x1 x2 hb1
  refine ⟨x, rfl, _, rfl, ?_⟩
  have hxm : x ≤ most ∧ x ≤ rows.length := by split at x2 <;> omega
  rw [cutD_map, cutD_take _ x1]
  have hxl : (manyNames.take x.toNat).length = x.toNat := by
    rw [List.length_take]
    have : manyNames.length = 12 := rfl
    omega
  refine forW_map (enc := PyData.str) (xs := manyNames.take x.toNat) (fun i rest Γ => ∃ (b : Int × Int × Int) (ps : List Per) (sp : List Int) (g7 g8 g9 g10 g11 g12 g13 : Sl), Γ = [.src a (srcD b), .d (.tuple (ns.map PyData.int)), .d (.int most), .d (.list (kinds.map encK)), .d (.list (rows.map encRow)), .lst (ps.map Per.enc), .lst (sp.map PyData.int), g7, g8, g9, g10, g11, g12, g13] ∧ SrcOk b ∧ SeenW kinds ps ∧ ps.map Per.name ++ rest = manyNames.take x.toNat ∧ sp.length + i = rows.length ∧ ps.length = i ∧ ∀ q ∈ sp, 0 ≤ q ∧ q < rows.length)
    ⟨b1, [], (List.range rows.length).map (fun i : Nat => 0 + (i : Int)), _, _, _, _, _, _, _, by rw [List.map_map]; rfl, hb1, ⟨by simp, by simp, by simp⟩, rfl, by simp, rfl, fun q hq => by simp at hq; obtain ⟨i, hi, rfl⟩ := hq; omega⟩ ?_ ?_
  · rintro i nm rest Γ ⟨b2, ps, sp, g7, g8, g9, g10, g11, g12, g13, rfl, hb2, hw, hnm, hsl, hpl, hsp⟩
    have hmem : nm ∈ manyNames := List.mem_of_mem_take (i := x.toNat) (by rw [← hnm]; simp)
    have hi : i < x.toNat := by
      have := congrArg List.length hnm
      rw [List.length_append, List.length_map, hpl, hxl] at this
      simp at this; omega
    refine GTo.wp (gto_name (lt_ble rfl)) ?_
    apply wp_seq
    -- row
    apply wp_asgW
    refine wpe_opR (x := .d (.list (rows.map encRow))) (by wtm_at "ev") rfl ?_
    refine wpe_popAt (ds := sp.map PyData.int) rfl ?_
    have hS : (sp.map PyData.int).length = sp.length := List.length_map ..
    apply cw_law_pick (s0 := .src a (srcD b2)) (b := b2) (n := ((sp.map PyData.int).length : Nat)) rfl rfl hb2 (by wtm_at "ev") (by omega) (by omega)
    intro j b3 j1 j2 hb3
    have hj : j.toNat < sp.length := by omega
    obtain ⟨q1, q2⟩ := hsp sp[j.toNat] (List.getElem_mem hj)
    refine ⟨j.toNat, .int sp[j.toNat], by rw [show ((j.toNat : Nat) : Int) = j by omega], rfl, by rw [List.getElem?_map, List.getElem?_eq_getElem hj]; rfl, by rw [List.length_map]; omega, ?_⟩
    have hq : (sp[j.toNat]).toNat < rows.length := by omega
    obtain ⟨row, hrow'⟩ : ∃ row, rows[(sp[j.toNat]).toNat]? = some row := ⟨_, List.getElem?_eq_getElem hq⟩
    have hrm : row ∈ rows := List.mem_of_getElem? hrow'
    refine ⟨.d (encRow row), ix_at (ds := rows.map encRow) rfl ?_, rfl, lt_ble rfl, ?_⟩
    · have e : sp[j.toNat] = (((sp[j.toNat]).toNat : Nat) : Int) := by omega
      rw [e]
      exact atI_nat' (by rw [List.getElem?_map, hrow']; rfl)
    -- kind
    apply wp_seq
    apply wp_asgW
    refine wpe_opR (x := .d (.list (kinds.map encK))) (by wtm_at "ev") rfl ?_
    have hkl : 1 ≤ kinds.length := by cases kinds with | nil => exact absurd rfl hk0 | cons _ _ => simp
    have hK : (kinds.map encK).length = kinds.length := List.length_map ..
    apply cw_law_pick (s0 := .src a (srcD b3)) (b := b3) (n := ((kinds.map encK).length : Nat)) rfl rfl hb3 (by wtm_at "ev") (by omega) (by omega)
    intro y b4 y1 y2 hb4
    have hy : y.toNat < kinds.length := by omega
    obtain ⟨kd, hkd⟩ : ∃ kd, kinds[y.toNat]? = some kd := ⟨_, List.getElem?_eq_getElem hy⟩
    have hkm : kd ∈ kinds := List.mem_of_getElem? hkd
    obtain ⟨kd0, kd1⟩ := hk2 kd hkm
    refine ⟨.d (encK kd), ix_at (ds := kinds.map encK) rfl ?_, rfl, lt_ble rfl, ?_⟩
    · have e : y = ((y.toNat : Nat) : Int) := by omega
      rw [e]
      exact atI_nat' (by rw [List.getElem?_map, hkd]; rfl)
    have hr := hrow row hrm
    let p : Per := ⟨nm, pickR kd 0 row.1, pickR kd 1 row.2.1, pickR kd 2 row.2.2⟩
    have hp : p.ok = true := row_ok (manyNames_ok nm hmem) kd0 kd1 hr
    refine wp_append (s0 := .lst (ps.map Per.enc)) (ds := ps.map Per.enc) (d := p.enc) rfl rfl ?_ (sz' (by rw [List.length_map]; omega)) ?_
    · refine evs_is (x := .d (.tuple ([.str nm] ++ [oI p.first, oI p.last, oI p.dense]))) ?_ rfl
      apply evs_op
      · wtm_at "ev"
      · refine evs_cb (ss := [.lst [oI p.first, oI p.last, oI p.dense]]) (eva_cons ?_ eva_nil) (tup_lst rfl)
        let rk : Int → Int := fun i => if i = 0 then row.1 else if i = 1 then row.2.1 else row.2.2
        refine evs_is (x := .lst ((([0, 1, 2] : List Int)).map fun i => oI (pickR kd i (rk i)))) ?_ rfl
        refine evs_lc (items := ([0, 1, 2] : List Int).map PyData.int) ?_ (gvs_name (by decide)) (sz' (Nat.le_of_ble_eq_true rfl)) ?_
        · exact evi_range1 (j := 3) (by wtm_at "ev") (by decide) (by decide)
        · refine lcp_all (f := fun i => oI (pickR kd i (rk i))) fun i hi => ⟨_, gto_name (lt_ble rfl), ?_⟩
          refine evs_is (evs_ifD (b := hasL kd i) (d := .int (rk i)) (e := .none) ?_ (fun _ => ?_) (fun _ => ?_)) ?_
          · rw [← any_kd]
            apply evt_test
            apply evs_op
            · wtm_at "ev"
            · wtm_at "ev"
            · exact in_G (r' := rInG K) (in_seq (ds := kd.map PyData.int) rfl rfl (flat_ints' kd))
          · apply evs_op
            · wtm_at "ev"
            · wtm_at "ev"
            · refine ix_at (ds := [.int row.1, .int row.2.1, .int row.2.2]) rfl ?_
              simp at hi
              rcases hi with rfl | rfl | rfl <;> rfl
          · wtm_at "ev"
          · unfold pickR
            cases hasL kd i <;> rfl
      · exact add_tup (ds := [.str nm]) (sz (Nat.le_of_ble_eq_true rfl))
    · refine ⟨b4, ps ++ [p], sp.eraseIdx j.toNat, .d (.str nm), .d (encRow row), .d (encK kd), g10, g11, g12, g13, ?_, hb4, ⟨?_, ?_, ?_⟩, ?_, ?_, ?_, ?_⟩
      · rw [List.map_append]
        have e : (sp.map PyData.int).eraseIdx j.toNat = (sp.eraseIdx j.toNat).map PyData.int := by
          rw [List.eraseIdx_eq_take_drop_succ, List.eraseIdx_eq_take_drop_succ, List.map_append, List.map_take, List.map_drop]
        rw [← e]; rfl
      · intro p' hp'
        rcases List.mem_append.mp hp' with h | h
        · exact hw.ok p' h
        · rw [List.mem_singleton] at h; subst h; exact hp
      · intro p' hp'
        rcases List.mem_append.mp hp' with h | h
        · exact hw.names p' h
        · rw [List.mem_singleton] at h; subst h; exact hmem
      · intro p' hp'
        rcases List.mem_append.mp hp' with h | h
        · exact hw.pat p' h
        · rw [List.mem_singleton] at h; subst h; exact ⟨kd, hkm, pickR_some, pickR_some, pickR_some⟩
      · rw [← hnm, List.map_append, List.append_assoc]; rfl
      · rw [List.length_eraseIdx]; split <;> omega
      · rw [List.length_append, hpl]; rfl
      · intro q hq
        exact hsp q (List.mem_of_mem_eraseIdx hq)
  · rintro i Γ ⟨b2, ps, sp, g7, g8, g9, g10, g11, g12, g13, rfl, hb2, hw, hnm, hsl, hpl, hsp⟩
    rw [List.append_nil] at hnm
    have hpx : (ps.length : Int) ≤ x := by
      have := congrArg List.length hnm
      rw [List.length_map, hxl] at this
      omega
    have hlen : ps.length ≤ 12 := by omega
    have hnd : (ps.map Per.name).Nodup := by rw [hnm]; exact List.Nodup.sublist (List.take_sublist _ _) manyNames_nodup
    have fin : ∀ {nx : List Sl → Prop} (b : Int × Int × Int) (qs : List Per) (g7 g8 g9 g10 g11 g12 g13 : Sl), SrcOk b → SeenW kinds qs → qs.map Per.name = ps.map Per.name → Wp ⟨K, B, S0, E, px⟩ (tRet (tCB (rTupG K) (tCons (tVar 5) tNil))) [.src a (srcD b), .d (.tuple (ns.map PyData.int)), .d (.int most), .d (.list (kinds.map encK)), .d (.list (rows.map encRow)), .lst (qs.map Per.enc), .lst (sp.map PyData.int), g7, g8, g9, g10, g11, g12, g13] nx (fun r Γ => r.back = true ∧ ∃ ds, Γ[0]? = some (.src a ds) ∧ ∃ ps b, r = .d (encSeen ps) ∧ SeenOk ps ∧ SeenW kinds ps ∧ (ps.length : Int) ≤ most ∧ ds = srcD b ∧ SrcOk b) (fun _ => False) (fun _ => False) := by
      intro nx b qs g7 g8 g9 g10 g11 g12 g13 hb hq e
      have el : qs.length = ps.length := by have := congrArg List.length e; simpa using this
      apply wp_ret
      apply EvS.wp
      · wtm_at "ev"
      · exact ⟨rfl, _, rfl, qs, b, rfl, ⟨by omega, hq.ok, by rw [e]; exact hnd⟩, hq, by omega, rfl, hb⟩
    have hW : SeenW kinds ps := hw
    apply wp_seq
    apply wp_ifW
    apply wpt_and
    apply EvT.wp
    · apply evt_test
      apply evs_op
      · wtm_at "ev"
      · wtm_at "ev"
      · exact ops_neD rfl rfl (sh_pers hw.names) sh_nil
    rw [eqv_nil]
    refine ⟨fun he => ?_, fun he => ⟨fun q => (nomatch q), fun _ => wp_next (fin _ _ _ _ _ _ _ _ _ hb2 hw rfl)⟩⟩
    have hne : 1 ≤ ps.length := by
      cases ps with
      | nil => cases he
      | cons _ _ => simp
    have hP : (ps.map Per.enc).length = ps.length := List.length_map ..
    apply wpt_test
    apply wpe_op
    apply cw_law_pick (s0 := .src a (srcD b2)) (b := b2) (n := 5) rfl rfl hb2 (by wtm_at "ev") (by decide) (by decide)
    intro u b3 u1 u2 hb3
    refine ⟨rfl, ?_⟩
    apply EvS.wp
    · wtm_at "ev"
    refine ⟨_, ops_eqD rfl rfl (sh_int _) (sh_int _), _, rfl, fun _ => ?_, fun _ => wp_next (fin _ _ _ _ _ _ _ _ _ hb3 hw rfl)⟩
    apply wp_seq
    apply wp_asgW
    apply cw_law_pick (s0 := .src a (srcD b3)) (b := b3) (n := ((ps.map Per.enc).length : Nat)) rfl rfl hb3 (by wtm_at "ev") (by omega) (by omega)
    intro j b4 j1 j2 hb4
    refine ⟨rfl, lt_ble rfl, ?_⟩
    apply wp_seq
    apply wp_asgW
    apply wpe_op
    apply cw_law_pick (s0 := .src a (srcD b4)) (b := b4) (n := 3) rfl rfl hb4 (by wtm_at "ev") (by decide) (by decide)
    intro v b5 v1 v2 hb5
    refine ⟨rfl, ?_⟩
    apply EvS.wp
    · wtm_at "ev"
    refine ⟨_, ops_I0, rfl, lt_ble rfl, ?_⟩
    have hj : j.toNat < ps.length := by omega
    obtain ⟨p, hp⟩ : ∃ p, ps[j.toNat]? = some p := ⟨_, List.getElem?_eq_getElem hj⟩
    have hpm : p ∈ ps := List.mem_of_getElem? hp
    have hx : atI (ps.map Per.enc) j = some p.enc := by
      have e : j = ((j.toNat : Nat) : Int) := by omega
      rw [e]
      exact atI_nat' (by rw [List.getElem?_map, hp]; rfl)
    have ename := manyNames_ok _ (hw.names p hpm)
    let sh := v - 1
    apply wp_seq
    apply wp_asg (s := .d (p.shift sh).enc)
    · refine evs_is (x := .d (.tuple ([.str p.name] ++ [oI (shiftO sh p.first), oI (shiftO sh p.last), oI (shiftO sh p.dense)]))) ?_ rfl
      apply evs_op
      · refine evs_is (x := .d (.tuple (cutD [.str p.name, oI p.first, oI p.last, oI p.dense] none (some 1)))) ?_ rfl
        refine evs_slT (x := .d (.tuple [.str p.name, oI p.first, oI p.last, oI p.dense])) ?_ rfl evo_no (evo_some (by wtm_at "ev"))
        apply evs_op
        · wtm_at "ev"
        · wtm_at "ev"
        · exact ix_at rfl hx
      · refine evs_cb (ss := [.lst [oI (shiftO sh p.first), oI (shiftO sh p.last), oI (shiftO sh p.dense)]]) (eva_cons ?_ eva_nil) (tup_lst rfl)
        refine evs_is (x := .lst (([p.first, p.last, p.dense] : List (Option Int)).map fun o => oI (shiftO sh o))) ?_ rfl
        refine evs_lc (items := ([p.first, p.last, p.dense] : List (Option Int)).map oI) ?_ (gvs_name (by decide)) (sz' (Nat.le_of_ble_eq_true rfl)) ?_
        · apply evi_seqT
          refine evs_is (x := .d (.tuple (cutD [.str p.name, oI p.first, oI p.last, oI p.dense] (some 1) none))) ?_ rfl
          refine evs_slT (x := .d (.tuple [.str p.name, oI p.first, oI p.last, oI p.dense])) ?_ rfl (evo_some (by wtm_at "ev")) evo_no
          apply evs_op
          · wtm_at "ev"
          · wtm_at "ev"
          · exact ix_at rfl hx
        · refine lcp_all (f := fun o => oI (shiftO sh o)) fun o _ => ⟨_, gto_name (lt_ble rfl), ?_⟩
          cases o with
          | none =>
            refine evs_is (evs_ifD (b := true) (d := .none) (e := .none) (by wtm_at "evtis") (fun _ => by wtm_at "ev") (fun q => nomatch q)) rfl
          | some i =>
            refine evs_is (evs_ifD (b := false) (d := .none) (e := .int (if i + sh > 1 then i + sh else 1)) (by wtm_at "evtis") (fun q => nomatch q) (fun _ => ?_)) rfl
            apply evs_cb
            · wtm_at "ev"
            · exact max2
      · exact add_tup (ds := [.str p.name]) (sz (Nat.le_of_ble_eq_true rfl))
    · exact lt_ble rfl
    · rfl
    refine wp_setL (s0 := .lst (ps.map Per.enc)) (ds := ps.map Per.enc) (j := j) (n := j.toNat) (d := if ranksOk (shiftO sh p.first) (shiftO sh p.last) (shiftO sh p.dense) = true then (p.shift sh).enc else p.enc) rfl rfl ?_ (by wtm_at "ev") ?_ ?_
    · refine evs_ifD ?_ (fun _ => by wtm_at "ev") (fun _ => ?_)
      · apply evt_B
        exact cl_law_is_good_person (p := p.shift sh) (by wtm_at "ev") ename
      · apply evs_op
        · wtm_at "ev"
        · wtm_at "ev"
        · exact ix_at rfl hx
    · rw [hP]
      unfold ixN
      rw [if_pos j1, if_pos (by omega)]
    · let p2 : Per := if ranksOk (shiftO sh p.first) (shiftO sh p.last) (shiftO sh p.dense) = true then p.shift sh else p
      have e2 : (if ranksOk (shiftO sh p.first) (shiftO sh p.last) (shiftO sh p.dense) = true then (p.shift sh).enc else p.enc) = p2.enc := by
        show _ = (if _ then _ else _ : Per).enc
        split <;> rfl
      have en2 : p2.name = p.name := by show (if _ then _ else _ : Per).name = _; split <;> rfl
      have eok : p2.ok = true := by
        show (if _ then _ else _ : Per).ok = true
        split
        · rename_i q; simp only [Per.ok, Per.shift, q, Bool.and_true]; exact ename
        · exact hw.ok p hpm
      have epat : ∀ kd, Pat kd p → Pat kd p2 := fun kd h => by
        show Pat kd (if _ then _ else _ : Per)
        split
        · exact ⟨by show (shiftO sh p.first).isSome = _; rw [shiftO_some, h.f], by show (shiftO sh p.last).isSome = _; rw [shiftO_some, h.l], by show (shiftO sh p.dense).isSome = _; rw [shiftO_some, h.d]⟩
        · exact h
      rw [e2]
      have es : (ps.map Per.enc).set j.toNat p2.enc = (ps.set j.toNat p2).map Per.enc := by rw [List.map_set]
      show Wp _ _ [.src a (srcD b5), .d (.tuple (ns.map PyData.int)), .d (.int most), .d (.list (kinds.map encK)), .d (.list (rows.map encRow)), .lst ((ps.map Per.enc).set j.toNat p2.enc), .lst (sp.map PyData.int), _, _, _, _, _, _, _] _ _ _ _
      rw [es]
      have hmem : ∀ q ∈ ps.set j.toNat p2, q ∈ ps ∨ q = p2 := fun q hq => List.mem_or_eq_of_mem_set hq
      refine fin b5 (ps.set j.toNat p2) _ _ _ _ _ _ _ hb5 ⟨fun q hq => ?_, fun q hq => ?_, fun q hq => ?_⟩ ?_
      · rcases hmem q hq with h | rfl
        · exact hw.ok q h
        · exact eok
      · rcases hmem q hq with h | rfl
        · exact hw.names q h
        · rw [en2]; exact hw.names p hpm
      · rcases hmem q hq with h | rfl
        · exact hw.pat q h
        · obtain ⟨kd, hk, h⟩ := hw.pat p hpm
          exact ⟨kd, hk, epat kd h⟩
      · rw [List.map_set, en2]
        apply List.ext_getElem?
        intro i
        by_cases hi : i = j.toNat
        · subst hi
          rw [List.getElem?_set_self (by rw [List.length_map]; exact hj), List.getElem?_map, hp]; rfl
        · rw [List.getElem?_set_ne (fun q => hi q.symm)]
theorem cw_law_seen {F : Fx} {Γ : List Sl} {t : TA} {E : XK} {k : Sl → List Sl → Prop} {i : Nat} {s0 : Sl} {b : Int × Int × Int} {ns : List Int} {most : Int} {kinds : List (List Int)} (hi : Γ[i]? = some s0) (ho : s0.ownL = some (srcD b)) (hb : SrcOk b) (h : EvA F t Γ [.d (.tuple (ns.map PyData.int)), .d (.int most), .d (.list (kinds.map encK))]) (h1 : GoodNs ns 30) (h2 : 0 ≤ most) (h3 : most ≤ 12) (h4 : KindsOk kinds)
    (hk : ∀ ps b', SeenOk ps → SeenW kinds ps → (ps.length : Int) ≤ most → SrcOk b' → k (.d (encSeen ps)) (Γ.set i (s0.withL (srcD b')))) : WpE F (tCall (spS F.K con_law_seen) [] E (tCons (tVar i) t)) Γ k :=
  wpe_callS (c := con_law_seen) (b, ns, most, kinds) hi ho h rfl ⟨hb, h1, h2, h3, h4⟩ fun r ds' ⟨ps, b', e1, q1, q2, q3, e2, q4⟩ => by subst e1 e2; exact hk ps b' q1 q2 q3 q4

/-! ### _law_fitting, _law_kinds -/
theorem comps_len9 {n : Nat} (h : n ≤ 9) : (comps n).length ≤ 1000 := Nat.le_trans (comps_le n) (Nat.le_trans (Nat.pow_le_pow_right (by decide) h) (by decide))
theorem comp_len {n : Nat} {c : List Nat} (h : c ∈ comps n) : c.length ≤ n := by
  obtain ⟨h1, h2⟩ := mem_comps.mp h
  have := len_le_sum h1
  omega
abbrev con_law_fitting : Con := { α := Nat × List Per, args := fun a => [.d (.int (a.1 : Int)), .d (encSeen a.2)], pre := fun a => 1 ≤ a.1 ∧ a.1 ≤ 9 ∧ a.2.length ≤ 1000, post := fun a r => r = .lst (((comps a.1).filter fun c => lawFits c a.2).map encC) }
theorem ok_law_fitting (T : Tx K mg) : FnOk P w K mg base CX0 (2 + 1) (He.ga K "_law_fitting") T.fd_law_fitting ["size", "seen"] (spP K con_law_fitting) := by
  refine fn_ok T.F_law_fitting sc_law_fitting con_law_fitting (fun _ _ => rfl) (by decide) (fun _ _ h => h) fun cdv A outer s H E hr => ⟨_, (pss_one (ps_ret (pe_lc (own := [("sizes", 2)]) rfl sc_law_fitting.nd (pi_seq (pe_call (ok_law_all_sizes T) (hr.mono (by decide)) (by rfl) T.g_law_all_sizes T.F_law_all_sizes.kp (bi_law_all_sizes T) .nil pass0 (pa_cons (pv 0) pa_nil))) (blkOk_by (own := [("sizes", 2)]) (N := ["size", "seen", "sizes"]) (sc := defScope s_law_fitting) (by decide +kernel)) (fun _ _ _ _ _ => (pg_name (i := 2) sc_law_fitting.nd rfl (.inl rfl))) (fun _ _ _ _ _ => (pts_one (pt_val (pe_call (ok_law_fits T) (hr.mono (by decide)) (by rfl) T.g_law_fits T.F_law_fits.kp (bi_law_fits T) .nil pass0 (pa_cons (pv 2) (pa_cons (pv 1) pa_nil)))))) (fun _ _ _ _ _ => (pv 2))))), ?_⟩
  rintro B S0 E px ⟨n, ps⟩ ⟨h1, h2, h3⟩
  dsimp only [L2.cxOf, L2.Cx.nox, L2.Cx.wish] at h1 h2 h3 ⊢
  apply wp_ret
  refine EvS.wp (s := .lst (((comps n).filter fun c => lawFits c ps).map encC)) ?_ ⟨rfl, rfl⟩
  have := comps_len9 h2
  refine evs_lc (items := (comps n).map encC) (evi_seqL ?_) (gvs_name (by decide)) (sz' (by rw [List.length_map]; omega)) ?_
  · apply evs_share
    exact cl_law_all_sizes (by wtm_at "ev") h1 h2
  · refine lcp_map (p := fun c => lawFits c ps) (f := encC) fun c hc => ⟨_, gto_name (lt_ble rfl), ?_, fun _ => by wtm_at "ev"⟩
    have hl := comp_len hc
    apply evt_B
    exact cl_law_fits (by wtm_at "ev") (by omega) h3
theorem fit_law {n : Nat} {ps : List Per} (h : ∀ p ∈ ps, p.ok = true) : ((comps n).filter fun c => lawFits c ps) = fitL n ps := by
  unfold fitL goodP
  exact List.filter_congr fun c hc => (good_law hc fun p hp => ranks_ok (h p hp)).symm
theorem cl_law_fitting {F : Fx} {Γ : List Sl} {t : TA} {E : XK} {n : Nat} {ps : List Per} (h : EvA F t Γ [.d (.int (n : Int)), .d (encSeen ps)]) (h1 : 1 ≤ n) (h2 : n ≤ 9) (h3 : SeenOk ps) : EvS F (tCall (spP F.K con_law_fitting) [] E t) Γ (.lst ((fitL n ps).map encC)) := by
  rw [← fit_law h3.ok]
  exact evs_call (c := con_law_fitting) (n, ps) h rfl ⟨h1, h2, Nat.le_trans h3.few (by decide)⟩ (fun _ h => h) fun _ h => h
def kinds8 : List (List Int) := [[0], [0], [1], [2], [0, 1], [0, 2], [1, 2], [0, 1, 2]]
abbrev con_law_kinds : Con := { α := Unit, args := fun _ => [], pre := fun _ => True, post := fun _ r => r = .lst (kinds8.map encK) }
theorem ok_law_kinds (T : Tx K mg) : FnOk P w K mg base CX0 (0 + 1) (He.ga K "_law_kinds") T.fd_law_kinds [] (spP K con_law_kinds) := by
  refine fn_ok T.F_law_kinds sc_law_kinds con_law_kinds (fun _ _ => rfl) (by decide) (fun _ _ h => h) fun cdv A outer s H E hr => ⟨_, (pss_one (ps_ret (pe_lst (pa_cons (pe_tup (pa_cons pe_int pa_nil)) (pa_cons (pe_tup (pa_cons pe_int pa_nil)) (pa_cons (pe_tup (pa_cons pe_int pa_nil)) (pa_cons (pe_tup (pa_cons pe_int pa_nil)) (pa_cons (pe_tup (pa_cons pe_int (pa_cons pe_int pa_nil))) (pa_cons (pe_tup (pa_cons pe_int (pa_cons pe_int pa_nil))) (pa_cons (pe_tup (pa_cons pe_int (pa_cons pe_int pa_nil))) (pa_cons (pe_tup (pa_cons pe_int (pa_cons pe_int (pa_cons pe_int pa_nil)))) pa_nil))))))))))), ?_⟩
  rintro B S0 E px ⟨⟩ -
  dsimp only [L2.cxOf, L2.Cx.nox, L2.Cx.wish]
  apply wp_ret
  apply EvS.wp
  · wtm_at "ev"
  · exact ⟨rfl, rfl⟩
theorem cl_law_kinds {F : Fx} {Γ : List Sl} {E : XK} : EvS F (tCall (spP F.K con_law_kinds) [] E tNil) Γ (.lst (kinds8.map encK)) :=
  evs_call (c := con_law_kinds) () eva_nil rfl trivial (fun _ h => h) fun _ h => h
theorem kinds8_ok : KindsOk kinds8 := ⟨by decide, by decide, by decide⟩

/-! ### lists of texts -/
theorem sh_strsL {xs : List Str} (h : ∀ x ∈ xs, PyData.strOk x = true) : SeqAt.shaped (.list (xs.map PyData.str)) = true := by
  have h1 : PyData.canLayAll0 (xs.map PyData.str) = true := by
    induction xs with
    | nil => simp [PyData.canLayAll0]
    | cons x xs ih =>
      rw [List.map_cons, PyData.canLayAll0, ih fun y hy => h y (by simp [hy]), Bool.and_true, PyData.canLay0]
      exact h x (by simp)
  have h2 : PyData.depthAll (xs.map PyData.str) = 0 := by
    clear h h1
    induction xs with
    | nil => simp [PyData.depthAll]
    | cons x xs ih => rw [List.map_cons, PyData.depthAll, ih]; simp [PyData.depth]
  unfold SeqAt.shaped
  rw [Bool.and_eq_true, PyData.canLay0, PyData.depth, h2]
  exact ⟨h1, by decide⟩
theorem eqvAll_strs : ∀ xs ys : List Str, PyData.eqvAll (xs.map PyData.str) (ys.map PyData.str) = decide (xs = ys)
  | [], [] => by simp [PyData.eqvAll]
  | [], _ :: _ => by simp [PyData.eqvAll]
  | _ :: _, [] => by simp [PyData.eqvAll]
  | x :: xs, y :: ys => by
    rw [List.map_cons, List.map_cons, PyData.eqvAll, eqvAll_strs xs ys, PyData.eqv]
    by_cases h : x = y <;> by_cases h2 : xs = ys <;> simp [h, h2]
theorem eqv_strsL (xs ys : List Str) : PyData.eqv (.list (xs.map PyData.str)) (.list (ys.map PyData.str)) = decide (xs = ys) := by
  rw [PyData.eqv]; exact eqvAll_strs xs ys
theorem cutD_init {α : Type} (xs : List α) (x : α) : cutD (xs ++ [x]) none (some (-1)) = xs := by
  have e : ∀ d, HT.sIx (xs ++ [x]).length d (some (-1)) = xs.length := fun d => by
    show (if (-1 : Int) < 0 then ((-1 : Int) + ((xs ++ [x]).length : Int)).toNat else min (-1 : Int).toNat (xs ++ [x]).length) = _
    rw [if_pos (by decide), List.length_append, List.length_singleton]
    omega
  unfold cutD
  rw [HT.sIx_none, e, List.drop_zero, Nat.sub_zero, List.take_append_of_le_length (Nat.le_refl _), List.take_length]
theorem ops_notNL {F : Fx} {x : Sl} {ds : List PyData} (h : x.asL = some ds) : OpS F (fun x y H Q => y = .non ∧ Q (.bl (!decide (x = .non))) H) x (.d .none) (.d (.bool true)) := fun z v w Q hz hv hw c => by
  obtain ⟨a, xs, rfl, _⟩ := hv.asL hz h
  exact ⟨hw.d_none, c _ z (Add.refl z) hz (.bl true) trivial⟩

/-! ### require_system, of a system -/
abbrev con_require_system : Con := { α := Sys, args := fun a => [.d (.str a.str)], pre := fun _ => True, post := fun a r => r = .d .none }
theorem ok_require_system (T : Tx K mg) : FnOk P w K mg base CX0 (0 + 1) (He.ga K "require_system") T.fd_require_system ["value"] (spP K con_require_system) := by
  refine fn_ok T.F_require_system sc_require_system con_require_system (fun _ _ => rfl) (by decide) (fun _ _ h => h) fun cdv A outer s H E hr => ⟨_, (pss_one (ps_if (PW.pt (pw_or (pt_not (pt_val (pe_callB call_isi (by rfl) T.b_isinstance bt_isinstance (pa_cons (pv 0) (pa_cons (pe_bltn (v := .ty "str") (by rfl) T.b_str bt_str rfl) pa_nil))))) (pw_or1 (pt_cmpR op_notin_G (pv 0) (pe_glob (v := .ref (He.ga K "SYSTEMS")) (by rfl) T.c_SYSTEMS rfl) (by with_unfolding_all rfl)))))
        (pss_one ps_never)
        pss_nil)), ?_⟩
  rintro B S0 E px sy -
  dsimp only [L2.cxOf, L2.Cx.nox, L2.Cx.wish]
  have q : ∀ H : Hp, SqT K H (He.ga K "SYSTEMS") ((["first", "last", "dense"] : List Str).map V.str) := T.q_SYSTEMS
  apply wp_if
  · wtm_at "ev"
  · intro h
    exact absurd h (by cases sy <;> decide +kernel)
  · intro _
    apply wp_next
    rfl
theorem cl_require_system {F : Fx} {Γ : List Sl} {t : TA} {E : XK} {sy : Sys} (h : EvA F t Γ [.d (.str sy.str)]) : EvS F (tCall (spP F.K con_require_system) [] E t) Γ (.d .none) :=
  evs_call (c := con_require_system) sy h rfl trivial (fun _ h => h) fun _ h => h
local macro_rules
  | `(tactic| wtm_at "call") => `(tactic| ((with_reducible apply cl_require_system); wtm_at "ev"))

/-! ### require_known, of a name that is known -/
theorem isS_str (a : Str) : isS (.str a) = true := rfl
theorem any_str (a : Str) (ns : List Str) : ((ns.map PyData.str).any fun z => PyData.eqv z (.str a)) = decide (a ∈ ns) := by
  rw [List.any_map]
  have e : ((fun z => PyData.eqv z (.str a)) ∘ PyData.str) = fun b => decide (b = a) := by
    funext b
    show PyData.eqv (.str b) (.str a) = _
    rw [PyData.eqv]
    by_cases h : b = a <;> simp [h]
  rw [e, Bool.eq_iff_iff, List.any_eq_true, decide_eq_true_eq]
  constructor
  · rintro ⟨b, hb, e⟩; rw [← of_decide_eq_true e]; exact hb
  · intro h; exact ⟨a, h, decide_eq_true rfl⟩
abbrev con_require_known : Con := { α := Str × List Per, args := fun a => [.d (.str a.1), .d (encSeen a.2)], pre := fun a => a.2.length ≤ 1000 ∧ a.1 ∈ a.2.map Per.name, post := fun a r => r = .d .none }
theorem ok_require_known (T : Tx K mg) : FnOk P w K mg base CX0 (0 + 1) (He.ga K "require_known") T.fd_require_known ["name", "seen"] (spP K con_require_known) := by
  refine fn_ok T.F_require_known sc_require_known con_require_known (fun _ _ => rfl) (by decide) (fun _ _ h => h) fun cdv A outer s H E hr => ⟨_, (pss_one (ps_if (PW.pt (pw_or (pt_not (pt_val (pe_callB call_isi (by rfl) T.b_isinstance bt_isinstance (pa_cons (pv 0) (pa_cons (pe_bltn (v := .ty "str") (by rfl) T.b_str bt_str rfl) pa_nil))))) (pw_or1 (pt_cmpR op_notin_G (pv 0) (pe_lc (own := [("one", 2)]) rfl sc_require_known.nd (pi_seq (pv 1)) (blkOk_by (own := [("one", 2)]) (N := ["name", "seen", "one"]) (sc := defScope s_require_known) (by decide +kernel)) (fun _ _ _ _ _ => (pg_name (i := 2) sc_require_known.nd rfl (.inl rfl))) (fun _ _ _ _ _ => pts_nil) (fun _ _ _ _ _ => (pe_ix (ixK rIx K ix_seq) (pv 2) pe_int (fun _ _ => rfl)))) (by with_unfolding_all rfl)))))
        (pss_one ps_never)
        pss_nil)), ?_⟩
  rintro B S0 E px ⟨a, ps⟩ ⟨hl, hm⟩
  dsimp only [L2.cxOf, L2.Cx.nox, L2.Cx.wish] at hl hm ⊢
  apply wp_if0
  · refine evt_is (b := (!true) || !decide (a ∈ ps.map Per.name)) ?_ (by rw [decide_eq_true hm]; rfl)
    apply evt_or
    · refine evt_is (b := !isS (.str a)) (by wtm_at "ev") rfl
    · intro _
      rw [← any_str]
      apply evt_test
      apply evs_op (x := .d (.str a)) (y := .lst ((ps.map Per.name).map PyData.str))
      · wtm_at "ev"
      · rw [List.map_map]
        refine evs_lc (items := ps.map Per.enc) (evi_seqT (by wtm_at "ev")) (gvs_name (by decide)) (sz' (by rw [List.length_map]; omega)) ?_
        refine lcp_all (f := PyData.str ∘ Per.name) fun p _ => ⟨_, gto_name (lt_ble rfl), ?_⟩
        apply evs_op
        · wtm_at "ev"
        · wtm_at "ev"
        · exact ix_at rfl rfl
      · exact notin_G (notin_seq (d := .str a) rfl rfl (flat_strs _))
  · apply wp_next
    rfl
theorem cl_require_known {F : Fx} {Γ : List Sl} {t : TA} {E : XK} {a : Str} {ps : List Per} (h : EvA F t Γ [.d (.str a), .d (encSeen ps)]) (h1 : ps.length ≤ 1000) (h2 : a ∈ ps.map Per.name) : EvS F (tCall (spP F.K con_require_known) [] E t) Γ (.d .none) :=
  evs_call (c := con_require_known) (a, ps) h rfl ⟨h1, h2⟩ (fun _ h => h) fun _ h => h

/-! ### possible_ranks -/
theorem kvd_keys {κ : Type} {K : PySem.W.Frag} {S : Hp} : ∀ {xs : List (κ × V)} {ys : List (κ × PyData)}, KvD K S xs ys → xs.map (·.1) = ys.map (·.1)
  | _, _, .nil => rfl
  | _, _, .cons h t => by rw [List.map_cons, List.map_cons, h.1, kvd_keys t]
theorem evs_sortedDI {F : Fx} {te : TE} {Γ : List Sl} {x : Sl} {kvs : List (Key × PyData)} {ks : List Int} (h : EvS F te Γ x) (hx : x.asK = some kvs) (hk : kvs.map (·.1) = ks.map Sum.inl) (hn : ks.Nodup) (hl : ks.length < 64) :
    EvS F (tCB (fun xs H Q => ∃ (a : Addr) (kvs : List (Key × V)) (ks : List Int), xs = [.ref a] ∧ Rd H a (.dK kvs) ∧ kvs.map (·.1) = ks.map Sum.inl ∧ ks.length < 64 ∧
    ∀ (ys : List Int) (p : Addr), ys.Perm ks → ys.Pairwise (· ≤ ·) → H p = none → Q (.ref p) (upd H p (.lst (ys.map V.int)))) (tCons te tNil)) Γ (.lst ((sortU ks).map PyData.int)) := fun z σ Q hz hs c =>
  h z σ _ hz hs fun v z1 a1 hz1 hv _ => by
    obtain ⟨a, xs, rfl, g1, g2⟩ := hv.asK hz1 hx
    refine ⟨a, xs, ks, rfl, .inl g1, (kvd_keys g2).trans hk, hl, fun ys p hp hs' hn' => ?_⟩
    have e : sortU ks = ys := by
      refine sortU_eq ?_ fun k => hp.mem_iff
      have nd : ys.Nodup := hp.nodup_iff.mpr hn
      exact List.Pairwise.imp₂ (fun a b (h1 : a ≤ b) (h2 : a ≠ b) => by omega) hs' nd
    rw [e] at c
    exact c _ (z1.tmp p _) (a1.trans (Add.tmp hn')) (hz1.tmp hn') (VOk.tmp_lst hz1 hn' (dt_ints ys)) ⟨p, rfl, a1.dom p hn'⟩
def Sys.rkG (sy : Sys) (x : Gr) : Int := match sy with
  | .first => x.1
  | .last => x.2.2
  | .dense => x.2.1
/-- the ranks of a name, group by group -/
def ranksL (n : Nat) (ps : List Per) (a : Str) (sy : Sys) : List Int := ((rowsW n ps).filter fun r => decide (a ∈ hitsOf r.1.1 r.1.2.2 r.1.2.1 ps)).map fun r => sy.rkG r.1
def trueD (ks : List Int) : List (Key × PyData) := ks.map fun k => ((.inl k : Key), PyData.bool true)
theorem trueD_any (ks : List Int) (k : Int) : ((trueD ks).any fun kv => decide (kv.1 = (.inl k : Key))) = hasL ks k := by
  unfold trueD hasL
  rw [List.any_map]
  congr 1
  funext j
  show decide ((Sum.inl j : Key) = Sum.inl k) = decide (j = k)
  by_cases h : j = k <;> simp [h]
theorem trueD_put (ks : List Int) (k : Int) : putD (trueD ks) (.inl k) (.bool true) = trueD (uStep ks k) := by
  unfold putD uStep
  rw [trueD_any]
  split
  · unfold trueD
    rw [List.map_map]
    refine List.map_congr_left fun j _ => ?_
    show (if (Sum.inl j : Key) = Sum.inl k then ((Sum.inl j : Key), PyData.bool true) else ((Sum.inl j : Key), PyData.bool true)) = _
    split <;> rfl
  · unfold trueD; rw [List.map_append]; rfl
theorem rkG_small {n : Nat} {ps : List Per} (hn : n ≤ 30) {r : Gr × Int} (hr : r ∈ rowsW n ps) (sy : Sys) : 1 ≤ sy.rkG r.1 ∧ sy.rkG r.1 ≤ n := by
  obtain ⟨x, u⟩ := r
  obtain ⟨h1, _⟩ := mem_rows.mp hr
  obtain ⟨⟨q1, q2, q3, q4⟩, _⟩ := mem_E0.mp h1
  cases sy <;> simp only [Sys.rkG] <;> omega
theorem uniq_small {ks : List Int} {n : Nat} (h : ∀ k ∈ ks, 1 ≤ k ∧ k ≤ n) : (uniq ks).length ≤ n := by
  have h1 : (((uniq ks).map Int.toNat)).Nodup := by
    have hn := uniq_nodup ks
    have hm : ∀ k ∈ uniq ks, 1 ≤ k ∧ k ≤ n := fun k hk => h k (uniq_mem.mp hk)
    revert hn hm
    generalize uniq ks = l
    intro hn hm
    induction l with
    | nil => exact .nil
    | cons k l ih =>
      rw [List.nodup_cons] at hn
      rw [List.map_cons, List.nodup_cons]
      refine ⟨fun q => ?_, ih hn.2 fun j hj => hm j (by simp [hj])⟩
      obtain ⟨j, hj, e⟩ := List.mem_map.mp q
      have a := hm j (by simp [hj])
      have b := hm k (by simp)
      exact hn.1 ((show j = k by omega) ▸ hj)
  have h2 := nodup_len h1 (List.nodup_range (n := n + 1)) fun x hx => by
    obtain ⟨k, hk, rfl⟩ := List.mem_map.mp hx
    have := h k (uniq_mem.mp hk)
    rw [List.mem_range]; omega
  -- 0 is not among them
  have h3 := nodup_len (as := 0 :: (uniq ks).map Int.toNat) (List.nodup_cons.mpr ⟨fun q => by
    obtain ⟨k, hk, e⟩ := List.mem_map.mp q
    have := h k (uniq_mem.mp hk)
    omega, h1⟩) (List.nodup_range (n := n + 1)) fun x hx => by
    rcases List.mem_cons.mp hx with rfl | hx
    · rw [List.mem_range]; omega
    · obtain ⟨k, hk, rfl⟩ := List.mem_map.mp hx
      have := h k (uniq_mem.mp hk)
      rw [List.mem_range]; omega
  rw [List.length_cons, List.length_map, List.length_range] at h3
  omega
theorem sortU_uniq (ks : List Int) : sortU (uniq ks) = sortU ks := sortU_eq (sortU_lt ks) fun k => by rw [sortU_mem, uniq_mem]
abbrev con_possible_ranks : Con := { α := Nat × List Per × Str × Sys, args := fun a => [.d (.int (a.1 : Int)), .d (encSeen a.2.1), .d (.str a.2.2.1), .d (.str a.2.2.2.str)], pre := fun a => 1 ≤ a.1 ∧ a.1 ≤ 30 ∧ SeenOk a.2.1 ∧ a.2.2.1 ∈ a.2.1.map Per.name, post := fun a r => r = .lst ((sortU (ranksL a.1 a.2.1 a.2.2.1 a.2.2.2)).map PyData.int) }
theorem ok_possible_ranks (T : Tx K mg) : FnOk P w K mg base CX0 (4 + 1) (He.ga K "possible_ranks") T.fd_possible_ranks ["size", "seen", "name", "system"] (spP K con_possible_ranks) := by
  refine fn_ok T.F_possible_ranks sc_possible_ranks con_possible_ranks (fun _ _ => rfl) (by decide) (fun _ _ h => h) fun cdv A outer s H E hr => ⟨_, (pss_cons (ps_expr (pe_call (ok_require_size T) (hr.mono (by decide)) (by rfl) T.g_require_size T.F_require_size.kp (bi_require_size T) .nil pass0 (pa_cons (pv 0) pa_nil)))
      (pss_cons (ps_expr (pe_call (ok_require_seen T) (hr.mono (by decide)) (by rfl) T.g_require_seen T.F_require_seen.kp (bi_require_seen T) .nil pass0 (pa_cons (pv 1) pa_nil)))
      (pss_cons (ps_expr (pe_call (ok_require_known T) (hr.mono (by decide)) (by rfl) T.g_require_known T.F_require_known.kp (bi_require_known T) .nil pass0 (pa_cons (pv 2) (pa_cons (pv 1) pa_nil))))
      (pss_cons (ps_expr (pe_call (ok_require_system T) (hr.mono (by decide)) (by rfl) T.g_require_system T.F_require_system.kp (bi_require_system T) .nil pass0 (pa_cons (pv 3) pa_nil)))
      (pss_cons (ps_set (i := 4) sc_possible_ranks.nd rfl (.inl rfl) pe_dnewK)
      (pss_cons (ps_for PassesOwn.never rfl (pi_seq (pe_call (ok_steps T) (hr.mono (by decide)) (by rfl) T.g_steps T.F_steps.kp (bi_steps T) .nil pass0 (pa_cons (pv 0) (pa_cons (pv 1) pa_nil)))) (pg_tup (by rfl) (pgs_cons (pg_name (i := 5) sc_possible_ranks.nd rfl (.inl rfl)) (pgs_cons (pg_name (i := 6) sc_possible_ranks.nd rfl (.inl rfl)) (pgs_cons (pg_name (i := 7) sc_possible_ranks.nd rfl (.inl rfl)) (pgs_cons (pg_name (i := 8) sc_possible_ranks.nd rfl (.inl rfl)) (pgs_cons (pg_name (i := 9) sc_possible_ranks.nd rfl (.inl rfl)) (pgs_cons (pg_name (i := 10) sc_possible_ranks.nd rfl (.inl rfl)) pgs_nil)))))))
        (pss_one (ps_if (pt_cmpR op_in_G (pv 2) (pv 8) (by with_unfolding_all rfl))
          (pss_one (ps_asg pe_bl (pg_sub (pv 4) (pe_dget (hu_of hr) (pe_disp (pps_cons pe_str (pv 5) (pps_cons pe_str (pv 6) (pps_cons pe_str (pv 7) pps_nil))) (by rfl) (by rfl) (fun z => by cases z) (by decide)) (pv 3) (fun _ _ => rfl)) (set_dict (hu_of hr)))))
          pss_nil)))
      (pss_one (ps_ret (pe_callB (call_sortedDI rfl) (by rfl) T.b_sorted bt_sorted (pa_cons (pv 4) pa_nil)))))))))), ?_⟩
  rintro B S0 E px ⟨n, ps, a, sy⟩ ⟨h1, h2, h3, h4⟩
  dsimp only [L2.cxOf, L2.Cx.nox, L2.Cx.wish] at h1 h2 h3 h4 ⊢
  have hs := size_ok h1 h2
  have hl : ps.length ≤ 1000 := Nat.le_trans h3.few (by decide)
  apply wp_seq
  apply wp_drop
  apply EvS.wp
  · wtm_at "ev"
  apply wp_seq
  apply wp_drop
  apply EvS.wp
  · exact cl_require_seen (by wtm_at "ev") h3
  apply wp_seq
  apply wp_drop
  apply EvS.wp
  · exact cl_require_known (by wtm_at "ev") hl h4
  apply wp_seq
  apply wp_drop
  apply EvS.wp
  · exact cl_require_system (sy := sy) (by wtm_at "ev")
  apply wp_seq
  apply wp_asg
  · exact evs_newK
  · exact lt_ble rfl
  · rfl
  apply wp_seq
  apply wp_forI
  · apply evi_seqL
    apply evs_share
    exact cl_steps (by wtm_at "ev") h1 h2 hl
  let R : List (Gr × Int) → List Int := fun L => (L.filter fun r => decide (a ∈ hitsOf r.1.1 r.1.2.2 r.1.2.1 ps)).map fun r => sy.rkG r.1
  refine forW_map (enc := encR n ps) (xs := rowsW n ps) (fun i rest Γ => ∃ pre g5 g6 g7 g8 g9 g10, rowsW n ps = pre ++ rest ∧ Γ = [.d (.int (n : Int)), .d (encSeen ps), .d (.str a), .d (.str sy.str), .dK (trueD (uniq (R pre))), g5, g6, g7, g8, g9, g10]) ⟨[], _, _, _, _, _, _, rfl, rfl⟩ ?_ ?_
  · rintro i ⟨⟨b, k, e⟩, u⟩ rest Γ ⟨pre, g5, g6, g7, g8, g9, g10, er, rfl⟩
    have hmem : ((b, k, e), u) ∈ rowsW n ps := by rw [er]; simp
    have hpre : ∀ r ∈ pre, r ∈ rowsW n ps := fun r hr => by rw [er]; simp [hr]
    have hR : (uniq (R pre)).length ≤ n := uniq_small fun q hq => by
      obtain ⟨r, hr, rfl⟩ := List.mem_map.mp hq
      exact rkG_small h2 (hpre r (List.mem_filter.mp hr).1) sy
    refine GTo.wp (gto_tup rfl (gtos_names [5, 6, 7, 8, 9, 10] [.int b, .int e, .int k, .list ((hitsOf b e k ps).map PyData.str), .int u, .int (wayW n ps ((n : Int) - e).toNat (k + 1))] _ rfl (names_lt rfl))) ?_
    apply wp_if (b := decide (a ∈ hitsOf b e k ps))
    · rw [← any_str]
      apply evt_test
      apply evs_op
      · wtm_at "ev"
      · wtm_at "ev"
      · exact in_G (r' := rInG K) (in_seq (d := .str a) rfl rfl (flat_strs _))
    · intro h
      refine wp_setDK (k := .inl (sy.rkG (b, k, e))) (kvs := trueD (uniq (R pre))) (d := .bool true) rfl (by wtm_at "ev") ?_ (sz' (by unfold trueD; rw [List.length_map]; omega)) ?_
      · refine evs_is (evs_dgetK (k := .inr sy.str) (d := sy.rk (.int b) (.int e) (.int k)) (evs_disp (kds := [(.inr "first", _), (.inr "last", _), (.inr "dense", _)]) ⟨_, _, _, rfl, evs_str, by wtm_at "ev", _, _, _, rfl, evs_str, by wtm_at "ev", _, _, _, rfl, evs_str, by wtm_at "ev", rfl⟩ (Nat.le_of_ble_eq_true rfl)) rfl (evs_var (t := .d (.str sy.str)) rfl rfl) (disp3 sy)) ?_
        cases sy <;> rfl
      · refine ⟨pre ++ [((b, k, e), u)], .d (.int b), .d (.int e), .d (.int k), .d (.list ((hitsOf b e k ps).map PyData.str)), .d (.int u), .d (.int (wayW n ps ((n : Int) - e).toNat (k + 1))), by rw [er, List.append_assoc]; rfl, ?_⟩
        have eR : R (pre ++ [((b, k, e), u)]) = R pre ++ [sy.rkG (b, k, e)] := by
          show List.map _ (List.filter _ (pre ++ [_])) = _
          rw [List.filter_append, List.filter_cons, if_pos h, List.map_append]; rfl
        rw [eR, uniq_snoc, trueD_put]; rfl
    · intro h
      apply wp_next
      refine ⟨pre ++ [((b, k, e), u)], .d (.int b), .d (.int e), .d (.int k), .d (.list ((hitsOf b e k ps).map PyData.str)), .d (.int u), .d (.int (wayW n ps ((n : Int) - e).toNat (k + 1))), by rw [er, List.append_assoc]; rfl, ?_⟩
      have eR : R (pre ++ [((b, k, e), u)]) = R pre := by
        show List.map _ (List.filter _ (pre ++ [_])) = _
        rw [List.filter_append, List.filter_cons, if_neg (by rw [h]; exact Bool.false_ne_true), List.filter_nil, List.append_nil]
      rw [eR]; rfl
  · rintro i Γ ⟨pre, g5, g6, g7, g8, g9, g10, er, rfl⟩
    rw [List.append_nil] at er
    subst er
    have hR : (uniq (R (rowsW n ps))).length ≤ n := uniq_small fun q hq => by
      obtain ⟨r, hr, rfl⟩ := List.mem_map.mp hq
      exact rkG_small h2 (List.mem_filter.mp hr).1 sy
    apply wp_ret
    refine EvS.wp (s := .lst ((sortU (ranksL n ps a sy)).map PyData.int)) ?_ ⟨rfl, rfl⟩
    rw [← sortU_uniq]
    refine evs_sortedDI (x := .bK (trueD (uniq (R (rowsW n ps))))) (evs_var (t := .dK (trueD (uniq (R (rowsW n ps))))) rfl rfl) rfl ?_ (uniq_nodup _) (by show (uniq (R (rowsW n ps))).length < 64; omega)
    unfold trueD
    rw [List.map_map]; rfl
theorem cl_possible_ranks {F : Fx} {Γ : List Sl} {t tk : TA} {E : XK} {n : Nat} {ps : List Per} {a : Str} {sy : Sys} (h : EvA F t Γ [.d (.int (n : Int)), .d (encSeen ps), .d (.str a)]) (hk : EvA F tk Γ [.d (.str sy.str)]) (h1 : 1 ≤ n) (h2 : n ≤ 30) (h3 : SeenOk ps) (h4 : a ∈ ps.map Per.name) : EvS F (tCallN 3 1 (spP F.K con_possible_ranks) (· ++ ·) E t tk) Γ (.lst ((sortU (ranksL n ps a sy)).map PyData.int)) :=
  evs_callK (c := con_possible_ranks) (n, ps, a, sy) rfl rfl h hk rfl rfl ⟨h1, h2, h3, h4⟩ (fun _ h => h) fun _ h => h

/-! ### ranks by all groups -/
/-- a person's rank in a ranking -/
def dueR (p : Per) (sy : Sys) (c : List Nat) : Int := match (grpsC 1 1 c).find? p.agG with
  | some x => sy.rkG x
  | none => 0
theorem name_uniq : ∀ {ps : List Per}, (ps.map Per.name).Nodup → ∀ {p q : Per}, p ∈ ps → q ∈ ps → q.name = p.name → q = p
  | [], _, p, _, hp, _, _ => nomatch hp
  | r :: rs, hnd, p, q, hp, hq, en => by
    rw [List.map_cons, List.nodup_cons] at hnd
    rcases List.mem_cons.mp hp with h1 | h1
    · rcases List.mem_cons.mp hq with h2 | h2
      · rw [h1, h2]
      · exact absurd (List.mem_map.mpr ⟨q, h2, by rw [en, h1]⟩) hnd.1
    · rcases List.mem_cons.mp hq with h2 | h2
      · exact absurd (List.mem_map.mpr ⟨p, h1, by rw [← en, h2]⟩) hnd.1
      · exact name_uniq hnd.2 h1 h2 en
theorem mem_hits {ps : List Per} {b e k : Int} (hnd : (ps.map Per.name).Nodup) {p : Per} (hp : p ∈ ps) : p.name ∈ hitsOf b e k ps ↔ p.hits b e k = true := by
  unfold hitsOf
  rw [List.mem_map]
  constructor
  · rintro ⟨q, hq, e⟩
    rw [List.mem_filter] at hq
    rw [← name_uniq hnd hp hq.1 e]; exact hq.2
  · intro h
    exact ⟨p, List.mem_filter.mpr ⟨hp, h⟩, rfl⟩
section
variable {n : Nat} {ps : List Per}
/-- where a person stands in a ranking that fits -/
theorem stand {c : List Nat} (hps : SeenOk ps) (hc : c ∈ fitL n ps) {p : Per} (hp : p ∈ ps) : ∃ x ∈ grpsC 1 1 c, p.agG x = true ∧ (grpsC 1 1 c).find? p.agG = some x ∧ ∀ y ∈ grpsC 1 1 c, p.hits y.1 y.2.2 y.2.1 = true → y = x := by
  obtain ⟨hcm, hg⟩ := List.mem_filter.mp hc
  have hr := ranks_ok (hps.ok p hp)
  have hl : lawFits c ps = true := by rw [← good_law hcm fun q hq => ranks_ok (hps.ok q hq)]; exact hg
  unfold lawFits at hl
  rw [Bool.and_eq_true, List.all_eq_true] at hl
  obtain ⟨x, hx, ha⟩ := (given_some hcm).mp (hl.1 p hp)
  refine ⟨x, hx, ha, ?_, fun y hy hh => (agG_uniq hcm hr hx hy ha hh).symm⟩
  cases q : (grpsC 1 1 c).find? p.agG with
  | none => exact absurd ha (List.find?_eq_none.mp q x hx)
  | some y =>
    have hm := List.mem_of_find?_eq_some q
    have hy : p.agG y = true := List.find?_some q
    rw [agG_uniq hcm hr hx hm ha (agG_hits hr hy)]
theorem ranks_mem (hps : SeenOk ps) {p : Per} (hp : p ∈ ps) (sy : Sys) (k : Int) : k ∈ ranksL n ps p.name sy ↔ k ∈ (fitL n ps).map (dueR p sy) := by
  unfold ranksL
  rw [List.mem_map, List.mem_map]
  constructor
  · rintro ⟨⟨x, u⟩, hr, rfl⟩
    rw [List.mem_filter, decide_eq_true_eq] at hr
    have hh := (mem_hits hps.nodup hp).mp hr.2
    obtain ⟨c, hc, hg, hx⟩ := row_iff.mp ⟨u, hr.1⟩
    have hcf : c ∈ fitL n ps := List.mem_filter.mpr ⟨hc, hg⟩
    obtain ⟨y, hy, ha, hf, hu⟩ := stand hps hcf hp
    refine ⟨c, hcf, ?_⟩
    unfold dueR
    rw [hf, hu x hx hh]
  · rintro ⟨c, hcf, rfl⟩
    obtain ⟨y, hy, ha, hf, hu⟩ := stand hps hcf hp
    obtain ⟨hc, hg⟩ := List.mem_filter.mp hcf
    obtain ⟨u, hu⟩ := row_iff.mpr ⟨c, hc, hg, hy⟩
    refine ⟨(y, u), ?_, ?_⟩
    · rw [List.mem_filter, decide_eq_true_eq]
      exact ⟨hu, (mem_hits hps.nodup hp).mpr (agG_hits (ranks_ok (hps.ok p hp)) ha)⟩
    · unfold dueR
      rw [hf]
theorem ranks_due (hps : SeenOk ps) {p : Per} (hp : p ∈ ps) (sy : Sys) : sortU (ranksL n ps p.name sy) = sortU ((fitL n ps).map (dueR p sy)) := sortU_eq (sortU_lt _) fun k => by rw [sortU_mem, ranks_mem hps hp sy k]
theorem due_small (hps : SeenOk ps) {p : Per} (hp : p ∈ ps) (sy : Sys) : ∀ k ∈ (fitL n ps).map (dueR p sy), 1 ≤ k ∧ k ≤ (n : Int) := fun k hk => by
  obtain ⟨c, hcf, rfl⟩ := List.mem_map.mp hk
  obtain ⟨y, hy, ha, hf, hu⟩ := stand hps hcf hp
  obtain ⟨hc, hg⟩ := List.mem_filter.mp hcf
  obtain ⟨c1, c2⟩ := mem_comps.mp hc
  have hb := (grps_facts c 1 1 c1).2 y hy
  have hle := len_le_sum c1
  unfold dueR
  rw [hf]
  cases sy <;> simp only [Sys.rkG] <;> omega
theorem sortU_small {ks : List Int} {n : Nat} (h : ∀ k ∈ ks, 1 ≤ k ∧ k ≤ (n : Int)) : (sortU ks).length ≤ n := by
  have h1 := nodup_len (as := sortU ks) (bs := uniq ks) (List.Pairwise.imp (fun {a b} (h : a < b) => by omega) (sortU_lt ks)) (uniq_nodup ks) fun x hx => uniq_mem.mpr (sortU_mem.mp hx)
  have h2 := uniq_small h
  omega
/-- the row of a group in the sizes -/
theorem grp_parts {c : List Nat} {x : Gr} (hx : x ∈ grpsC 1 1 c) : ∃ (j : Nat) (a : Nat), x.2.1 - 1 = (j : Int) ∧ c[j]? = some a ∧ x.1 = 1 + ((c.take j).sum : Nat) ∧ x.2.2 = x.1 + (a : Int) - 1 ∧ x.2.1 = (j : Int) + 1 := by
  obtain ⟨d, a, e, rfl, rfl⟩ := mem_grps.mp hx
  refine ⟨d.length, a, by dsimp only; omega, by simp, ?_, rfl, by dsimp only; omega⟩
  rw [List.take_append_of_le_length (Nat.le_refl _), List.take_length]
end

/-! ### law -/
theorem toI_take (c : List Nat) (j : Nat) : (toI c).take j = toI (c.take j) := by unfold toI; rw [List.map_take]
abbrev con_law : Con := lawC
theorem ok_law (T : Tx K mg) : FnOk P w K mg base CX0 (5 + 1) (He.ga K "law") T.fd_law ["script"] (spP K con_law) := by
  refine fn_ok T.F_law sc_law con_law (fun _ _ => rfl) (by decide) (fun _ _ h => h) fun cdv A outer s H E hr => ⟨_, (pss_cons (ps_for PassesOwn.never rfl (pi_range1 (by rfl) T.b_range (pa_cons (pe_callB (call_max2 rfl) (by rfl) T.b_max bt_max (pa_cons pe_int (pa_cons (pe_callB (call_min2 rfl) (by rfl) T.b_min bt_min (pa_cons pe_int (pa_cons (pe_callB call_lenG (by rfl) T.b_len bt_len (pa_cons (pv 0) pa_nil)) pa_nil))) pa_nil))) pa_nil)) (pg_name (i := 1) sc_law.nd rfl (.inl rfl))
        (pss_cons (ps_set (i := 2) sc_law.nd rfl (.inl rfl) (pe_call (ok_law_source T) (hr.mono (by decide)) (by rfl) T.g_law_source T.F_law_source.kp (bi_law_source T) .nil pass0 (pa_cons (pv 0) (pa_cons (pv 1) pa_nil))))
        (pss_cons (ps_set (i := 3) sc_law.nd rfl (.inl rfl) (pe_call (ok_law_sizes T) (hr.mono (by decide)) (by rfl) T.g_law_sizes T.F_law_sizes.kp (bi_law_sizes T) .nil pass0 (pa_cons (pv 2) (pa_cons (pe_op op_addG pe_int (pe_callTy call_int1 (by rfl) T.b_int bt_int (pa_cons (pe_cmpR (op_eqD hr.units) (pv 1) pe_int (nomark _)) pa_nil))) pa_nil))))
        (pss_cons (ps_par (i := 4) (j := 5) (by rfl) sc_law.nd rfl rfl (by decide) rfl rfl (pa_cons (pe_call (ok_law_seen T) (hr.mono (by decide)) (by rfl) T.g_law_seen T.F_law_seen.kp (bi_law_seen T) .nil pass0 (pa_cons (pv 2) (pa_cons (pv 3) (pa_cons pe_int (pa_cons (pe_call0 (ok_law_kinds T) (hr.mono (by decide)) (by rfl) T.g_law_kinds T.F_law_kinds.kp (bi_law_kinds T) .nil pass0) pa_nil))))) (pa_cons (pe_callB (call_sumG rfl) (by rfl) T.b_sum bt_sum (pa_cons (pv 3) pa_nil)) pa_nil)) (by rfl))
        (pss_cons (ps_set (i := 6) sc_law.nd rfl (.inl rfl) (pe_call (ok_law_fitting T) (hr.mono (by decide)) (by rfl) T.g_law_fitting T.F_law_fitting.kp (bi_law_fitting T) .nil pass0 (pa_cons (pv 5) (pa_cons (pv 4) pa_nil))))
        (pss_one (ps_for PassesOwn.never rfl (pi_seq (pv 4)) (pg_name (i := 7) sc_law.nd rfl (.inl rfl))
          (pss_one (ps_for PassesOwn.never rfl (pi_enumG (by rfl) T.b_enumerate (pa_cons (pe_lst (pa_cons pe_str (pa_cons pe_str (pa_cons pe_str pa_nil)))) pa_nil)) (pg_tup (by rfl) (pgs_cons (pg_name (i := 8) sc_law.nd rfl (.inl rfl)) (pgs_cons (pg_name (i := 9) sc_law.nd rfl (.inl rfl)) pgs_nil)))
            (pss_cons (ps_par (i := 10) (j := 11) (by rfl) sc_law.nd rfl rfl (by decide) rfl rfl (pa_cons (pe_lst pa_nil) (pa_cons pe_int pa_nil)) (by rfl))
            (pss_cons (ps_for PassesOwn.never rfl (pi_seq (pv 6)) (pg_name (i := 12) sc_law.nd rfl (.inl rfl))
              (pss_cons (ps_set (i := 13) sc_law.nd rfl (.inl rfl) (pe_call (ok_law_given T) (hr.mono (by decide)) (by rfl) T.g_law_given T.F_law_given.kp (bi_law_given T) .nil pass0 (pa_cons (pv 12) (pa_cons (pv 7) pa_nil))))
              (pss_cons (ps_set (i := 11) sc_law.nd rfl (.inl rfl) (pe_op op_addG pe_int (pe_callB (call_sumG rfl) (by rfl) T.b_sum bt_sum (pa_cons (pe_slice sl_G (pv 12) po_none (po_some (pv 13))) pa_nil))))
              (pss_one (ps_expr (pe_bm PySem.F.plainAttrs_list PySem.F.slot_list_append PySem.F.type_list_append mt_append (pv 10) (pa_cons (pe_ix ix_seq (pe_tup (pa_cons (pv 11) (pa_cons (pe_op op_sub (pe_op op_addG (pv 11) (pe_ix ix_seq (pv 12) (pv 13) (fun _ _ => rfl))) pe_int) (pa_cons (pe_op op_addG (pv 13) pe_int) pa_nil)))) (pv 8) (fun _ _ => rfl)) pa_nil)))))))
            (pss_cons (ps_set (i := 14) sc_law.nd rfl (.inl rfl) (pe_callN (ok_possible_ranks T) (hr.mono (by decide)) (by rfl) T.g_possible_ranks T.F_possible_ranks.kp (bi_possible_ranks T) pass0 (pa_cons (pv 5) (pa_cons (pv 4) (pa_cons (pe_ix ix_seq (pv 7) pe_int (fun _ _ => rfl)) pa_nil))) (pk_cons (pv 9) pk_nil)))
            (pss_cons (ps_if (pt_cmpR (op_neD hr.units) (pv 14) (pe_callB (cr_sortedSet rfl) (by rfl) T.b_sorted bt_sorted (pa_cons (pe_callTy (cr_setIs rfl) (by rfl) T.b_set bt_set (pa_cons (pv 10) pa_nil)) pa_nil)) (nomark _))
              (pss_one (ps_ret pe_bl))
              pss_nil)
            (pss_cons (ps_expr (pe_bm PySem.F.plainAttrs_list PySem.F.slot_list_append PySem.F.type_list_append mt_append (pv 14) (pa_cons pe_non pa_nil)))
            (pss_one (ps_if (pt_cmpR (op_neD hr.units) (pe_callN (ok_possible_ranks T) (hr.mono (by decide)) (by rfl) T.g_possible_ranks T.F_possible_ranks.kp (bi_possible_ranks T) pass0 (pa_cons (pv 5) (pa_cons (pv 4) (pa_cons (pe_ix ix_seq (pv 7) pe_int (fun _ _ => rfl)) pa_nil))) (pk_cons (pv 9) pk_nil)) (pe_slice sl_G (pv 14) po_none (po_some (pe_un un_neg pe_int))) (nomark _))
              (pss_one (ps_ret pe_bl))
              pss_nil))))))))))))))))
      (pss_cons (ps_set (i := 15) sc_law.nd rfl (.inl rfl) (pe_tup (pa_cons (pe_tup (pa_cons pe_str (pa_cons pe_non (pa_cons pe_non (pa_cons pe_int pa_nil))))) (pa_cons (pe_tup (pa_cons pe_str (pa_cons pe_non (pa_cons pe_int (pa_cons pe_non pa_nil))))) pa_nil))))
      (pss_one (ps_ret (pe_cmpR (op_eqD hr.units) (pe_callN (ok_possible_ranks T) (hr.mono (by decide)) (by rfl) T.g_possible_ranks T.F_possible_ranks.kp (bi_possible_ranks T) pass0 (pa_cons pe_int (pa_cons (pv 15) (pa_cons pe_str pa_nil))) (pk_cons pe_str pk_nil)) (pe_lst (pa_cons pe_int (pa_cons pe_int pa_nil))) (nomark _)))))), ?_⟩
  rintro B S0 E px xs hx
  dsimp only [L2.cxOf, L2.Cx.nox, L2.Cx.wish] at hx ⊢
  apply wp_seq
  apply wp_forI
  · apply evi_range1
    · wtm_at "ev"
    · split <;> split <;> omega
    · split <;> split <;> omega
  refine forW_range (fun i Γ => ∃ g1 g2 g3 g4 g5 g6 g7 g8 g9 g10 g11 g12 g13 g14 g15, Γ = [.sq (xs.map PyData.int), g1, g2, g3, g4, g5, g6, g7, g8, g9, g10, g11, g12, g13, g14, g15]) ⟨_, _, _, _, _, _, _, _, _, _, _, _, _, _, _, rfl⟩ ?_ ?_
  · rintro i Γ hi ⟨g1, g2, g3, g4, g5, g6, g7, g8, g9, g10, g11, g12, g13, g14, g15, rfl⟩
    have hik : i ≤ 1000 := by
      rw [List.length_map] at hi
      revert hi
      split <;> split <;> omega
    refine GTo.wp (gto_name (lt_ble rfl)) ?_
    rw [Int.zero_add]
    apply wp_seq
    apply wp_asgW
    apply cw_law_source (ns := xs) (n := i) (by wtm_at "ev") hik
    intro b hb
    refine ⟨rfl, lt_ble rfl, ?_⟩
    -- sizes
    apply wp_seq
    apply wp_asgW
    have q1 := sh_int (i : Int)
    have q2 := sh_int 0
    have hb2 : b2n (PyData.eqv (.int (i : Int)) (.int 0)) = 0 ∨ b2n (PyData.eqv (.int (i : Int)) (.int 0)) = 1 := by unfold b2n; split <;> simp
    refine cw_law_sizes (s0 := .lst (srcD b)) (b := b) (n := 8 + b2n (PyData.eqv (.int (i : Int)) (.int 0))) rfl rfl hb (by wtm_at "ev") (by omega) (by omega) ?_
    intro ns b2 hns hb2'
    refine ⟨rfl, lt_ble rfl, ?_⟩
    have hns30 : GoodNs ns 30 := ⟨hns.1, hns.2.1, by have := hns.2.2; omega⟩
    have hsum1 : 1 ≤ ns.sum := by
      have h1 := sum_nonneg' hns.2.1
      have h2 : 1 ≤ ns.length := by cases ns with | nil => exact absurd rfl hns.1 | cons _ _ => simp
      omega
    have hsum2 := hns.2.2
    -- seen, size
    apply wp_seq
    apply wp_parW (by decide)
    apply wpa_consW
    refine cw_law_seen (s0 := .lst (srcD b2)) (b := b2) (ns := ns) (most := 6) (kinds := kinds8) rfl rfl hb2' ?_ hns30 (by decide) (by decide) kinds8_ok ?_
    · exact eva_cons (by wtm_at "ev") (eva_cons (by wtm_at "ev") (eva_cons (evs_share cl_law_kinds) eva_nil))
    intro ps b3 hps hpw _ hb3
    refine ⟨rfl, ?_⟩
    apply wpa_one
    apply EvS.wp
    · wtm_at "ev"
    refine ⟨_, _, rfl, rfl, rfl, lt_ble rfl, lt_ble rfl, ?_⟩
    obtain ⟨n, hn⟩ : ∃ n : Nat, ns.sum = (n : Int) := ⟨ns.sum.toNat, by omega⟩
    rw [hn]
    have n1 : 1 ≤ n := by omega
    have n2 : n ≤ 9 := by omega
    have n3 : n ≤ 30 := by omega
    have hfl : (fitL n ps).length ≤ 1000 := Nat.le_trans (List.length_filter_le _ _) (comps_len9 n2)
    apply wp_seq
    apply wp_asg (s := .d (.list ((fitL n ps).map encC)))
    · apply evs_share
      exact cl_law_fitting (by wtm_at "ev") n1 n2 hps
    · exact lt_ble rfl
    · rfl
    -- each person
    apply wp_forI
    · apply evi_seqT (ds := ps.map Per.enc)
      wtm_at "ev"
    refine forW_map (enc := Per.enc) (xs := ps) (fun _ rest Γ => ∃ g7 g8 g9 g10 g11 g12 g13 g14 g15, (∀ p ∈ rest, p ∈ ps) ∧ Γ = [.sq (xs.map PyData.int), .d (.int (i : Int)), .lst (srcD b3), .d (.tuple (ns.map PyData.int)), .d (encSeen ps), .d (.int (n : Int)), .d (.list ((fitL n ps).map encC)), g7, g8, g9, g10, g11, g12, g13, g14, g15]) ⟨_, _, _, _, _, _, _, _, _, fun _ h => h, rfl⟩ ?_ ?_
    · rintro _ p rest Γ ⟨g7, g8, g9, g10, g11, g12, g13, g14, g15, hrest, rfl⟩
      have hp : p ∈ ps := hrest p (by simp)
      refine GTo.wp (gto_name (lt_ble rfl)) ?_
      apply wp_forI
      · apply evi_enumL (ds := [Sys.first, Sys.last, Sys.dense].map fun sy => PyData.str sy.str)
        apply evs_share
        wtm_at "evis"
      refine forW_enum (enc := fun sy : Sys => PyData.str sy.str) (xs := [Sys.first, Sys.last, Sys.dense]) (fun at_ rest Γ => ∃ g8 g9 g10 g11 g12 g13 g14 g15, (rest = [Sys.first, Sys.last, Sys.dense].drop at_) ∧ Γ = [.sq (xs.map PyData.int), .d (.int (i : Int)), .lst (srcD b3), .d (.tuple (ns.map PyData.int)), .d (encSeen ps), .d (.int (n : Int)), .d (.list ((fitL n ps).map encC)), .d p.enc, g8, g9, g10, g11, g12, g13, g14, g15]) ⟨_, _, _, _, _, _, _, _, rfl, rfl⟩ ?_ ?_
      · rintro j sy rest2 Γ ⟨g8, g9, g10, g11, g12, g13, g14, g15, hdrop, rfl⟩
        have hj3 : j < 3 := by
          have := congrArg List.length hdrop
          simp at this; omega
        have hat : ∀ (x y z : PyData), atI [x, y, z] (j : Int) = some (sy.rk x y z) := fun x y z => by
          match j, hj3 with
          | 0, _ => cases hdrop; rfl
          | 1, _ => cases hdrop; rfl
          | 2, _ => cases hdrop; rfl
        have hrest2 : rest2 = [Sys.first, Sys.last, Sys.dense].drop (j + 1) := by
          match j, hj3 with
          | 0, _ => cases hdrop; rfl
          | 1, _ => cases hdrop; rfl
          | 2, _ => cases hdrop; rfl
        refine GTo.wp (gto_tup rfl (gtos_cons (gto_name (lt_ble rfl)) (gtos_cons (gto_name (lt_ble rfl)) gtos_nil))) ?_
        apply wp_seq
        apply wp_parE (s1 := .lst []) (s2 := .d (.int 1)) (by wtm_at "ev") (by wtm_at "ev") rfl rfl (by decide) (lt_ble rfl) (lt_ble rfl)
        -- the ranks that are due
        apply wp_seq
        apply wp_forI
        · apply evi_seqL
          wtm_at "ev"
        refine forW_map (enc := encC) (xs := fitL n ps) (fun _ rest Γ => ∃ pre g11 g12 g13 g14 g15, fitL n ps = pre ++ rest ∧ Γ = [.sq (xs.map PyData.int), .d (.int (i : Int)), .lst (srcD b3), .d (.tuple (ns.map PyData.int)), .d (encSeen ps), .d (.int (n : Int)), .d (.list ((fitL n ps).map encC)), .d p.enc, .d (.int (j : Int)), .d (.str sy.str), .lst ((pre.map (dueR p sy)).map PyData.int), g11, g12, g13, g14, g15]) ⟨[], _, _, _, _, _, rfl, rfl⟩ ?_ ?_
        · rintro _ c rest3 Γ ⟨pre, g11, g12, g13, g14, g15, er, rfl⟩
          have hcf : c ∈ fitL n ps := by rw [er]; simp
          have hpl : pre.length ≤ 1000 := by have := congrArg List.length er; rw [List.length_append] at this; omega
          obtain ⟨x, hx, ha, hf, _⟩ := stand hps hcf hp
          have hcm := (List.mem_filter.mp hcf).1
          have hcl := comp_len hcm
          have hgv : givenC p c = some (x.2.1 - 1) := (given_at hcm (ranks_ok (hps.ok p hp)) hx).mpr ha
          obtain ⟨q, a, e1, e2, e3, e4, e5⟩ := grp_parts hx
          refine GTo.wp (gto_name (lt_ble rfl)) ?_
          apply wp_seq
          apply wp_asg (s := .d (.int (q : Int)))
          · refine evs_is (cl_law_given (p := p) (c := c) (by wtm_at "ev")) ?_
            rw [hgv, e1]; rfl
          · exact lt_ble rfl
          · rfl
          apply wp_seq
          apply wp_asg (s := .d (.int x.1))
          · refine evs_is (x := .d (.int (1 + ((toI c).take q).sum))) ?_ (by rw [toI_take, toI_sum, e3])
            apply evs_op
            · wtm_at "ev"
            · refine evs_cb (ss := [.d (.tuple (((toI c).take q).map PyData.int))]) (eva_cons ?_ eva_nil) (sum_ints rfl)
              refine evs_is (evs_slT (x := .d (.tuple ((toI c).map PyData.int))) (evs_var (t := .d (encC c)) rfl rfl) rfl evo_no (evo_some (i := (q : Int)) (by wtm_at "ev"))) ?_
              rw [cutD_map, cutD_take _ (by omega), Int.toNat_natCast]
            · exact add_int
          · exact lt_ble rfl
          · rfl
          have hdue : dueR p sy c = sy.rkG x := by unfold dueR; rw [hf]
          refine wp_append (s0 := .lst ((pre.map (dueR p sy)).map PyData.int)) (d := .int (dueR p sy c)) rfl rfl ?_ (sz' (by rw [List.length_map, List.length_map]; omega)) ⟨pre ++ [c], .d (.int x.1), .d (encC c), .d (.int (q : Int)), g14, g15, by rw [er, List.append_assoc]; rfl, by rw [List.map_append, List.map_append]; rfl⟩
          refine evs_is (x := .d (sy.rk (.int x.1) (.int (x.1 + (a : Int) - 1)) (.int ((q : Int) + 1)))) ?_ (by rw [hdue]; cases sy <;> simp only [Sys.rk, Sys.rkG, e4, e5])
          apply evs_op (x := .d (.tuple [.int x.1, .int (x.1 + (a : Int) - 1), .int ((q : Int) + 1)])) (y := .d (.int (j : Int)))
          · apply evs_tup
            · apply evd_cons
              · wtm_at "ev"
              apply evd_cons
              · apply evs_op
                · apply evs_op
                  · wtm_at "ev"
                  · apply evs_op (x := .d (encC c)) (y := .d (.int (q : Int)))
                    · wtm_at "ev"
                    · wtm_at "ev"
                    · refine ix_at (ds := (toI c).map PyData.int) (d := .int (a : Int)) rfl (atI_nat' ?_)
                      unfold toI
                      rw [List.getElem?_map, List.getElem?_map, e2]; rfl
                  · exact add_int
                · wtm_at "ev"
                · exact ops_I0
              apply evd_cons
              · wtm_at "ev"
              · exact evd_nil
            · exact Nat.le_of_ble_eq_true rfl
          · wtm_at "ev"
          · exact ix_at rfl (hat _ _ _)
        · rintro _ Γ ⟨pre, g11, g12, g13, g14, g15, er, rfl⟩
          rw [List.append_nil] at er
          subst er
          have hnm : p.name ∈ ps.map Per.name := List.mem_map.mpr ⟨p, hp, rfl⟩
          let D : List Int := sortU (ranksL n ps p.name sy)
          have hD : D = sortU ((fitL n ps).map (dueR p sy)) := ranks_due hps hp sy
          have hds := sortU_small (due_small (n := n) hps hp sy)
          have hDl : (D.map PyData.int).length ≤ 1000 := by rw [List.length_map, hD]; omega
          have call : ∀ {Γ : List Sl} {F : Fx} {E : XK} {t tk : TA}, F.K = K → EvA F t Γ [.d (.int (n : Int)), .d (encSeen ps), .d (.str p.name)] → EvA F tk Γ [.d (.str sy.str)] → EvS F (tCallN 3 1 (spP F.K con_possible_ranks) (· ++ ·) E t tk) Γ (.lst (D.map PyData.int)) := fun _ h1 h2 => cl_possible_ranks h1 h2 n1 n3 hps hnm
          have args : ∀ g11 g12 g13 g14 g15 s10, EvA ⟨K, B, S0, E, px⟩ (tCons (tVar 5) (tCons (tVar 4) (tCons (tOp (rIx K) (tVar 7) (tC (.int 0))) tNil))) [.sq (xs.map PyData.int), .d (.int (i : Int)), .lst (srcD b3), .d (.tuple (ns.map PyData.int)), .d (encSeen ps), .d (.int (n : Int)), .d (.list ((fitL n ps).map encC)), .d p.enc, .d (.int (j : Int)), .d (.str sy.str), s10, g11, g12, g13, g14, g15] [.d (.int (n : Int)), .d (encSeen ps), .d (.str p.name)] := fun _ _ _ _ _ _ => by
            apply eva_cons
            · wtm_at "ev"
            apply eva_cons
            · wtm_at "ev"
            apply eva_cons
            · apply evs_op (x := .d p.enc) (y := .d (.int 0))
              · wtm_at "ev"
              · wtm_at "ev"
              · exact ix_at rfl rfl
            · exact eva_nil
          apply wp_seq
          apply wp_asg (s := .lst (D.map PyData.int))
          · exact call rfl (args _ _ _ _ _ _) (by wtm_at "ev")
          · exact lt_ble rfl
          · rfl
          apply wp_seq
          apply wp_if0
          · refine evt_is (b := !PyData.eqv (.list (D.map PyData.int)) (.list ((sortU ((fitL n ps).map (dueR p sy))).map PyData.int))) ?_ (by rw [← hD]; rw [PyData.eqv, eqvAll_ints]; simp)
            apply evt_test
            apply evs_op (x := .bor (D.map PyData.int)) (y := .lst ((sortU ((fitL n ps).map (dueR p sy))).map PyData.int))
            · exact evs_var rfl rfl
            · exact evs_sortSet (x := .bor (((fitL n ps).map (dueR p sy)).map PyData.int)) (evs_var rfl rfl) rfl (by rw [List.length_map]; omega) (by omega)
            · exact ops_neD rfl rfl (sh_listI _) (sh_listI _)
          apply wp_next
          apply wp_seq
          refine wp_append (s0 := .lst (D.map PyData.int)) (d := .none) rfl rfl (by wtm_at "ev") (sz' (by omega)) ?_
          apply wp_if0
          · refine evt_is (b := !PyData.eqv (.list (D.map PyData.int)) (.list (D.map PyData.int))) ?_ (by rw [PyData.eqv, eqvAll_ints]; simp)
            apply evt_test
            apply evs_op (x := .lst (D.map PyData.int)) (y := .lst (D.map PyData.int))
            · exact call rfl (args _ _ _ _ _ _) (by wtm_at "ev")
            · refine evs_is (x := .lst (cutD (D.map PyData.int ++ [.none]) none (some (-1)))) ?_ (by rw [cutD_init])
              exact evs_slL (x := .bor (D.map PyData.int ++ [.none])) (evs_var rfl rfl) rfl evo_no (evo_some (by wtm_at "ev"))
            · exact ops_neD rfl rfl (sh_listI _) (sh_listI _)
          exact wp_next ⟨_, _, _, _, _, _, _, _, hrest2, rfl⟩
      · rintro _ Γ ⟨g8, g9, g10, g11, g12, g13, g14, g15, _, rfl⟩
        exact ⟨_, _, _, _, _, _, _, _, _, fun q hq => hrest q (by simp [hq]), rfl⟩
    · rintro _ Γ ⟨g7, g8, g9, g10, g11, g12, g13, g14, g15, _, rfl⟩
      exact ⟨_, _, _, _, _, _, _, _, _, _, _, _, _, _, _, rfl⟩
  · rintro Γ ⟨g1, g2, g3, g4, g5, g6, g7, g8, g9, g10, g11, g12, g13, g14, g15, rfl⟩
    let qs : List Per := [⟨"ann", none, none, some 3⟩, ⟨"ben", none, some 4, none⟩]
    have hq : SeenOk qs := ⟨by decide, by decide +kernel, by decide +kernel⟩
    have e1 : sortU (ranksL 4 qs "ben" .first) = [3, 4] := by decide +kernel
    apply wp_seq
    apply wp_asg (s := .d (encSeen qs))
    · refine evs_is (x := .d (.tuple [.tuple [.str "ann", .none, .none, .int 3], .tuple [.str "ben", .none, .int 4, .none]])) (by wtm_at "ev") rfl
    · exact lt_ble rfl
    · rfl
    apply wp_ret
    refine EvS.wp (s := .d (.bool (PyData.eqv (.list (([3, 4] : List Int).map PyData.int)) (.list (([3, 4] : List Int).map PyData.int))))) ?_ ⟨rfl, by rw [PyData.eqv, eqvAll_ints]; rfl⟩
    apply evs_op (x := .lst (([3, 4] : List Int).map PyData.int)) (y := .lst (([3, 4] : List Int).map PyData.int))
    · rw [← e1]
      exact cl_possible_ranks (n := 4) (ps := qs) (a := "ben") (sy := .first) (eva_cons (show EvS _ _ _ (.d (.int 4)) by wtm_at "ev") (by wtm_at "ev")) (show EvA _ _ _ [.d (.str "first")] from by wtm_at "ev") (by decide) (by decide) hq (by decide +kernel)
    · wtm_at "evis"
    · exact ops_eqD rfl rfl (sh_listI _) (sh_listI _)

def de_is_integer : He.DefD := ⟨("is_integer", none), "is_integer", "is_integer", defArgs s_is_integer, defBody s_is_integer, defScope s_is_integer, [], []⟩
def de_require_system : He.DefD := ⟨("require_system", none), "require_system", "require_system", defArgs s_require_system, defBody s_require_system, defScope s_require_system, [], []⟩
def de_is_name : He.DefD := ⟨("is_name", none), "is_name", "is_name", defArgs s_is_name, defBody s_is_name, defScope s_is_name, [], []⟩
def de_is_person : He.DefD := ⟨("is_person", none), "is_person", "is_person", defArgs s_is_person, defBody s_is_person, defScope s_is_person, [], []⟩
def de_is_seen : He.DefD := ⟨("is_seen", none), "is_seen", "is_seen", defArgs s_is_seen, defBody s_is_seen, defScope s_is_seen, [], []⟩
def de_require_size : He.DefD := ⟨("require_size", none), "require_size", "require_size", defArgs s_require_size, defBody s_require_size, defScope s_require_size, [], []⟩
def de_require_seen : He.DefD := ⟨("require_seen", none), "require_seen", "require_seen", defArgs s_require_seen, defBody s_require_seen, defScope s_require_seen, [], []⟩
def de_require_known : He.DefD := ⟨("require_known", none), "require_known", "require_known", defArgs s_require_known, defBody s_require_known, defScope s_require_known, [], []⟩
def de_members : He.DefD := ⟨("members", none), "members", "members", defArgs s_members, defBody s_members, defScope s_members, [], []⟩
def de_ways_on : He.DefD := ⟨("ways_on", none), "ways_on", "ways_on", defArgs s_ways_on, defBody s_ways_on, defScope s_ways_on, [], []⟩
def de_steps : He.DefD := ⟨("steps", none), "steps", "steps", defArgs s_steps, defBody s_steps, defScope s_steps, [], []⟩
def de_possible_ranks : He.DefD := ⟨("possible_ranks", none), "possible_ranks", "possible_ranks", defArgs s_possible_ranks, defBody s_possible_ranks, defScope s_possible_ranks, [], []⟩
def de_law_source : He.DefD := ⟨("_law_source", none), "_law_source", "_law_source", defArgs s_law_source, defBody s_law_source, defScope s_law_source, [], []⟩
def de_law_pick : He.DefD := ⟨("_law_pick", none), "_law_pick", "_law_pick", defArgs s_law_pick, defBody s_law_pick, defScope s_law_pick, [], []⟩
def de_law_is_integer : He.DefD := ⟨("_law_is_integer", none), "_law_is_integer", "_law_is_integer", defArgs s_law_is_integer, defBody s_law_is_integer, defScope s_law_is_integer, [], []⟩
def de_law_sizes : He.DefD := ⟨("_law_sizes", none), "_law_sizes", "_law_sizes", defArgs s_law_sizes, defBody s_law_sizes, defScope s_law_sizes, [], []⟩
def de_law_rows : He.DefD := ⟨("_law_rows", none), "_law_rows", "_law_rows", defArgs s_law_rows, defBody s_law_rows, defScope s_law_rows, [], []⟩
def de_law_people : He.DefD := ⟨("_law_people", none), "_law_people", "_law_people", defArgs s_law_people, defBody s_law_people, defScope s_law_people, [], []⟩
def de_law_seen : He.DefD := ⟨("_law_seen", none), "_law_seen", "_law_seen", defArgs s_law_seen, defBody s_law_seen, defScope s_law_seen, [], []⟩
def de_law_is_good_person : He.DefD := ⟨("_law_is_good_person", none), "_law_is_good_person", "_law_is_good_person", defArgs s_law_is_good_person, defBody s_law_is_good_person, defScope s_law_is_good_person, [], []⟩
def de_law_all_sizes : He.DefD := ⟨("_law_all_sizes", none), "_law_all_sizes", "_law_all_sizes", defArgs s_law_all_sizes, defBody s_law_all_sizes, defScope s_law_all_sizes, [], []⟩
def de_law_given : He.DefD := ⟨("_law_given", none), "_law_given", "_law_given", defArgs s_law_given, defBody s_law_given, defScope s_law_given, [], []⟩
def de_law_fits : He.DefD := ⟨("_law_fits", none), "_law_fits", "_law_fits", defArgs s_law_fits, defBody s_law_fits, defScope s_law_fits, [], []⟩
def de_law_fitting : He.DefD := ⟨("_law_fitting", none), "_law_fitting", "_law_fitting", defArgs s_law_fitting, defBody s_law_fitting, defScope s_law_fitting, [], []⟩
def de_law_kinds : He.DefD := ⟨("_law_kinds", none), "_law_kinds", "_law_kinds", defArgs s_law_kinds, defBody s_law_kinds, defScope s_law_kinds, [], []⟩
def de_law : He.DefD := ⟨("law", none), "law", "law", defArgs s_law, defBody s_law, defScope s_law, [], []⟩
def fnAll : List He.DefD := [de_is_integer, de_require_system, de_is_name, de_is_person, de_is_seen, de_require_size, de_require_seen, de_require_known, de_members, de_ways_on, de_steps, de_possible_ranks, de_law_source, de_law_pick, de_law_is_integer, de_law_sizes, de_law_rows, de_law_people, de_law_seen, de_law_is_good_person, de_law_all_sizes, de_law_given, de_law_fits, de_law_fitting, de_law_kinds, de_law]
def faAll : List He.Fa := [.glo "is_integer", .glo "require_system", .glo "is_name", .glo "is_person", .glo "is_seen", .glo "require_size", .glo "require_seen", .glo "require_known", .glo "members", .glo "ways_on", .glo "steps", .glo "possible_ranks", .glo "_law_source", .glo "_law_pick", .glo "_law_is_integer", .glo "_law_sizes", .glo "_law_rows", .glo "_law_people", .glo "_law_seen", .glo "_law_is_good_person", .glo "_law_all_sizes", .glo "_law_given", .glo "_law_fits", .glo "_law_fitting", .glo "_law_kinds", .glo "law", .free "all", .free "bool", .free "enumerate", .free "int", .free "isinstance", .free "len", .free "list", .free "max", .free "min", .free "range", .free "set", .free "sorted", .free "str", .free "sum", .free "tuple", .free "zip", .int "MAX_SIZE" 30, .glo "SYSTEMS", .str "LETTERS" "abcdefghijklmnopqrstuvwxyz", .int "MAX_SEEN" 12, .int "MAX_NAME" 8]
def exAll (K : PySem.W.Frag) : Bool := He.tupB K "SYSTEMS" [.str "first", .str "last", .str "dense"]
abbrev RwR : PySem.W.OpenRow := PySem.W.OpenLaw.row PySem.Challenge.rw_tiedranks_k16_possible_ranks_of_people
abbrev hkA : PySem.W.Hook := He.hookX 4 faAll fnAll [] [] exAll
def obA (s : PySem.W.SharedT) : He.AlX := He.obsX 4 faAll fnAll [] [] exAll (HandSHeadRun.getT s)
theorem ob_eq (s : PySem.W.SharedT) : obA s = hkA.obs s.abs := He.obsX_eq (HandSHeadRun.getT_eq s)
def looseN : List Str := (["is_integer", "require_system", "is_name", "is_person", "is_seen", "require_size", "require_seen", "require_known", "members", "ways_on", "steps", "possible_ranks", "_law_source", "_law_pick", "_law_is_integer", "_law_sizes", "_law_rows", "_law_people", "_law_seen", "_law_is_good_person", "_law_all_sizes", "_law_given", "_law_fits", "_law_fitting", "_law_kinds", "RankError", "InvalidSystem", "InvalidSize", "InvalidSeen", "UnknownName"] : List Str) ++ (["MAX_SIZE", "SYSTEMS", "LETTERS", "MAX_SEEN", "MAX_NAME"] : List Str)
theorem runA (w : World) : HandSHeadRun.RunEq RwR (PySem.W.view RwR.prog [41]) hkA obA 6000 looseN w := by
  intro os
  kernel_rfl
theorem txOf {w : World} {K : PySem.W.Frag} {h : Heap} {mg : Str → Option Value} (X : K.In h) (G : h.Ns mainGlobals mg) (c : He.SaysX faAll fnAll [] [] exAll w h K) : Nonempty (Tx K mg) := by
  have cd := c.t.d
  have cx : (He.tupB K "SYSTEMS" [.str "first", .str "last", .str "dense"]) = true := c.more
  obtain ⟨f0, F0⟩ := cd.def_ 0 (d := de_is_integer) rfl
  obtain ⟨f1, F1⟩ := cd.def_ 1 (d := de_require_system) rfl
  obtain ⟨f2, F2⟩ := cd.def_ 2 (d := de_is_name) rfl
  obtain ⟨f3, F3⟩ := cd.def_ 3 (d := de_is_person) rfl
  obtain ⟨f4, F4⟩ := cd.def_ 4 (d := de_is_seen) rfl
  obtain ⟨f5, F5⟩ := cd.def_ 5 (d := de_require_size) rfl
  obtain ⟨f6, F6⟩ := cd.def_ 6 (d := de_require_seen) rfl
  obtain ⟨f7, F7⟩ := cd.def_ 7 (d := de_require_known) rfl
  obtain ⟨f8, F8⟩ := cd.def_ 8 (d := de_members) rfl
  obtain ⟨f9, F9⟩ := cd.def_ 9 (d := de_ways_on) rfl
  obtain ⟨f10, F10⟩ := cd.def_ 10 (d := de_steps) rfl
  obtain ⟨f11, F11⟩ := cd.def_ 11 (d := de_possible_ranks) rfl
  obtain ⟨f12, F12⟩ := cd.def_ 12 (d := de_law_source) rfl
  obtain ⟨f13, F13⟩ := cd.def_ 13 (d := de_law_pick) rfl
  obtain ⟨f14, F14⟩ := cd.def_ 14 (d := de_law_is_integer) rfl
  obtain ⟨f15, F15⟩ := cd.def_ 15 (d := de_law_sizes) rfl
  obtain ⟨f16, F16⟩ := cd.def_ 16 (d := de_law_rows) rfl
  obtain ⟨f17, F17⟩ := cd.def_ 17 (d := de_law_people) rfl
  obtain ⟨f18, F18⟩ := cd.def_ 18 (d := de_law_seen) rfl
  obtain ⟨f19, F19⟩ := cd.def_ 19 (d := de_law_is_good_person) rfl
  obtain ⟨f20, F20⟩ := cd.def_ 20 (d := de_law_all_sizes) rfl
  obtain ⟨f21, F21⟩ := cd.def_ 21 (d := de_law_given) rfl
  obtain ⟨f22, F22⟩ := cd.def_ 22 (d := de_law_fits) rfl
  obtain ⟨f23, F23⟩ := cd.def_ 23 (d := de_law_fitting) rfl
  obtain ⟨f24, F24⟩ := cd.def_ 24 (d := de_law_kinds) rfl
  obtain ⟨f25, F25⟩ := cd.def_ 25 (d := de_law) rfl
  exact ⟨⟨f0, fun_of F0, He.glo_ok X G (cd.fact 0 (f := .glo "is_integer") rfl), f1, fun_of F1, He.glo_ok X G (cd.fact 1 (f := .glo "require_system") rfl), f2, fun_of F2, He.glo_ok X G (cd.fact 2 (f := .glo "is_name") rfl), f3, fun_of F3, He.glo_ok X G (cd.fact 3 (f := .glo "is_person") rfl), f4, fun_of F4, He.glo_ok X G (cd.fact 4 (f := .glo "is_seen") rfl), f5, fun_of F5, He.glo_ok X G (cd.fact 5 (f := .glo "require_size") rfl), f6, fun_of F6, He.glo_ok X G (cd.fact 6 (f := .glo "require_seen") rfl), f7, fun_of F7, He.glo_ok X G (cd.fact 7 (f := .glo "require_known") rfl), f8, fun_of F8, He.glo_ok X G (cd.fact 8 (f := .glo "members") rfl), f9, fun_of F9, He.glo_ok X G (cd.fact 9 (f := .glo "ways_on") rfl), f10, fun_of F10, He.glo_ok X G (cd.fact 10 (f := .glo "steps") rfl), f11, fun_of F11, He.glo_ok X G (cd.fact 11 (f := .glo "possible_ranks") rfl), f12, fun_of F12, He.glo_ok X G (cd.fact 12 (f := .glo "_law_source") rfl), f13, fun_of F13, He.glo_ok X G (cd.fact 13 (f := .glo "_law_pick") rfl), f14, fun_of F14, He.glo_ok X G (cd.fact 14 (f := .glo "_law_is_integer") rfl), f15, fun_of F15, He.glo_ok X G (cd.fact 15 (f := .glo "_law_sizes") rfl), f16, fun_of F16, He.glo_ok X G (cd.fact 16 (f := .glo "_law_rows") rfl), f17, fun_of F17, He.glo_ok X G (cd.fact 17 (f := .glo "_law_people") rfl), f18, fun_of F18, He.glo_ok X G (cd.fact 18 (f := .glo "_law_seen") rfl), f19, fun_of F19, He.glo_ok X G (cd.fact 19 (f := .glo "_law_is_good_person") rfl), f20, fun_of F20, He.glo_ok X G (cd.fact 20 (f := .glo "_law_all_sizes") rfl), f21, fun_of F21, He.glo_ok X G (cd.fact 21 (f := .glo "_law_given") rfl), f22, fun_of F22, He.glo_ok X G (cd.fact 22 (f := .glo "_law_fits") rfl), f23, fun_of F23, He.glo_ok X G (cd.fact 23 (f := .glo "_law_fitting") rfl), f24, fun_of F24, He.glo_ok X G (cd.fact 24 (f := .glo "_law_kinds") rfl), f25, fun_of F25, He.glo_ok X G (cd.fact 25 (f := .glo "law") rfl), He.free_ok X G (cd.fact 26 (f := .free "all") rfl), He.free_ok X G (cd.fact 27 (f := .free "bool") rfl), He.free_ok X G (cd.fact 28 (f := .free "enumerate") rfl), He.free_ok X G (cd.fact 29 (f := .free "int") rfl), He.free_ok X G (cd.fact 30 (f := .free "isinstance") rfl), He.free_ok X G (cd.fact 31 (f := .free "len") rfl), He.free_ok X G (cd.fact 32 (f := .free "list") rfl), He.free_ok X G (cd.fact 33 (f := .free "max") rfl), He.free_ok X G (cd.fact 34 (f := .free "min") rfl), He.free_ok X G (cd.fact 35 (f := .free "range") rfl), He.free_ok X G (cd.fact 36 (f := .free "set") rfl), He.free_ok X G (cd.fact 37 (f := .free "sorted") rfl), He.free_ok X G (cd.fact 38 (f := .free "str") rfl), He.free_ok X G (cd.fact 39 (f := .free "sum") rfl), He.free_ok X G (cd.fact 40 (f := .free "tuple") rfl), He.free_ok X G (cd.fact 41 (f := .free "zip") rfl), He.int_ok X G (cd.fact 42 (f := .int "MAX_SIZE" 30) rfl), He.glo_ok X G (cd.fact 43 (f := .glo "SYSTEMS") rfl), fun H => He.tupB_ok (by first | exact cx | exact (Bool.and_eq_true_iff.mp cx).1 | exact (Bool.and_eq_true_iff.mp cx).2) H, He.str_ok X G (cd.fact 44 (f := .str "LETTERS" "abcdefghijklmnopqrstuvwxyz") rfl), He.int_ok X G (cd.fact 45 (f := .int "MAX_SEEN" 12) rfl), He.int_ok X G (cd.fact 46 (f := .int "MAX_NAME" 8) rfl)⟩⟩
end GL
open PySem PySem.W PySem.Calls PyProof.Rows
theorem PySem.Challenge.cw_tiedranks_k16_possible_ranks_of_people_holds : PySem.Challenge.rw_tiedranks_k16_possible_ranks_of_people.Holds := by
  w_on; o_law
  refine HandSHeadRun.head_any (r := OpenLaw.row PySem.Challenge.rw_tiedranks_k16_possible_ranks_of_people) (q := view (OpenLaw.row PySem.Challenge.rw_tiedranks_k16_possible_ranks_of_people).prog [41]) (H := GL.hkA) (ob := GL.obA) (M := 6000) (loose := GL.looseN) (d := HandSHeadRun.topDef (OpenLaw.row PySem.Challenge.rw_tiedranks_k16_possible_ranks_of_people).prog 41) (kwd := []) GL.ob_eq
    (by kernel_rfl) (fun s => by kernel_rfl) GL.runA (by kernel_rfl) (by kernel_rfl) (by kernel_rfl) (by rfl) (by first | assumption | decide +kernel) (by decide +kernel) ⟨rfl, rfl, rfl, rfl, rfl, by decide +kernel⟩ ?hw ?hc
  case hw => w_witness2
  case hc =>
    refine L2.walk_ofE (l := PySem.Challenge.rw_tiedranks_k16_possible_ranks_of_people) (n := 63) (k := 6) (x := "script") (CX := L2.CX0) rfl (by decide) (by kernel_rfl) ⟨rfl, by decide, by decide⟩ ?F (fun _ _ _ _ z => z)
    intro w mg fa h Y G hmg0
    obtain ⟨K, KX, c⟩ := Y
    obtain ⟨T⟩ := GL.txOf KX G c
    have hmg : mg ("law" : PySem.Str) = some (.ref fa) := by
      have e : (HandSHeadRun.topDef (OpenLaw.row PySem.Challenge.rw_tiedranks_k16_possible_ranks_of_people).prog 41).name = ("law" : PySem.Str) := by kernel_rfl
      rw [← e]
      exact hmg0
    have e := hmg.symm.trans T.g_law
    cases e
    refine ⟨K, T.fd_law, GL.spP K GL.lawC, KX, GL.law_binds T.F_law fun _ _ _ _ _ _ _ => rfl, fun H a ns hl _ hS => GL.law_wish hl hS, fun base _ _ => GL.ok_law T⟩
