import PyProof.Rows.All
import Wide.All
import OpenK.AllK
import Wide.FinOn
import HandS.ForExc
import HandS.Comp
import HandS.Iter
import HandS.Dict
import HandS.TupAny
import HandS.Deep
import HandS.SortInts
import HandS.Zip
import HandS.IsInst
import HandS.Defaults
import KE.KTupSum
import KE.GoesEnum
import KE.GoesMore
import HandS.DictTup
import HandS.Ends
import HandS.HeadHook1
import HandS.HeadHook2
import HandS.HeadHook3
import HandS.HeadHook4
import HandS.Set
import HandS.SetKeys
import HandS.SetFor
import HandS.Strs
import HandS.SetBool
import HandS.TupSets
import HandS.Small
import HandS.Style
import HandS.Conv
import KE.KDictDisplayH
import KE.SortData
import HandS.HotCalls
import HandS.ExcIs
import HandS.ExcCtx
import HandS.Text
import HandS.ExcOwn
import HandS.TupMul
import HandS.More
import HandS.Head0
import HandS.Head1
import HandS.Head2
import HandS.HeadEnd
import PySem.Challenge.RW_tiedranks_k01_groups_and_people
set_option Elab.async false
set_option linter.all false
set_option maxRecDepth 100000
set_option maxHeartbeats 4000000
/-! GL: a logic of slots with data over the layer: what stands in a def's slots is told as data (PyData), no heap in sight. -/
namespace GL
open PySem PySem.Spec PyProof.Rows L2

/-! ### heaps that grow -/
def Ex (S S' : Hp) : Prop := ∀ a o, S a = some o → S' a = some o
theorem Ex.refl (S : Hp) : Ex S S := fun _ _ h => h
theorem Ex.trans {A B C : Hp} (x : Ex A B) (y : Ex B C) : Ex A C := fun a o h => y a o (x a o h)
theorem Ex.upd {S : Hp} {p : Addr} {o : HO} (h : S p = none) : Ex S (upd S p o) := fun a u e => by
  rw [upd_ne (ne_of_none e h)]; exact e
theorem Ex.none {S S' : Hp} (x : Ex S S') {p : Addr} (h : S' p = none) : S p = none := by
  cases q : S p with
  | none => rfl
  | some o => rw [x p o q] at h; cases h
theorem ex_rd {S S' : Hp} (e : Ex S S') {a : Addr} {u : HO} (h : Rd S a u) : Rd S' a u :=
  h.elim (fun h => .inl (e _ _ h)) fun ⟨o, h⟩ => .inr ⟨o, e _ _ h⟩
theorem ex_t {K : PySem.W.Frag} {S S' : Hp} (e : Ex S S') {a : Addr} {xs : List V} (h : SqT K S a xs) : SqT K S' a xs :=
  h.elim (fun h => .inl (ex_rd e h)) .inr
theorem ex_l {K : PySem.W.Frag} {S S' : Hp} (e : Ex S S') {a : Addr} {xs : List V} (h : SqL K S a xs) : SqL K S' a xs :=
  h.elim (fun h => .inl (ex_rd e h)) .inr

/-! ### data in a heap -/
mutual
inductive Dt (K : PySem.W.Frag) (S : Hp) : V → PyData → Prop
  | non : Dt K S .non .none
  | bl (b : Bool) : Dt K S (.bl b) (.bool b)
  | int (i : Int) : Dt K S (.int i) (.int i)
  | str (x : Str) : Dt K S (.str x) (.str x)
  | lst {a : Addr} {xs : List V} {ds : List PyData} : S a = some (.lst xs) → DtAll K S xs ds → Dt K S (.ref a) (.list ds)
  | tup {a : Addr} {xs : List V} {ds : List PyData} : S a = some (.tup xs) → DtAll K S xs ds → Dt K S (.ref a) (.tuple ds)
inductive DtAll (K : PySem.W.Frag) (S : Hp) : List V → List PyData → Prop
  | nil : DtAll K S [] []
  | cons {v : V} {vs : List V} {d : PyData} {ds : List PyData} : Dt K S v d → DtAll K S vs ds → DtAll K S (v :: vs) (d :: ds)
end
section
variable {K : PySem.W.Frag} {S S' : Hp}
mutual
theorem Dt.mono (e : Ex S S') : ∀ {v : V} {d : PyData}, Dt K S v d → Dt K S' v d
  | _, _, .non => .non
  | _, _, .bl b => .bl b
  | _, _, .int i => .int i
  | _, _, .str x => .str x
  | _, _, .lst h t => .lst (e _ _ h) (DtAll.mono e t)
  | _, _, .tup h t => .tup (e _ _ h) (DtAll.mono e t)
theorem DtAll.mono (e : Ex S S') : ∀ {vs : List V} {ds : List PyData}, DtAll K S vs ds → DtAll K S' vs ds
  | _, _, .nil => .nil
  | _, _, .cons h t => .cons (Dt.mono e h) (DtAll.mono e t)
end
mutual
theorem Dt.dp {H : Hp} (e : Ex S H) : ∀ {v : V} {d : PyData}, Dt K S v d → Dp K H v d
  | _, _, .non => .non
  | _, _, .bl b => .bl b
  | _, _, .int i => .int i
  | _, _, .str x => .str x
  | _, _, .lst h t => .lst (SqL.of (e _ _ h)) (DtAll.dp e t)
  | _, _, .tup h t => .tup (SqT.of (e _ _ h)) (DtAll.dp e t)
theorem DtAll.dp {H : Hp} (e : Ex S H) : ∀ {vs : List V} {ds : List PyData}, DtAll K S vs ds → DpAll K H vs ds
  | _, _, .nil => .nil
  | _, _, .cons h t => .cons (Dt.dp e h) (DtAll.dp e t)
end
theorem DtAll.len : ∀ {vs : List V} {ds : List PyData}, DtAll K S vs ds → vs.length = ds.length
  | _, _, .nil => rfl
  | _, _, .cons _ t => congrArg (· + 1) (DtAll.len t)
theorem DtAll.get : ∀ {vs : List V} {ds : List PyData} {i : Nat} {d : PyData}, DtAll K S vs ds → ds[i]? = some d → ∃ v, vs[i]? = some v ∧ Dt K S v d
  | _, _, _, _, .nil, e => by simp at e
  | _, _, 0, _, .cons h _, e => by simp at e; subst e; exact ⟨_, rfl, h⟩
  | _, _, i + 1, d, .cons _ t, e => by
    obtain ⟨v, h1, h2⟩ := DtAll.get (i := i) (d := d) t (by simpa using e)
    exact ⟨v, by simpa using h1, h2⟩
theorem DtAll.app : ∀ {vs ws : List V} {ds es : List PyData}, DtAll K S vs ds → DtAll K S ws es → DtAll K S (vs ++ ws) (ds ++ es)
  | _, _, _, _, .nil, s => s
  | _, _, _, _, .cons h t, s => .cons h (DtAll.app t s)
theorem DtAll.take : ∀ {vs : List V} {ds : List PyData} (n : Nat), DtAll K S vs ds → DtAll K S (vs.take n) (ds.take n)
  | _, _, 0, _ => .nil
  | _, _, _ + 1, .nil => .nil
  | _, _, n + 1, .cons h t => .cons h (DtAll.take n t)
theorem DtAll.drop : ∀ {vs : List V} {ds : List PyData} (n : Nat), DtAll K S vs ds → DtAll K S (vs.drop n) (ds.drop n)
  | _, _, 0, h => h
  | _, _, _ + 1, .nil => .nil
  | _, _, n + 1, .cons _ t => DtAll.drop n t
theorem DtAll.set {v : V} {d : PyData} (h : Dt K S v d) : ∀ {vs : List V} {ds : List PyData} (i : Nat), DtAll K S vs ds → DtAll K S (vs.set i v) (ds.set i d)
  | _, _, _, .nil => .nil
  | _, _, 0, .cons _ t => .cons h t
  | _, _, i + 1, .cons q t => .cons q (DtAll.set h i t)
theorem DtAll.rev : ∀ {vs : List V} {ds : List PyData}, DtAll K S vs ds → DtAll K S vs.reverse ds.reverse
  | _, _, .nil => .nil
  | _, _, .cons h t => by
    rw [List.reverse_cons, List.reverse_cons]
    exact (DtAll.rev t).app (.cons h .nil)
theorem DtAll.ints : ∀ {vs : List V} {ns : List Int}, DtAll K S vs (ns.map PyData.int) → vs = ns.map V.int
  | _, [], .nil => rfl
  | _, n :: ns, .cons h t => by
    cases h
    rw [DtAll.ints t]; rfl
theorem DtAll.of_ints : ∀ (ns : List Int), DtAll K S (ns.map V.int) (ns.map PyData.int)
  | [] => .nil
  | n :: ns => .cons (.int n) (DtAll.of_ints ns)
theorem DtAll.bls : ∀ {vs : List V} {ns : List Bool}, DtAll K S vs (ns.map PyData.bool) → vs = ns.map V.bl
  | _, [], .nil => rfl
  | _, n :: ns, .cons h t => by
    cases h
    rw [DtAll.bls t]; rfl
theorem DtAll.strs : ∀ {vs : List V} {ns : List Str}, DtAll K S vs (ns.map PyData.str) → vs = ns.map V.str
  | _, [], .nil => rfl
  | _, n :: ns, .cons h t => by
    cases h
    rw [DtAll.strs t]; rfl
theorem DtAll.of_strs : ∀ (ns : List Str), DtAll K S (ns.map V.str) (ns.map PyData.str)
  | [] => .nil
  | n :: ns => .cons (.str n) (DtAll.of_strs ns)
end

/-! ### slots -/
/-- what is known of a slot's (or an expression's) value -/
inductive Sl where
  /-- nothing -/
  | un
  /-- data that nobody changes any more -/
  | d (x : PyData)
  /-- this very value -/
  | raw (v : V)
  /-- a list of our own that nothing else refers to -/
  | lst (ds : List PyData)
  /-- a list that is only looked at -/
  | bor (ds : List PyData)
  /-- the list at this address, handed in to be changed -/
  | src (a : Addr) (ds : List PyData)
  /-- dicts of our own -/
  | dK (kvs : List (Key × PyData))
  | dT (kvs : List (List Key × PyData))
  /-- dicts that are only looked at -/
  | bK (kvs : List (Key × PyData))
  | bT (kvs : List (List Key × PyData))
  /-- dicts that nobody changes any more -/
  | sK (kvs : List (Key × PyData))
  | sT (kvs : List (List Key × PyData))
  /-- a list that is only read, for good (the script) -/
  | sq (ds : List PyData)

def KvD {κ : Type} (K : PySem.W.Frag) (S : Hp) : List (κ × V) → List (κ × PyData) → Prop := Paired fun (p : κ × V) (q : κ × PyData) => p.1 = q.1 ∧ Dt K S p.2 q.2
theorem KvD.mono {κ : Type} {K : PySem.W.Frag} {S S' : Hp} (e : Ex S S') : ∀ {xs : List (κ × V)} {ys : List (κ × PyData)}, KvD K S xs ys → KvD K S' xs ys
  | _, _, .nil => .nil
  | _, _, .cons h t => .cons ⟨h.1, h.2.mono e⟩ (KvD.mono e t)

/-- S: what never changes; H: all; own: the slot that owns a changing object -/
structure Z where
  S : Hp
  H : Hp
  own : Addr → Option Nat
/-- a def's frame: B what it leaves as it is (what its caller tracks), S0 the unchanging part at its entry; E what is wanted of an exception, px the classes that may leave -/
structure Fx where
  K : PySem.W.Frag
  B : Hp
  S0 : Hp
  E : XK
  px : Addr → Prop
structure ZOk (F : Fx) (z : Z) : Prop where
  sub : Ex z.S z.H
  base : Ex F.B z.H
  s0 : Ex F.S0 z.S
  own : ∀ a i, z.own a = some i → z.S a = none ∧ F.B a = none ∧ ∃ o, z.H a = some o
  fresh : ∀ a o, F.B a = some o → z.S a = F.S0 a
/-- the wish of exceptions is served -/
def Fx.Ok (F : Fx) : Prop := ∀ z C, ZOk F z → F.px C → F.E (.ref C) none z.H

/-- o: the slot that owns it (none: a value on its way) -/
def VOk (F : Fx) (z : Z) (o : Option Nat) (v : V) : Sl → Prop
  | .un => True
  | .d x => Dt F.K z.S v x
  | .raw w => v = w
  | .lst ds => ∃ a xs, v = .ref a ∧ z.H a = some (.lst xs) ∧ z.own a = o ∧ z.S a = none ∧ F.B a = none ∧ DtAll F.K z.S xs ds
  | .bor ds => o = none ∧ ∃ a xs, v = .ref a ∧ z.H a = some (.lst xs) ∧ DtAll F.K z.S xs ds
  | .src a ds => ∃ xs, v = .ref a ∧ z.H a = some (.lst xs) ∧ z.own a = o ∧ z.S a = none ∧ F.B a = none ∧ DtAll F.K z.S xs ds
  | .dK kvs => ∃ a xs, v = .ref a ∧ z.H a = some (.dK xs) ∧ z.own a = o ∧ z.S a = none ∧ F.B a = none ∧ KvD F.K z.S xs kvs
  | .dT kvs => ∃ a xs, v = .ref a ∧ z.H a = some (.dT xs) ∧ z.own a = o ∧ z.S a = none ∧ F.B a = none ∧ KvD F.K z.S xs kvs
  | .bK kvs => o = none ∧ ∃ a xs, v = .ref a ∧ z.H a = some (.dK xs) ∧ KvD F.K z.S xs kvs
  | .bT kvs => o = none ∧ ∃ a xs, v = .ref a ∧ z.H a = some (.dT xs) ∧ KvD F.K z.S xs kvs
  | .sK kvs => ∃ a xs, v = .ref a ∧ z.S a = some (.dK xs) ∧ KvD F.K z.S xs kvs
  | .sT kvs => ∃ a xs, v = .ref a ∧ z.S a = some (.dT xs) ∧ KvD F.K z.S xs kvs
  | .sq ds => ∃ a xs, v = .ref a ∧ SqL F.K z.S a xs ∧ DtAll F.K z.S xs ds

/-- the slots are as Γ says -/
structure SOk (F : Fx) (z : Z) (σ : L2.St) (Γ : List Sl) : Prop where
  len : Γ.length = σ.length
  at_ : ∀ i s, Γ[i]? = some s → s = .un ∨ ∃ v, σ[i]? = some (some v) ∧ VOk F z (some i) v s

/-- only new things (pure code) -/
structure Add (z z' : Z) : Prop where
  s : Ex z.S z'.S
  h : ∀ a o, z.H a = some o → z'.H a = some o ∧ z'.S a = z.S a
  own : z'.own = z.own
/-- what is not a slot's stays (code that may change what slots own) -/
structure Ext (z z' : Z) : Prop where
  s : Ex z.S z'.S
  h : ∀ a o, z.H a = some o → z.own a = none → z'.H a = some o ∧ z'.own a = none ∧ z'.S a = z.S a
  dom : ∀ a, z'.H a = none → z.H a = none
/-- a changing object on its way is new -/
def New (z : Z) (v : V) : Sl → Prop
  | .lst _ => ∃ p, v = .ref p ∧ z.H p = none
  | .dK _ => ∃ p, v = .ref p ∧ z.H p = none
  | .dT _ => ∃ p, v = .ref p ∧ z.H p = none
  | _ => True
theorem Add.refl (z : Z) : Add z z := ⟨Ex.refl _, fun _ _ h => ⟨h, rfl⟩, rfl⟩
theorem Add.trans {x y z : Z} (a : Add x y) (b : Add y z) : Add x z :=
  ⟨a.s.trans b.s, fun c o h => ⟨(b.h c o (a.h c o h).1).1, (b.h c o (a.h c o h).1).2.trans (a.h c o h).2⟩, b.own.trans a.own⟩
theorem Add.dom {z z' : Z} (a : Add z z') (p : Addr) (h : z'.H p = none) : z.H p = none := by
  cases q : z.H p with
  | none => rfl
  | some o => rw [(a.h p o q).1] at h; cases h
theorem Add.ext {z z' : Z} (a : Add z z') : Ext z z' := ⟨a.s, fun c o h n => ⟨(a.h c o h).1, by rw [a.own]; exact n, (a.h c o h).2⟩, a.dom⟩
theorem New.back {z z' : Z} {v : V} {s : Sl} (d : ∀ a, z'.H a = none → z.H a = none) (h : New z' v s) : New z v s := by
  cases s with
  | lst ds => obtain ⟨p, e, n⟩ := h; exact ⟨p, e, d p n⟩
  | dK ds => obtain ⟨p, e, n⟩ := h; exact ⟨p, e, d p n⟩
  | dT ds => obtain ⟨p, e, n⟩ := h; exact ⟨p, e, d p n⟩
  | _ => trivial
theorem Ext.refl (z : Z) : Ext z z := (Add.refl z).ext
theorem Ext.trans {x y z : Z} (a : Ext x y) (b : Ext y z) : Ext x z :=
  ⟨a.s.trans b.s, fun c o h n =>
    have q := a.h c o h n
    have r := b.h c o q.1 q.2.1
    ⟨r.1, r.2.1, r.2.2.trans q.2.2⟩, fun c h => a.dom c (b.dom c h)⟩
section
variable {F : Fx} {z z' : Z} {v : V} {s : Sl} {σ : L2.St} {Γ : List Sl}
theorem VOk.add {o : Option Nat} (a : Add z z') (h : VOk F z o v s) : VOk F z' o v s := by
  cases s with
  | un => exact h
  | d x => exact Dt.mono a.s h
  | raw w => exact h
  | lst ds => obtain ⟨p, xs, e, h1, h2, h3, h4, h5⟩ := h; exact ⟨p, xs, e, (a.h _ _ h1).1, by rw [a.own]; exact h2, by rw [(a.h _ _ h1).2]; exact h3, h4, h5.mono a.s⟩
  | bor ds => obtain ⟨h0, p, xs, e, h1, h5⟩ := h; exact ⟨h0, p, xs, e, (a.h _ _ h1).1, h5.mono a.s⟩
  | bK ds => obtain ⟨h0, p, xs, e, h1, h5⟩ := h; exact ⟨h0, p, xs, e, (a.h _ _ h1).1, h5.mono a.s⟩
  | bT ds => obtain ⟨h0, p, xs, e, h1, h5⟩ := h; exact ⟨h0, p, xs, e, (a.h _ _ h1).1, h5.mono a.s⟩
  | src p ds => obtain ⟨xs, e, h1, h2, h3, h4, h5⟩ := h; exact ⟨xs, e, (a.h _ _ h1).1, by rw [a.own]; exact h2, by rw [(a.h _ _ h1).2]; exact h3, h4, h5.mono a.s⟩
  | dK ds => obtain ⟨p, xs, e, h1, h2, h3, h4, h5⟩ := h; exact ⟨p, xs, e, (a.h _ _ h1).1, by rw [a.own]; exact h2, by rw [(a.h _ _ h1).2]; exact h3, h4, h5.mono a.s⟩
  | dT ds => obtain ⟨p, xs, e, h1, h2, h3, h4, h5⟩ := h; exact ⟨p, xs, e, (a.h _ _ h1).1, by rw [a.own]; exact h2, by rw [(a.h _ _ h1).2]; exact h3, h4, h5.mono a.s⟩
  | sK ds => obtain ⟨p, xs, e, h1, h5⟩ := h; exact ⟨p, xs, e, a.s _ _ h1, h5.mono a.s⟩
  | sT ds => obtain ⟨p, xs, e, h1, h5⟩ := h; exact ⟨p, xs, e, a.s _ _ h1, h5.mono a.s⟩
  | sq ds => obtain ⟨p, xs, e, h1, h5⟩ := h; exact ⟨p, xs, e, ex_l a.s h1, h5.mono a.s⟩
theorem SOk.add (a : Add z z') (h : SOk F z σ Γ) : SOk F z' σ Γ :=
  ⟨h.len, fun i s e => (h.at_ i s e).elim .inl fun ⟨v, h1, h2⟩ => .inr ⟨v, h1, h2.add a⟩⟩
/-- values on their way that stay behind impure code -/
def Sl.way : Sl → Bool
  | .bor _ => false
  | .bK _ => false
  | .bT _ => false
  | _ => true
theorem VOk.ext (a : Ext z z') (w : s.way = true) (h : VOk F z none v s) : VOk F z' none v s := by
  cases s with
  | un => exact h
  | d x => exact Dt.mono a.s h
  | raw w => exact h
  | lst ds => obtain ⟨p, xs, e, h1, h2, h3, h4, h5⟩ := h; have q := a.h _ _ h1 h2; exact ⟨p, xs, e, q.1, q.2.1, by rw [q.2.2]; exact h3, h4, h5.mono a.s⟩
  | bor ds => cases w
  | bK ds => cases w
  | bT ds => cases w
  | src p ds => obtain ⟨xs, e, h1, h2, h3, h4, h5⟩ := h; have q := a.h _ _ h1 h2; exact ⟨xs, e, q.1, q.2.1, by rw [q.2.2]; exact h3, h4, h5.mono a.s⟩
  | dK ds => obtain ⟨p, xs, e, h1, h2, h3, h4, h5⟩ := h; have q := a.h _ _ h1 h2; exact ⟨p, xs, e, q.1, q.2.1, by rw [q.2.2]; exact h3, h4, h5.mono a.s⟩
  | dT ds => obtain ⟨p, xs, e, h1, h2, h3, h4, h5⟩ := h; have q := a.h _ _ h1 h2; exact ⟨p, xs, e, q.1, q.2.1, by rw [q.2.2]; exact h3, h4, h5.mono a.s⟩
  | sK ds => obtain ⟨p, xs, e, h1, h5⟩ := h; exact ⟨p, xs, e, a.s _ _ h1, h5.mono a.s⟩
  | sT ds => obtain ⟨p, xs, e, h1, h5⟩ := h; exact ⟨p, xs, e, a.s _ _ h1, h5.mono a.s⟩
  | sq ds => obtain ⟨p, xs, e, h1, h5⟩ := h; exact ⟨p, xs, e, ex_l a.s h1, h5.mono a.s⟩

/-- a new object that nobody will change -/
def Z.sh (z : Z) (p : Addr) (o : HO) : Z := ⟨upd z.S p o, upd z.H p o, z.own⟩
/-- a new object that may be changed -/
def Z.tmp (z : Z) (p : Addr) (o : HO) : Z := ⟨z.S, upd z.H p o, z.own⟩
theorem ZOk.free (h : ZOk F z) {p : Addr} (n : z.H p = none) : z.S p = none ∧ F.B p = none ∧ z.own p = none := by
  refine ⟨h.sub.none n, h.base.none n, ?_⟩
  cases q : z.own p with
  | none => rfl
  | some i => obtain ⟨_, _, o, e⟩ := h.own p i q; rw [n] at e; cases e
theorem ZOk.sh (h : ZOk F z) {p : Addr} {o : HO} (n : z.H p = none) : ZOk F (z.sh p o) := by
  obtain ⟨n1, n2, n3⟩ := h.free n
  refine ⟨fun a u e => ?_, fun a u e => (Ex.upd n) _ _ (h.base a u e), fun a u e => (Ex.upd n1) _ _ (h.s0 a u e), fun a i e => ?_, fun a u e => ?_⟩
  · by_cases ha : a = p
    · subst ha; rw [show (z.sh a o).S a = some o from upd_same] at e; rw [show (z.sh a o).H a = some o from upd_same]; exact e
    · rw [show (z.sh p o).S a = z.S a from upd_ne ha] at e; rw [show (z.sh p o).H a = z.H a from upd_ne ha]; exact h.sub _ _ e
  · have ha : a ≠ p := fun q => by subst q; rw [show (z.sh a o).own a = z.own a from rfl, n3] at e; cases e
    obtain ⟨q1, q2, u, q3⟩ := h.own a i e
    exact ⟨(upd_ne ha).trans q1, q2, u, (upd_ne ha).trans q3⟩
  · have ha : a ≠ p := fun q => by subst q; rw [n2] at e; cases e
    exact (upd_ne ha).trans (h.fresh a u e)
theorem ZOk.tmp (h : ZOk F z) {p : Addr} {o : HO} (n : z.H p = none) : ZOk F (z.tmp p o) := by
  obtain ⟨n1, n2, n3⟩ := h.free n
  refine ⟨fun a u e => ?_, fun a u e => (Ex.upd n) _ _ (h.base a u e), h.s0, fun a i e => ?_, h.fresh⟩
  · have ha : a ≠ p := fun q => by subst q; rw [show (z.tmp a o).S a = z.S a from rfl, n1] at e; cases e
    exact (upd_ne ha).trans (h.sub _ _ e)
  · have ha : a ≠ p := fun q => by subst q; rw [show (z.tmp a o).own a = z.own a from rfl, n3] at e; cases e
    obtain ⟨q1, q2, u, q3⟩ := h.own a i e
    exact ⟨q1, q2, u, (upd_ne ha).trans q3⟩
theorem Add.sh (h : ZOk F z) {p : Addr} {o : HO} (n : z.H p = none) : Add z (z.sh p o) := by
  refine ⟨Ex.upd (h.sub.none n), fun a u e => ?_, rfl⟩
  have ha := ne_of_none e n
  exact ⟨(upd_ne ha).trans e, upd_ne ha⟩
theorem Add.tmp {p : Addr} {o : HO} (n : z.H p = none) : Add z (z.tmp p o) :=
  ⟨Ex.refl _, fun a u e => ⟨(upd_ne (ne_of_none e n)).trans e, rfl⟩, rfl⟩
theorem VOk.sh_lst (h : ZOk F z) {p : Addr} {xs : List V} {ds : List PyData} (n : z.H p = none) (q : DtAll F.K z.S xs ds) : VOk F (z.sh p (.lst xs)) none (.ref p) (.d (.list ds)) :=
  .lst upd_same (q.mono (Add.sh h n).s)
theorem VOk.sh_tup (h : ZOk F z) {p : Addr} {xs : List V} {ds : List PyData} (n : z.H p = none) (q : DtAll F.K z.S xs ds) : VOk F (z.sh p (.tup xs)) none (.ref p) (.d (.tuple ds)) :=
  .tup upd_same (q.mono (Add.sh h n).s)
theorem VOk.tmp_lst (h : ZOk F z) {p : Addr} {xs : List V} {ds : List PyData} (n : z.H p = none) (q : DtAll F.K z.S xs ds) : VOk F (z.tmp p (.lst xs)) none (.ref p) (.lst ds) :=
  have f := h.free n
  ⟨p, xs, rfl, upd_same, f.2.2, f.1, f.2.1, q⟩
end

/-! ### readings -/
section
variable (F : Fx)
/-- an expression gives this, and makes new things at most -/
def EvS (te : TE) (Γ : List Sl) (s : Sl) : Prop := ∀ (z : Z) (σ : L2.St) (Q : VK), ZOk F z → SOk F z σ Γ → (∀ v z', Add z z' → ZOk F z' → VOk F z' none v s → New z v s → Q v z'.H) → te σ z.H Q
def EvT (tt : TT) (Γ : List Sl) (b : Bool) : Prop := ∀ (z : Z) (σ : L2.St) (Q : Bool → Hp → Prop), ZOk F z → SOk F z σ Γ → (∀ z', Add z z' → ZOk F z' → Q b z'.H) → tt σ z.H Q
/-- values in a row -/
def VAll (F : Fx) (z : Z) : List V → List Sl → Prop := Paired fun v s => VOk F z none v s
def EvA (ta : TA) (Γ : List Sl) (ss : List Sl) : Prop := ∀ (z : Z) (σ : L2.St) (Q : List V → Hp → Prop), ZOk F z → SOk F z σ Γ → (∀ vs z', Add z z' → ZOk F z' → VAll F z' vs ss → Q vs z'.H) → ta σ z.H Q
/-- an expression may change what slots own -/
def WpE (te : TE) (Γ : List Sl) (k : Sl → List Sl → Prop) : Prop := ∀ (z : Z) (σ : L2.St) (Q : VK), F.Ok → ZOk F z → SOk F z σ Γ → (∀ v s Γ' z', k s Γ' → Ext z z' → ZOk F z' → SOk F z' σ Γ' → VOk F z' none v s → New z v s → Q v z'.H) → te σ z.H Q
def WpT (tt : TT) (Γ : List Sl) (k : Bool → List Sl → Prop) : Prop := ∀ (z : Z) (σ : L2.St) (Q : Bool → Hp → Prop), F.Ok → ZOk F z → SOk F z σ Γ → (∀ b Γ' z', k b Γ' → Ext z z' → ZOk F z' → SOk F z' σ Γ' → Q b z'.H) → tt σ z.H Q
def WpA (ta : TA) (Γ : List Sl) (k : List Sl → List Sl → Prop) : Prop := ∀ (z : Z) (σ : L2.St) (Q : List V → Hp → Prop), F.Ok → ZOk F z → SOk F z σ Γ → (∀ vs ss Γ' z', k ss Γ' → Ext z z' → ZOk F z' → SOk F z' σ Γ' → VAll F z' vs ss → Q vs z'.H) → ta σ z.H Q
/-- a target takes the value -/
def WpG (g : TG) (s : Sl) (Γ : List Sl) (k : List Sl → Prop) : Prop := ∀ (z : Z) (σ : L2.St) (v : V) (Q : L2.St → Hp → Prop), F.Ok → ZOk F z → SOk F z σ Γ → VOk F z none v s → (∀ Γ' σ' z', k Γ' → Ex z.S z'.S → ZOk F z' → SOk F z' σ' Γ' → Q σ' z'.H) → g v σ z.H Q
structure Real (nx : List Sl → Prop) (rt : Sl → List Sl → Prop) (bk ct : List Sl → Prop) (S : Hp) (D : Ends) : Prop where
  nx : ∀ Γ σ z, nx Γ → Ex S z.S → ZOk F z → SOk F z σ Γ → D.nx σ z.H
  rt : ∀ v s Γ σ z, rt s Γ → Ex S z.S → ZOk F z → SOk F z σ Γ → VOk F z none v s → D.rt v z.H
  bk : ∀ Γ σ z, bk Γ → Ex S z.S → ZOk F z → SOk F z σ Γ → D.bk σ z.H
  ct : ∀ Γ σ z, ct Γ → Ex S z.S → ZOk F z → SOk F z σ Γ → D.ct σ z.H
def Wp (t : TS) (Γ : List Sl) (nx : List Sl → Prop) (rt : Sl → List Sl → Prop) (bk ct : List Sl → Prop) : Prop := ∀ (z : Z) (σ : L2.St) (D : Ends), F.Ok → ZOk F z → SOk F z σ Γ → Real F nx rt bk ct z.S D → t D σ z.H
end

section
variable {F : Fx} {te ta tb tc : TE} {tt tu : TT} {Γ : List Sl} {nx bk ct : List Sl → Prop} {rt : Sl → List Sl → Prop} {t u : TS} {k : Sl → List Sl → Prop}
theorem Real.mono {S S' : Hp} {D : Ends} (r : Real F nx rt bk ct S D) (e : Ex S S') : Real F nx rt bk ct S' D :=
  ⟨fun Γ σ z p q => r.nx Γ σ z p (e.trans q), fun v s Γ σ z p q => r.rt v s Γ σ z p (e.trans q), fun Γ σ z p q => r.bk Γ σ z p (e.trans q), fun Γ σ z p q => r.ct Γ σ z p (e.trans q)⟩
theorem EvS.wp {s : Sl} (h : EvS F te Γ s) (q : k s Γ) : WpE F te Γ k := fun z σ Q hF hz hs c =>
  h z σ Q hz hs fun v z' a hz' hv hn => c v s Γ z' q a.ext hz' (hs.add a) hv hn
theorem EvT.wp {b : Bool} {k : Bool → List Sl → Prop} (h : EvT F tt Γ b) (q : k b Γ) : WpT F tt Γ k := fun z σ Q hF hz hs c =>
  h z σ Q hz hs fun z' a hz' => c b Γ z' q a.ext hz' (hs.add a)
theorem EvA.wp {ta : TA} {ss : List Sl} {k : List Sl → List Sl → Prop} (h : EvA F ta Γ ss) (q : k ss Γ) : WpA F ta Γ k := fun z σ Q hF hz hs c =>
  h z σ Q hz hs fun v z' a hz' hv => c v ss Γ z' q a.ext hz' (hs.add a) hv
theorem WpE.mono {k' : Sl → List Sl → Prop} (h : WpE F te Γ k) (q : ∀ s Γ', k s Γ' → k' s Γ') : WpE F te Γ k' := fun z σ Q hF hz hs c =>
  h z σ Q hF hz hs fun v s Γ' z' hk => c v s Γ' z' (q _ _ hk)

/-! ### statements -/
theorem wp_seq (h : Wp F t Γ (fun Γ' => Wp F u Γ' nx rt bk ct) rt bk ct) : Wp F (tSeq t u) Γ nx rt bk ct := fun z σ D hF hz hs r =>
  h z σ _ hF hz hs ⟨fun Γ' σ' z' p e hz' hs' => p z' σ' D hF hz' hs' (r.mono e), r.rt, r.bk, r.ct⟩
theorem wp_next (h : nx Γ) : Wp F tNext Γ nx rt bk ct := fun z σ D _ hz hs r => r.nx _ _ _ h (Ex.refl _) hz hs
theorem wp_break (h : bk Γ) : Wp F tBreak Γ nx rt bk ct := fun z σ D _ hz hs r => r.bk _ _ _ h (Ex.refl _) hz hs
theorem wp_cont (h : ct Γ) : Wp F tCont Γ nx rt bk ct := fun z σ D _ hz hs r => r.ct _ _ _ h (Ex.refl _) hz hs
theorem wp_never (h : False) : Wp F tNever Γ nx rt bk ct := h.elim
theorem wp_drop (h : WpE F te Γ fun _ Γ' => nx Γ') : Wp F (tDrop te) Γ nx rt bk ct := fun z σ D hF hz hs r =>
  h z σ _ hF hz hs fun v s Γ' z' hk e hz' hs' hv _ => r.nx _ _ _ hk e.s hz' hs'
theorem wp_ret (h : WpE F te Γ rt) : Wp F (tRet te) Γ nx rt bk ct := fun z σ D hF hz hs r =>
  h z σ _ hF hz hs fun v s Γ' z' hk e hz' hs' hv _ => r.rt _ _ _ _ _ hk e.s hz' hs' hv
theorem wp_retN (h : rt (.d .none) Γ) : Wp F tRetN Γ nx rt bk ct := fun z σ D hF hz hs r => r.rt _ _ _ _ _ h (Ex.refl _) hz hs .non
theorem wp_ifW (h : WpT F tt Γ fun b Γ' => (b = true → Wp F t Γ' nx rt bk ct) ∧ (b = false → Wp F u Γ' nx rt bk ct)) : Wp F (tIfS tt t u) Γ nx rt bk ct := fun z σ D hF hz hs r =>
  h z σ _ hF hz hs fun b Γ' z' hk e hz' hs' => by
    cases b with
    | true => rw [if_pos rfl]; exact hk.1 rfl z' σ D hF hz' hs' (r.mono e.s)
    | false => rw [if_neg Bool.false_ne_true]; exact hk.2 rfl z' σ D hF hz' hs' (r.mono e.s)
theorem wp_if {b : Bool} (h : EvT F tt Γ b) (h1 : b = true → Wp F t Γ nx rt bk ct) (h2 : b = false → Wp F u Γ nx rt bk ct) : Wp F (tIfS tt t u) Γ nx rt bk ct := wp_ifW (h.wp ⟨h1, h2⟩)
theorem wp_if1 (h : EvT F tt Γ true) (h1 : Wp F t Γ nx rt bk ct) : Wp F (tIfS tt t u) Γ nx rt bk ct := wp_if h (fun _ => h1) fun e => nomatch e
theorem wp_if0 (h : EvT F tt Γ false) (h1 : Wp F u Γ nx rt bk ct) : Wp F (tIfS tt t u) Γ nx rt bk ct := wp_if h (fun e => nomatch e) fun _ => h1
theorem wp_asgG {g : TG} (h : WpE F te Γ fun s Γ' => WpG F g s Γ' nx) : Wp F (tAsg te g) Γ nx rt bk ct := fun z σ D hF hz hs r =>
  h z σ _ hF hz hs fun v s Γ' z' hk e hz' hs' hv _ => hk z' σ v _ hF hz' hs' hv fun Γ2 σ2 z2 p e2 hz2 hs2 => r.nx _ _ _ p (e.s.trans e2) hz2 hs2

/-- a slot takes a value: what may be kept in a slot -/
def Sl.keep : Sl → Bool
  | .bor _ => false
  | .bK _ => false
  | .bT _ => false
  | .src _ _ => false
  | _ => true
theorem SOk.other {z : Z} {σ : L2.St} {i : Nat} {v : V} {own' : Addr → Option Nat} (hs : SOk F z σ Γ) {s : Sl} (hi : i < Γ.length) (hv : VOk F ⟨z.S, z.H, own'⟩ (some i) v s) (ho : ∀ a j, j ≠ i → z.own a = some j → own' a = some j) : SOk F ⟨z.S, z.H, own'⟩ (σ.set i (some v)) (Γ.set i s) := by
  refine ⟨by rw [List.length_set, List.length_set]; exact hs.len, fun j s' e => ?_⟩
  by_cases hj : j = i
  · subst hj
    rw [List.getElem?_set_self hi] at e
    cases e
    refine .inr ⟨v, ?_, hv⟩
    rw [List.getElem?_set_self (by rw [← hs.len]; exact hi)]
  · rw [List.getElem?_set_ne (Ne.symm hj)] at e
    refine (hs.at_ j s' e).elim .inl fun ⟨w, h1, h2⟩ => .inr ⟨w, ?_, ?_⟩
    · rw [List.getElem?_set_ne (Ne.symm hj)]; exact h1
    · cases s' with
      | un => exact h2
      | d x => exact h2
      | raw u => exact h2
      | lst ds => obtain ⟨p, xs, e, q1, q2, q3, q4, q5⟩ := h2; exact ⟨p, xs, e, q1, ho _ _ hj q2, q3, q4, q5⟩
      | bor ds => exact nomatch h2.1
      | bK ds => exact nomatch h2.1
      | bT ds => exact nomatch h2.1
      | src p ds => obtain ⟨xs, e, q1, q2, q3, q4, q5⟩ := h2; exact ⟨xs, e, q1, ho _ _ hj q2, q3, q4, q5⟩
      | dK ds => obtain ⟨p, xs, e, q1, q2, q3, q4, q5⟩ := h2; exact ⟨p, xs, e, q1, ho _ _ hj q2, q3, q4, q5⟩
      | dT ds => obtain ⟨p, xs, e, q1, q2, q3, q4, q5⟩ := h2; exact ⟨p, xs, e, q1, ho _ _ hj q2, q3, q4, q5⟩
      | sK ds => exact h2
      | sT ds => exact h2
      | sq ds => exact h2
theorem own_step {z : Z} {p : Addr} {i : Nat} {o : HO} (hz : ZOk F z) (h1 : z.H p = some o) (h2 : z.S p = none) (h3 : F.B p = none) : ZOk F ⟨z.S, z.H, fun a => if a = p then some i else z.own a⟩ := by
  refine ⟨hz.sub, hz.base, hz.s0, fun a j e => ?_, hz.fresh⟩
  by_cases ha : a = p
  · subst ha; exact ⟨h2, h3, o, h1⟩
  · exact hz.own a j (by rw [← e]; show z.own a = if a = p then some i else z.own a; rw [if_neg ha])
theorem wpg_name {i : Nat} {s : Sl} {k : List Sl → Prop} (hi : i < Γ.length) (hk : s.keep = true) (h : k (Γ.set i s)) : WpG F (gName i) s Γ k := by
  intro z σ v Q hF hz hs hv c
  have own1 : ∀ {p : Addr} {o : HO}, z.H p = some o → z.own p = none → z.S p = none → F.B p = none → VOk F ⟨z.S, z.H, fun a => if a = p then some i else z.own a⟩ (some i) v s → Q (σ.set i (some v)) z.H := fun {p o} h1 h2 h3 h4 h5 => by
    refine c _ _ ⟨z.S, z.H, fun a => if a = p then some i else z.own a⟩ h (Ex.refl _) (own_step hz h1 h3 h4) (hs.other hi h5 fun a j _ e => ?_)
    show (if a = p then some i else z.own a) = some j
    rw [if_neg (fun q => by subst q; rw [h2] at e; cases e)]; exact e
  have pure1 : VOk F z (some i) v s → Q (σ.set i (some v)) z.H := fun h5 =>
    c _ _ z h (Ex.refl _) hz (hs.other (own' := z.own) hi h5 fun a j _ e => e)
  show Q (σ.set i (some v)) z.H
  cases s with
  | un => exact pure1 trivial
  | d x => exact pure1 hv
  | raw u => exact pure1 hv
  | lst ds => obtain ⟨p, xs, e, q1, q2, q3, q4, q5⟩ := hv; exact own1 q1 q2 q3 q4 ⟨p, xs, e, q1, if_pos rfl, q3, q4, q5⟩
  | bor ds => cases hk
  | bK ds => cases hk
  | bT ds => cases hk
  | src p ds => cases hk
  | dK ds => obtain ⟨p, xs, e, q1, q2, q3, q4, q5⟩ := hv; exact own1 q1 q2 q3 q4 ⟨p, xs, e, q1, if_pos rfl, q3, q4, q5⟩
  | dT ds => obtain ⟨p, xs, e, q1, q2, q3, q4, q5⟩ := hv; exact own1 q1 q2 q3 q4 ⟨p, xs, e, q1, if_pos rfl, q3, q4, q5⟩
  | sK ds => exact pure1 hv
  | sT ds => exact pure1 hv
  | sq ds => exact pure1 hv
theorem wp_asg {i : Nat} {s : Sl} (h : EvS F te Γ s) (hi : i < Γ.length) (hk : s.keep = true) (q : nx (Γ.set i s)) : Wp F (tAsg te (gName i)) Γ nx rt bk ct := wp_asgG (h.wp (wpg_name hi hk q))
theorem wp_asgW {i : Nat} (h : WpE F te Γ fun s Γ' => s.keep = true ∧ i < Γ'.length ∧ nx (Γ'.set i s)) : Wp F (tAsg te (gName i)) Γ nx rt bk ct := wp_asgG (h.mono fun s Γ' q => wpg_name q.2.1 q.1 q.2.2)

/-- what a slot owns is changed no more -/
theorem wp_share {i : Nat} {ds : List PyData} (hi : Γ[i]? = some (.lst ds)) (h : Wp F t (Γ.set i (.d (.list ds))) nx rt bk ct) : Wp F t Γ nx rt bk ct := by
  intro z σ D hF hz hs r
  obtain ⟨v, h1, p, xs, rfl, q1, q2, q3, q4, q5⟩ := (hs.at_ i _ hi).resolve_left (fun e => nomatch e)
  have hl : i < Γ.length := (List.getElem?_eq_some_iff.mp hi).1
  have e1 : Ex z.S (upd z.S p (.lst xs)) := Ex.upd q3
  let z1 : Z := ⟨upd z.S p (.lst xs), z.H, fun a => if a = p then none else z.own a⟩
  have hz1 : ZOk F z1 := by
    refine ⟨fun a u e => ?_, hz.base, hz.s0.trans e1, fun a j e => ?_, fun a u e => ?_⟩
    · by_cases ha : a = p
      · subst ha; rw [show z1.S a = some (.lst xs) from upd_same] at e; rw [← e]; exact q1
      · rw [show z1.S a = z.S a from upd_ne ha] at e; exact hz.sub _ _ e
    · have ha : a ≠ p := fun q => by subst q; rw [show z1.own a = none from if_pos rfl] at e; cases e
      rw [show z1.own a = z.own a from if_neg ha] at e
      obtain ⟨w1, w2, w3⟩ := hz.own a j e
      exact ⟨(upd_ne ha).trans w1, w2, w3⟩
    · have ha : a ≠ p := fun q => by subst q; rw [q4] at e; cases e
      exact (upd_ne ha).trans (hz.fresh a u e)
  have hs1 : SOk F z1 σ (Γ.set i (.d (.list ds))) := by
    refine ⟨by rw [List.length_set]; exact hs.len, fun j s' e => ?_⟩
    by_cases hj : j = i
    · subst hj
      rw [List.getElem?_set_self hl] at e
      cases e
      exact .inr ⟨_, h1, .lst upd_same (q5.mono e1)⟩
    · rw [List.getElem?_set_ne (Ne.symm hj)] at e
      have ho : ∀ {a : Addr}, z.own a = some j → a ≠ p := fun {a} w q => by subst q; rw [q2] at w; exact hj (Option.some.inj w).symm
      refine (hs.at_ j s' e).elim .inl fun ⟨w, w1, h2⟩ => .inr ⟨w, w1, ?_⟩
      cases s' with
      | un => exact h2
      | d x => exact Dt.mono e1 h2
      | raw u => exact h2
      | lst ds => obtain ⟨a, xs, e, q1, q2, q3, q4, q5⟩ := h2; exact ⟨a, xs, e, q1, (if_neg (ho q2)).trans q2, (upd_ne (ho q2)).trans q3, q4, q5.mono e1⟩
      | bor ds => exact nomatch h2.1
      | bK ds => exact nomatch h2.1
      | bT ds => exact nomatch h2.1
      | src a ds => obtain ⟨xs, e, q1, q2, q3, q4, q5⟩ := h2; exact ⟨xs, e, q1, (if_neg (ho q2)).trans q2, (upd_ne (ho q2)).trans q3, q4, q5.mono e1⟩
      | dK ds => obtain ⟨a, xs, e, q1, q2, q3, q4, q5⟩ := h2; exact ⟨a, xs, e, q1, (if_neg (ho q2)).trans q2, (upd_ne (ho q2)).trans q3, q4, q5.mono e1⟩
      | dT ds => obtain ⟨a, xs, e, q1, q2, q3, q4, q5⟩ := h2; exact ⟨a, xs, e, q1, (if_neg (ho q2)).trans q2, (upd_ne (ho q2)).trans q3, q4, q5.mono e1⟩
      | sK ds => obtain ⟨a, xs, e, q1, q5⟩ := h2; exact ⟨a, xs, e, e1 _ _ q1, q5.mono e1⟩
      | sT ds => obtain ⟨a, xs, e, q1, q5⟩ := h2; exact ⟨a, xs, e, e1 _ _ q1, q5.mono e1⟩
      | sq ds => obtain ⟨a, xs, e, q1, q5⟩ := h2; exact ⟨a, xs, e, ex_l e1 q1, q5.mono e1⟩
  exact h z1 σ D hF hz1 hs1 (r.mono e1)
end
end GL
namespace GL
open PySem PySem.Spec PyProof.Rows L2

/-! ### what a value may be read as -/
def Sl.asD : Sl → Option PyData
  | .d x => some x
  | .lst ds => some (.list ds)
  | .bor ds => some (.list ds)
  | .src _ ds => some (.list ds)
  | .sq ds => some (.list ds)
  | _ => none
def Sl.asL : Sl → Option (List PyData)
  | .d (.list ds) => some ds
  | .lst ds => some ds
  | .bor ds => some ds
  | .src _ ds => some ds
  | _ => none
def Sl.asT : Sl → Option (List PyData)
  | .d (.tuple ds) => some ds
  | _ => none
/-- a list or a tuple -/
def Sl.asQ : Sl → Option (List PyData)
  | .d (.list ds) => some ds
  | .d (.tuple ds) => some ds
  | .lst ds => some ds
  | .bor ds => some ds
  | .src _ ds => some ds
  | .sq ds => some ds
  | _ => none
section
variable {F : Fx} {z z' : Z} {v w : V} {s x y : Sl} {σ : L2.St} {Γ : List Sl} {o : Option Nat} {ds es : List PyData}
theorem VOk.asL (hz : ZOk F z) (h : VOk F z o v s) (e : s.asL = some ds) : ∃ a xs, v = .ref a ∧ z.H a = some (.lst xs) ∧ DtAll F.K z.S xs ds := by
  cases s with
  | d x =>
    cases x with
    | list es =>
      cases Option.some.inj (show some es = some ds from e)
      cases h with
      | lst h1 h2 => exact ⟨_, _, rfl, hz.sub _ _ h1, h2⟩
    | _ => cases e
  | lst es => cases Option.some.inj (show some es = some ds from e); obtain ⟨a, xs, e1, h1, _, _, _, h2⟩ := h; exact ⟨a, xs, e1, h1, h2⟩
  | bor es => cases Option.some.inj (show some es = some ds from e); obtain ⟨_, a, xs, e1, h1, h2⟩ := h; exact ⟨a, xs, e1, h1, h2⟩
  | src a es => cases Option.some.inj (show some es = some ds from e); obtain ⟨xs, e1, h1, _, _, _, h2⟩ := h; exact ⟨a, xs, e1, h1, h2⟩
  | _ => cases e
theorem VOk.asT (hz : ZOk F z) (h : VOk F z o v s) (e : s.asT = some ds) : ∃ a xs, v = .ref a ∧ SqT F.K z.H a xs ∧ z.S a = some (.tup xs) ∧ DtAll F.K z.S xs ds := by
  cases s with
  | d x =>
    cases x with
    | tuple es =>
      cases Option.some.inj (show some es = some ds from e)
      cases h with
      | tup h1 h2 => exact ⟨_, _, rfl, SqT.of (hz.sub _ _ h1), h1, h2⟩
    | _ => cases e
  | _ => cases e
theorem VOk.asQ (hz : ZOk F z) (h : VOk F z o v s) (e : s.asQ = some ds) : ∃ a xs, v = .ref a ∧ (SqL F.K z.H a xs ∨ SqT F.K z.H a xs) ∧ DtAll F.K z.S xs ds := by
  have viaL : s.asL = some ds → ∃ a xs, v = .ref a ∧ (SqL F.K z.H a xs ∨ SqT F.K z.H a xs) ∧ DtAll F.K z.S xs ds := fun e => by
    obtain ⟨a, xs, e1, h1, h2⟩ := h.asL hz e
    exact ⟨a, xs, e1, .inl (SqL.of h1), h2⟩
  cases s with
  | d x =>
    cases x with
    | list es => exact viaL e
    | tuple es =>
      obtain ⟨a, xs, e1, h1, _, h2⟩ := h.asT hz (show Sl.asT (.d (.tuple es)) = some ds from e)
      exact ⟨a, xs, e1, .inr h1, h2⟩
    | _ => cases e
  | lst es => exact viaL e
  | bor es => exact viaL e
  | src a es => exact viaL e
  | sq es => cases Option.some.inj (show some es = some ds from e); obtain ⟨a, xs, e1, h1, h2⟩ := h; exact ⟨a, xs, e1, .inl (ex_l hz.sub h1), h2⟩
  | _ => cases e
theorem VOk.asD {d : PyData} (hz : ZOk F z) (h : VOk F z o v s) (e : s.asD = some d) : Dp F.K z.H v d := by
  have viaL : ∀ {ds}, s.asL = some ds → d = .list ds → Dp F.K z.H v d := fun {ds} e q => by
    obtain ⟨a, xs, e1, h1, h2⟩ := h.asL hz e
    subst e1 q
    exact .lst (SqL.of h1) (h2.dp hz.sub)
  cases s with
  | d x => cases Option.some.inj (show some x = some d from e); exact Dt.dp hz.sub h
  | lst es => exact viaL rfl (Option.some.inj (show some (PyData.list es) = some d from e)).symm
  | bor es => exact viaL rfl (Option.some.inj (show some (PyData.list es) = some d from e)).symm
  | src a es => exact viaL rfl (Option.some.inj (show some (PyData.list es) = some d from e)).symm
  | sq es => cases Option.some.inj (show some (PyData.list es) = some d from e); obtain ⟨a, xs, e1, h1, h2⟩ := h; subst e1; exact .lst (ex_l hz.sub h1) (h2.dp hz.sub)
  | _ => cases e
theorem VOk.d_int {i : Int} (h : VOk F z o v (.d (.int i))) : v = .int i := by cases h; rfl
theorem VOk.d_bool {b : Bool} (h : VOk F z o v (.d (.bool b))) : v = .bl b := by cases h; rfl
theorem VOk.d_str {x : Str} (h : VOk F z o v (.d (.str x))) : v = .str x := by cases h; rfl
theorem VOk.d_none (h : VOk F z o v (.d .none)) : v = .non := by cases h; rfl
theorem VOk.un (h : VOk F z o v s) : VOk F z o v .un := trivial
end

/-! ### operations on values -/
section
variable (F : Fx)
def OpS (r : R2) (x y s : Sl) : Prop := ∀ (z : Z) (v w : V) (Q : VK), ZOk F z → VOk F z none v x → VOk F z none w y → (∀ u z', Add z z' → ZOk F z' → VOk F z' none u s → New z u s → Q u z'.H) → r v w z.H Q
def UnS (r : V → Hp → VK → Prop) (x s : Sl) : Prop := ∀ (z : Z) (v : V) (Q : VK), ZOk F z → VOk F z none v x → (∀ u z', Add z z' → ZOk F z' → VOk F z' none u s → New z u s → Q u z'.H) → r v z.H Q
def CallS (r : List V → Hp → VK → Prop) (ss : List Sl) (s : Sl) : Prop := ∀ (z : Z) (vs : List V) (Q : VK), ZOk F z → VAll F z vs ss → (∀ u z', Add z z' → ZOk F z' → VOk F z' none u s → New z u s → Q u z'.H) → r vs z.H Q
end

section
variable {F : Fx} {te ta tb tc : TE} {tt tu : TT} {tA tB : TA} {Γ : List Sl} {x y s : Sl} {ss : List Sl} {r r' : R2} {i : Nat} {ds es : List PyData}
/-! ### expressions -/
/-- a value in a slot, as it may be told on the way -/
def Sl.look : Sl → Option Sl
  | .un => none
  | .d x => some (.d x)
  | .raw v => some (.raw v)
  | .lst ds => some (.bor ds)
  | .bor ds => some (.bor ds)
  | .src _ ds => some (.bor ds)
  | .dK k => some (.bK k)
  | .dT k => some (.bT k)
  | .bK k => some (.bK k)
  | .bT k => some (.bT k)
  | .sK k => some (.sK k)
  | .sT k => some (.sT k)
  | .sq k => some (.sq k)
theorem VOk.look {F : Fx} {z : Z} {o : Option Nat} {v : V} {s t : Sl} (h : VOk F z o v s) (e : s.look = some t) : VOk F z none v t := by
  cases s with
  | un => cases e
  | d x => cases Option.some.inj e; exact h
  | raw u => cases Option.some.inj e; exact h
  | lst ds => cases Option.some.inj e; obtain ⟨a, xs, e1, h1, _, _, _, h2⟩ := h; exact ⟨rfl, a, xs, e1, h1, h2⟩
  | bor ds => cases Option.some.inj e; exact ⟨rfl, h.2⟩
  | src a ds => cases Option.some.inj e; obtain ⟨xs, e1, h1, _, _, _, h2⟩ := h; exact ⟨rfl, a, xs, e1, h1, h2⟩
  | dK k => cases Option.some.inj e; obtain ⟨a, xs, e1, h1, _, _, _, h2⟩ := h; exact ⟨rfl, a, xs, e1, h1, h2⟩
  | dT k => cases Option.some.inj e; obtain ⟨a, xs, e1, h1, _, _, _, h2⟩ := h; exact ⟨rfl, a, xs, e1, h1, h2⟩
  | bK k => cases Option.some.inj e; exact ⟨rfl, h.2⟩
  | bT k => cases Option.some.inj e; exact ⟨rfl, h.2⟩
  | sK k => cases Option.some.inj e; exact h
  | sT k => cases Option.some.inj e; exact h
  | sq k => cases Option.some.inj e; exact h
theorem look_new {z : Z} {v : V} {t s : Sl} (e : t.look = some s) : New z v s := by
  cases t <;> cases s <;> first | trivial | (cases e)
theorem evs_var {t : Sl} (hi : Γ[i]? = some t) (e : t.look = some s) : EvS F (tVar i) Γ s := fun z σ Q hz hs c => by
  rcases hs.at_ i t hi with h | ⟨v, h1, h2⟩
  · subst h; cases e
  · exact ⟨v, h1, c v z (Add.refl z) hz (h2.look e) (look_new e)⟩
theorem evs_raw {v : V} : EvS F (tC v) Γ (.raw v) := fun z σ Q hz hs c => c v z (Add.refl z) hz rfl trivial
theorem evs_int {j : Int} : EvS F (tC (.int j)) Γ (.d (.int j)) := fun z σ Q hz hs c => c _ z (Add.refl z) hz (.int j) trivial
theorem evs_bl {b : Bool} : EvS F (tC (.bl b)) Γ (.d (.bool b)) := fun z σ Q hz hs c => c _ z (Add.refl z) hz (.bl b) trivial
theorem evs_str {x : Str} : EvS F (tC (.str x)) Γ (.d (.str x)) := fun z σ Q hz hs c => c _ z (Add.refl z) hz (.str x) trivial
theorem evs_non : EvS F (tC .non) Γ (.d .none) := fun z σ Q hz hs c => c _ z (Add.refl z) hz .non trivial

theorem evs_share (h : EvS F te Γ (.lst ds)) : EvS F te Γ (.d (.list ds)) := fun z σ Q hz hs c =>
  h z σ Q hz hs fun v z' a hz' ⟨p, xs, e, q1, q2, q3, q4, q5⟩ ⟨p', e', hp⟩ => by
    obtain rfl : p = p' := V.ref.inj (e.symm.trans e')
    have e1 : Ex z'.S (upd z'.S p (.lst xs)) := Ex.upd q3
    refine c v ⟨upd z'.S p (.lst xs), z'.H, z'.own⟩ ⟨a.s.trans e1, fun b u hb => ⟨(a.h b u hb).1, ?_⟩, a.own⟩ ⟨fun b u hb => ?_, hz'.base, hz'.s0.trans e1, fun b i hb => ?_, fun b u hb => ?_⟩ ?_ trivial
    · exact (upd_ne (ne_of_none hb hp)).trans (a.h b u hb).2
    · by_cases hq : b = p
      · subst hq; exact (q1.trans (upd_same.symm.trans hb))
      · exact hz'.sub _ _ (by rw [← hb]; exact (upd_ne hq).symm)
    · have hq : b ≠ p := fun q => by subst q; rw [show z'.own b = some i from hb] at q2; cases q2
      obtain ⟨w1, w2, w3⟩ := hz'.own b i hb
      exact ⟨(upd_ne hq).trans w1, w2, w3⟩
    · have hq : b ≠ p := fun q => by subst q; rw [q4] at hb; cases hb
      exact (upd_ne hq).trans (hz'.fresh b u hb)
    · subst e; exact .lst upd_same (q5.mono e1)
theorem evs_is (h : EvS F te Γ x) (e : x = s) : EvS F te Γ s := e ▸ h
theorem evt_is {b c : Bool} (h : EvT F tt Γ b) (e : b = c) : EvT F tt Γ c := e ▸ h

theorem evs_op (ha : EvS F ta Γ x) (hb : EvS F tb Γ y) (hr : OpS F r x y s) : EvS F (tOp r ta tb) Γ s := fun z σ Q hz hs c =>
  ha z σ _ hz hs fun v z1 a1 hz1 hv _ => hb z1 σ _ hz1 (hs.add a1) fun w z2 a2 hz2 hw _ => hr z2 v w Q hz2 (hv.add a2) hw fun u z3 a3 hz3 hu hn =>
    c u z3 (a1.trans (a2.trans a3)) hz3 hu (hn.back fun p q => a1.dom p (a2.dom p q))
theorem evs_un {r : V → Hp → VK → Prop} (ha : EvS F ta Γ x) (hr : UnS F r x s) : EvS F (tUn r ta) Γ s := fun z σ Q hz hs c =>
  ha z σ _ hz hs fun v z1 a1 hz1 hv _ => hr z1 v Q hz1 hv fun u z3 a3 hz3 hu hn => c u z3 (a1.trans a3) hz3 hu (hn.back a1.dom)
theorem eva_nil : EvA F tNil Γ [] := fun z σ Q hz hs c => c [] z (Add.refl z) hz .nil
theorem VAll.add {z z' : Z} (a : Add z z') : ∀ {vs : List V} {ss : List Sl}, VAll F z vs ss → VAll F z' vs ss
  | _, _, .nil => .nil
  | _, _, .cons h t => .cons (VOk.add a h) (VAll.add a t)
theorem eva_cons (ha : EvS F ta Γ x) (hr : EvA F tA Γ ss) : EvA F (tCons ta tA) Γ (x :: ss) := fun z σ Q hz hs c =>
  ha z σ _ hz hs fun v z1 a1 hz1 hv _ => hr z1 σ _ hz1 (hs.add a1) fun vs z2 a2 hz2 hvs => c (v :: vs) z2 (a1.trans a2) hz2 (.cons (hv.add a2) hvs)
theorem evs_cb {r : List V → Hp → VK → Prop} (ha : EvA F tA Γ ss) (hr : CallS F r ss s) : EvS F (tCB r tA) Γ s := fun z σ Q hz hs c =>
  ha z σ _ hz hs fun vs z1 a1 hz1 hv => hr z1 vs Q hz1 hv fun u z3 a3 hz3 hu hn => c u z3 (a1.trans a3) hz3 hu (hn.back a1.dom)
/-- data in a row -/
theorem VAll.data {z : Z} : ∀ {vs : List V} {ds : List PyData}, VAll F z vs (ds.map Sl.d) → DtAll F.K z.S vs ds
  | _, [], .nil => .nil
  | _, d :: ds, .cons h t => .cons h (VAll.data t)
def EvD (F : Fx) (tA : TA) (Γ : List Sl) (ds : List PyData) : Prop := EvA F tA Γ (ds.map Sl.d)
theorem evd_nil : EvD F tNil Γ [] := eva_nil
theorem evd_cons {d : PyData} (ha : EvS F ta Γ (.d d)) (hr : EvD F tA Γ ds) : EvD F (tCons ta tA) Γ (d :: ds) := eva_cons ha hr
theorem evs_tup (h : EvD F tA Γ ds) (hl : ds.length ≤ sizeLine) : EvS F (tTup tA) Γ (.d (.tuple ds)) := fun z σ Q hz hs c =>
  h z σ _ hz hs fun vs z1 a1 hz1 hv => ⟨by rw [(VAll.data hv).len]; exact hl, fun p hp => c _ (z1.sh p _) (a1.trans (Add.sh hz1 hp)) (hz1.sh hp) (VOk.sh_tup hz1 hp (VAll.data hv)) trivial⟩
theorem evs_lst (h : EvD F tA Γ ds) (hl : ds.length ≤ sizeLine) : EvS F (tLst tA) Γ (.lst ds) := fun z σ Q hz hs c =>
  h z σ _ hz hs fun vs z1 a1 hz1 hv => ⟨by rw [(VAll.data hv).len]; exact hl, fun p hp => c _ (z1.tmp p _) (a1.trans (Add.tmp hp)) (hz1.tmp hp) (VOk.tmp_lst hz1 hp (VAll.data hv)) ⟨p, rfl, a1.dom p hp⟩⟩
theorem evs_if {b : Bool} (hc : EvT F tt Γ b) (ha : b = true → EvS F ta Γ s) (hb : b = false → EvS F tb Γ s) : EvS F (tIf tt ta tb) Γ s := fun z σ Q hz hs c =>
  hc z σ _ hz hs fun z1 a1 hz1 => by
    cases b with
    | true => rw [if_pos rfl]; exact ha rfl z1 σ Q hz1 (hs.add a1) fun v z2 a2 hz2 hv hn => c v z2 (a1.trans a2) hz2 hv (hn.back a1.dom)
    | false => rw [if_neg Bool.false_ne_true]; exact hb rfl z1 σ Q hz1 (hs.add a1) fun v z2 a2 hz2 hv hn => c v z2 (a1.trans a2) hz2 hv (hn.back a1.dom)
/-- data either way -/
theorem evs_ifD {b : Bool} {d e : PyData} (hc : EvT F tt Γ b) (ha : b = true → EvS F ta Γ (.d d)) (hb : b = false → EvS F tb Γ (.d e)) : EvS F (tIf tt ta tb) Γ (.d (if b = true then d else e)) :=
  evs_if hc (fun q => by rw [if_pos q]; exact ha q) fun q => by rw [if_neg (by rw [q]; exact Bool.false_ne_true)]; exact hb q
theorem evs_if1 (hc : EvT F tt Γ true) (ha : EvS F ta Γ s) : EvS F (tIf tt ta tb) Γ s := evs_if hc (fun _ => ha) fun q => nomatch q
theorem evs_if0 (hc : EvT F tt Γ false) (hb : EvS F tb Γ s) : EvS F (tIf tt ta tb) Γ s := evs_if hc (fun q => nomatch q) fun _ => hb

/-! ### tests -/
theorem evt_B {b : Bool} (h : EvS F te Γ (.d (.bool b))) : EvT F (L2.tB te) Γ b := fun z σ Q hz hs c =>
  h z σ _ hz hs fun v z1 a1 hz1 hv _ => ⟨b, hv.d_bool, c z1 a1 hz1⟩
theorem evt_test {b : Bool} (h : EvS F te Γ (.d (.bool b))) : EvT F (tTest te) Γ b := fun z σ Q hz hs c =>
  h z σ _ hz hs fun v z1 a1 hz1 hv _ => ⟨b, hv.d_bool, c z1 a1 hz1⟩
theorem evt_and {a b : Bool} (h1 : EvT F tt Γ a) (h2 : a = true → EvT F tu Γ b) : EvT F (tAnd tt tu) Γ (a && b) := fun z σ Q hz hs c =>
  h1 z σ _ hz hs fun z1 a1 hz1 => by
    cases a with
    | true => rw [if_pos rfl]; exact h2 rfl z1 σ Q hz1 (hs.add a1) fun z2 a2 hz2 => c z2 (a1.trans a2) hz2
    | false => rw [if_neg Bool.false_ne_true]; exact c z1 a1 hz1
theorem evt_or {a b : Bool} (h1 : EvT F tt Γ a) (h2 : a = false → EvT F tu Γ b) : EvT F (tOr tt tu) Γ (a || b) := fun z σ Q hz hs c =>
  h1 z σ _ hz hs fun z1 a1 hz1 => by
    cases a with
    | true => rw [if_pos rfl]; exact c z1 a1 hz1
    | false => rw [if_neg Bool.false_ne_true]; exact h2 rfl z1 σ Q hz1 (hs.add a1) fun z2 a2 hz2 => c z2 (a1.trans a2) hz2
theorem evt_not {a : Bool} (h1 : EvT F tt Γ a) : EvT F (tNot tt) Γ (!a) := fun z σ Q hz hs c => h1 z σ _ hz hs fun z1 a1 hz1 => c z1 a1 hz1
theorem evs_andV {a b : Bool} (h1 : EvS F ta Γ (.d (.bool a))) (h2 : a = true → EvS F tb Γ (.d (.bool b))) : EvS F (tAndV ta tb) Γ (.d (.bool (a && b))) := fun z σ Q hz hs c =>
  h1 z σ _ hz hs fun v z1 a1 hz1 hv _ => ⟨a, hv.d_bool, by
    cases a with
    | true => rw [if_pos rfl]; exact h2 rfl z1 σ Q hz1 (hs.add a1) fun v z2 a2 hz2 hv hn => c v z2 (a1.trans a2) hz2 hv trivial
    | false => rw [if_neg Bool.false_ne_true]; exact c _ z1 a1 hz1 (.bl false) trivial⟩
theorem evs_orV {a b : Bool} (h1 : EvS F ta Γ (.d (.bool a))) (h2 : a = false → EvS F tb Γ (.d (.bool b))) : EvS F (tOrV ta tb) Γ (.d (.bool (a || b))) := fun z σ Q hz hs c =>
  h1 z σ _ hz hs fun v z1 a1 hz1 hv _ => ⟨a, hv.d_bool, by
    cases a with
    | true => rw [if_pos rfl]; exact c _ z1 a1 hz1 (.bl true) trivial
    | false => rw [if_neg Bool.false_ne_true]; exact h2 rfl z1 σ Q hz1 (hs.add a1) fun v z2 a2 hz2 hv hn => c v z2 (a1.trans a2) hz2 hv trivial⟩
theorem evs_notV {a : Bool} (h1 : EvS F ta Γ (.d (.bool a))) : EvS F (tNotV ta) Γ (.d (.bool (!a))) := fun z σ Q hz hs c =>
  h1 z σ _ hz hs fun v z1 a1 hz1 hv _ => ⟨a, hv.d_bool, c _ z1 a1 hz1 (.bl (!a)) trivial⟩
theorem evs_chain {a b : Bool} {w : Sl} (hx : EvS F ta Γ x) (hy : EvS F tb Γ y) (h1 : OpS F r x y (.d (.bool a))) (hw : a = true → EvS F tc Γ w) (h2 : a = true → OpS F r' y w (.d (.bool b))) : EvS F (tChain r r' ta tb tc) Γ (.d (.bool (a && b))) := fun z σ Q hz hs c =>
  hx z σ _ hz hs fun v z1 a1 hz1 hv _ => hy z1 σ _ hz1 (hs.add a1) fun u z2 a2 hz2 hu _ => h1 z2 v u _ hz2 (hv.add a2) hu fun q z3 a3 hz3 hq _ => ⟨a, hq.d_bool, by
    cases a with
    | true =>
      rw [if_pos rfl]
      exact hw rfl z3 σ _ hz3 (hs.add (a1.trans (a2.trans a3))) fun m z4 a4 hz4 hm _ => h2 rfl z4 u m Q hz4 (hu.add (a3.trans a4)) hm fun n z5 a5 hz5 hn _ => c n z5 (a1.trans (a2.trans (a3.trans (a4.trans a5)))) hz5 hn trivial
    | false => rw [if_neg Bool.false_ne_true]; exact c _ z3 (a1.trans (a2.trans a3)) hz3 (.bl false) trivial⟩
end

/-! ### operators -/
section
variable {F : Fx} {x y s : Sl} {ss : List Sl} {ds es : List PyData} {i j : Int} {d e : PyData} {K : PySem.W.Frag}
/-- a rule whose answer is there at once -/
theorem ops_val {r : R2} (h : ∀ z v w Q, ZOk F z → VOk F z none v x → VOk F z none w y → (∀ u, VOk F z none u (.d d) → Q u z.H) → r v w z.H Q) : OpS F r x y (.d d) := fun z v w Q hz hv hw c =>
  h z v w Q hz hv hw fun u hu => c u z (Add.refl z) hz hu trivial
theorem calls_val {r : List V → Hp → VK → Prop} (h : ∀ z vs Q, ZOk F z → VAll F z vs ss → (∀ u, VOk F z none u (.d d) → Q u z.H) → r vs z.H Q) : CallS F r ss (.d d) := fun z vs Q hz hv c =>
  h z vs Q hz hv fun u hu => c u z (Add.refl z) hz hu trivial
theorem OpS.orl {r r' : R2} (h : OpS F r x y s) : OpS F (fun x y H Q => r x y H Q ∨ r' x y H Q) x y s := fun z v w Q hz hv hw c => .inl (h z v w Q hz hv hw c)
theorem OpS.orr {r r' : R2} (h : OpS F r' x y s) : OpS F (fun x y H Q => r x y H Q ∨ r' x y H Q) x y s := fun z v w Q hz hv hw c => .inr (h z v w Q hz hv hw c)
theorem CallS.orl {r r' : List V → Hp → VK → Prop} (h : CallS F r ss s) : CallS F (fun x H Q => r x H Q ∨ r' x H Q) ss s := fun z v Q hz hv c => .inl (h z v Q hz hv c)
theorem CallS.orr {r r' : List V → Hp → VK → Prop} (h : CallS F r' ss s) : CallS F (fun x H Q => r x H Q ∨ r' x H Q) ss s := fun z v Q hz hv c => .inr (h z v Q hz hv c)
theorem VAll.one {z : Z} {vs : List V} (h : VAll F z vs [x]) : ∃ v, vs = [v] ∧ VOk F z none v x := by
  cases h with
  | cons h t => cases t; exact ⟨_, rfl, h⟩
theorem VAll.two {z : Z} {vs : List V} (h : VAll F z vs [x, y]) : ∃ v w, vs = [v, w] ∧ VOk F z none v x ∧ VOk F z none w y := by
  cases h with
  | cons h t => obtain ⟨w, rfl, hw⟩ := VAll.one t; exact ⟨_, _, rfl, h, hw⟩

theorem ops_I0 {g : Int → Int → Int} : OpS F (rI0 fun i j => .int (g i j)) (.d (.int i)) (.d (.int j)) (.d (.int (g i j))) :=
  ops_val fun z v w Q hz hv hw c => ⟨i, j, hv.d_int, hw.d_int, c _ (.int _)⟩
theorem ops_B0 {g : Int → Int → Bool} : OpS F (rI0 fun i j => .bl (g i j)) (.d (.int i)) (.d (.int j)) (.d (.bool (g i j))) :=
  ops_val fun z v w Q hz hv hw c => ⟨i, j, hv.d_int, hw.d_int, c _ (.bl _)⟩
theorem ops_I {C : Int → Int → Prop} {g : Int → Int → Int} (hc : C i j) : OpS F (rI C fun i j => .int (g i j)) (.d (.int i)) (.d (.int j)) (.d (.int (g i j))) :=
  ops_val fun z v w Q hz hv hw c => ⟨i, j, hv.d_int, hw.d_int, hc, c _ (.int _)⟩
theorem ops_eqD (hx : x.asD = some d) (hy : y.asD = some e) (s1 : SeqAt.shaped d = true) (s2 : SeqAt.shaped e = true) : OpS F (rEqD F.K) x y (.d (.bool (PyData.eqv d e))) :=
  ops_val fun z v w Q hz hv hw c => ⟨d, e, hv.asD hz hx, hw.asD hz hy, s1, s2, c _ (.bl _)⟩
theorem ops_neD (hx : x.asD = some d) (hy : y.asD = some e) (s1 : SeqAt.shaped d = true) (s2 : SeqAt.shaped e = true) : OpS F (rNeD F.K) x y (.d (.bool (!PyData.eqv d e))) :=
  ops_val fun z v w Q hz hv hw c => ⟨d, e, hv.asD hz hx, hw.asD hz hy, s1, s2, c _ (.bl _)⟩
/-- is None -/
def PyData.isN : PyData → Bool
  | .none => true
  | _ => false
theorem dt_non {z : Z} {v : V} (h : VOk F z none v (.d d)) : decide (v = .non) = PyData.isN d := by
  cases h <;> first | rfl | exact decide_eq_false (fun q => nomatch q)
theorem ops_isN : OpS F (fun x y H Q => y = .non ∧ Q (.bl (decide (x = .non))) H) (.d d) (.d .none) (.d (.bool (PyData.isN d))) :=
  ops_val fun z v w Q hz hv hw c => ⟨hw.d_none, by rw [dt_non hv]; exact c _ (.bl _)⟩
theorem ops_notN : OpS F (fun x y H Q => y = .non ∧ Q (.bl (!decide (x = .non))) H) (.d d) (.d .none) (.d (.bool (!PyData.isN d))) :=
  ops_val fun z v w Q hz hv hw c => ⟨hw.d_none, by rw [dt_non hv]; exact c _ (.bl _)⟩
/-- + of ints, texts, tuples, lists -/
def rAddG (K : PySem.W.Frag) : R2 := fun x y H Q => rI0 (fun i j => .int (i + j)) x y H Q ∨ (rCatA K x y H Q ∨ (rCat x y H Q ∨ ∃ i j, x = .str i ∧ y = .str j ∧ i.length + j.length ≤ sizeLine ∧ Q (.str (i ++ j)) H))
theorem op_addG {X : Cx} : OpR X (binaryOp .Add) (rAddG X.K) := OpR.or op_add (OpR.or op_catA (OpR.or op_cat op_add_str))
theorem add_int : OpS F (rAddG K) (.d (.int i)) (.d (.int j)) (.d (.int (i + j))) := fun z v w Q hz hv hw c => .inl (ops_I0 z v w Q hz hv hw c)
theorem add_tup (hl : ds.length + es.length ≤ sizeLine) : OpS F (rAddG F.K) (.d (.tuple ds)) (.d (.tuple es)) (.d (.tuple (ds ++ es))) := fun z v w Q hz hv hw c => by
  obtain ⟨a, xs, rfl, h1, h1s, h2⟩ := hv.asT hz rfl
  obtain ⟨b, ys, rfl, g1, g1s, g2⟩ := hw.asT hz rfl
  refine .inr (.inl ⟨a, b, xs, ys, rfl, rfl, h1, g1, by rw [h2.len, g2.len]; exact hl, fun e => ?_, fun _ e => ?_, fun _ _ p hp => ?_⟩)
  · subst e
    cases h2
    exact c _ z (Add.refl z) hz (.tup g1s g2) trivial
  · subst e
    cases g2
    exact c _ z (Add.refl z) hz (by rw [List.append_nil]; exact .tup h1s h2) trivial
  · exact c _ (z.sh p _) (Add.sh hz hp) (hz.sh hp) (VOk.sh_tup hz hp (h2.app g2)) trivial
theorem add_lst (hx : x.asL = some ds) (hy : y.asL = some es) (hl : ds.length + es.length ≤ sizeLine) : OpS F (rAddG K) x y (.lst (ds ++ es)) := fun z v w Q hz hv hw c => by
  obtain ⟨a, xs, rfl, h1, h2⟩ := hv.asL hz hx
  obtain ⟨b, ys, rfl, g1, g2⟩ := hw.asL hz hy
  exact .inr (.inr (.inl ⟨a, b, xs, ys, rfl, rfl, h1, g1, by rw [h2.len, g2.len]; exact hl, fun p hp => c _ (z.tmp p _) (Add.tmp hp) (hz.tmp hp) (VOk.tmp_lst hz hp (h2.app g2)) ⟨p, rfl, hp⟩⟩))
theorem add_str {a b : Str} (hl : a.length + b.length ≤ sizeLine) : OpS F (rAddG K) (.d (.str a)) (.d (.str b)) (.d (.str (a ++ b))) := fun z v w Q hz hv hw c => by
  refine .inr (.inr (.inr ⟨a, b, hv.d_str, hw.d_str, hl, c _ z (Add.refl z) hz (.str _) trivial⟩))
/-- * -/
def rMulG : R2 := fun x y H Q => rI CMul (fun i j => .int (i * j)) x y H Q ∨ rRep x y H Q
theorem op_mulG {X : Cx} : OpR X (binaryOp .Mult) rMulG := OpR.or op_mul op_rep
theorem mul_int (h : CMul i j) : OpS F rMulG (.d (.int i)) (.d (.int j)) (.d (.int (i * j))) := fun z v w Q hz hv hw c => .inl (ops_I h z v w Q hz hv hw c)
theorem DtAll.flat {S : Hp} {vs : List V} (h : DtAll K S vs ds) : ∀ n : Nat, DtAll K S (List.replicate n vs).flatten (List.replicate n ds).flatten
  | 0 => .nil
  | n + 1 => by rw [List.replicate_succ, List.replicate_succ, List.flatten_cons, List.flatten_cons]; exact h.app (DtAll.flat h n)
theorem mul_lst (hx : x.asL = some ds) (h1 : -(2 ^ 63) ≤ i) (h2 : i < 2 ^ 63) (hl : ds.length * i.toNat ≤ sizeLine) : OpS F rMulG x (.d (.int i)) (.lst (List.replicate i.toNat ds).flatten) := fun z v w Q hz hv hw c => by
  obtain ⟨a, xs, rfl, g1, g2⟩ := hv.asL hz hx
  exact .inr ⟨a, i, xs, rfl, hw.d_int, g1, h1, h2, by rw [g2.len]; exact hl, fun p hp => c _ (z.tmp p _) (Add.tmp hp) (hz.tmp hp) (VOk.tmp_lst hz hp (g2.flat _)) ⟨p, rfl, hp⟩⟩
/-! in, not in -/
def flatD : PyData → Bool
  | .none => true
  | .bool _ => true
  | .int _ => true
  | .str _ => true
  | _ => false
theorem flat_of {S : Hp} {v : V} (h : Dt K S v d) (f : flatD d = true) : flatV v = true := by
  cases h <;> first | rfl | cases f
theorem eqV_of {S : Hp} {v w : V} (h : Dt K S v d) (g : Dt K S w e) (f1 : flatD d = true) (f2 : flatD e = true) : eqV v w = PyData.eqv d e := by
  cases h <;> first | (cases f1; done) | (cases g <;> first | (cases f2; done) | simp [eqV, PyData.eqv])
theorem flats_of {S : Hp} : ∀ {vs : List V} {ds : List PyData}, DtAll K S vs ds → ds.all flatD = true → vs.all flatV = true
  | _, _, .nil, _ => rfl
  | _, _, .cons h t, f => by
    rw [List.all_cons, Bool.and_eq_true] at f
    rw [List.all_cons, flat_of h f.1, flats_of t f.2]; rfl
theorem inV_of {S : Hp} {w : V} (g : Dt K S w e) (f2 : flatD e = true) : ∀ {vs : List V} {ds : List PyData}, DtAll K S vs ds → ds.all flatD = true → inV w vs = ds.any fun z => PyData.eqv z e
  | _, _, .nil, _ => rfl
  | _, _, .cons h t, f => by
    rw [List.all_cons, Bool.and_eq_true] at f
    show (eqV _ w || inV w _) = _
    rw [eqV_of h g f.1 f2, inV_of g f2 t f.2]; rfl
theorem in_seq (hy : y.asQ = some ds) (f1 : flatD d = true) (f2 : ds.all flatD = true) : OpS F (rIn F.K false) (.d d) y (.d (.bool (ds.any fun z => PyData.eqv z d))) :=
  ops_val fun z v w Q hz hv hw c => by
    obtain ⟨a, xs, rfl, h1, h2⟩ := hw.asQ hz hy
    refine ⟨a, xs, rfl, h1, flat_of hv f1, flats_of h2 f2, ?_⟩
    rw [if_neg Bool.false_ne_true, inV_of hv f1 h2 f2]
    exact c _ (.bl _)
theorem notin_seq (hy : y.asQ = some ds) (f1 : flatD d = true) (f2 : ds.all flatD = true) : OpS F (rIn F.K true) (.d d) y (.d (.bool (!ds.any fun z => PyData.eqv z d))) :=
  ops_val fun z v w Q hz hv hw c => by
    obtain ⟨a, xs, rfl, h1, h2⟩ := hw.asQ hz hy
    refine ⟨a, xs, rfl, h1, flat_of hv f1, flats_of h2 f2, ?_⟩
    rw [if_pos rfl, inV_of hv f1 h2 f2]
    exact c _ (.bl _)
/-! subscripts, slices -/
theorem ixN_lt {n : Nat} {i : Int} {k : Nat} (h : ixN n i = some k) : k < n := by
  unfold ixN at h
  split at h
  · split at h
    · cases h; omega
    · cases h
  · split at h
    · cases h; omega
    · cases h
theorem atI_of {S : Hp} {vs : List V} {ds : List PyData} (h : DtAll K S vs ds) (e : atI ds i = some d) : ∃ v, atI vs i = some v ∧ Dt K S v d := by
  unfold atI at e ⊢
  rw [h.len]
  cases q : ixN ds.length i with
  | none => rw [q] at e; cases e
  | some k =>
    rw [q] at e
    exact h.get (show ds[k]? = some d from e)
theorem ix_at (hx : x.asQ = some ds) (e : atI ds i = some d) : OpS F (rIx F.K) x (.d (.int i)) (.d d) :=
  ops_val fun z v w Q hz hv hw c => by
    obtain ⟨a, xs, rfl, h1, h2⟩ := hv.asQ hz hx
    obtain ⟨u, e1, hu⟩ := atI_of h2 e
    rcases h1 with h1 | h1
    · exact .inl ⟨a, xs, i, u, rfl, hw.d_int, h1, e1, c _ hu⟩
    · exact .inr (.inl ⟨a, xs, i, u, rfl, hw.d_int, h1, e1, c _ hu⟩)
theorem atI_nat' {α : Type} {xs : List α} {k : Nat} {v : α} (h : xs[k]? = some v) : atI xs (k : Int) = some v := by
  have hk : k < xs.length := (List.getElem?_eq_some_iff.mp h).1
  unfold atI ixN
  rw [if_pos (by omega), if_pos (by omega)]
  exact h
theorem atI_neg1 {α : Type} {xs : List α} {v : α} (h : xs.getLast? = some v) : atI xs (-1) = some v := by
  cases xs with
  | nil => cases h
  | cons a t =>
    unfold atI ixN
    rw [if_neg (by omega), if_pos (by simp [List.length_cons]; omega)]
    rw [List.getLast?_eq_getElem?] at h
    show (a :: t)[((-1 : Int) + ((a :: t).length : Nat)).toNat]? = some v
    rw [← h]; congr 1; simp [List.length_cons]; omega
/-- what a slice leaves -/
def cutD {α : Type} (xs : List α) (lo hi : Option Int) : List α := (xs.drop (HT.sIx xs.length 0 lo)).take (HT.sIx xs.length xs.length hi - HT.sIx xs.length 0 lo)
theorem DtAll.cut {S : Hp} {vs : List V} {ds : List PyData} (h : DtAll K S vs ds) (lo hi : Option Int) : DtAll K S (cutV vs lo hi) (cutD ds lo hi) := by
  unfold cutV cutD
  rw [h.len]
  exact (h.drop _).take _
/-- slices of tuples, lists (texts: rSlS) -/
def rSlG (K : PySem.W.Frag) : V → Option Int → Option Int → Hp → VK → Prop := fun x lo hi H Q => rSlA K x lo hi H Q ∨ rSlL K x lo hi H Q
theorem sl_G {X : Cx} : SlR X (rSlG X.K) := SlR.or sl_tupA sl_list
end
section
variable {F : Fx} {te ta tb tc : TE} {tt tu : TT} {tA tB : TA} {Γ : List Sl} {x y s : Sl} {ss : List Sl} {ds es : List PyData} {i j : Int} {lo hi : Option Int} {tl th : TO}
def EvO (F : Fx) (t : TO) (Γ : List Sl) (o : Option Int) : Prop := ∀ (z : Z) (σ : L2.St) (Q : Option Int → Hp → Prop), ZOk F z → SOk F z σ Γ → (∀ z', Add z z' → ZOk F z' → Q o z'.H) → t σ z.H Q
theorem evo_no : EvO F tNoPart Γ none := fun z σ Q hz hs c => c z (Add.refl z) hz
theorem evo_some (h : EvS F te Γ (.d (.int i))) : EvO F (tPart te) Γ (some i) := fun z σ Q hz hs c =>
  h z σ _ hz hs fun v z1 a1 hz1 hv _ => ⟨i, hv.d_int, c z1 a1 hz1⟩
theorem cutD_all {α : Type} {xs : List α} {lo hi : Option Int} (h1 : HT.sIx xs.length 0 lo = 0) (h2 : HT.sIx xs.length xs.length hi = xs.length) : cutD xs lo hi = xs := by
  unfold cutD; rw [h1, h2]; simp
theorem evs_slT (hx : EvS F te Γ x) (e : x.asT = some ds) (h1 : EvO F tl Γ lo) (h2 : EvO F th Γ hi) : EvS F (tSl (rSlG F.K) te tl th) Γ (.d (.tuple (cutD ds lo hi))) := fun z σ Q hz hs c =>
  hx z σ _ hz hs fun v z1 a1 hz1 hv _ => h1 z1 σ _ hz1 (hs.add a1) fun z2 a2 hz2 => h2 z2 σ _ hz2 (hs.add (a1.trans a2)) fun z3 a3 hz3 => by
    have a13 := a1.trans (a2.trans a3)
    obtain ⟨a, xs, rfl, g1, g1s, g2⟩ := (hv.add (a2.trans a3)).asT hz3 e
    refine .inl ⟨a, xs, rfl, g1, fun q => ?_, fun _ p hp => ?_⟩
    · rw [g2.len] at q
      exact c _ z3 a13 hz3 (by rw [cutD_all q.1 q.2]; exact .tup g1s g2) trivial
    · exact c _ (z3.sh p _) (a13.trans (Add.sh hz3 hp)) (hz3.sh hp) (VOk.sh_tup hz3 hp (g2.cut lo hi)) trivial
theorem evs_slL (hx : EvS F te Γ x) (e : x.asL = some ds) (h1 : EvO F tl Γ lo) (h2 : EvO F th Γ hi) : EvS F (tSl (rSlG F.K) te tl th) Γ (.lst (cutD ds lo hi)) := fun z σ Q hz hs c =>
  hx z σ _ hz hs fun v z1 a1 hz1 hv _ => h1 z1 σ _ hz1 (hs.add a1) fun z2 a2 hz2 => h2 z2 σ _ hz2 (hs.add (a1.trans a2)) fun z3 a3 hz3 => by
    have a13 := a1.trans (a2.trans a3)
    obtain ⟨a, xs, rfl, g1, g2⟩ := (hv.add (a2.trans a3)).asL hz3 e
    exact .inr ⟨a, xs, rfl, SqL.of g1, fun p hp => c _ (z3.tmp p _) (a13.trans (Add.tmp hp)) (hz3.tmp hp) (VOk.tmp_lst hz3 hp (g2.cut lo hi)) ⟨p, rfl, a13.dom p hp⟩⟩

/-! ### built-ins -/
def rLenG (K : PySem.W.Frag) : List V → Hp → VK → Prop := fun xs H Q => (∃ p ys, xs = [.ref p] ∧ (SqL K H p ys ∨ SqT K H p ys) ∧ Q (.int ys.length) H) ∨ ∃ z, xs = [.str z] ∧ z.length ≤ sizeLine ∧ Q (.int z.length) H
theorem call_lenG {X : Cx} : CallR X (.builtin "len") (rLenG X.K) := CallR.or call_len_seq call_len_str
theorem len_seq (h : x.asQ = some ds) : CallS F (rLenG F.K) [x] (.d (.int (ds.length : Nat))) := calls_val fun z vs Q hz ha c => by
  obtain ⟨v, rfl, hv⟩ := VAll.one ha
  obtain ⟨a, xs, rfl, h1, h2⟩ := hv.asQ hz h
  exact .inl ⟨a, xs, rfl, h1, by rw [h2.len]; exact c _ (.int _)⟩
theorem len_str {a : Str} (hl : a.length ≤ sizeLine) : CallS F (rLenG F.K) [.d (.str a)] (.d (.int (a.length : Nat))) := calls_val fun z vs Q hz ha c => by
  obtain ⟨v, rfl, hv⟩ := VAll.one ha
  exact .inr ⟨a, by rw [hv.d_str], hl, c _ (.int _)⟩
/-- sum of a list or a tuple of ints -/
theorem sum_rawT {prog : Program} {w : World} {A : Around} {E : Value → Shared → Prop} {s : Shared} {l : Addr} {its : List Value} {ns : List Int} {Q : Value → Shared → Prop} (hh : A.handled = none) (hl : s.heap.IsTuple l its.toArray) (hi : IntsAre its ns)
    (h : ∀ h' tk t', (∀ b o, s.heap.get? b = some o → h'.get? b = some o) → Q (.int ns.sum t') { s with heap := h', toks := tk }) : wpAny (model prog w) A (call (.builtin "sum") [.ref l]) Q E s := by
  obtain ⟨xs, e⟩ := hi.allInts.items
  have hn : numsOf (intItems xs).toList = ns := by rw [← e]; exact hi.numsOf
  rw [nums_intItems] at hn
  rw [e] at hl
  refine PySem.W.ktm_sumG hh hl fun h' tk t' hk => ?_
  have := h h' tk t' hk
  rw [preSum_eq, List.take_of_length_le (by simp), hn]; exact this
def rSumG (K : PySem.W.Frag) : List V → Hp → VK → Prop := fun vs H Q => ∃ (a : Addr) (ns : List Int), vs = [V.ref a] ∧ (SqL K H a (ns.map V.int) ∨ SqT K H a (ns.map V.int)) ∧ Q (.int ns.sum) H
theorem call_sumG {X : Cx} (hc : X.calm = true) : CallR X (.builtin "sum") (rSumG X.K) := by
  intro pins s σ H vs us Q I r h
  obtain ⟨a, ns, rfl, hs, q⟩ := h
  rw [Vals.ref1 r]
  rcases hs with hs | hs
  · obtain ⟨its, rv, hl, _⟩ := I.list hs
    exact sum_raw (I.ok.hd hc) hl.isList rv.ints fun h' tk t' hk => ⟨.int _, H, I.kept hk, ⟨_, rfl⟩, q⟩
  · obtain ⟨its, rv, hl, _⟩ := I.tuple hs
    exact sum_rawT (I.ok.hd hc) hl rv.ints fun h' tk t' hk => ⟨.int _, H, I.kept hk, ⟨_, rfl⟩, q⟩
theorem sum_ints {ns : List Int} (h : x.asQ = some (ns.map PyData.int)) : CallS F (rSumG F.K) [x] (.d (.int ns.sum)) := calls_val fun z vs Q hz ha c => by
  obtain ⟨v, rfl, hv⟩ := VAll.one ha
  obtain ⟨a, xs, rfl, h1, h2⟩ := hv.asQ hz h
  have e := h2.ints
  subst e
  exact ⟨a, ns, rfl, h1, c _ (.int _)⟩
theorem all_bls {bs : List Bool} (h : x.asL = some (bs.map PyData.bool)) : CallS F (rAll F.K) [x] (.d (.bool (bs.all id))) := calls_val fun z vs Q hz ha c => by
  obtain ⟨v, rfl, hv⟩ := VAll.one ha
  obtain ⟨a, xs, rfl, h1, h2⟩ := hv.asL hz h
  have e := h2.bls
  subst e
  exact ⟨a, bs, rfl, SqL.of h1, c _ (.bl _)⟩
theorem max2 : CallS F (fun xs H Q => ∃ i j, xs = [.int i, .int j] ∧ Q (.int (if j > i then j else i)) H) [.d (.int i), .d (.int j)] (.d (.int (if j > i then j else i))) := calls_val fun z vs Q hz ha c => by
  obtain ⟨v, w, rfl, hv, hw⟩ := VAll.two ha
  exact ⟨i, j, by rw [hv.d_int, hw.d_int], c _ (.int _)⟩
theorem min2 : CallS F (fun xs H Q => ∃ i j, xs = [.int i, .int j] ∧ Q (.int (if j < i then j else i)) H) [.d (.int i), .d (.int j)] (.d (.int (if j < i then j else i))) := calls_val fun z vs Q hz ha c => by
  obtain ⟨v, w, rfl, hv, hw⟩ := VAll.two ha
  exact ⟨i, j, by rw [hv.d_int, hw.d_int], c _ (.int _)⟩
def b2n (b : Bool) : Int := if b then 1 else 0
theorem int_bool {b : Bool} : CallS F (fun xs H Q => (∃ i, xs = [.int i] ∧ Q (.int i) H) ∨ ∃ k, xs = [.bl k] ∧ Q (.int (if k then 1 else 0)) H) [.d (.bool b)] (.d (.int (b2n b))) := calls_val fun z vs Q hz ha c => by
  obtain ⟨v, rfl, hv⟩ := VAll.one ha
  exact .inr ⟨b, by rw [hv.d_bool], c _ (.int _)⟩
def rTupG (K : PySem.W.Frag) : List V → Hp → VK → Prop := fun xs H Q => ∃ p ys, xs = [.ref p] ∧ ((SqL K H p ys ∧ ∀ l, H l = none → Q (.ref l) (upd H l (.tup ys))) ∨ (SqT K H p ys ∧ Q (.ref p) H))
theorem tup_lst (h : x.asL = some ds) : CallS F (rTupG F.K) [x] (.d (.tuple ds)) := fun z vs Q hz ha c => by
  obtain ⟨v, rfl, hv⟩ := VAll.one ha
  obtain ⟨a, xs, rfl, h1, h2⟩ := hv.asL hz h
  exact ⟨a, xs, rfl, .inl ⟨SqL.of h1, fun l hl => c _ (z.sh l _) (Add.sh hz hl) (hz.sh hl) (VOk.sh_tup hz hl h2) trivial⟩⟩
theorem lst_seq (h : x.asQ = some ds) : CallS F (fun xs H Q => ∃ p ys, xs = [.ref p] ∧ (SqL F.K H p ys ∨ SqT F.K H p ys) ∧ ∀ l, H l = none → Q (.ref l) (upd H l (.lst ys))) [x] (.lst ds) := fun z vs Q hz ha c => by
  obtain ⟨v, rfl, hv⟩ := VAll.one ha
  obtain ⟨a, xs, rfl, h1, h2⟩ := hv.asQ hz h
  exact ⟨a, xs, rfl, h1, fun l hl => c _ (z.tmp l _) (Add.tmp hl) (hz.tmp hl) (VOk.tmp_lst hz hl h2) ⟨l, rfl, hl⟩⟩
/-- isinstance(x, T), T a built-in class -/
def tyD : PyData → String
  | .none => "NoneType"
  | .bool _ => "bool"
  | .int _ => "int"
  | .str _ => "str"
  | .list _ => "list"
  | .tuple _ => "tuple"
  | .dict _ => "dict"
theorem ty_of {z : Z} {v : V} {d : PyData} (hz : ZOk F z) (h : VOk F z none v (.d d)) : TyX F.K z.H v (.type (tyD d)) := by
  cases h with
  | non => exact .base .non
  | bl b => exact .base (.bl b)
  | int i => exact .base (.int i)
  | str a => exact .base (.str a)
  | lst h _ => exact .base (.lst (hz.sub _ _ h))
  | tup h _ => exact .base (.tup (hz.sub _ _ h))
theorem isi_ty {d : PyData} {n : String} {b : Bool} (h : kitB (tyD d) n = some b) : CallS F (rIsi F.K) [.d d, .raw (.ty n)] (.d (.bool b)) := calls_val fun z vs Q hz ha c => by
  obtain ⟨v, w, rfl, hv, hw⟩ := VAll.two ha
  cases hw
  exact ⟨v, _, _, _, b, rfl, .ty n, ty_of hz hv, kit_ty h, c _ (.bl _)⟩
end

/-! ### lists that are changed -/
section
variable {F : Fx} {te ta tb tc : TE} {tt tu : TT} {tA tB : TA} {Γ : List Sl} {x y s : Sl} {nx bk ct : List Sl → Prop} {rt : Sl → List Sl → Prop} {ds es : List PyData} {i : Nat}
/-- a slot's list as it may be changed -/
theorem mut_lst {z : Z} {σ : L2.St} {ds : List PyData} (hz : ZOk F z) (hs : SOk F z σ Γ) (hi : Γ[i]? = some (.lst ds)) : ∃ p xs, σ[i]? = some (some (.ref p)) ∧ z.H p = some (.lst xs) ∧ DtAll F.K z.S xs ds ∧
    ∀ xs' ds', DtAll F.K z.S xs' ds' → ZOk F ⟨z.S, upd z.H p (.lst xs'), z.own⟩ ∧ SOk F ⟨z.S, upd z.H p (.lst xs'), z.own⟩ σ (Γ.set i (.lst ds')) ∧ Ext z ⟨z.S, upd z.H p (.lst xs'), z.own⟩ := by
  obtain ⟨v, h1, p, xs, rfl, q1, q2, q3, q4, q5⟩ := (hs.at_ i _ hi).resolve_left (fun e => nomatch e)
  have hl : i < Γ.length := (List.getElem?_eq_some_iff.mp hi).1
  refine ⟨p, xs, h1, q1, q5, fun xs' ds' h' => ⟨⟨fun a u e => ?_, fun a u e => ?_, hz.s0, fun a j e => ?_, hz.fresh⟩, ⟨by rw [List.length_set]; exact hs.len, fun j s' e => ?_⟩, ⟨Ex.refl _, fun a u e n => ?_, fun a e => ?_⟩⟩⟩
  · exact (upd_ne (fun q => by subst q; rw [show z.S a = some u from e] at q3; cases q3)).trans (hz.sub a u e)
  · exact (upd_ne (fun q => by subst q; rw [e] at q4; cases q4)).trans (hz.base a u e)
  · obtain ⟨w1, w2, w3⟩ := hz.own a j e
    refine ⟨w1, w2, ?_⟩
    by_cases q : a = p
    · subst q; exact ⟨_, upd_same⟩
    · obtain ⟨o, w3⟩ := w3; exact ⟨o, (upd_ne q).trans w3⟩
  · by_cases hj : j = i
    · subst hj
      rw [List.getElem?_set_self hl] at e
      cases e
      exact .inr ⟨_, h1, p, xs', rfl, upd_same, q2, q3, q4, h'⟩
    · rw [List.getElem?_set_ne (Ne.symm hj)] at e
      have ho : ∀ {a : Addr}, z.own a = some j → a ≠ p := fun {a} w q => by subst q; rw [q2] at w; exact hj (Option.some.inj w).symm
      refine (hs.at_ j s' e).elim .inl fun ⟨w, w1, h2⟩ => .inr ⟨w, w1, ?_⟩
      cases s' with
      | un => exact h2
      | d x => exact h2
      | raw u => exact h2
      | lst ds => obtain ⟨a, xs, e, g1, g2, g3, g4, g5⟩ := h2; exact ⟨a, xs, e, (upd_ne (ho g2)).trans g1, g2, g3, g4, g5⟩
      | bor ds => exact nomatch h2.1
      | bK ds => exact nomatch h2.1
      | bT ds => exact nomatch h2.1
      | src a ds => obtain ⟨xs, e, g1, g2, g3, g4, g5⟩ := h2; exact ⟨xs, e, (upd_ne (ho g2)).trans g1, g2, g3, g4, g5⟩
      | dK ds => obtain ⟨a, xs, e, g1, g2, g3, g4, g5⟩ := h2; exact ⟨a, xs, e, (upd_ne (ho g2)).trans g1, g2, g3, g4, g5⟩
      | dT ds => obtain ⟨a, xs, e, g1, g2, g3, g4, g5⟩ := h2; exact ⟨a, xs, e, (upd_ne (ho g2)).trans g1, g2, g3, g4, g5⟩
      | sK ds => exact h2
      | sT ds => exact h2
      | sq ds => exact h2
  · exact ⟨(upd_ne (fun q => by subst q; rw [n] at q2; cases q2)).trans e, n, rfl⟩
  · by_cases q : a = p
    · subst q; exact nomatch (upd_same.symm.trans (show upd z.H a (HO.lst xs') a = none from e))
    · exact (upd_ne q).symm.trans e
end
end GL
namespace GL
open PySem PySem.Spec PyProof.Rows L2

/-! ### what is walked -/
section
variable {F : Fx}
/-- the iterator J gives these, one after another, whatever else happens -/
def Yields (F : Fx) (J : It) (S : Hp) (items : List PyData) : Prop := ∀ (z : Z), Ex S z.S → ZOk F z → ∀ i, (∀ d, items[i]? = some d → J.go i z.H ∧ ∀ x H', J.yld i z.H x H' → ∃ z', z'.H = H' ∧ Add z z' ∧ ZOk F z' ∧ Dt F.K z'.S x d) ∧ (items.length ≤ i → J.stop i z.H)
def WpI (F : Fx) (wi : TI) (Γ : List Sl) (k : List PyData → List Sl → Prop) : Prop := ∀ (z : Z) (σ : L2.St) (R : It → Hp → Prop), F.Ok → ZOk F z → SOk F z σ Γ → (∀ J items Γ' z', k items Γ' → Ext z z' → ZOk F z' → SOk F z' σ Γ' → Yields F J z'.S items → R J z'.H) → wi σ z.H R
variable {te : TE} {ta : TA} {Γ : List Sl} {nx bk ct : List Sl → Prop} {rt : Sl → List Sl → Prop} {k : List PyData → List Sl → Prop} {wi : TI} {g : TG} {tb : TS}
theorem yields_list {z : Z} {a : Addr} {xs : List V} {ds : List PyData} (h : z.S a = some (.lst xs)) (q : DtAll F.K z.S xs ds) : Yields F (Itl F.K a) z.S ds := fun z2 e hz2 i => by
  have h2 : SqL F.K z2.H a xs := SqL.of (hz2.sub _ _ (e _ _ h))
  refine ⟨fun d hd => ?_, fun hl => ⟨xs, h2, by rw [q.len]; exact hl⟩⟩
  obtain ⟨v, hv, dv⟩ := q.get hd
  refine ⟨⟨xs, v, h2, hv⟩, fun x H' ⟨eH, y⟩ => ⟨z2, eH.symm, Add.refl z2, hz2, ?_⟩⟩
  have e1 := (y xs h2).symm.trans hv
  cases e1
  exact dv.mono e
theorem yields_tup {z : Z} {a : Addr} {xs : List V} {ds : List PyData} (h : z.S a = some (.tup xs)) (q : DtAll F.K z.S xs ds) : Yields F (Itt F.K a) z.S ds := fun z2 e hz2 i => by
  have h2 : SqT F.K z2.H a xs := SqT.of (hz2.sub _ _ (e _ _ h))
  refine ⟨fun d hd => ?_, fun hl => ⟨xs, h2, by rw [q.len]; exact hl⟩⟩
  obtain ⟨v, hv, dv⟩ := q.get hd
  refine ⟨⟨xs, v, h2, hv⟩, fun x H' ⟨eH, y⟩ => ⟨z2, eH.symm, Add.refl z2, hz2, ?_⟩⟩
  have e1 := (y xs h2).symm.trans hv
  cases e1
  exact dv.mono e
theorem wpi_list (h : WpE F te Γ fun s Γ' => ∃ ds, s = .d (.list ds) ∧ k ds Γ') : WpI F (iList F.K te) Γ k := fun z σ R hF hz hs c =>
  h z σ _ hF hz hs fun v s Γ' z' ⟨ds, e, hk⟩ a hz' hs' hv _ => by
    subst e
    cases hv with
    | lst h1 h2 => exact ⟨_, rfl, ⟨_, SqL.of (hz'.sub _ _ h1)⟩, c _ _ _ _ hk a hz' hs' (yields_list h1 h2)⟩
theorem wpi_tup (h : WpE F te Γ fun s Γ' => ∃ ds, s = .d (.tuple ds) ∧ k ds Γ') : WpI F (iTup F.K te) Γ k := fun z σ R hF hz hs c =>
  h z σ _ hF hz hs fun v s Γ' z' ⟨ds, e, hk⟩ a hz' hs' hv _ => by
    subst e
    cases hv with
    | tup h1 h2 => exact ⟨_, rfl, ⟨_, SqT.of (hz'.sub _ _ h1)⟩, c _ _ _ _ hk a hz' hs' (yields_tup h1 h2)⟩
/-- lists and tuples -/
def rangeD (lo : Int) (n : Nat) : List PyData := (List.range n).map fun i : Nat => PyData.int (lo + (i : Int))
theorem rangeD_len {lo : Int} {n : Nat} : (rangeD lo n).length = n := by simp [rangeD]
theorem yields_range {S : Hp} {lo : Int} {n : Nat} : Yields F (Itr lo n) S (rangeD lo n) := fun z e hz i => by
  refine ⟨fun d hd => ?_, fun hl => by rw [rangeD_len] at hl; exact hl⟩
  have hi : i < n := by have := (List.getElem?_eq_some_iff.mp hd).1; rwa [rangeD_len] at this
  refine ⟨hi, fun x H' ⟨eH, y⟩ => ⟨z, eH.symm, Add.refl z, hz, ?_⟩⟩
  have : d = .int (lo + (i : Int)) := by
    simp [rangeD, hi] at hd
    exact hd.symm
  subst this y
  exact .int _
theorem wpi_range1 (h : WpA F ta Γ fun ss Γ' => ∃ j : Int, ss = [.d (.int j)] ∧ -(2 ^ 62) ≤ j ∧ j < 2 ^ 62 ∧ k (rangeD 0 j.toNat) Γ') : WpI F (iRng1 ta) Γ k := fun z σ R hF hz hs c =>
  h z σ _ hF hz hs fun vs ss Γ' z' ⟨j, e, h1, h2, hk⟩ a hz' hs' ha => by
    subst e
    obtain ⟨v, rfl, hv⟩ := VAll.one ha
    exact ⟨j, by rw [hv.d_int], h1, h2, c _ _ _ _ hk a hz' hs' yields_range⟩
theorem wpi_range2 (h : WpA F ta Γ fun ss Γ' => ∃ i j : Int, ss = [.d (.int i), .d (.int j)] ∧ (-(2 ^ 62) ≤ i ∧ i < 2 ^ 62 ∧ -(2 ^ 62) ≤ j ∧ j < 2 ^ 62) ∧ k (rangeD i (j - i).toNat) Γ') : WpI F (iRng2 ta) Γ k := fun z σ R hF hz hs c =>
  h z σ _ hF hz hs fun vs ss Γ' z' ⟨i, j, e, h1, hk⟩ a hz' hs' ha => by
    subst e
    obtain ⟨v, w, rfl, hv, hw⟩ := VAll.two ha
    exact ⟨i, j, by rw [hv.d_int, hw.d_int], h1, c _ _ _ _ hk a hz' hs' yields_range⟩
def enumD (ds : List PyData) : List PyData := (ds.zipIdx).map fun p => PyData.tuple [.int (p.2 : Int), p.1]
theorem enumD_len {ds : List PyData} : (enumD ds).length = ds.length := by simp [enumD]
theorem enumD_get {ds : List PyData} {i : Nat} {d : PyData} (h : (enumD ds)[i]? = some d) : ∃ e, ds[i]? = some e ∧ d = .tuple [.int (i : Int), e] := by
  unfold enumD at h
  rw [List.getElem?_map, List.getElem?_zipIdx] at h
  cases q : ds[i]? with
  | none => rw [q] at h; cases h
  | some e => rw [q] at h; simp at h; exact ⟨e, rfl, h.symm⟩

/-! ### for -/
def ForW (F : Fx) (g : TG) (tb : TS) (nx : List Sl → Prop) (rt : Sl → List Sl → Prop) : List PyData → List Sl → Prop
  | [], Γ => nx Γ
  | d :: ds, Γ => WpG F g (.d d) Γ fun Γ1 => Wp F tb Γ1 (ForW F g tb nx rt ds) rt nx (ForW F g tb nx rt ds)
theorem wp_for (h : WpI F wi Γ fun items Γ' => ForW F g tb nx rt items Γ') : Wp F (tFor wi g tb) Γ nx rt bk ct := fun z σ D hF hz hs r =>
  h z σ _ hF hz hs fun J items Γ1 z1 hk a1 hz1 hs1 hy => by
    refine ⟨fun i m σ H => ∃ z2 Γ2, H = z2.H ∧ Ex z1.S z2.S ∧ ZOk F z2 ∧ SOk F z2 σ Γ2 ∧ ForW F g tb nx rt (items.drop i) Γ2 ∧ m = items.length - i, ⟨_, z1, Γ1, rfl, Ex.refl _, hz1, hs1, hk, rfl⟩, ?_⟩
    rintro i m σ2 H2 ⟨z2, Γ2, rfl, e2, hz2, hs2, hf, hm⟩
    have r2 := r.mono (a1.s.trans e2)
    obtain ⟨yg, ys⟩ := hy z2 e2 hz2 i
    cases q : items[i]? with
    | none =>
      have hl := List.getElem?_eq_none_iff.mp q
      rw [List.drop_eq_nil_of_le hl] at hf
      exact .inl ⟨ys hl, r2.nx _ _ _ hf (Ex.refl _) hz2 hs2⟩
    | some d =>
      have hl := (List.getElem?_eq_some_iff.mp q).1
      obtain ⟨go, yl⟩ := yg d q
      have ed : items.drop i = d :: items.drop (i + 1) := by
        rw [List.drop_eq_getElem_cons hl, (List.getElem?_eq_some_iff.mp q).2]
      rw [ed] at hf
      refine .inr ⟨go, fun σ' H' => ∃ z3 Γ3, H' = z3.H ∧ Ex z1.S z3.S ∧ ZOk F z3 ∧ SOk F z3 σ' Γ3 ∧ ForW F g tb nx rt (items.drop (i + 1)) Γ3, ?_, ?_⟩
      · rintro σ' H' ⟨z3, Γ3, rfl, e3, hz3, hs3, hf3⟩
        exact ⟨items.length - (i + 1), by omega, z3, Γ3, rfl, e3, hz3, hs3, hf3, rfl⟩
      · intro x H' hx
        obtain ⟨z3, rfl, a3, hz3, dx⟩ := yl x H' hx
        refine hf z3 σ2 x _ hF hz3 (hs2.add a3) dx fun Γ4 σ4 z4 w4 e4 hz4 hs4 => ?_
        have e14 := e2.trans (a3.s.trans e4)
        refine w4 z4 σ4 _ hF hz4 hs4 ⟨fun Γ5 σ5 z5 f5 e5 hz5 hs5 => ⟨z5, Γ5, rfl, e14.trans e5, hz5, hs5, f5⟩, fun v s Γ5 σ5 z5 p5 e5 hz5 hs5 hv5 => r2.rt v s Γ5 σ5 z5 p5 ((a3.s.trans e4).trans e5) hz5 hs5 hv5,
          fun Γ5 σ5 z5 f5 e5 hz5 hs5 => r2.nx Γ5 σ5 z5 f5 ((a3.s.trans e4).trans e5) hz5 hs5, fun Γ5 σ5 z5 f5 e5 hz5 hs5 => ⟨z5, Γ5, rfl, e14.trans e5, hz5, hs5, f5⟩⟩
/-- over what stands as data -/
theorem wp_forL {ds : List PyData} (h : EvS F te Γ (.d (.list ds))) (q : ForW F g tb nx rt ds Γ) : Wp F (tFor (iList F.K te) g tb) Γ nx rt bk ct := wp_for (wpi_list (h.wp ⟨ds, rfl, q⟩))
theorem wp_forT {ds : List PyData} (h : EvS F te Γ (.d (.tuple ds))) (q : ForW F g tb nx rt ds Γ) : Wp F (tFor (iTup F.K te) g tb) Γ nx rt bk ct := wp_for (wpi_tup (h.wp ⟨ds, rfl, q⟩))
theorem wp_forR {j : Int} (h : EvA F ta Γ [.d (.int j)]) (h1 : -(2 ^ 62) ≤ j) (h2 : j < 2 ^ 62) (q : ForW F g tb nx rt (rangeD 0 j.toNat) Γ) : Wp F (tFor (iRng1 ta) g tb) Γ nx rt bk ct := wp_for (wpi_range1 (h.wp ⟨j, rfl, h1, h2, q⟩))
theorem wp_forR2 {i j : Int} (h : EvA F ta Γ [.d (.int i), .d (.int j)]) (h1 : -(2 ^ 62) ≤ i ∧ i < 2 ^ 62 ∧ -(2 ^ 62) ≤ j ∧ j < 2 ^ 62) (q : ForW F g tb nx rt (rangeD i (j - i).toNat) Γ) : Wp F (tFor (iRng2 ta) g tb) Γ nx rt bk ct := wp_for (wpi_range2 (h.wp ⟨i, j, rfl, h1, q⟩))
/-- by an invariant -/
theorem forW_inv (I : Nat → List Sl → Prop) {ds : List PyData} (h0 : I 0 Γ) (hs : ∀ i d Γ', ds[i]? = some d → I i Γ' → WpG F g (.d d) Γ' fun Γ1 => Wp F tb Γ1 (I (i + 1)) rt nx (I (i + 1))) (hd : ∀ Γ', I ds.length Γ' → nx Γ') : ForW F g tb nx rt ds Γ := by
  have all : ∀ (n i : Nat) (Γ' : List Sl), ds.length - i = n → i ≤ ds.length → I i Γ' → ForW F g tb nx rt (ds.drop i) Γ' := by
    intro n
    induction n with
    | zero =>
      intro i Γ' e hi h
      have : i = ds.length := by omega
      subst this
      rw [List.drop_length]
      exact hd _ h
    | succ n ih =>
      intro i Γ' e hi h
      have hl : i < ds.length := by omega
      rw [List.drop_eq_getElem_cons hl]
      intro z σ v Q hF hz hss hv c
      refine hs i ds[i] Γ' (List.getElem?_eq_getElem hl) h z σ v Q hF hz hss hv fun Γ1 σ1 z1 w e1 hz1 hs1 => c Γ1 σ1 z1 ?_ e1 hz1 hs1
      intro z2 σ2 D hF2 hz2 hs2 r
      exact w z2 σ2 D hF2 hz2 hs2 ⟨fun Γ3 σ3 z3 p => r.nx Γ3 σ3 z3 (ih (i + 1) Γ3 (by omega) hl p), r.rt, r.bk, fun Γ3 σ3 z3 p => r.ct Γ3 σ3 z3 (ih (i + 1) Γ3 (by omega) hl p)⟩
  exact all _ 0 Γ rfl (Nat.zero_le _) h0

/-! ### while -/
theorem wp_while {c : TT} (I : Nat → List Sl → Prop) {n : Nat} (h0 : I n Γ) (hs : ∀ n Γ', I n Γ' → WpT F c Γ' fun b Γ1 => (b = true → Wp F tb Γ1 (fun Γ2 => ∃ m, m < n ∧ I m Γ2) rt nx (fun Γ2 => ∃ m, m < n ∧ I m Γ2)) ∧ (b = false → nx Γ1)) : Wp F (tWhile c tb) Γ nx rt bk ct := fun z σ D hF hz hss r => by
  refine ⟨fun m σ H => ∃ z2 Γ2, H = z2.H ∧ Ex z.S z2.S ∧ ZOk F z2 ∧ SOk F z2 σ Γ2 ∧ I m Γ2, ⟨n, z, Γ, rfl, Ex.refl _, hz, hss, h0⟩, ?_⟩
  rintro m σ2 H2 ⟨z2, Γ2, rfl, e2, hz2, hs2, i2⟩
  refine hs m Γ2 i2 z2 σ2 _ hF hz2 hs2 fun b Γ3 z3 hk a3 hz3 hs3 => ?_
  have r3 := r.mono (e2.trans a3.s)
  cases b with
  | false => exact r3.nx _ _ _ (hk.2 rfl) (Ex.refl _) hz3 hs3
  | true =>
    refine ⟨fun σ' H' => ∃ z4 Γ4, H' = z4.H ∧ Ex z.S z4.S ∧ ZOk F z4 ∧ SOk F z4 σ' Γ4 ∧ ∃ m', m' < m ∧ I m' Γ4, ?_, ?_⟩
    · rintro σ' H' ⟨z4, Γ4, rfl, e4, hz4, hs4, m', hm, i4⟩
      exact ⟨m', hm, z4, Γ4, rfl, e4, hz4, hs4, i4⟩
    · have e13 := e2.trans a3.s
      exact hk.1 rfl z3 σ2 _ hF hz3 hs3 ⟨fun Γ5 σ5 z5 f5 e5 hz5 hs5 => ⟨z5, Γ5, rfl, e13.trans e5, hz5, hs5, f5⟩, r3.rt, r3.nx, fun Γ5 σ5 z5 f5 e5 hz5 hs5 => ⟨z5, Γ5, rfl, e13.trans e5, hz5, hs5, f5⟩⟩

/-! ### comprehensions -/
def wipeS (Γ : List Sl) : List Nat → List Sl
  | [] => Γ
  | v :: vs => (wipeS Γ vs).set v .un
theorem wipeS_ok {z : Z} {σ : L2.St} (hs : SOk F z σ Γ) : ∀ vs : List Nat, SOk F z (wipe σ vs) (wipeS Γ vs)
  | [] => hs
  | v :: vs => by
    have ih := wipeS_ok hs vs
    refine ⟨by show ((wipeS Γ vs).set v .un).length = ((wipe σ vs).set v none).length; rw [List.length_set, List.length_set]; exact ih.len, fun i s e => ?_⟩
    by_cases h : i = v
    · subst h
      by_cases hl : i < (wipeS Γ vs).length
      · rw [show (wipeS Γ (i :: vs))[i]? = some .un from List.getElem?_set_self hl] at e
        exact .inl (Option.some.inj e).symm
      · rw [show (wipeS Γ (i :: vs))[i]? = none from List.getElem?_eq_none (by show ((wipeS Γ vs).set i .un).length ≤ i; rw [List.length_set]; omega)] at e
        cases e
    · rw [show (wipeS Γ (v :: vs))[i]? = (wipeS Γ vs)[i]? from List.getElem?_set_ne (Ne.symm h)] at e
      rw [show (wipe σ (v :: vs))[i]? = (wipe σ vs)[i]? from List.getElem?_set_ne (Ne.symm h)]
      exact ih.at_ i s e

/-! ### targets -/
/-- a target takes data and nothing else happens -/
def GTo (F : Fx) (g : TG) (d : PyData) (Γ Γ1 : List Sl) : Prop := ∀ (z : Z) (σ : L2.St) (v : V) (Q : L2.St → Hp → Prop), ZOk F z → SOk F z σ Γ → Dt F.K z.S v d → (∀ σ', SOk F z σ' Γ1 → Q σ' z.H) → g v σ z.H Q
def GTos (F : Fx) (g : TGs) (ds : List PyData) (Γ Γ1 : List Sl) : Prop := ∀ (z : Z) (σ : L2.St) (vs : List V) (Q : L2.St → Hp → Prop), ZOk F z → SOk F z σ Γ → DtAll F.K z.S vs ds → (∀ σ', SOk F z σ' Γ1 → Q σ' z.H) → g vs σ z.H Q
variable {Γ1 Γ2 : List Sl} {d : PyData} {ds : List PyData} {gs : TGs}
theorem gto_name {i : Nat} (hi : i < Γ.length) : GTo F (gName i) d Γ (Γ.set i (.d d)) := fun z σ v Q hz hs hv c =>
  c _ (hs.other (own' := z.own) hi hv fun a j _ e => e)
theorem gtos_nil : GTos F gNil [] Γ Γ := fun z σ vs Q hz hs hv c => by cases hv; exact ⟨rfl, c σ hs⟩
theorem gtos_cons (h1 : GTo F g d Γ Γ1) (h2 : GTos F gs ds Γ1 Γ2) : GTos F (gCons g gs) (d :: ds) Γ Γ2 := fun z σ vs Q hz hs hv c => by
  cases hv with
  | cons h t => exact ⟨_, _, rfl, h1 z σ _ _ hz hs h fun σ1 hs1 => h2 z σ1 _ Q hz hs1 t c⟩
theorem gto_tup {n : Nat} (hn : ds.length = n) (h : GTos F gs ds Γ Γ1) : GTo F (gTup F.K n gs) (.tuple ds) Γ Γ1 := fun z σ v Q hz hs hv c => by
  cases hv with
  | tup h1 h2 => exact ⟨_, _, rfl, SqT.of (hz.sub _ _ h1), by rw [h2.len]; exact hn, h z σ _ Q hz hs h2 c⟩
theorem GTo.wp {k : List Sl → Prop} (h : GTo F g d Γ Γ1) (q : k Γ1) : WpG F g (.d d) Γ k := fun z σ v Q hF hz hs hv c =>
  h z σ v Q hz hs hv fun σ' hs' => c Γ1 σ' z q (Ex.refl _) hz hs'
/-- the target stores nothing beside these slots -/
def Gvs (vs : List Nat) (g : TG) : Prop := ∀ v σ H Q, g v σ H Q → g v σ H fun σ' H' => wipe σ' vs = wipe σ vs ∧ Q σ' H'
def Gvss (vs : List Nat) (g : TGs) : Prop := ∀ v σ H Q, g v σ H Q → g v σ H fun σ' H' => wipe σ' vs = wipe σ vs ∧ Q σ' H'
theorem wipe_get {σ : L2.St} {j : Nat} : ∀ {vs : List Nat}, (wipe σ vs)[j]? = if j ∈ vs then (if j < σ.length then some none else none) else σ[j]?
  | [] => by simp [wipe]
  | v :: vs => by
    show ((wipe σ vs).set v none)[j]? = _
    by_cases h : j = v
    · subst h
      rw [List.getElem?_set]
      simp [wipe_length]
    · rw [List.getElem?_set_ne (Ne.symm h), wipe_get (vs := vs)]
      simp [h]
theorem wipe_wipe {σ : L2.St} {vs : List Nat} : wipe (wipe σ vs) vs = wipe σ vs := by
  apply List.ext_getElem?
  intro j
  rw [wipe_get, wipe_length, wipe_get]
  by_cases hj : j ∈ vs
  · rw [if_pos hj, if_pos hj]
  · rw [if_neg hj, if_neg hj]
theorem wipe_set {σ : L2.St} {i : Nat} {x : Option V} {vs : List Nat} (h : i ∈ vs) : wipe (σ.set i x) vs = wipe σ vs := by
  apply List.ext_getElem?
  intro j
  rw [wipe_get, wipe_get]
  by_cases hj : j ∈ vs
  · rw [if_pos hj, if_pos hj, List.length_set]
  · rw [if_neg hj, if_neg hj, List.getElem?_set_ne (fun q => by subst q; exact hj h)]
theorem gvs_name {vs : List Nat} {i : Nat} (h : i ∈ vs) : Gvs vs (gName i) := fun v σ H Q q => ⟨wipe_set h, q⟩
theorem gvss_nil {vs : List Nat} : Gvss vs gNil := fun v σ H Q q => ⟨q.1, rfl, q.2⟩
theorem gvss_cons {vs : List Nat} (h1 : Gvs vs g) (h2 : Gvss vs gs) (m : ∀ v σ H Q Q', (∀ σ' H', Q σ' H' → Q' σ' H') → g v σ H Q → g v σ H Q') (m2 : ∀ v σ H Q Q', (∀ σ' H', Q σ' H' → Q' σ' H') → gs v σ H Q → gs v σ H Q') : Gvss vs (gCons g gs) := fun v σ H Q q => by
  obtain ⟨x, r, e, q⟩ := q
  refine ⟨x, r, e, m _ _ _ _ _ (fun σ' H' q => ?_) (h1 _ _ _ _ q)⟩
  exact m2 _ _ _ _ _ (fun σ2 H2 q2 => ⟨q2.1.trans q.1, q2.2⟩) (h2 _ _ _ _ q.2)
theorem mono_name {i : Nat} (v : V) (σ : L2.St) (H : Hp) (Q Q' : L2.St → Hp → Prop) (h : ∀ σ' H', Q σ' H' → Q' σ' H') (q : gName i v σ H Q) : gName i v σ H Q' := h _ _ q
theorem mono_nil (v : List V) (σ : L2.St) (H : Hp) (Q Q' : L2.St → Hp → Prop) (h : ∀ σ' H', Q σ' H' → Q' σ' H') (q : gNil v σ H Q) : gNil v σ H Q' := ⟨q.1, h _ _ q.2⟩
theorem mono_names {i : Nat} (m2 : ∀ v σ H Q Q', (∀ σ' H', Q σ' H' → Q' σ' H') → gs v σ H Q → gs v σ H Q') (v : List V) (σ : L2.St) (H : Hp) (Q Q' : L2.St → Hp → Prop) (h : ∀ σ' H', Q σ' H' → Q' σ' H') (q : gCons (gName i) gs v σ H Q) : gCons (gName i) gs v σ H Q' := by
  obtain ⟨x, r, e, q⟩ := q
  exact ⟨x, r, e, m2 _ _ _ _ _ h q⟩
/-- names, one after another -/
def gNames : List Nat → TGs
  | [] => gNil
  | i :: is => gCons (gName i) (gNames is)
theorem mono_gNames : ∀ (is : List Nat) (v : List V) (σ : L2.St) (H : Hp) (Q Q' : L2.St → Hp → Prop), (∀ σ' H', Q σ' H' → Q' σ' H') → gNames is v σ H Q → gNames is v σ H Q'
  | [], v, σ, H, Q, Q', h, q => mono_nil v σ H Q Q' h q
  | i :: is, v, σ, H, Q, Q', h, q => mono_names (mono_gNames is) v σ H Q Q' h q
theorem gvss_names {vs : List Nat} : ∀ (is : List Nat), (∀ i ∈ is, i ∈ vs) → Gvss vs (gNames is)
  | [], _ => gvss_nil
  | i :: is, h => gvss_cons (gvs_name (h i (by simp))) (gvss_names is fun j hj => h j (by simp [hj])) (fun v σ H Q Q' => mono_name v σ H Q Q') (mono_gNames is)
theorem gvs_tup {K : PySem.W.Frag} {n : Nat} {vs : List Nat} (h : Gvss vs gs) : Gvs vs (gTup K n gs) := fun v σ H Q ⟨a, xs, e, h1, h2, q⟩ => ⟨a, xs, e, h1, h2, h _ _ _ _ q⟩
def setAll : List Sl → List Nat → List PyData → List Sl
  | Γ, i :: is, d :: ds => setAll (Γ.set i (.d d)) is ds
  | Γ, _, _ => Γ
theorem gtos_names : ∀ (is : List Nat) (ds : List PyData) (Γ : List Sl), is.length = ds.length → (∀ i ∈ is, i < Γ.length) → GTos F (gNames is) ds Γ (setAll Γ is ds)
  | [], [], Γ, _, _ => gtos_nil
  | i :: is, d :: ds, Γ, h, hl => gtos_cons (gto_name (hl i (by simp))) (gtos_names is ds _ (by simpa using h) fun j hj => by rw [List.length_set]; exact hl j (by simp [hj]))

/-! ### comprehensions -/
/-- pure turns and what they give -/
def LcP (F : Fx) (g : TG) (tt : TT) (te : TE) (Γ : List Sl) : List PyData → List PyData → Prop
  | [], outs => outs = []
  | d :: ds, outs => ∃ Γ1 b, GTo F g d Γ Γ1 ∧ EvT F tt Γ1 b ∧ (b = true → ∃ x rest, outs = x :: rest ∧ EvS F te Γ1 (.d x) ∧ LcP F g tt te Γ ds rest) ∧ (b = false → LcP F g tt te Γ ds outs)
variable {tt : TT} {α : Type}
theorem lcp_map {enc : α → PyData} {p : α → Bool} {f : α → PyData} {Γw : List Sl} : ∀ {xs : List α}, (∀ x ∈ xs, ∃ Γ1, GTo F g (enc x) Γw Γ1 ∧ EvT F tt Γ1 (p x) ∧ (p x = true → EvS F te Γ1 (.d (f x)))) → LcP F g tt te Γw (xs.map enc) ((xs.filter p).map f)
  | [], _ => rfl
  | x :: xs, h => by
    obtain ⟨Γ1, h1, h2, h3⟩ := h x (by simp)
    have ih := lcp_map (xs := xs) fun y hy => h y (by simp [hy])
    refine ⟨Γ1, p x, h1, h2, fun e => ⟨f x, _, ?_, h3 e, ih⟩, fun e => ?_⟩
    · rw [List.filter_cons, if_pos e, List.map_cons]
    · rw [List.filter_cons, if_neg (by rw [e]; exact Bool.false_ne_true)]; exact ih
theorem evt_yes {Γ : List Sl} : EvT F tYes Γ true := fun z σ Q hz hs c => c z (Add.refl z) hz
theorem lcp_all {enc : α → PyData} {f : α → PyData} {Γw : List Sl} {xs : List α} (h : ∀ x ∈ xs, ∃ Γ1, GTo F g (enc x) Γw Γ1 ∧ EvS F te Γ1 (.d (f x))) : LcP F g tYes te Γw (xs.map enc) (xs.map f) := by
  have := lcp_map (F := F) (g := g) (tt := tYes) (te := te) (enc := enc) (p := fun _ => true) (f := f) (Γw := Γw) (xs := xs) fun x hx => let ⟨Γ1, h1, h2⟩ := h x hx; ⟨Γ1, h1, evt_yes, fun _ => h2⟩
  rwa [List.filter_eq_self.mpr (by intro _ _; rfl)] at this
def EvI (F : Fx) (wi : TI) (Γ : List Sl) (items : List PyData) : Prop := ∀ (z : Z) (σ : L2.St) (R : It → Hp → Prop), ZOk F z → SOk F z σ Γ → (∀ J z', Add z z' → ZOk F z' → Yields F J z'.S items → R J z'.H) → wi σ z.H R
theorem evi_list (h : EvS F te Γ (.d (.list ds))) : EvI F (iList F.K te) Γ ds := fun z σ R hz hs c =>
  h z σ _ hz hs fun v z' a hz' hv _ => by
    cases hv with
    | lst h1 h2 => exact ⟨_, rfl, ⟨_, SqL.of (hz'.sub _ _ h1)⟩, c _ _ a hz' (yields_list h1 h2)⟩
theorem evi_tup (h : EvS F te Γ (.d (.tuple ds))) : EvI F (iTup F.K te) Γ ds := fun z σ R hz hs c =>
  h z σ _ hz hs fun v z' a hz' hv _ => by
    cases hv with
    | tup h1 h2 => exact ⟨_, rfl, ⟨_, SqT.of (hz'.sub _ _ h1)⟩, c _ _ a hz' (yields_tup h1 h2)⟩
theorem evi_range1 {j : Int} (h : EvA F ta Γ [.d (.int j)]) (h1 : -(2 ^ 62) ≤ j) (h2 : j < 2 ^ 62) : EvI F (iRng1 ta) Γ (rangeD 0 j.toNat) := fun z σ R hz hs c =>
  h z σ _ hz hs fun vs z' a hz' ha => by
    obtain ⟨v, rfl, hv⟩ := VAll.one ha
    exact ⟨j, by rw [hv.d_int], h1, h2, c _ _ a hz' yields_range⟩
theorem evi_range2 {i j : Int} (h : EvA F ta Γ [.d (.int i), .d (.int j)]) (h1 : -(2 ^ 62) ≤ i ∧ i < 2 ^ 62 ∧ -(2 ^ 62) ≤ j ∧ j < 2 ^ 62) : EvI F (iRng2 ta) Γ (rangeD i (j - i).toNat) := fun z σ R hz hs c =>
  h z σ _ hz hs fun vs z' a hz' ha => by
    obtain ⟨v, w, rfl, hv, hw⟩ := VAll.two ha
    exact ⟨i, j, by rw [hv.d_int, hw.d_int], h1, c _ _ a hz' yields_range⟩
theorem lcp_len {Γw : List Sl} : ∀ {items outs : List PyData}, LcP F g tt te Γw items outs → outs.length ≤ items.length
  | [], outs, h => by rw [show outs = [] from h]; exact Nat.le_refl _
  | d :: ds, outs, h => by
    obtain ⟨Γ1, b, _, _, h1, h2⟩ := h
    cases b with
    | true =>
      obtain ⟨x, rest, rfl, _, h3⟩ := h1 rfl
      exact Nat.succ_le_succ (lcp_len h3)
    | false => exact Nat.le_succ_of_le (lcp_len (h2 rfl))
theorem evs_lc {vs : List Nat} {items outs : List PyData} (hi : EvI F wi Γ items) (hg : Gvs vs g) (hl : items.length < sizeLine) (h : LcP F g tt te (wipeS Γ vs) items outs) : EvS F (tLc wi g tt te vs) Γ (.lst outs) := fun z σ Q hz hs c =>
  hi z σ _ hz hs fun J z1 a1 hz1 hy D hD => by
    have hs1 := hs.add a1
    obtain ⟨n1, n2, n3⟩ := hz1.free hD
    -- the part above D: z2 is z1 with D laid
    refine ⟨fun i m H => ∃ z2 acc accD, H = z2.H ∧ Add (z1.tmp D (.lst [])) ⟨z2.S, upd z2.H D (.lst []), z2.own⟩ ∧ ZOk F z2 ∧ z2.H D = some (.lst acc) ∧ z2.S D = none ∧ DtAll F.K z2.S acc accD ∧ accD.length ≤ i ∧ (∃ rest, outs = accD ++ rest ∧ LcP F g tt te (wipeS Γ vs) (items.drop i) rest) ∧ m = items.length - i, ⟨items.length, z1.tmp D (.lst []), [], [], rfl, ?_, hz1.tmp hD, upd_same, n1, .nil, Nat.zero_le _, ⟨outs, rfl, h⟩, rfl⟩, ?_⟩
    · refine ⟨Ex.refl _, fun a o e => ⟨?_, rfl⟩, rfl⟩
      by_cases q : a = D
      · subst q; rw [← e]; exact upd_same.trans upd_same.symm
      · exact (upd_ne q).trans e
    · rintro i m H ⟨z2, acc, accD, rfl, ad, hz2, hD2, nS, dA, hle, ⟨rest, er, hp⟩, em⟩
      have e12 : Ex z1.S z2.S := ad.s
      have s2 : SOk F z2 σ Γ := by
        have := (hs1.add (Add.tmp (o := .lst []) hD)).add ad
        -- slots own nothing at D
        refine ⟨this.len, fun j s' e => (this.at_ j s' e).elim .inl fun ⟨w, w1, h2⟩ => .inr ⟨w, w1, ?_⟩⟩
        have ow : ∀ {a : Addr}, z2.own a = some j → a ≠ D := fun {a} w q => by
          subst q
          have : z2.own = (z1.tmp a (.lst [])).own := ad.own
          rw [this] at w
          rw [show (z1.tmp a (.lst [])).own a = z1.own a from rfl, n3] at w; cases w
        cases s' with
        | un => exact h2
        | d x => exact h2
        | raw u => exact h2
        | lst ds => obtain ⟨a, xs, e, g1, g2, g3, g4, g5⟩ := h2; exact ⟨a, xs, e, (upd_ne (ow g2)).symm.trans g1, g2, g3, g4, g5⟩
        | bor ds => exact nomatch h2.1
        | bK ds => exact nomatch h2.1
        | bT ds => exact nomatch h2.1
        | src a ds => obtain ⟨xs, e, g1, g2, g3, g4, g5⟩ := h2; exact ⟨xs, e, (upd_ne (ow g2)).symm.trans g1, g2, g3, g4, g5⟩
        | dK ds => obtain ⟨a, xs, e, g1, g2, g3, g4, g5⟩ := h2; exact ⟨a, xs, e, (upd_ne (ow g2)).symm.trans g1, g2, g3, g4, g5⟩
        | dT ds => obtain ⟨a, xs, e, g1, g2, g3, g4, g5⟩ := h2; exact ⟨a, xs, e, (upd_ne (ow g2)).symm.trans g1, g2, g3, g4, g5⟩
        | sK ds => exact h2
        | sT ds => exact h2
        | sq ds => exact h2
      have oD : z2.own D = none := by
        have : z2.own = (z1.tmp D (.lst [])).own := ad.own
        rw [this]; exact n3
      -- from the entry to z2
      have a02 : Add z z2 := by
        refine ⟨a1.s.trans e12, fun a o e => ?_, ad.own.trans a1.own⟩
        have q1 := a1.h a o e
        have ne : a ≠ D := ne_of_none q1.1 hD
        have q2 := ad.h a o ((upd_ne ne).trans q1.1)
        exact ⟨(upd_ne ne).symm.trans q2.1, q2.2.trans q1.2⟩
      obtain ⟨yg, ys⟩ := hy z2 e12 hz2 i
      cases q : items[i]? with
      | none =>
        have hlen := List.getElem?_eq_none_iff.mp q
        rw [List.drop_eq_nil_of_le hlen] at hp
        have e0 : rest = [] := hp
        subst e0
        rw [List.append_nil] at er
        subst er
        exact .inl ⟨ys hlen, c _ z2 a02 hz2 ⟨D, acc, rfl, hD2, oD, nS, n2, dA⟩ ⟨D, rfl, a1.dom D hD⟩⟩
      | some d =>
        have hlen := (List.getElem?_eq_some_iff.mp q).1
        obtain ⟨go, yl⟩ := yg d q
        have ed : items.drop i = d :: items.drop (i + 1) := by
          rw [List.drop_eq_getElem_cons hlen, (List.getElem?_eq_some_iff.mp q).2]
        rw [ed] at hp
        obtain ⟨Γ1, b, hg1, ht1, hb1, hb0⟩ := hp
        refine .inr ⟨go, fun H' => ∃ z2 acc accD, H' = z2.H ∧ Add (z1.tmp D (.lst [])) ⟨z2.S, upd z2.H D (.lst []), z2.own⟩ ∧ ZOk F z2 ∧ z2.H D = some (.lst acc) ∧ z2.S D = none ∧ DtAll F.K z2.S acc accD ∧ accD.length ≤ i + 1 ∧ (∃ rest, outs = accD ++ rest ∧ LcP F g tt te (wipeS Γ vs) (items.drop (i + 1)) rest), ?_, ?_⟩
        · rintro H' ⟨z3, acc3, accD3, w1, w2, w3, w4, w5, w6, w7, w8⟩
          exact ⟨items.length - (i + 1), by omega, z3, acc3, accD3, w1, w2, w3, w4, w5, w6, w7, w8, rfl⟩
        · intro x H' hx
          obtain ⟨z3, rfl, a3, hz3, dx⟩ := yl x H' hx
          have lift : ∀ {z4 : Z}, Add z2 z4 → Add (z1.tmp D (.lst [])) ⟨z4.S, upd z4.H D (.lst []), z4.own⟩ := fun {z4} a4 => by
            refine ⟨ad.s.trans a4.s, fun a o e => ?_, a4.own.trans ad.own⟩
            have q1 := ad.h a o e
            by_cases hq : a = D
            · subst hq
              refine ⟨?_, ?_⟩
              · rw [← q1.1]; exact upd_same.trans upd_same.symm
              · exact (a4.h a _ hD2).2.trans q1.2
            · have q2 := a4.h a o ((upd_ne hq).symm.trans q1.1)
              exact ⟨(upd_ne hq).trans q2.1, q2.2.trans q1.2⟩
          have hG := hg x (wipe σ vs) z3.H
          rw [wipe_wipe] at hG
          refine hG _ ?_
          refine hg1 z3 (wipe σ vs) x _ hz3 (wipeS_ok (s2.add a3) vs) dx fun σ4 hs4 => ?_
          refine ht1 z3 σ4 _ hz3 hs4 fun z4 a4 hz4 => ?_
          cases b with
          | false =>
            rw [if_neg Bool.false_ne_true]
            have a24 := a3.trans a4
            exact ⟨z4, acc, accD, rfl, lift a24, hz4, (a24.h _ _ hD2).1, (a24.h _ _ hD2).2.trans nS, dA.mono a24.s, by omega, rest, er, hb0 rfl⟩
          | true =>
            rw [if_pos rfl]
            obtain ⟨y, rest', e1, he, hr⟩ := hb1 rfl
            refine he z4 σ4 _ hz4 (hs4.add a4) fun u z5 a5 hz5 hu _ => ?_
            have a25 := a3.trans (a4.trans a5)
            have h5 := a25.h _ _ hD2
            refine ⟨acc, h5.1, by rw [dA.len]; omega, ⟨z5.S, upd z5.H D (.lst (acc ++ [u])), z5.own⟩, acc ++ [u], accD ++ [y], rfl, ?_, ?_, upd_same, h5.2.trans nS, (dA.mono a25.s).app (.cons hu .nil), by rw [List.length_append]; simp; omega, rest', by rw [er, e1, List.append_assoc]; rfl, hr⟩
            · have l5 := lift a25
              rw [show upd (upd z5.H D (.lst (acc ++ [u]))) D (.lst []) = upd z5.H D (.lst []) from upd_upd]
              exact l5
            · have nD : z5.own D = none := by rw [a25.own]; exact oD
              refine ⟨fun a o e => ?_, fun a o e => ?_, hz5.s0, fun a j e => ?_, hz5.fresh⟩
              · exact (upd_ne (fun q => by subst q; rw [show z5.S a = some o from e] at h5; rw [nS] at h5; exact nomatch h5.2)).trans (hz5.sub a o e)
              · exact (upd_ne (fun q => by subst q; rw [n2] at e; cases e)).trans (hz5.base a o e)
              · obtain ⟨w1, w2, o, w3⟩ := hz5.own a j e
                exact ⟨w1, w2, o, (upd_ne (fun q => by subst q; rw [show z5.own a = some j from e] at nD; cases nD)).trans w3⟩
end
end GL
namespace GL
open PySem PySem.Spec PyProof.Rows L2

/-! ### promises -/
def VP (K : PySem.W.Frag) (S : Hp) (v : V) : Sl → Prop
  | .d x => Dt K S v x
  | .raw w => v = w
  | .sK kvs => ∃ a xs, v = .ref a ∧ S a = some (.dK xs) ∧ KvD K S xs kvs
  | .sT kvs => ∃ a xs, v = .ref a ∧ S a = some (.dT xs) ∧ KvD K S xs kvs
  | .sq ds => ∃ a xs, v = .ref a ∧ SqL K S a xs ∧ DtAll K S xs ds
  | _ => False
abbrev VPs (K : PySem.W.Frag) (S : Hp) : List V → List Sl → Prop := Paired (VP K S)
/-- what a call gives; H: the caller's -/
def VN (K : PySem.W.Frag) (S' H H' : Hp) (v : V) : Sl → Prop
  | .d x => Dt K S' v x
  | .raw w => v = w
  | .lst ds => ∃ a xs, v = .ref a ∧ H a = none ∧ H' a = some (.lst xs) ∧ S' a = none ∧ DtAll K S' xs ds
  | .dK kvs => ∃ a xs, v = .ref a ∧ H a = none ∧ H' a = some (.dK xs) ∧ S' a = none ∧ KvD K S' xs kvs
  | .dT kvs => ∃ a xs, v = .ref a ∧ H a = none ∧ H' a = some (.dT xs) ∧ S' a = none ∧ KvD K S' xs kvs
  | .sK kvs => ∃ a xs, v = .ref a ∧ S' a = some (.dK xs) ∧ KvD K S' xs kvs
  | .sT kvs => ∃ a xs, v = .ref a ∧ S' a = some (.dT xs) ∧ KvD K S' xs kvs
  | .sq ds => ∃ a xs, v = .ref a ∧ SqL K S' a xs ∧ DtAll K S' xs ds
  | _ => False
def Sl.pass : Sl → Bool
  | .d _ => true
  | .raw _ => true
  | .sK _ => true
  | .sT _ => true
  | .sq _ => true
  | _ => false
structure Con where
  α : Type
  args : α → List Sl
  pre : α → Prop
  post : α → Sl → Prop
  exc : α → Addr → Prop := fun _ _ => False
def spP (K : PySem.W.Frag) (c : Con) : Sp := fun vs H Q E => ∃ (S : Hp) (a : c.α), Ex S H ∧ VPs K S vs (c.args a) ∧ c.pre a ∧
  (∀ v r S' H', c.post a r → Ex S S' → Ex S' H' → Ex H H' → (∀ a o, H a = some o → S' a = S a) → VN K S' H H' v r → Q v H') ∧
  (∀ C H', c.exc a C → Ex H H' → E (.ref C) none H')
section
variable {F : Fx} {z : Z} {Γ : List Sl} {te : TE} {ta tA : TA} {k : Sl → List Sl → Prop} {nx bk ct : List Sl → Prop} {rt : Sl → List Sl → Prop} {ds : List PyData} {ss : List Sl} {s : Sl}
theorem VAll.pass : ∀ {vs : List V} {ss : List Sl}, VAll F z vs ss → ss.all Sl.pass = true → VPs F.K z.S vs ss
  | _, _, .nil, _ => .nil
  | v :: _, s :: _, .cons h t, e => by
    rw [List.all_cons, Bool.and_eq_true] at e
    refine .cons ?_ (VAll.pass t e.2)
    cases s with
    | d x => exact h
    | raw w => exact h
    | sK w => exact h
    | sT w => exact h
    | sq w => exact h
    | _ => exact nomatch e.1
/-- behind a call -/
theorem call_after {S' H' : Hp} (hz : ZOk F z) (e1 : Ex z.S S') (e2 : Ex S' H') (e3 : Ex z.H H') (e4 : ∀ a o, z.H a = some o → S' a = z.S a) : ZOk F ⟨S', H', z.own⟩ ∧ Add z ⟨S', H', z.own⟩ :=
  ⟨⟨e2, hz.base.trans e3, hz.s0.trans e1, fun a i e => by
      obtain ⟨w1, w2, o, w3⟩ := hz.own a i e
      exact ⟨(e4 a o w3).trans w1, w2, o, e3 a o w3⟩, fun a o e => (e4 a o (hz.base a o e)).trans (hz.fresh a o e)⟩,
    ⟨e1, fun a o e => ⟨e3 a o e, e4 a o e⟩, rfl⟩⟩
theorem vn_vok {S' H' : Hp} {v : V} (hz : ZOk F z) (h : VN F.K S' z.H H' v s) : VOk F ⟨S', H', z.own⟩ none v s ∧ New z v s := by
  cases s with
  | un => exact h.elim
  | d x => exact ⟨h, trivial⟩
  | raw w => exact ⟨h, trivial⟩
  | lst ds => obtain ⟨a, xs, e, h1, h2, h3, h4⟩ := h; have f := hz.free h1; exact ⟨⟨a, xs, e, h2, f.2.2, h3, f.2.1, h4⟩, a, e, h1⟩
  | bor ds => exact h.elim
  | bK ds => exact h.elim
  | bT ds => exact h.elim
  | src a ds => exact h.elim
  | dK ds => obtain ⟨a, xs, e, h1, h2, h3, h4⟩ := h; have f := hz.free h1; exact ⟨⟨a, xs, e, h2, f.2.2, h3, f.2.1, h4⟩, a, e, h1⟩
  | dT ds => obtain ⟨a, xs, e, h1, h2, h3, h4⟩ := h; have f := hz.free h1; exact ⟨⟨a, xs, e, h2, f.2.2, h3, f.2.1, h4⟩, a, e, h1⟩
  | sK ds => exact ⟨h, trivial⟩
  | sT ds => exact ⟨h, trivial⟩
  | sq ds => exact ⟨h, trivial⟩
/-- what a def may hand back -/
def Sl.back : Sl → Bool
  | .un => false
  | .bor _ => false
  | .bK _ => false
  | .bT _ => false
  | .src _ _ => false
  | _ => true
theorem vok_vn {v : V} (hz : ZOk F z) (h : VOk F z none v s) (hb : s.back = true) : VN F.K z.S F.B z.H v s := by
  cases s with
  | d x => exact h
  | raw w => exact h
  | lst ds => obtain ⟨a, xs, e, h1, h2, h3, h4, h5⟩ := h; exact ⟨a, xs, e, h4, h1, h3, h5⟩
  | dK ds => obtain ⟨a, xs, e, h1, h2, h3, h4, h5⟩ := h; exact ⟨a, xs, e, h4, h1, h3, h5⟩
  | dT ds => obtain ⟨a, xs, e, h1, h2, h3, h4, h5⟩ := h; exact ⟨a, xs, e, h4, h1, h3, h5⟩
  | sK ds => exact h
  | sT ds => exact h
  | sq ds => exact h
  | _ => cases hb
/-! ### calls -/
theorem wpe_call {c : Con} {E : XK} (h : WpA F tA Γ fun ss Γ' => ∃ a, ss = c.args a ∧ (c.args a).all Sl.pass = true ∧ c.pre a ∧ (∀ r, c.post a r → k r Γ') ∧ ∀ C, ¬ c.exc a C) : WpE F (tCall (spP F.K c) [] E tA) Γ k := fun z σ Q hF hz hs q =>
  h z σ _ hF hz hs fun vs ss Γ' z1 ⟨a, es, hp, hpre, hk, hx⟩ a1 hz1 hs1 hv => by
    subst es
    rw [List.append_nil]
    refine ⟨z1.S, a, hz1.sub, hv.pass hp, hpre, fun v r S' H' hr e1 e2 e3 e4 hn => ?_, fun C H' hc => absurd hc (hx C)⟩
    obtain ⟨hz2, a2⟩ := call_after hz1 e1 e2 e3 e4
    obtain ⟨hv2, hn2⟩ := vn_vok hz1 hn
    exact q v r Γ' ⟨S', H', z1.own⟩ (hk r hr) (a1.trans a2.ext) hz2 (hs1.add a2) hv2 (hn2.back a1.dom)
/-- a call that may raise -/
theorem wpe_callX {c : Con} (h : WpA F tA Γ fun ss Γ' => ∃ a, ss = c.args a ∧ (c.args a).all Sl.pass = true ∧ c.pre a ∧ (∀ r, c.post a r → k r Γ') ∧ ∀ C, c.exc a C → F.px C) : WpE F (tCall (spP F.K c) [] F.E tA) Γ k := fun z σ Q hF hz hs q =>
  h z σ _ hF hz hs fun vs ss Γ' z1 ⟨a, es, hp, hpre, hk, hx⟩ a1 hz1 hs1 hv => by
    subst es
    rw [List.append_nil]
    refine ⟨z1.S, a, hz1.sub, hv.pass hp, hpre, fun v r S' H' hr e1 e2 e3 e4 hn => ?_, fun C H' hc e => ?_⟩
    · obtain ⟨hz2, a2⟩ := call_after hz1 e1 e2 e3 e4
      obtain ⟨hv2, hn2⟩ := vn_vok hz1 hn
      exact q v r Γ' ⟨S', H', z1.own⟩ (hk r hr) (a1.trans a2.ext) hz2 (hs1.add a2) hv2 (hn2.back a1.dom)
    · exact hF ⟨z1.S, H', z1.own⟩ C (call_after hz1 (Ex.refl _) (hz1.sub.trans e) e fun _ _ _ => rfl).1 (hx C hc)
theorem evs_call {c : Con} {E : XK} (a : c.α) (h : EvA F tA Γ (c.args a)) (hp : (c.args a).all Sl.pass = true) (hpre : c.pre a) (hk : ∀ r, c.post a r → r = s) (hx : ∀ C, ¬ c.exc a C) : EvS F (tCall (spP F.K c) [] E tA) Γ s := fun z σ Q hz hs q =>
  h z σ _ hz hs fun vs z1 a1 hz1 hv => by
    rw [List.append_nil]
    refine ⟨z1.S, a, hz1.sub, hv.pass hp, hpre, fun v r S' H' hr e1 e2 e3 e4 hn => ?_, fun C H' hc => absurd hc (hx C)⟩
    obtain ⟨hz2, a2⟩ := call_after hz1 e1 e2 e3 e4
    obtain ⟨hv2, hn2⟩ := vn_vok hz1 hn
    have e := hk r hr
    subst e
    exact q v ⟨S', H', z1.own⟩ (a1.trans a2) hz2 hv2 (hn2.back a1.dom)
/-- with keywords -/
theorem VAll.app {z : Z} : ∀ {vs ws : List V} {ss tt : List Sl}, VAll F z vs ss → VAll F z ws tt → VAll F z (vs ++ ws) (ss ++ tt)
  | _, _, _, _, .nil, s => s
  | _, _, _, _, .cons h t, s => .cons h (VAll.app t s)
theorem evs_callK {c : Con} {E : XK} {tB : TA} {ks : List Sl} {n m : Nat} (a : c.α) (hn1 : ss.length = n) (hm1 : ks.length = m) (h : EvA F tA Γ ss) (h2 : EvA F tB Γ ks) (ea : ss ++ ks = c.args a) (hp : (c.args a).all Sl.pass = true) (hpre : c.pre a) (hk : ∀ r, c.post a r → r = s) (hx : ∀ C, ¬ c.exc a C) : EvS F (tCallN n m (spP F.K c) (· ++ ·) E tA tB) Γ s := fun z σ Q hz hs q =>
  h z σ _ hz hs fun vs z0 a0 hz0 hv0 => h2 z0 σ _ hz0 (hs.add a0) fun ws z1 a01 hz1 hw => by
    have a1 := a0.trans a01
    refine ⟨(Paired.length hv0).trans hn1, (Paired.length hw).trans hm1, z1.S, a, hz1.sub, (ea ▸ (hv0.add a01).app hw : VAll F z1 (vs ++ ws) (c.args a)).pass hp, hpre, fun v r S' H' hr e1 e2 e3 e4 hn => ?_, fun C H' hc => absurd hc (hx C)⟩
    obtain ⟨hz2, a2⟩ := call_after hz1 e1 e2 e3 e4
    obtain ⟨hv2, hn2⟩ := vn_vok hz1 hn
    have e := hk r hr
    subst e
    exact q v ⟨S', H', z1.own⟩ (a1.trans a2) hz2 hv2 (hn2.back a1.dom)
theorem wpe_callKX {c : Con} {tB : TA} {n m : Nat} (h : WpA F tA Γ fun ss Γ1 => ss.all Sl.pass = true ∧ ss.length = n ∧ ∃ ks, ks.length = m ∧ EvA F tB Γ1 ks ∧ ∃ a, ss ++ ks = c.args a ∧ (c.args a).all Sl.pass = true ∧ c.pre a ∧ (∀ r, c.post a r → k r Γ1) ∧ ∀ C, c.exc a C → F.px C) : WpE F (tCallN n m (spP F.K c) (· ++ ·) F.E tA tB) Γ k := fun z σ Q hF hz hs q =>
  h z σ _ hF hz hs fun vs ss Γ' z0 ⟨hp0, hn1, ks, hm1, h2, a, ea, hp, hpre, hk, hx⟩ a0 hz0 hs0 hv0 => h2 z0 σ _ hz0 hs0 fun ws z1 a01 hz1 hw => by
    have a1 := a0.trans a01.ext
    refine ⟨(Paired.length hv0).trans hn1, (Paired.length hw).trans hm1, z1.S, a, hz1.sub, (ea ▸ (hv0.add a01).app hw : VAll F z1 (vs ++ ws) (c.args a)).pass hp, hpre, fun v r S' H' hr e1 e2 e3 e4 hn => ?_, fun C H' hc e => ?_⟩
    · obtain ⟨hz2, a2⟩ := call_after hz1 e1 e2 e3 e4
      obtain ⟨hv2, hn2⟩ := vn_vok hz1 hn
      exact q v r Γ' ⟨S', H', z1.own⟩ (hk r hr) (a1.trans a2.ext) hz2 ((hs0.add a01).add a2) hv2 (hn2.back a1.dom)
    · exact hF ⟨z1.S, H', z1.own⟩ C (call_after hz1 (Ex.refl _) (hz1.sub.trans e) e fun _ _ _ => rfl).1 (hx C hc)

/-! ### a list handed in to be changed -/
structure ConS where
  α : Type
  src : α → List PyData
  args : α → List Sl
  pre : α → Prop
  post : α → Sl → List PyData → Prop
def spS (K : PySem.W.Frag) (c : ConS) : Sp := fun vs H Q E => ∃ (S : Hp) (a : Addr) (xs : List V) (vs' : List V) (b : c.α), vs = .ref a :: vs' ∧ H a = some (.lst xs) ∧ S a = none ∧ DtAll K S xs (c.src b) ∧ Ex S H ∧ VPs K S vs' (c.args b) ∧ c.pre b ∧
  ∀ v r ds' xs' S' H', c.post b r ds' → Ex S S' → Ex S' H' → (∀ b o, b ≠ a → H b = some o → H' b = some o) → (∀ b o, H b = some o → S' b = S b) → H' a = some (.lst xs') → DtAll K S' xs' ds' → VN K S' H H' v r → Q v H'
def Sl.ownL : Sl → Option (List PyData)
  | .lst ds => some ds
  | .src _ ds => some ds
  | _ => none
def Sl.withL : Sl → List PyData → Sl
  | .lst _, ds => .lst ds
  | .src a _, ds => .src a ds
  | s, _ => s
/-- a slot's own list, as it may be changed -/
theorem mut_own {σ : L2.St} {i : Nat} {s0 : Sl} (hz : ZOk F z) (hs : SOk F z σ Γ) (hi : Γ[i]? = some s0) (ho : s0.ownL = some ds) : ∃ p xs, σ[i]? = some (some (.ref p)) ∧ z.H p = some (.lst xs) ∧ z.S p = none ∧ z.own p = some i ∧ F.B p = none ∧ DtAll F.K z.S xs ds ∧
    ∀ (z1 : Z), Add z z1 → ZOk F z1 → ∀ xs' ds', DtAll F.K z1.S xs' ds' → ZOk F ⟨z1.S, upd z1.H p (.lst xs'), z1.own⟩ ∧ SOk F ⟨z1.S, upd z1.H p (.lst xs'), z1.own⟩ σ (Γ.set i (s0.withL ds')) ∧ Ext z ⟨z1.S, upd z1.H p (.lst xs'), z1.own⟩ := by
  have base : ∃ p xs, σ[i]? = some (some (.ref p)) ∧ z.H p = some (.lst xs) ∧ z.S p = none ∧ z.own p = some i ∧ F.B p = none ∧ DtAll F.K z.S xs ds ∧ ∀ (z2 : Z) xs' ds', z2.H p = some (.lst xs') → z2.own p = some i → z2.S p = none → DtAll F.K z2.S xs' ds' → VOk F z2 (some i) (.ref p) (s0.withL ds') := by
    obtain ⟨v, h1, hv⟩ := (hs.at_ i _ hi).resolve_left (fun e => by subst e; cases ho)
    cases s0 with
    | lst es =>
      cases Option.some.inj (show some es = some ds from ho)
      obtain ⟨p, xs, rfl, q1, q2, q3, q4, q5⟩ := hv
      exact ⟨p, xs, h1, q1, q3, q2, q4, q5, fun z2 xs' ds' w1 w2 w3 w4 => ⟨p, xs', rfl, w1, w2, w3, q4, w4⟩⟩
    | src a es =>
      cases Option.some.inj (show some es = some ds from ho)
      obtain ⟨xs, rfl, q1, q2, q3, q4, q5⟩ := hv
      exact ⟨a, xs, h1, q1, q3, q2, q4, q5, fun z2 xs' ds' w1 w2 w3 w4 => ⟨xs', rfl, w1, w2, w3, q4, w4⟩⟩
    | _ => cases ho
  obtain ⟨p, xs, h1, q1, q3, q2, q4, q5, mk⟩ := base
  have hl : i < Γ.length := (List.getElem?_eq_some_iff.mp hi).1
  refine ⟨p, xs, h1, q1, q3, q2, q4, q5, fun z1 a1 hz1 xs' ds' h' => ?_⟩
  have p1 := a1.h p _ q1
  have s1 : z1.S p = none := p1.2.trans q3
  have o1 : z1.own p = some i := by rw [a1.own]; exact q2
  have hs1 := hs.add a1
  refine ⟨⟨fun a u e => ?_, fun a u e => ?_, hz1.s0, fun a j e => ?_, hz1.fresh⟩, ⟨by rw [List.length_set]; exact hs.len, fun j s' e => ?_⟩, ⟨a1.s, fun a u e n => ?_, fun a e => ?_⟩⟩
  · exact (upd_ne (fun q => by subst q; rw [show z1.S a = some u from e] at s1; cases s1)).trans (hz1.sub a u e)
  · exact (upd_ne (fun q => by subst q; rw [e] at q4; cases q4)).trans (hz1.base a u e)
  · obtain ⟨w1, w2, w3⟩ := hz1.own a j e
    refine ⟨w1, w2, ?_⟩
    by_cases q : a = p
    · subst q; exact ⟨_, upd_same⟩
    · obtain ⟨o, w3⟩ := w3; exact ⟨o, (upd_ne q).trans w3⟩
  · by_cases hj : j = i
    · subst hj
      rw [List.getElem?_set_self hl] at e
      cases e
      exact .inr ⟨_, h1, mk _ _ _ upd_same o1 s1 h'⟩
    · rw [List.getElem?_set_ne (Ne.symm hj)] at e
      have ho : ∀ {a : Addr}, z1.own a = some j → a ≠ p := fun {a} w q => by subst q; rw [o1] at w; exact hj (Option.some.inj w).symm
      refine (hs1.at_ j s' e).elim .inl fun ⟨w, w1, h2⟩ => .inr ⟨w, w1, ?_⟩
      cases s' with
      | un => exact h2
      | d x => exact h2
      | raw u => exact h2
      | lst ds => obtain ⟨a, xs, e, g1, g2, g3, g4, g5⟩ := h2; exact ⟨a, xs, e, (upd_ne (ho g2)).trans g1, g2, g3, g4, g5⟩
      | bor ds => exact nomatch h2.1
      | bK ds => exact nomatch h2.1
      | bT ds => exact nomatch h2.1
      | src a ds => obtain ⟨xs, e, g1, g2, g3, g4, g5⟩ := h2; exact ⟨xs, e, (upd_ne (ho g2)).trans g1, g2, g3, g4, g5⟩
      | dK ds => obtain ⟨a, xs, e, g1, g2, g3, g4, g5⟩ := h2; exact ⟨a, xs, e, (upd_ne (ho g2)).trans g1, g2, g3, g4, g5⟩
      | dT ds => obtain ⟨a, xs, e, g1, g2, g3, g4, g5⟩ := h2; exact ⟨a, xs, e, (upd_ne (ho g2)).trans g1, g2, g3, g4, g5⟩
      | sK ds => exact h2
      | sT ds => exact h2
      | sq ds => exact h2
  · have ne : a ≠ p := fun q => by subst q; rw [n] at q2; cases q2
    have w := a1.h a u e
    exact ⟨(upd_ne ne).trans w.1, by rw [a1.own]; exact n, w.2⟩
  · by_cases q : a = p
    · subst q; exact nomatch (upd_same.symm.trans (show upd z1.H a (HO.lst xs') a = none from e))
    · exact a1.dom a ((upd_ne q).symm.trans e)
theorem wpe_callS {c : ConS} {E : XK} {i : Nat} {s0 : Sl} (b : c.α) (hi : Γ[i]? = some s0) (ho : s0.ownL = some (c.src b)) (h : EvA F tA Γ (c.args b)) (hp : (c.args b).all Sl.pass = true) (hpre : c.pre b) (hk : ∀ r ds', c.post b r ds' → k r (Γ.set i (s0.withL ds'))) : WpE F (tCall (spS F.K c) [] E (tCons (tVar i) tA)) Γ k := fun z σ Q hF hz hs q => by
  obtain ⟨p, xs, h1, q1, q2, q3, q4, q5, mu⟩ := mut_own hz hs hi ho
  refine ⟨_, h1, h z σ _ hz hs fun vs z1 a1 hz1 hv => ?_⟩
  show spS F.K c ((V.ref p :: vs) ++ []) z1.H Q E
  rw [List.append_nil]
  have p1 := a1.h p _ q1
  refine ⟨z1.S, p, xs, vs, b, rfl, p1.1, p1.2.trans q2, q5.mono a1.s, hz1.sub, hv.pass hp, hpre, fun v r ds' xs' S' H' hr e1 e2 e3 e4 e5 e6 hn => ?_⟩
  -- the callee's other doings, then the change
  let z2 : Z := ⟨S', upd H' p (.lst xs), z1.own⟩
  have sp : S' p = none := (e4 p _ p1.1).trans (p1.2.trans q2)
  have ex12 : Ex z1.H z2.H := fun a o e => by
    by_cases hq : a = p
    · subst hq; rw [p1.1] at e; cases e; exact upd_same
    · exact (upd_ne hq).trans (e3 a o hq e)
  obtain ⟨hz2, a2⟩ := call_after (S' := S') (H' := upd H' p (.lst xs)) hz1 e1 (fun a o e => (upd_ne (fun hq => by subst hq; rw [e] at sp; cases sp)).trans (e2 a o e)) ex12 e4
  obtain ⟨hz3, hs3, x3⟩ := mu z2 (a1.trans a2) hz2 xs' ds' e6
  have eH : upd z2.H p (.lst xs') = H' := by
    show upd (upd H' p (.lst xs)) p (.lst xs') = H'
    rw [upd_upd]
    funext b
    by_cases hb : b = p
    · subst hb; rw [upd_same]; exact e5.symm
    · exact upd_ne hb
  have hn' : VN F.K S' z1.H z2.H v r := by
    have na : ∀ {a : Addr}, z1.H a = none → a ≠ p := fun {a} e hq => by subst hq; rw [p1.1] at e; cases e
    cases r with
    | un => exact hn.elim
    | d x => exact hn
    | raw w => exact hn
    | lst ds => obtain ⟨a, xs, e, h1, h2, h3, h4⟩ := hn; exact ⟨a, xs, e, h1, (upd_ne (na h1)).trans h2, h3, h4⟩
    | bor ds => exact hn.elim
    | bK ds => exact hn.elim
    | bT ds => exact hn.elim
    | src a ds => exact hn.elim
    | dK ds => obtain ⟨a, xs, e, h1, h2, h3, h4⟩ := hn; exact ⟨a, xs, e, h1, (upd_ne (na h1)).trans h2, h3, h4⟩
    | dT ds => obtain ⟨a, xs, e, h1, h2, h3, h4⟩ := hn; exact ⟨a, xs, e, h1, (upd_ne (na h1)).trans h2, h3, h4⟩
    | sK ds => exact hn
    | sT ds => exact hn
    | sq ds => exact hn
  obtain ⟨hv2, hn2⟩ := vn_vok hz1 hn'
  have key := q v r _ ⟨z2.S, upd z2.H p (.lst xs'), z2.own⟩ (hk r ds' hr) x3 hz3 hs3
  rw [show (Z.H ⟨z2.S, upd z2.H p (.lst xs'), z2.own⟩) = H' from eH] at key
  refine key ?_ (hn2.back a1.dom)
  have na : ∀ {a : Addr} {o : Option Nat}, z1.own a = none → a ≠ p := fun {a o} e hq => by subst hq; rw [a1.own] at e; rw [q3] at e; cases e
  cases r with
  | un => exact hv2
  | d x => exact hv2
  | raw w => exact hv2
  | lst ds => obtain ⟨a, xs, e, g1, g2, g3, g4, g5⟩ := hv2; exact ⟨a, xs, e, (upd_ne (na (o := none) g2)).trans g1, g2, g3, g4, g5⟩
  | bor ds => exact hn.elim
  | bK ds => exact hn.elim
  | bT ds => exact hn.elim
  | src a ds => exact hn.elim
  | dK ds => obtain ⟨a, xs, e, g1, g2, g3, g4, g5⟩ := hv2; exact ⟨a, xs, e, (upd_ne (na (o := none) g2)).trans g1, g2, g3, g4, g5⟩
  | dT ds => obtain ⟨a, xs, e, g1, g2, g3, g4, g5⟩ := hv2; exact ⟨a, xs, e, (upd_ne (na (o := none) g2)).trans g1, g2, g3, g4, g5⟩
  | sK ds => exact hv2
  | sT ds => exact hv2
  | sq ds => exact hv2

/-! ### a slot's list changed by a method or a store -/
variable {tA' : TA} {i : Nat} {s0 : Sl} {d : PyData}
theorem wp_append (hi : Γ[i]? = some s0) (ho : s0.ownL = some ds) (h : EvS F te Γ (.d d)) (hl : ds.length < sizeLine) (q : nx (Γ.set i (s0.withL (ds ++ [d])))) : Wp F (tDrop (tBM F.K "list" rAppend (tVar i) (tCons te tNil))) Γ nx rt bk ct := fun z σ D hF hz hs r => by
  obtain ⟨p, xs, h1, q1, q2, q3, q4, q5, mu⟩ := mut_own hz hs hi ho
  refine ⟨_, h1, .inl ⟨rfl, xs, SqL.of q1⟩, h z σ _ hz hs fun v z1 a1 hz1 hv _ => ?_⟩
  have p1 := a1.h p _ q1
  obtain ⟨hz3, hs3, x3⟩ := mu z1 a1 hz1 (xs ++ [v]) (ds ++ [d]) ((q5.mono a1.s).app (.cons hv .nil))
  exact ⟨p, xs, v, rfl, rfl, p1.1, by rw [q5.len]; exact hl, r.nx _ _ _ q x3.s hz3 hs3⟩
theorem wp_extend {s1 : Sl} {es : List PyData} (hi : Γ[i]? = some s0) (ho : s0.ownL = some ds) (h : EvS F te Γ s1) (h1 : s1.asL = some es) (hl : ds.length + es.length ≤ sizeLine) (q : nx (Γ.set i (s0.withL (ds ++ es)))) : Wp F (tDrop (tBM F.K "list" rExtend (tVar i) (tCons te tNil))) Γ nx rt bk ct := fun z σ D hF hz hs r => by
  obtain ⟨p, xs, g1, q1, q2, q3, q4, q5, mu⟩ := mut_own hz hs hi ho
  refine ⟨_, g1, .inl ⟨rfl, xs, SqL.of q1⟩, h z σ _ hz hs fun v z1 a1 hz1 hv _ => ?_⟩
  have p1 := a1.h p _ q1
  obtain ⟨b, ys, rfl, w1, w2⟩ := hv.asL hz1 h1
  obtain ⟨hz3, hs3, x3⟩ := mu z1 a1 hz1 (xs ++ ys) (ds ++ es) ((q5.mono a1.s).app w2)
  exact ⟨p, b, xs, ys, rfl, rfl, p1.1, w1, by rw [q5.len, w2.len]; exact hl, r.nx _ _ _ q x3.s hz3 hs3⟩
/-- xs[j] = e -/
theorem wp_setL {ti : TE} {j : Int} {n : Nat} (hi : Γ[i]? = some s0) (ho : s0.ownL = some ds) (h : EvS F te Γ (.d d)) (hj : EvS F ti Γ (.d (.int j))) (hn : ixN ds.length j = some n) (q : nx (Γ.set i (s0.withL (ds.set n d)))) : Wp F (tAsg te (gSub (tVar i) ti rSetL)) Γ nx rt bk ct := fun z σ D hF hz hs r => by
  obtain ⟨p, xs, g1, q1, q2, q3, q4, q5, mu⟩ := mut_own hz hs hi ho
  refine h z σ _ hz hs fun v z1 a1 hz1 hv _ => ⟨_, g1, hj z1 σ _ hz1 (hs.add a1) fun u z2 a2 hz2 hu _ => ?_⟩
  have a := a1.trans a2
  have p1 := a.h p _ q1
  obtain ⟨hz3, hs3, x3⟩ := mu z2 a hz2 (xs.set n v) (ds.set n d) ((q5.mono a.s).set (hv.add a2) n)
  exact ⟨p, xs, j, n, rfl, hu.d_int, p1.1, by rw [q5.len]; exact hn, r.nx _ _ _ q x3.s hz3 hs3⟩
/-- return a list of our own -/
theorem wp_retOwn (hi : Γ[i]? = some (.lst ds)) (q : rt (.lst ds) (Γ.set i .un)) : Wp F (tRet (tVar i)) Γ nx rt bk ct := fun z σ D hF hz hs r => by
  obtain ⟨v, h1, p, xs, rfl, q1, q2, q3, q4, q5⟩ := (hs.at_ i _ hi).resolve_left (fun e => nomatch e)
  refine ⟨_, h1, r.rt _ (.lst ds) _ σ ⟨z.S, z.H, fun a => if a = p then none else z.own a⟩ q (Ex.refl _) ⟨hz.sub, hz.base, hz.s0, fun a j e => ?_, hz.fresh⟩ ⟨by rw [List.length_set]; exact hs.len, fun j s' e => ?_⟩ ⟨p, xs, rfl, q1, if_pos rfl, q3, q4, q5⟩⟩
  · have ne : a ≠ p := fun w => by subst w; exact nomatch ((if_pos rfl).symm.trans (show (if a = a then none else z.own a) = some j from e))
    exact hz.own a j ((if_neg ne).symm.trans e)
  · have hl : i < Γ.length := (List.getElem?_eq_some_iff.mp hi).1
    by_cases hj : j = i
    · subst hj; rw [List.getElem?_set_self hl] at e; exact .inl (Option.some.inj e).symm
    · rw [List.getElem?_set_ne (Ne.symm hj)] at e
      have ho : ∀ {a : Addr}, z.own a = some j → a ≠ p := fun {a} w q => by subst q; rw [q2] at w; exact hj (Option.some.inj w).symm
      refine (hs.at_ j s' e).elim .inl fun ⟨w, w1, h2⟩ => .inr ⟨w, w1, ?_⟩
      cases s' with
      | un => exact h2
      | d x => exact h2
      | raw u => exact h2
      | lst ds => obtain ⟨a, xs, e, g1, g2, g3, g4, g5⟩ := h2; exact ⟨a, xs, e, g1, (if_neg (ho g2)).trans g2, g3, g4, g5⟩
      | bor ds => exact nomatch h2.1
      | bK ds => exact nomatch h2.1
      | bT ds => exact nomatch h2.1
      | src a ds => obtain ⟨xs, e, g1, g2, g3, g4, g5⟩ := h2; exact ⟨xs, e, g1, (if_neg (ho g2)).trans g2, g3, g4, g5⟩
      | dK ds => obtain ⟨a, xs, e, g1, g2, g3, g4, g5⟩ := h2; exact ⟨a, xs, e, g1, (if_neg (ho g2)).trans g2, g3, g4, g5⟩
      | dT ds => obtain ⟨a, xs, e, g1, g2, g3, g4, g5⟩ := h2; exact ⟨a, xs, e, g1, (if_neg (ho g2)).trans g2, g3, g4, g5⟩
      | sK ds => exact h2
      | sT ds => exact h2
      | sq ds => exact h2

/-! ### impure code, from the left -/
variable {ta' tb : TE} {r : R2} {kA : List Sl → List Sl → Prop}
theorem wpa_nil (h : kA [] Γ) : WpA F tNil Γ kA := eva_nil.wp h
/-- a first argument that changes what slots own; it must stay good -/
theorem wpa_consW (h : WpE F te Γ fun x Γ1 => x.way = true ∧ WpA F tA Γ1 fun ss Γ2 => kA (x :: ss) Γ2) : WpA F (tCons te tA) Γ kA := fun z σ Q hF hz hs q =>
  h z σ _ hF hz hs fun v x Γ1 z1 ⟨w, h2⟩ a1 hz1 hs1 hv _ => h2 z1 σ _ hF hz1 hs1 fun vs ss Γ2 z2 hk a2 hz2 hs2 hvs => q (v :: vs) (x :: ss) Γ2 z2 hk (a1.trans a2) hz2 hs2 (.cons (hv.ext a2 w) hvs)
/-- one argument -/
theorem wpa_one (h : WpE F te Γ fun x Γ1 => kA [x] Γ1) : WpA F (tCons te tNil) Γ kA := fun z σ Q hF hz hs q =>
  h z σ _ hF hz hs fun v x Γ1 z1 hk a1 hz1 hs1 hv _ => q [v] [x] Γ1 z1 hk a1 hz1 hs1 (.cons hv .nil)
theorem wpe_op (h : WpE F te Γ fun x Γ1 => x.way = true ∧ WpE F tb Γ1 fun y Γ2 => ∃ s, OpS F r x y s ∧ k s Γ2) : WpE F (tOp r te tb) Γ k := fun z σ Q hF hz hs q =>
  h z σ _ hF hz hs fun v x Γ1 z1 ⟨w, h2⟩ a1 hz1 hs1 hv _ => h2 z1 σ _ hF hz1 hs1 fun u y Γ2 z2 ⟨s, ho, hk⟩ a2 hz2 hs2 hu _ => ho z2 v u Q hz2 (hv.ext a2 w) hu fun t z3 a3 hz3 ht hn =>
    q t s Γ2 z3 hk (a1.trans (a2.trans a3.ext)) hz3 (hs2.add a3) ht (hn.back fun p e => a1.dom p (a2.dom p e))
/-- the same where the left side is pure -/
theorem wpe_opR {x : Sl} (hx : EvS F te Γ x) (w : x.way = true) (h : WpE F tb Γ fun y Γ2 => ∃ s, OpS F r x y s ∧ k s Γ2) : WpE F (tOp r te tb) Γ k := wpe_op (hx.wp ⟨w, h⟩)
theorem wpe_cb {rc : List V → Hp → VK → Prop} (h : WpA F tA Γ fun ss Γ1 => ∃ s, CallS F rc ss s ∧ k s Γ1) : WpE F (tCB rc tA) Γ k := fun z σ Q hF hz hs q =>
  h z σ _ hF hz hs fun vs ss Γ1 z1 ⟨s, hc, hk⟩ a1 hz1 hs1 hv => hc z1 vs Q hz1 hv fun u z2 a2 hz2 hu hn => q u s Γ1 z2 hk (a1.trans a2.ext) hz2 (hs1.add a2) hu (hn.back a1.dom)
theorem wpt_test {kb : Bool → List Sl → Prop} (h : WpE F te Γ fun s Γ1 => ∃ b, s = .d (.bool b) ∧ kb b Γ1) : WpT F (tTest te) Γ kb := fun z σ Q hF hz hs q =>
  h z σ _ hF hz hs fun v s Γ1 z1 ⟨b, e, hk⟩ a1 hz1 hs1 hv _ => by subst e; exact ⟨b, hv.d_bool, q b Γ1 z1 hk a1 hz1 hs1⟩
theorem wpt_not {tt : TT} {kb : Bool → List Sl → Prop} (h : WpT F tt Γ fun b Γ1 => kb (!b) Γ1) : WpT F (tNot tt) Γ kb := fun z σ Q hF hz hs q =>
  h z σ _ hF hz hs fun b Γ1 z1 hk a1 hz1 hs1 => q (!b) Γ1 z1 hk a1 hz1 hs1
theorem wpt_and {tt tu : TT} {kb : Bool → List Sl → Prop} (h : WpT F tt Γ fun b Γ1 => (b = true → WpT F tu Γ1 kb) ∧ (b = false → kb false Γ1)) : WpT F (tAnd tt tu) Γ kb := fun z σ Q hF hz hs q =>
  h z σ _ hF hz hs fun b Γ1 z1 hk a1 hz1 hs1 => by
    cases b with
    | true => rw [if_pos rfl]; exact hk.1 rfl z1 σ Q hF hz1 hs1 fun b Γ2 z2 hk2 a2 hz2 hs2 => q b Γ2 z2 hk2 (a1.trans a2) hz2 hs2
    | false => rw [if_neg Bool.false_ne_true]; exact q false Γ1 z1 (hk.2 rfl) a1 hz1 hs1
theorem wpt_or {tt tu : TT} {kb : Bool → List Sl → Prop} (h : WpT F tt Γ fun b Γ1 => (b = false → WpT F tu Γ1 kb) ∧ (b = true → kb true Γ1)) : WpT F (tOr tt tu) Γ kb := fun z σ Q hF hz hs q =>
  h z σ _ hF hz hs fun b Γ1 z1 hk a1 hz1 hs1 => by
    cases b with
    | false => rw [if_neg Bool.false_ne_true]; exact hk.1 rfl z1 σ Q hF hz1 hs1 fun b Γ2 z2 hk2 a2 hz2 hs2 => q b Γ2 z2 hk2 (a1.trans a2) hz2 hs2
    | true => rw [if_pos rfl]; exact q true Γ1 z1 (hk.2 rfl) a1 hz1 hs1
end

/-! ### a def keeps its promise -/
section
variable {P : Program} {w : World} {K : PySem.W.Frag} {mg : Str → Option Value} {base : Heap}
theorem start_len {N : List Str} {vs : List V} (h : vs.length ≤ N.length) : (L2.start N vs).length = N.length := by
  unfold L2.start; rw [List.length_append, List.length_map, List.length_replicate]; omega
theorem VPs.len {S : Hp} {vs : List V} {ss : List Sl} (h : VPs K S vs ss) : vs.length = ss.length := Paired.length h
theorem vps_get {S : Hp} : ∀ {vs : List V} {ss : List Sl} {i : Nat} {s : Sl}, VPs K S vs ss → ss[i]? = some s → ∃ v, vs[i]? = some v ∧ VP K S v s
  | _, _, _, _, .nil, e => by simp at e
  | _, _, 0, _, .cons h _, e => by simp at e; subst e; exact ⟨_, rfl, h⟩
  | _, _, i + 1, s, .cons _ t, e => by
    obtain ⟨v, h1, h2⟩ := vps_get (i := i) (s := s) t (by simpa using e)
    exact ⟨v, by simpa using h1, h2⟩
theorem vp_vok {F : Fx} {z : Z} {o : Option Nat} {v : V} {s : Sl} (h : VP F.K z.S v s) : VOk F z o v s := by
  cases s with
  | d x => exact h
  | raw w => exact h
  | sK x => exact h
  | sT x => exact h
  | sq x => exact h
  | _ => exact h.elim
/-- the slots at a def's entry -/
def entry (N : List Str) (ss : List Sl) : List Sl := ss ++ List.replicate (N.length - ss.length) .un
theorem entry_ok {F : Fx} {z : Z} {N : List Str} {vs : List V} {ss : List Sl} (h : VPs F.K z.S vs ss) (hl : ss.length ≤ N.length) : SOk F z (L2.start N vs) (entry N ss) := by
  have el := h.len
  refine ⟨?_, fun i s e => ?_⟩
  · rw [start_len (by omega)]; unfold entry; rw [List.length_append, List.length_replicate]; omega
  · unfold entry at e
    by_cases hi : i < ss.length
    · rw [List.getElem?_append_left hi] at e
      obtain ⟨v, h1, h2⟩ := vps_get h e
      refine .inr ⟨v, ?_, vp_vok h2⟩
      unfold L2.start
      rw [List.getElem?_append_left (by rw [List.length_map]; omega), List.getElem?_map, h1]; rfl
    · rw [List.getElem?_append_right (by omega)] at e
      obtain ⟨_, q⟩ := List.getElem?_eq_some_iff.mp e
      rw [List.getElem_replicate] at q
      exact .inl q.symm
theorem back_vn {F : Fx} {z : Z} {v : V} {s : Sl} (hz : ZOk F z) (h : VOk F z none v s) (hb : s.back = true) : VN F.K z.S F.B z.H v s := vok_vn hz h hb
/-- THE RULE: a def that raises nothing -/
theorem fn_ok {x qual : Str} {st : Stmt} {f : Addr} {fd : FuncData} {N ps : List Str} {k : Nat} (F0 : Fun K x qual st f fd) (Sc : FnScope N ps (defScope st)) (c : Con) (hl : ∀ a, c.pre a → (c.args a).length = ps.length) (hN : ps.length ≤ N.length) (hx : ∀ a C, ¬ c.exc a C)
    (hb : ∀ (cdv : Value) (A : Around) (outer : List Env) (s : Shared) (H : Hp) (E : XK), Room k (A.deeper (envOfC qual (defScope st) s.heap.objs.size f cdv)) →
      ∃ t, PSs (cxOf CX0 P w K mg base N qual (defScope st) f cdv A outer s H E).nox (defBody st) t ∧ ∀ (B S0 : Hp) (E : XK) (px : Addr → Prop) (a : c.α), c.pre a → Wp ⟨K, B, S0, E, px⟩ t (entry N (c.args a)) (fun _ => c.post a (.d .none)) (fun r _ => r.back = true ∧ c.post a r) (fun _ => False) (fun _ => False)) :
    FnOk P w K mg base CX0 (k + 1) f fd ps (spP K c) := by
  refine F0.ok Sc (fun vs H Q E h => ?_) (fun cdv A outer s H vs Q E hr h => ?_)
  · obtain ⟨S, a, _, h2, h3, _⟩ := h
    rw [h2.len]; exact hl a h3
  · obtain ⟨S, a, h1, h2, h3, h4, _⟩ := h
    obtain ⟨t, ht, hw⟩ := hb cdv A outer s H E hr
    refine ⟨t, ht, ?_⟩
    let F : Fx := ⟨K, H, S, E, fun _ => False⟩
    let z : Z := ⟨S, H, fun _ => none⟩
    have hz : ZOk F z := ⟨h1, Ex.refl _, Ex.refl _, (fun _ _ e => nomatch e), fun _ _ _ => rfl⟩
    refine hw H S E (fun _ => False) a h3 z (L2.start N vs) _ (fun _ _ _ e => e.elim) hz (entry_ok (F := F) (z := z) h2 (by rw [hl a h3]; exact hN)) ⟨fun Γ σ z' p e hz' hs' => ?_, fun v r Γ σ z' p e hz' hs' hv => ?_, fun _ _ _ e => e.elim, fun _ _ _ e => e.elim⟩
    · exact h4 .non (.d .none) z'.S z'.H p e hz'.sub hz'.base (fun a o e => hz'.fresh a o e) Dt.non
    · exact h4 v r z'.S z'.H p.2 e hz'.sub hz'.base (fun a o e => hz'.fresh a o e) (back_vn hz' hv p.1)
/-- .. that may raise -/
theorem fn_okX {x qual : Str} {st : Stmt} {f : Addr} {fd : FuncData} {N ps : List Str} {k : Nat} (F0 : Fun K x qual st f fd) (Sc : FnScope N ps (defScope st)) (c : Con) (hl : ∀ a, c.pre a → (c.args a).length = ps.length) (hN : ps.length ≤ N.length)
    (hb : ∀ (cdv : Value) (A : Around) (outer : List Env) (s : Shared) (H : Hp) (E : XK), Room k (A.deeper (envOfC qual (defScope st) s.heap.objs.size f cdv)) →
      ∃ t, PSs (cxOf (L2.CX P w) P w K mg base N qual (defScope st) f cdv A outer s H E) (defBody st) t ∧ ∀ (B S0 : Hp) (a : c.α), c.pre a → Wp ⟨K, B, S0, E, c.exc a⟩ t (entry N (c.args a)) (fun _ => c.post a (.d .none)) (fun r _ => r.back = true ∧ c.post a r) (fun _ => False) (fun _ => False)) :
    FnOk P w K mg base (L2.CX P w) (k + 1) f fd ps (spP K c) := by
  refine F0.okX Sc (fun vs H Q E h => ?_) (fun cdv A outer s H vs Q E hr h => ?_)
  · obtain ⟨S, a, _, h2, h3, _⟩ := h
    rw [h2.len]; exact hl a h3
  · obtain ⟨S, a, h1, h2, h3, h4, h5⟩ := h
    obtain ⟨t, ht, hw⟩ := hb cdv A outer s H E hr
    refine ⟨t, ht, ?_⟩
    let F : Fx := ⟨K, H, S, E, c.exc a⟩
    let z : Z := ⟨S, H, fun _ => none⟩
    have hz : ZOk F z := ⟨h1, Ex.refl _, Ex.refl _, (fun _ _ e => nomatch e), fun _ _ _ => rfl⟩
    refine hw H S a h3 z (L2.start N vs) _ (fun z' C hz' hc => h5 C z'.H hc hz'.base) hz (entry_ok (F := F) (z := z) h2 (by rw [hl a h3]; exact hN)) ⟨fun Γ σ z' p e hz' hs' => ?_, fun v r Γ σ z' p e hz' hs' hv => ?_, fun _ _ _ e => e.elim, fun _ _ _ e => e.elim⟩
    · exact h4 .non (.d .none) z'.S z'.H p e hz'.sub hz'.base (fun a o e => hz'.fresh a o e) Dt.non
    · exact h4 v r z'.S z'.H p.2 e hz'.sub hz'.base (fun a o e => hz'.fresh a o e) (back_vn hz' hv p.1)
/-- .. that changes the list handed in first -/
theorem fn_okS {x qual : Str} {st : Stmt} {f : Addr} {fd : FuncData} {N ps : List Str} {k : Nat} (F0 : Fun K x qual st f fd) (Sc : FnScope N ps (defScope st)) (c : ConS) (hl : ∀ b, c.pre b → (c.args b).length + 1 = ps.length) (hN : ps.length ≤ N.length)
    (hb : ∀ (cdv : Value) (A : Around) (outer : List Env) (s : Shared) (H : Hp) (E : XK), Room k (A.deeper (envOfC qual (defScope st) s.heap.objs.size f cdv)) →
      ∃ t, PSs (cxOf CX0 P w K mg base N qual (defScope st) f cdv A outer s H E).nox (defBody st) t ∧ ∀ (B S0 : Hp) (E : XK) (px : Addr → Prop) (a : Addr) (b : c.α), c.pre b → Wp ⟨K, B, S0, E, px⟩ t (entry N (.src a (c.src b) :: c.args b))
        (fun Γ => ∃ ds', Γ[0]? = some (.src a ds') ∧ c.post b (.d .none) ds') (fun r Γ => r.back = true ∧ ∃ ds', Γ[0]? = some (.src a ds') ∧ c.post b r ds') (fun _ => False) (fun _ => False)) :
    FnOk P w K mg base CX0 (k + 1) f fd ps (spS K c) := by
  refine F0.ok Sc (fun vs H Q E h => ?_) (fun cdv A outer s H vs Q E hr h => ?_)
  · obtain ⟨S, a, xs, vs', b, rfl, _, _, _, _, h2, h3, _⟩ := h
    rw [List.length_cons, h2.len]; exact hl b h3
  · obtain ⟨S, a, xs, vs', b0, rfl, q1, q2, q3, h1, h2, h3, h4⟩ := h
    obtain ⟨t, ht, hw⟩ := hb cdv A outer s H E hr
    refine ⟨t, ht, ?_⟩
    let B : Hp := fun b => if b = a then none else H b
    let F : Fx := ⟨K, B, S, E, fun _ => False⟩
    let z : Z := ⟨S, H, fun b => if b = a then some 0 else none⟩
    have hB : Ex B H := fun b o e => by
      by_cases hb : b = a
      · subst hb; rw [show B b = none from if_pos rfl] at e; cases e
      · rw [show B b = H b from if_neg hb] at e; exact e
    have hz : ZOk F z := by
      refine ⟨h1, hB, Ex.refl _, fun b i e => ?_, fun _ _ _ => rfl⟩
      by_cases hb : b = a
      · subst hb; exact ⟨q2, if_pos rfl, _, q1⟩
      · rw [show z.own b = none from if_neg hb] at e; cases e
    have hs : SOk F z (L2.start N (.ref a :: vs')) (entry N (.src a (c.src b0) :: c.args b0)) := by
      have el : vs'.length = (c.args b0).length := h2.len
      have hlen := hl b0 h3
      refine ⟨?_, fun i s e => ?_⟩
      · rw [start_len (by rw [List.length_cons]; omega)]; unfold entry; rw [List.length_append, List.length_replicate, List.length_cons]; omega
      · cases i with
        | zero =>
          cases Option.some.inj (show some (Sl.src a (c.src b0)) = some s from e)
          exact .inr ⟨.ref a, rfl, xs, rfl, q1, if_pos rfl, q2, if_pos rfl, q3⟩
        | succ i =>
          have e' : (c.args b0 ++ List.replicate (N.length - ((c.args b0).length + 1)) Sl.un)[i]? = some s := e
          by_cases hi : i < (c.args b0).length
          · rw [List.getElem?_append_left hi] at e'
            obtain ⟨v, g1, g2⟩ := vps_get h2 e'
            refine .inr ⟨v, ?_, vp_vok g2⟩
            show (vs'.map some ++ List.replicate _ none)[i]? = some (some v)
            rw [List.getElem?_append_left (by rw [List.length_map]; omega), List.getElem?_map, g1]; rfl
          · rw [List.getElem?_append_right (by omega)] at e'
            obtain ⟨_, q⟩ := List.getElem?_eq_some_iff.mp e'
            rw [List.getElem_replicate] at q
            exact .inl q.symm
    -- the end: what the first slot holds
    have fin : ∀ {v : V} {r : Sl} {Γ : List Sl} {σ : L2.St} {z' : Z}, (∃ ds', Γ[0]? = some (.src a ds') ∧ c.post b0 r ds') → Ex S z'.S → ZOk F z' → SOk F z' σ Γ → VOk F z' none v r → r.back = true → Q v z'.H := fun {v r Γ σ z'} ⟨ds', g1, g2⟩ e hz' hs' hv hb => by
      obtain ⟨u, w1, xs', w2, w3, w4, w5, w6, w7⟩ := (hs'.at_ 0 _ g1).resolve_left (fun e => nomatch e)
      refine h4 v r ds' xs' z'.S z'.H g2 e hz'.sub (fun b o hb e => hz'.base b o (show B b = some o from (if_neg hb).trans e)) (fun b o e => ?_) w3 w7 ?_
      · by_cases hb : b = a
        · subst hb; exact w5.trans q2.symm
        · exact hz'.fresh b o (show B b = some o from (if_neg hb).trans e)
      · have vn := back_vn hz' hv hb
        have na : ∀ {b : Addr} {o : HO}, B b = none → z'.own b = none → H b = none := fun {b o} e1 e2 => by
          by_cases hb : b = a
          · subst hb; rw [w4] at e2; cases e2
          · exact (if_neg hb).symm.trans e1
        cases r with
        | un => exact nomatch hb
        | d x => exact vn
        | raw w => exact vn
        | lst ds => obtain ⟨b, xs, e, h1, h2, h3, h4, h5⟩ := hv; exact ⟨b, xs, e, na (o := .lst []) h4 h2, h1, h3, h5⟩
        | bor ds => exact nomatch hb
        | bK ds => exact nomatch hb
        | bT ds => exact nomatch hb
        | src a ds => exact nomatch hb
        | dK ds => obtain ⟨b, xs, e, h1, h2, h3, h4, h5⟩ := hv; exact ⟨b, xs, e, na (o := .lst []) h4 h2, h1, h3, h5⟩
        | dT ds => obtain ⟨b, xs, e, h1, h2, h3, h4, h5⟩ := hv; exact ⟨b, xs, e, na (o := .lst []) h4 h2, h1, h3, h5⟩
        | sK ds => exact vn
        | sT ds => exact vn
        | sq ds => exact vn
    exact hw B S E (fun _ => False) a b0 h3 z _ _ (fun _ _ _ e => e.elim) hz hs ⟨fun Γ σ z' p e hz' hs' => fin (r := .d .none) p e hz' hs' Dt.non rfl, fun v r Γ σ z' p e hz' hs' hv => fin p.2 e hz' hs' hv p.1, fun _ _ _ e => e.elim, fun _ _ _ e => e.elim⟩
end
end GL
namespace GL
open PySem PySem.Spec PyProof.Rows L2

/-! ### rules of the machine that the layer lacks -/
theorem bt_int : bootBuiltins "int" = some (.type "int") := by decide +kernel
theorem bt_str : bootBuiltins "str" = some (.type "str") := by decide +kernel
theorem bt_bool : bootBuiltins "bool" = some (.type "bool") := by decide +kernel
theorem bt_tuple : bootBuiltins "tuple" = some (.type "tuple") := by decide +kernel
theorem bt_list : bootBuiltins "list" = some (.type "list") := by decide +kernel
theorem bt_set : bootBuiltins "set" = some (.type "set") := by decide +kernel
theorem bt_dict : bootBuiltins "dict" = some (.type "dict") := by decide +kernel
theorem bt_len : bootBuiltins "len" = some (.builtin "len") := by decide +kernel
theorem bt_sum : bootBuiltins "sum" = some (.builtin "sum") := by decide +kernel
theorem bt_all : bootBuiltins "all" = some (.builtin "all") := by decide +kernel
theorem bt_any : bootBuiltins "any" = some (.builtin "any") := by decide +kernel
theorem bt_max : bootBuiltins "max" = some (.builtin "max") := by decide +kernel
theorem bt_min : bootBuiltins "min" = some (.builtin "min") := by decide +kernel
theorem bt_abs : bootBuiltins "abs" = some (.builtin "abs") := by decide +kernel
theorem bt_sorted : bootBuiltins "sorted" = some (.builtin "sorted") := by decide +kernel
theorem bt_isinstance : bootBuiltins "isinstance" = some (.builtin "isinstance") := by decide +kernel

/-- a list, a tuple, a text -/
def iSeq (K : PySem.W.Frag) (te : TE) : TI := fun σ H R => te σ H fun x H1 => (∃ a, x = .ref a ∧ (∃ xs, SqL K H1 a xs) ∧ R (Itl K a) H1) ∨ (∃ a, x = .ref a ∧ (∃ xs, SqT K H1 a xs) ∧ R (Itt K a) H1) ∨ ∃ y, x = .str y ∧ R (Its y) H1
theorem pi_seq {X : Cx} {tg : Expr} {e : Expr} {te : TE} (he : PE X e te) : PI X tg e (iSeq X.K te) := by
  refine ⟨fun pins s σ H R I h => ?_⟩
  refine thn (he.run pins s σ H _ I h) fun v s1 ⟨x, H1, I1, r1, q1⟩ => ?_
  rcases q1 with ⟨a, e, ⟨xs, hq⟩, q⟩ | ⟨a, e, ⟨xs, hq⟩, q⟩ | ⟨y, ex, q⟩
  · subst e
    cases r1
    obtain ⟨its, rv, p, hz⟩ := I1.list hq
    refine wpAny_pyIter_list p.isList ?_
    refine ⟨s1.heap.objs.size, [s1.heap.objs.size], _, _, H1, rfl, I1.kept (t' := s1.toks) fun b o e => Heap.get?_push_of_some _ e, turn_list a _, ⟨_, Heap.get?_push_size _ rfl, rfl, rfl⟩, fun b hb => ?_, q⟩
    have e : b = s1.heap.objs.size := by simpa using hb
    subst e
    exact I1.fpOk (Nat.le_refl _) (I1.hok.fresh (Nat.le_refl _))
  · subst e
    cases r1
    obtain ⟨its, rv, p, hz⟩ := I1.tuple hq
    refine wpAny_pyIter_tuple (show s1.heap.IsTuple a its.toArray from p) ?_
    refine ⟨s1.heap.objs.size, [s1.heap.objs.size], _, _, H1, rfl, I1.kept (t' := s1.toks) fun b o e => Heap.get?_push_of_some _ e, turn_tuple a _, ⟨_, Heap.get?_push_size _ rfl, rfl, rfl⟩, fun b hb => ?_, q⟩
    have e : b = s1.heap.objs.size := by simpa using hb
    subst e
    exact I1.fpOk (Nat.le_refl _) (I1.hok.fresh (Nat.le_refl _))
  · subst ex
    obtain ⟨t, rfl⟩ := r1
    cases ha : y.cps.all (· < 128)
    · exact wpAny_pyIter_wide ha (pi_one (tk := s1.toks) I1 _ (turn_str _ y t "str_iterator" (.inr rfl)) ⟨_, Heap.get?_push_size _ rfl, rfl, rfl⟩ q)
    · exact wpAny_pyIter_ascii ha (pi_one (tk := s1.toks) I1 _ (turn_str _ y t "str_ascii_iterator" (.inl rfl)) ⟨_, Heap.get?_push_size _ rfl, rfl, rfl⟩ q)

/-! enumerate of a tuple -/
theorem meets_enumerate_newT (l : Addr) (items : Array Value) (n : Nat) (dct : Option Addr) (sl : Array (Option Value)) :
    Meets (Builtin.«enumerate.__new__» ⟨[.type "enumerate", .ref l], []⟩) (fun _ R s => s.heap.get? l = some { cls := .type "tuple", dict := dct, data := .seq items n, slots := sl } ∧
      R (.ok (.ret (.ref (s.heap.push { cls := .type "tuple_iterator", data := .fields #[.ref l, .int 0 0] }).objs.size)))
        { s with heap := (s.heap.push { cls := .type "tuple_iterator", data := .fields #[.ref l, .int 0 0] }).push { cls := .type "enumerate", data := .fields #[.none, .bool false, .ref s.heap.objs.size, rawInt 0, .none, .none] } }) :=
  .of_wp fun prog w A R s h => by
    obtain ⟨hp, g, d, tk, os⟩ := s; obtain ⟨hl, h⟩ := h
    have hsub := sub_enumerate
    have hL : Heap.IsTuple (Shared.heap ⟨hp, g, d, tk, os⟩) l items := ⟨_, hl, rfl, n, rfl⟩
    wp_walk using AutoSeq1.wpAny_loadPart' hl
    refine wpAny_stack_any fun st => wpAny_pure ?_
    split
    · rename_i c _ _ _ _ _
      cases (c == Value.type "enumerate")
      · wp_walk using AutoSeq1.wpAny_loadPart' hl, wpAny_pyIter_tuple hL
        exact ⟨_, rfl, h⟩
      · wp_walk using AutoSeq1.wpAny_loadPart' hl, wpAny_pyIter_tuple hL
        exact ⟨_, rfl, h⟩
    · wp_walk using AutoSeq1.wpAny_loadPart' hl, wpAny_pyIter_tuple hL
      exact ⟨_, rfl, h⟩
theorem call_enumerate_tuple {prog : Program} {w : World} {A : Around} {E : Value → Shared → Prop} {s : Shared} {l : Addr} {items : Array Value} {Q : Value → Shared → Prop} (hL : s.heap.IsTuple l items)
    (h : ∀ h', IsEnum h' (s.heap.objs.size + 1) s.heap.objs.size 0 .none → h'.IsTupleIter s.heap.objs.size l 0 → h'.objs.size = s.heap.objs.size + 2 →
      (∀ b o, s.heap.get? b = some o → h'.get? b = some o) → Q (.ref (s.heap.objs.size + 1)) { s with heap := h' }) :
    wpAny (model prog w) A (call (.type "enumerate") [.ref l]) Q E s := by
  obtain ⟨⟨c, dct, dt, sl⟩, hl, hc, n, hd⟩ := hL
  replace hc : c = .type "tuple" := hc
  replace hd : dt = .seq items n := hd
  subst hc hd
  refine callType_new F.called_enumerate (by decide) (F.typeCall_enumerate_1 _) (F.newCall_enumerate_1 _) (fun obj => F.args_object_init_2 obj _) F.entry_enumerate_new
    (meets_enumerate_newT l items n dct sl) ⟨hl, ?_⟩
  have hz : (s.heap.push { cls := .type "tuple_iterator", data := .fields #[.ref l, .int 0 0] }).objs.size = s.heap.objs.size + 1 := Heap.size_push ..
  show _ ∧ _
  rw [hz]
  have he : IsEnum ((s.heap.push { cls := .type "tuple_iterator", data := .fields #[.ref l, .int 0 0] }).push
      { cls := .type "enumerate", data := .fields #[.none, .bool false, .ref s.heap.objs.size, rawInt 0, .none, .none] }) (s.heap.objs.size + 1) s.heap.objs.size 0 .none := by
    have := Heap.get?_push_size (s.heap.push { cls := .type "tuple_iterator", data := .fields #[.ref l, .int 0 0] })
      (o := { cls := .type "enumerate", data := .fields #[.none, .bool false, .ref s.heap.objs.size, rawInt 0, .none, .none] }) rfl
    rw [hz] at this; exact this
  refine ⟨⟨_, he, rfl⟩, h _ he ⟨_, Heap.get?_push_of_some _ (Heap.get?_push_size _ rfl), rfl, rfl⟩ (by rw [Heap.size_push, hz]) fun b o x => Heap.get?_push_of_some _ (Heap.get?_push_of_some _ x)⟩
theorem wpAny_pyNext_enum_endT {prog : Program} {w : World} {A : Around} {E : Value → Shared → Prop} {s : Shared} {e it l : Addr} {i : Nat} {items : Array Value} {old : Value} {Q : Option Value → Shared → Prop} (hh : A.in1.handled = none)
    (he : IsEnum s.heap e it i old) (hit : s.heap.IsTupleIter it l i) (hl : s.heap.IsTuple l items) (hx : items[i]? = none)
    (hQ : ∀ h', Heap.ExtBut it s.heap h' → Q none { s with heap := h' }) : wpAny (model prog w) A (pyNext (.ref e)) Q E s := by
  have hT : s.TypeIs (.ref e) "enumerate" := ⟨_, he, rfl⟩
  unfold pyNext
  refine wpAny_bind (wpAny_attempt (wpAny_callSpecial?_slot (name := Str.ofString "__next__") hT F.slot_enumerate_next
    (wpAny_call_entry F.slot_enumerate_next hT F.entry_enumerate_next ?_ (F.args_enumerate_next_1 _))))
  show wpAny _ _ (field (.ref e) 2 >>= _) _ _ _
  refine wpAny_bind (wpAny_field he rfl (x := .ref it) rfl ?_)
  refine wpAny_bind (wpAny_nextOf_tuple_end hh hit hl hx fun h' x he' hx' => ?_)
  obtain ⟨o, ho, hc⟩ := hx'
  refine wpAny_bind (wpAny_isInstance (T := "StopIteration") (b := true) ⟨o, ho, hc⟩ isSubtype_stop ?_)
  exact wpAny_pure (hQ _ he')
def IteT (K : PySem.W.Frag) (a : Addr) : It :=
  ⟨fun i H => ∃ (xs : List V) (x : V), SqT K H a xs ∧ xs[i]? = some x, fun i H v H' => ∃ T x, v = .ref T ∧ H T = none ∧ H' = upd H T (.tup [.int (i : Nat), x]) ∧ ∀ xs, SqT K H a xs → xs[i]? = some x, fun i H => ∃ xs : List V, SqT K H a xs ∧ xs.length ≤ i⟩
theorem turn_enumT {P : Program} {w : World} {K : PySem.W.Frag} {elts : List Expr} {kk : Nat} {tpos : Pos} (a e it : Addr) (hia : a ≠ it) (hea : a ≠ e) :
    Turn P w K (.Tuple elts kk tpos) (IteT K a) [e, it] e (fun i h => (∃ old, IsEnum h e it ((i : Nat) : Int) old) ∧ h.IsTupleIter it a i ∧ e ≠ it) where
  mem := by simp
  obj := fun i h st b hb => by
    obtain ⟨⟨old, he⟩, ⟨o, ho, hc, hd⟩, _⟩ := st
    have e' : b = e ∨ b = it := by simpa using hb
    rcases e' with z | z
    · rw [z]; exact ⟨_, he, fun v q => nomatch q⟩
    · rw [z]; exact ⟨o, ho, fun v q => by rw [hd] at q; cases q⟩
  keep := fun i h h' st k => let ⟨⟨old, he⟩, hi, hne⟩ := st; ⟨⟨old, k e (by simp) _ he⟩, hi.at fun o q => k it (by simp) o q, hne⟩
  item := by
    intro X hP hw hK hc i pins s σ H E I hf st hg
    subst hP hw hK
    obtain ⟨⟨old, he⟩, hit, hne⟩ := st
    obtain ⟨xs, x, hq, hx⟩ := hg
    obtain ⟨its, rv, p, hz⟩ := I.tuple hq
    obtain ⟨u, hu, ru⟩ := rv.get hx
    have hil' : i < its.length := (List.getElem?_eq_some_iff.mp hu).1
    have hel : e < s.heap.objs.size := Heap.lt_size he
    have hil : it < s.heap.objs.size := by obtain ⟨_, q, _⟩ := hit; exact Heap.lt_size q
    have hh : X.A.in1.handled = none := I.ok.hd hc
    have D := Draws.tuple (prog := X.prog) (w := X.w) (A := X.A.in1) hh it a hia its.toArray
    refine wpAny_pyNext_enum_itemC D he ⟨hit, p⟩ (by simpa using hil') hne (by simp [hne, Ne.symm hea]) fun y h' tk hP ho hst' hT hsz hk => ?_
    have ey : y = u := by
      have : its.toArray[i]? = some y := hP
      rw [show its.toArray[i]? = its[i]? by simp, hu] at this
      exact (Option.some.inj this).symm
    subst ey
    refine ⟨_, rfl, wpAny_letOwnedTupleGo_enum (s := { s with heap := h', toks := tk + 1 }) ho fun h'' he' sb => ?_⟩
    have hT2 : h''.get? s.heap.objs.size = some { cls := .type "tuple", data := .seq #[.int i tk, y] } := (sb.2 _ (Nat.ne_of_gt hel)).trans hT
    have new : ObjOk X.prog X.w (upd H s.heap.objs.size (.tup [.int (i : Nat), x])) h'' s.heap.objs.size (.tup [.int (i : Nat), x]) :=
      ⟨by show 2 ≤ sizeLine; decide, [.int i tk, y], .cons ⟨_, rfl⟩ (.cons ru .nil), ⟨_, hT2, rfl, _, rfl⟩⟩
    have I1 : Inv X pins σ (upd H s.heap.objs.size (.tup [.int (i : Nat), x])) { s with heap := h'', toks := tk + 1 } :=
      I.turnedNew (ch := [e, it]) (fun b ob hb q => (sb.2 b (fun z => hb (by simp [z]))).trans (hk b ob (fun z => hb (by simp [z])) (fun z => hb (by simp [z])) q)) hf (Nat.le_refl _) new
    refine ⟨.ref s.heap.objs.size, _, I1, rfl, ⟨_, x, rfl, I.hok.fresh (Nat.le_refl _), rfl, fun ys hy => by rw [I.tuple_inj hy hq]; exact hx⟩, ⟨⟨y, ?_⟩, hst'.1.at fun o q => (sb.2 it (Ne.symm hne)).trans q, hne⟩, fun b hb => ?_⟩
    · have e1 : ((i + 1 : Nat) : Int) = (i : Int) + 1 := by omega
      rw [e1]; exact he'
    · have hb' : b < s.heap.objs.size := by
        have e' : b = e ∨ b = it := by simpa using hb
        rcases e' with z | z
        · rw [z]; exact hel
        · rw [z]; exact hil
      rw [upd_ne (Nat.ne_of_lt hb')]
      exact (hf b hb).1
  done := by
    intro X hP hw hK hc i pins s σ H E I hf st hg
    subst hP hw hK
    obtain ⟨⟨old, he⟩, hit, hne⟩ := st
    obtain ⟨xs, hq, hx⟩ := hg
    obtain ⟨its, rv, p, hz⟩ := I.tuple hq
    obtain ⟨f0, f1, f2, f3, f4, f5⟩ := hf it (by simp)
    have hl := rv.length
    have hh : X.A.in1.handled = none := I.ok.hd hc
    exact wpAny_pyNext_enum_endT hh he hit p (by simp; omega) fun h' eb => ⟨rfl, I.turned (t' := s.toks) (fun b o hb q => eb b o hb q) f0 f1 f3 f4 f5⟩
  self := fun A i s Q E st h => let ⟨⟨_, he⟩, _⟩ := st; wpAny_pyIter_enum he h
def iEnumG (K : PySem.W.Frag) (ta : TA) : TI := fun σ H R => ta σ H fun vs H1 => ∃ a xs, vs = [.ref a] ∧ ((SqL K H1 a xs ∧ R (Ite K a) H1) ∨ (SqT K H1 a xs ∧ R (IteT K a) H1))
theorem pi_enumG {X : Cx} {e : Expr} {ta : TA} {p pos tpos : Pos} {elts : List Expr} {kk : Nat} (hg : Gl X "enumerate") (hm : X.mg "enumerate" = none) (ha : PA X [e] ta) (hs : starEach [e] X.env = [(false, eval e X.env)] := by rfl) :
    PI X (.Tuple elts kk tpos) (.Call (.Name "enumerate" p) [e] [] pos) (iEnumG X.K ta) := by
  refine ⟨fun pins s σ H R I h => ?_⟩
  refine Call_ (ld_blt I hg hm boot_enumerate (PyProof.Rows.callWith_type1 (thn (ha.run pos pins s σ H _ I h) fun us s1 ⟨vs, H1, I1, r1, q1⟩ => ?_) hs rfl))
  obtain ⟨a, xs, ex, hq⟩ := q1
  subst ex
  cases r1 with
  | cons r rr =>
    cases rr
    cases r
    have ends : ∀ b, b ∈ [s1.heap.objs.size + 1, s1.heap.objs.size] → FpOk X pins H1 b := fun b hb => by
      have e' : b = s1.heap.objs.size + 1 ∨ b = s1.heap.objs.size := by simpa using hb
      have hle : s1.heap.objs.size ≤ b := by
        rcases e' with z | z
        · rw [z]; exact Nat.le_add_right _ _
        · rw [z]; exact Nat.le_refl _
      exact I1.fpOk hle (I1.hok.fresh hle)
    rcases hq with ⟨hq, q⟩ | ⟨hq, q⟩
    · obtain ⟨its, rv, p', hz⟩ := I1.list hq
      refine call_enumerate_list p'.isList fun h' he hit hsz hk => wpAny_pyIter_enum he ?_
      have I2 : Inv X pins σ H1 { s1 with heap := h' } := I1.kept (t' := s1.toks) hk
      exact ⟨s1.heap.objs.size + 1, [s1.heap.objs.size + 1, s1.heap.objs.size], _, _, H1, rfl, I2, turn_enum a (s1.heap.objs.size + 1) s1.heap.objs.size, ⟨⟨.none, he⟩, hit, Nat.succ_ne_self _⟩, ends, q⟩
    · obtain ⟨its, rv, p', hz⟩ := I1.tuple hq
      have hal : a < s1.heap.objs.size := by obtain ⟨o, ho, _⟩ := p'; exact Heap.lt_size ho
      refine call_enumerate_tuple (show s1.heap.IsTuple a its.toArray from p') fun h' he hit hsz hk => wpAny_pyIter_enum he ?_
      have I2 : Inv X pins σ H1 { s1 with heap := h' } := I1.kept (t' := s1.toks) hk
      exact ⟨s1.heap.objs.size + 1, [s1.heap.objs.size + 1, s1.heap.objs.size], _, _, H1, rfl, I2, turn_enumT a (s1.heap.objs.size + 1) s1.heap.objs.size (Nat.ne_of_lt hal) (Nat.ne_of_lt (Nat.lt_succ_of_lt hal)), ⟨⟨.none, he⟩, hit, Nat.succ_ne_self _⟩, ends, q⟩
/-! in -/
def rInG (K : PySem.W.Frag) : R2 := fun x y H Q => rIn K false x y H Q ∨ ∃ i j, x = .str i ∧ y = .str j ∧ Q (.bl (!(Builtin.Str.occurrences j i 0 j.length 1).isEmpty)) H
def rNotInG (K : PySem.W.Frag) : R2 := fun x y H Q => rIn K true x y H Q ∨ ∃ i j, x = .str i ∧ y = .str j ∧ Q (.bl (!(!(Builtin.Str.occurrences j i 0 j.length 1).isEmpty))) H
theorem op_in_G {X : Cx} : OpR X (compareOp .In) (rInG X.K) := OpR.or op_in_seq op_in_str
theorem op_notin_G {X : Cx} : OpR X (compareOp .NotIn) (rNotInG X.K) := OpR.or op_notIn_seq op_notin_str
/-! keyword-only parameters without defaults -/
theorem Vals.app : ∀ {vs : List V} {us : List Value} {zs : List V} {ws : List Value}, Vals vs us → Vals zs ws → Vals (vs ++ zs) (us ++ ws)
  | _, _, _, _, .nil, s => s
  | _, _, _, _, .cons h t, s => .cons h (Vals.app t s)
theorem kbn_of {K : PySem.W.Frag} {x qual : Str} {st : Stmt} {f : Addr} {fd : FuncData} {ps : List Str} {n : Nat} {ks : List Str} (F : Fun K x qual st f fd)
    (h : ∀ (kV doc pm : Value) (an : Option Addr) (cdv ct : Value) (us ws : List Value), us.length = n → ws.length = ks.length → bindArgs (PySem.W.fnOf x qual (defArgs st) (defBody st) (defScope st) .none kV doc pm an cdv ct) ⟨us, ks.zip ws⟩ = pure (ps.zip (us ++ ws))) : KBn K fd ps n ks (· ++ ·) (· ++ ·) := by
  obtain ⟨oc, od, kV, doc, pm, an, cdv, ct, osl, rfl, lk, hcd⟩ := F.ex
  exact ⟨fun s us ws _ h1 h2 => .of_eq (h kV doc pm an cdv ct us ws h1 h2), fun r1 r2 => Vals.app r1 r2⟩
end GL
namespace GL
open PySem PySem.Spec PyProof.Rows L2
section
variable {F : Fx} {te ta tb tc td ty tx : TE} {tt tu : TT} {tA tB : TA} {Γ : List Sl} {x y s : Sl} {nx bk ct : List Sl → Prop} {rt : Sl → List Sl → Prop} {ds es : List PyData} {i : Nat} {d e : PyData} {g : TG} {t : TS}
/-! ### what is walked -/
theorem evi_seqL (h : EvS F te Γ (.d (.list ds))) : EvI F (iSeq F.K te) Γ ds := fun z σ R hz hs c =>
  h z σ _ hz hs fun v z' a hz' hv _ => by
    cases hv with
    | lst h1 h2 => exact .inl ⟨_, rfl, ⟨_, SqL.of (hz'.sub _ _ h1)⟩, c _ _ a hz' (yields_list h1 h2)⟩
theorem evi_seqT (h : EvS F te Γ (.d (.tuple ds))) : EvI F (iSeq F.K te) Γ ds := fun z σ R hz hs c =>
  h z σ _ hz hs fun v z' a hz' hv _ => by
    cases hv with
    | tup h1 h2 => exact .inr (.inl ⟨_, rfl, ⟨_, SqT.of (hz'.sub _ _ h1)⟩, c _ _ a hz' (yields_tup h1 h2)⟩)
def signs (a : Str) : List PyData := a.cps.toList.map fun c => PyData.str ⟨#[c]⟩
theorem yields_str {S : Hp} {a : Str} : Yields F (Its a) S (signs a) := fun z e hz i => by
  refine ⟨fun d hd => ?_, fun hl => by show a.cps.size ≤ i; simpa [signs] using hl⟩
  have hi : i < a.cps.size := by have := (List.getElem?_eq_some_iff.mp hd).1; simpa [signs] using this
  refine ⟨hi, fun x H' ⟨eH, c, hc, ex⟩ => ⟨z, eH.symm, Add.refl z, hz, ?_⟩⟩
  subst ex
  have : d = .str ⟨#[c]⟩ := by
    simp only [signs, List.getElem?_map, Array.getElem?_toList, hc] at hd
    exact (Option.some.inj hd).symm
  subst this
  exact .str _
theorem evi_seqS {a : Str} (h : EvS F te Γ (.d (.str a))) : EvI F (iSeq F.K te) Γ (signs a) := fun z σ R hz hs c =>
  h z σ _ hz hs fun v z' a' hz' hv _ => .inr (.inr ⟨a, hv.d_str, c _ _ a' hz' yields_str⟩)
theorem EvI.wp {wi : TI} {items : List PyData} {k : List PyData → List Sl → Prop} (h : EvI F wi Γ items) (q : k items Γ) : WpI F wi Γ k := fun z σ R hF hz hs c =>
  h z σ R hz hs fun J z' a hz' hy => c J items Γ z' q a.ext hz' (hs.add a) hy
theorem wp_forI {wi : TI} {items : List PyData} (h : EvI F wi Γ items) (q : ForW F g t nx rt items Γ) : Wp F (tFor wi g t) Γ nx rt bk ct := wp_for (h.wp q)
theorem yields_enumL {z : Z} {a : Addr} {xs : List V} (h : z.S a = some (.lst xs)) (q : DtAll F.K z.S xs ds) : Yields F (Ite F.K a) z.S (enumD ds) := fun z2 e hz2 i => by
  have h2 : SqL F.K z2.H a xs := SqL.of (hz2.sub _ _ (e _ _ h))
  refine ⟨fun d hd => ?_, fun hl => ⟨xs, h2, by rw [enumD_len] at hl; rw [q.len]; exact hl⟩⟩
  obtain ⟨d0, hd0, rfl⟩ := enumD_get hd
  obtain ⟨v, hv, dv⟩ := q.get hd0
  refine ⟨⟨xs, v, h2, hv⟩, fun x H' ⟨T, u, ex, nT, eH, y⟩ => ⟨z2.sh T (.tup [.int (i : Nat), u]), eH.symm, Add.sh hz2 nT, hz2.sh nT, ?_⟩⟩
  have e1 := (y xs h2).symm.trans hv
  cases e1
  subst ex
  exact VOk.sh_tup hz2 nT (.cons (.int _) (.cons (dv.mono e) .nil))
theorem yields_enumT {z : Z} {a : Addr} {xs : List V} (h : z.S a = some (.tup xs)) (q : DtAll F.K z.S xs ds) : Yields F (IteT F.K a) z.S (enumD ds) := fun z2 e hz2 i => by
  have h2 : SqT F.K z2.H a xs := SqT.of (hz2.sub _ _ (e _ _ h))
  refine ⟨fun d hd => ?_, fun hl => ⟨xs, h2, by rw [enumD_len] at hl; rw [q.len]; exact hl⟩⟩
  obtain ⟨d0, hd0, rfl⟩ := enumD_get hd
  obtain ⟨v, hv, dv⟩ := q.get hd0
  refine ⟨⟨xs, v, h2, hv⟩, fun x H' ⟨T, u, ex, nT, eH, y⟩ => ⟨z2.sh T (.tup [.int (i : Nat), u]), eH.symm, Add.sh hz2 nT, hz2.sh nT, ?_⟩⟩
  have e1 := (y xs h2).symm.trans hv
  cases e1
  subst ex
  exact VOk.sh_tup hz2 nT (.cons (.int _) (.cons (dv.mono e) .nil))
theorem evi_enumL (h : EvS F te Γ (.d (.list ds))) : EvI F (iEnumG F.K (tCons te tNil)) Γ (enumD ds) := fun z σ R hz hs c =>
  h z σ _ hz hs fun v z' a hz' hv _ => by
    cases hv with
    | lst h1 h2 => exact ⟨_, _, rfl, .inl ⟨SqL.of (hz'.sub _ _ h1), c _ _ a hz' (yields_enumL h1 h2)⟩⟩
theorem evi_enumT (h : EvS F te Γ (.d (.tuple ds))) : EvI F (iEnumG F.K (tCons te tNil)) Γ (enumD ds) := fun z σ R hz hs c =>
  h z σ _ hz hs fun v z' a hz' hv _ => by
    cases hv with
    | tup h1 h2 => exact ⟨_, _, rfl, .inr ⟨SqT.of (hz'.sub _ _ h1), c _ _ a hz' (yields_enumT h1 h2)⟩⟩
/-! ### in -/
theorem in_G {r' : R2} (h : OpS F (rIn F.K false) x y s) : OpS F (rInG F.K) x y s := fun z v w Q hz hv hw c => .inl (h z v w Q hz hv hw c)
theorem notin_G (h : OpS F (rIn F.K true) x y s) : OpS F (rNotInG F.K) x y s := fun z v w Q hz hv hw c => .inl (h z v w Q hz hv hw c)
theorem in_strG {a b : Str} : OpS F (rInG F.K) (.d (.str a)) (.d (.str b)) (.d (.bool (!(Builtin.Str.occurrences b a 0 b.length 1).isEmpty))) := ops_val fun z v w Q hz hv hw c => .inr ⟨a, b, hv.d_str, hw.d_str, c _ (.bl _)⟩
/-! ### a constant tuple of the module, of texts -/
theorem flat_strs : ∀ ns : List Str, (ns.map PyData.str).all flatD = true
  | [] => rfl
  | n :: r => by rw [List.map_cons, List.all_cons, flat_strs r]; rfl
theorem notin_K {a : Addr} {ns : List Str} (h : ∀ H : Hp, SqT F.K H a (ns.map V.str)) (hd : flatD d = true) : OpS F (rIn F.K true) (.d d) (.raw (.ref a)) (.d (.bool (!(ns.map PyData.str).any fun z => PyData.eqv z d))) :=
  ops_val fun z v w Q hz hv hw c => by
    cases hw
    have f2 := flat_strs ns
    refine ⟨a, _, rfl, .inr (h z.H), flat_of hv hd, flats_of (DtAll.of_strs (K := F.K) (S := z.S) ns) f2, ?_⟩
    rw [if_pos rfl, inV_of hv hd (DtAll.of_strs ns) f2]
    exact c _ (.bl _)

/-! ### dicts -/
def valD {κ : Type} [DecidableEq κ] (kvs : List (κ × PyData)) (k : κ) : Option PyData := (kvs.find? fun kv => decide (kv.1 = k)).map (·.2)
theorem valD_of {κ : Type} [DecidableEq κ] {K : PySem.W.Frag} {S : Hp} {k : κ} : ∀ {xs : List (κ × V)} {kvs : List (κ × PyData)}, KvD K S xs kvs → (∀ d, valD kvs k = some d → ∃ v, valV xs k = some v ∧ Dt K S v d) ∧ (valD kvs k = none → valV xs k = none)
  | _, _, .nil => ⟨fun d h => by simp [valD] at h, fun _ => rfl⟩
  | (a, v) :: xs, (b, w) :: kvs, .cons h t => by
    obtain ⟨h1, h2⟩ := h
    have h1' : a = b := h1
    subst h1'
    have ih := valD_of (k := k) t
    by_cases hk : a = k
    · subst hk
      refine ⟨fun d e => ?_, fun e => ?_⟩
      · simp [valD] at e
        subst e
        exact ⟨v, by simp [valV], h2⟩
      · simp [valD] at e
    · have e1 : valD ((a, w) :: kvs) k = valD kvs k := by simp [valD, hk]
      have e2 : valV ((a, v) :: xs) k = valV xs k := by simp [valV, hk]
      rw [e1, e2]; exact ih
def putD {κ : Type} [DecidableEq κ] (kvs : List (κ × PyData)) (k : κ) (v : PyData) : List (κ × PyData) :=
  if (kvs.any fun kv => decide (kv.1 = k)) = true then kvs.map (fun kv => if kv.1 = k then (kv.1, v) else kv) else kvs ++ [(k, v)]
section
variable {κ : Type} [DecidableEq κ] {K : PySem.W.Frag} {S : Hp} {k : κ} {v : V}
theorem kvd_any : ∀ {xs : List (κ × V)} {kvs : List (κ × PyData)}, KvD K S xs kvs → (xs.any fun kv => decide (kv.1 = k)) = kvs.any fun kv => decide (kv.1 = k)
  | _, _, .nil => rfl
  | (a, v) :: xs, (b, w) :: kvs, .cons h t => by
    have h1' : a = b := h.1
    subst h1'
    rw [List.any_cons, List.any_cons, kvd_any t]
theorem kvd_map (hv : Dt K S v d) : ∀ {xs : List (κ × V)} {kvs : List (κ × PyData)}, KvD K S xs kvs → KvD K S (xs.map fun kv => if kv.1 = k then (kv.1, v) else kv) (kvs.map fun kv => if kv.1 = k then (kv.1, d) else kv)
  | _, _, .nil => .nil
  | (a, u) :: xs, (b, w) :: kvs, .cons h t => by
    have h1' : a = b := h.1
    subst h1'
    refine .cons ?_ (kvd_map hv t)
    by_cases hk : a = k
    · subst hk; simp only [if_true]; exact ⟨trivial, hv⟩
    · simp only [hk, if_false]; exact ⟨trivial, h.2⟩
theorem kvd_app : ∀ {xs ys : List (κ × V)} {kvs lvs : List (κ × PyData)}, KvD K S xs kvs → KvD K S ys lvs → KvD K S (xs ++ ys) (kvs ++ lvs)
  | _, _, _, _, .nil, s => s
  | _, _, _, _, .cons h t, s => .cons h (kvd_app t s)
theorem kvd_put {xs : List (κ × V)} {kvs : List (κ × PyData)} (h : KvD K S xs kvs) (hv : Dt K S v d) : KvD K S (putK xs k v) (putD kvs k d) := by
  unfold putK putD
  rw [kvd_any h]
  split
  · exact kvd_map hv h
  · exact kvd_app h (.cons ⟨rfl, hv⟩ .nil)
theorem kvd_len {xs : List (κ × V)} {kvs : List (κ × PyData)} (h : KvD K S xs kvs) : xs.length = kvs.length := Paired.length h
end
def kD : Key → PyData
  | .inl i => .int i
  | .inr x => .str x
theorem kD_kV {z : Z} {o : Option Nat} {v : V} {k : Key} (h : VOk F z o v (.d (kD k))) : v = kV k := by
  cases k <;> cases h <;> rfl
theorem ks_kV {K : PySem.W.Frag} {S : Hp} : ∀ {vs : List V} {ks : List Key}, DtAll K S vs (ks.map kD) → vs = ks.map kV
  | _, [], .nil => rfl
  | _, k :: ks, .cons h t => by
    rw [List.map_cons, ks_kV t]
    congr 1
    cases k <;> cases h <;> rfl
/-- pairs of a display -/
def EvPs (F : Fx) (Γ : List Sl) : List (TE × TE) → List (Key × PyData) → Prop
  | [], kds => kds = []
  | (tk, tv) :: r, kds => ∃ k d rest, kds = (k, d) :: rest ∧ EvS F tk Γ (.d (kD k)) ∧ EvS F tv Γ (.d d) ∧ EvPs F Γ r rest
theorem evps_run {z : Z} {σ : L2.St} : ∀ {trs : List (TE × TE)} {kds : List (Key × PyData)}, EvPs F Γ trs kds → ∀ (z : Z) (Q : List (V × V) → Hp → Prop), ZOk F z → SOk F z σ Γ → (∀ (kvs : List (Key × V)) z', Add z z' → ZOk F z' → KvD F.K z'.S kvs kds → Q (kvs.map fun kv => (kV kv.1, kv.2)) z'.H) → tPairs trs σ z.H Q
  | [], kds, h, z, Q, hz, hs, c => by
    have e : kds = [] := h
    subst e
    exact c [] z (Add.refl z) hz .nil
  | (tk, tv) :: r, kds, h, z, Q, hz, hs, c => by
    obtain ⟨k, d, rest, rfl, h1, h2, h3⟩ := h
    refine h1 z σ _ hz hs fun v z1 a1 hz1 hv _ => h2 z1 σ _ hz1 (hs.add a1) fun u z2 a2 hz2 hu _ => ?_
    refine evps_run (z := z2) h3 z2 _ hz2 ((hs.add a1).add a2) fun kvs z3 a3 hz3 hk => ?_
    rw [kD_kV hv]
    exact c ((k, u) :: kvs) z3 (a1.trans (a2.trans a3)) hz3 (.cons ⟨rfl, Dt.mono a3.s hu⟩ hk)
def mergeD (kvs more : List (Key × PyData)) : List (Key × PyData) := more.foldl (fun acc kv => putD acc kv.1 kv.2) kvs
theorem kvd_merge {K : PySem.W.Frag} {S : Hp} : ∀ {more : List (Key × V)} {moreD : List (Key × PyData)} {xs : List (Key × V)} {kvs : List (Key × PyData)}, KvD K S more moreD → KvD K S xs kvs → KvD K S (mergeK xs more) (mergeD kvs moreD)
  | _, _, _, _, .nil, h => h
  | (a, v) :: more, (b, w) :: moreD, xs, kvs, .cons h t, h2 => by
    have h1' : a = b := h.1
    subst h1'
    exact kvd_merge (more := more) (moreD := moreD) t (kvd_put h2 h.2)
theorem evs_disp {trs : List (TE × TE)} {kds : List (Key × PyData)} (h : EvPs F Γ trs kds) (hl : kds.length ≤ 15) : EvS F (tDisp trs) Γ (.dK (mergeD [] kds)) := fun z σ Q hz hs c p hp => by
  obtain ⟨n1, n2, n3⟩ := hz.free hp
  have a0 : Add z (z.tmp p (.dK [])) := Add.tmp hp
  refine evps_run (z := z) h (z.tmp p (.dK [])) _ (hz.tmp hp) (hs.add a0) fun kvs z' a hz' hk => ?_
  have hp1 := a.h p _ (show (z.tmp p (.dK [])).H p = some (.dK []) from upd_same)
  refine ⟨hp1.1, kvs, rfl, by rw [kvd_len hk]; exact hl, ?_⟩
  have sp : z'.S p = none := hp1.2.trans n1
  have op : z'.own p = none := by rw [a.own]; exact n3
  refine c _ ⟨z'.S, upd z'.H p (.dK (mergeK [] kvs)), z'.own⟩ ⟨a.s, fun b o e => ?_, a.own⟩ ⟨fun b o e => ?_, fun b o e => ?_, hz'.s0, fun b i e => ?_, hz'.fresh⟩ ⟨p, _, rfl, upd_same, op, sp, n2, kvd_merge hk .nil⟩ ⟨p, rfl, hp⟩
  · have ne := ne_of_none e hp
    have q := (a0.trans a).h b o e
    exact ⟨(upd_ne ne).trans q.1, q.2⟩
  · exact (upd_ne (fun q => by subst q; rw [show z'.S b = some o from e] at sp; cases sp)).trans (hz'.sub b o e)
  · exact (upd_ne (fun q => by subst q; rw [n2] at e; cases e)).trans (hz'.base b o e)
  · obtain ⟨w1, w2, o, w3⟩ := hz'.own b i e
    exact ⟨w1, w2, o, (upd_ne (fun q => by subst q; rw [show z'.own b = some i from e] at op; cases op)).trans w3⟩
/-! asking a dict -/
def Sl.asK : Sl → Option (List (Key × PyData))
  | .dK k => some k
  | .bK k => some k
  | .sK k => some k
  | _ => none
def Sl.asTd : Sl → Option (List (List Key × PyData))
  | .dT k => some k
  | .bT k => some k
  | .sT k => some k
  | _ => none
theorem VOk.asK {z : Z} {o : Option Nat} {v : V} {kvs : List (Key × PyData)} (hz : ZOk F z) (h : VOk F z o v s) (e : s.asK = some kvs) : ∃ a xs, v = .ref a ∧ z.H a = some (.dK xs) ∧ KvD F.K z.S xs kvs := by
  cases s with
  | dK k => cases Option.some.inj e; obtain ⟨a, xs, e, h1, _, _, _, h2⟩ := h; exact ⟨a, xs, e, h1, h2⟩
  | bK k => cases Option.some.inj e; obtain ⟨_, a, xs, e, h1, h2⟩ := h; exact ⟨a, xs, e, h1, h2⟩
  | sK k => cases Option.some.inj e; obtain ⟨a, xs, e, h1, h2⟩ := h; exact ⟨a, xs, e, hz.sub _ _ h1, h2⟩
  | _ => cases e
theorem VOk.asTd {z : Z} {o : Option Nat} {v : V} {kvs : List (List Key × PyData)} (hz : ZOk F z) (h : VOk F z o v s) (e : s.asTd = some kvs) : ∃ a xs, v = .ref a ∧ z.H a = some (.dT xs) ∧ KvD F.K z.S xs kvs := by
  cases s with
  | dT k => cases Option.some.inj e; obtain ⟨a, xs, e, h1, _, _, _, h2⟩ := h; exact ⟨a, xs, e, h1, h2⟩
  | bT k => cases Option.some.inj e; obtain ⟨_, a, xs, e, h1, h2⟩ := h; exact ⟨a, xs, e, h1, h2⟩
  | sT k => cases Option.some.inj e; obtain ⟨a, xs, e, h1, h2⟩ := h; exact ⟨a, xs, e, hz.sub _ _ h1, h2⟩
  | _ => cases e
theorem evs_dgetK {k : Key} {kvs : List (Key × PyData)} (h : EvS F td Γ x) (hx : x.asK = some kvs) (hy : EvS F ty Γ (.d (kD k))) (e : valD kvs k = some d) : EvS F (tDGet td ty) Γ (.d d) := fun z σ Q hz hs c =>
  h z σ _ hz hs fun v z1 a1 hz1 hv _ => hy z1 σ _ hz1 (hs.add a1) fun u z2 a2 hz2 hu _ => by
    obtain ⟨a, xs, rfl, h1, h2⟩ := (hv.add a2).asK hz2 hx
    obtain ⟨w, e1, hw⟩ := (valD_of h2).1 d e
    exact ⟨a, w, rfl, by rw [kD_kV hu, ← e1]; exact DGet.k h1, c w z2 (a1.trans a2) hz2 hw trivial⟩
theorem evs_dgetT {ks : List Key} {kvs : List (List Key × PyData)} (h : EvS F td Γ x) (hx : x.asTd = some kvs) (hy : EvS F ty Γ (.d (.tuple (ks.map kD)))) (e : valD kvs ks = some d) : EvS F (tDGet td ty) Γ (.d d) := fun z σ Q hz hs c =>
  h z σ _ hz hs fun v z1 a1 hz1 hv _ => hy z1 σ _ hz1 (hs.add a1) fun u z2 a2 hz2 hu _ => by
    obtain ⟨a, xs, rfl, h1, h2⟩ := (hv.add a2).asTd hz2 hx
    obtain ⟨w, e1, hw⟩ := (valD_of h2).1 d e
    obtain ⟨b, ys, rfl, g1, g2, g3⟩ := hu.asT hz2 rfl
    have := ks_kV g3
    subst this
    exact ⟨a, w, rfl, by rw [← e1]; exact DGet.t h1 (hz2.sub _ _ g2), c w z2 (a1.trans a2) hz2 hw trivial⟩
theorem evs_dget2T {ks : List Key} {kvs : List (List Key × PyData)} (h : EvS F td Γ x) (hx : x.asTd = some kvs) (hy : EvS F ty Γ (.d (.tuple (ks.map kD)))) (hd : EvS F tx Γ (.d d)) : EvS F (tDGet2 td ty tx) Γ (.d ((valD kvs ks).getD d)) := fun z σ Q hz hs c =>
  h z σ _ hz hs fun v z1 a1 hz1 hv _ => by
    obtain ⟨a, xs, rfl, h1, h2⟩ := hv.asTd hz1 hx
    refine ⟨a, rfl, .inr ⟨xs, .inl h1⟩, hy z1 σ _ hz1 (hs.add a1) fun u z2 a2 hz2 hu _ => hd z2 σ _ hz2 ((hs.add a1).add a2) fun w z3 a3 hz3 hw _ => ?_⟩
    have a13 := a2.trans a3
    obtain ⟨b, ys, rfl, g1, g2, g3⟩ := (hu.add a3).asT hz3 rfl
    have := ks_kV g3
    subst this
    have vd := valD_of (k := ks) h2
    refine ⟨valV xs ks, DGet.t (a13.h _ _ h1).1 (hz3.sub _ _ g2), ?_⟩
    cases q : valD kvs ks with
    | none =>
      rw [vd.2 q]
      exact c w z3 (a1.trans a13) hz3 (by rw [q]; exact hw) trivial
    | some d' =>
      obtain ⟨u', e1, hu'⟩ := vd.1 d' q
      rw [e1]
      exact c u' z3 (a1.trans a13) hz3 (by rw [q]; exact Dt.mono a13.s hu') trivial
theorem evs_dget2K {k : Key} {kvs : List (Key × PyData)} (h : EvS F td Γ x) (hx : x.asK = some kvs) (hy : EvS F ty Γ (.d (kD k))) (hd : EvS F tx Γ (.d d)) : EvS F (tDGet2 td ty tx) Γ (.d ((valD kvs k).getD d)) := fun z σ Q hz hs c =>
  h z σ _ hz hs fun v z1 a1 hz1 hv _ => by
    obtain ⟨a, xs, rfl, h1, h2⟩ := hv.asK hz1 hx
    refine ⟨a, rfl, .inl ⟨xs, .inl h1⟩, hy z1 σ _ hz1 (hs.add a1) fun u z2 a2 hz2 hu _ => hd z2 σ _ hz2 ((hs.add a1).add a2) fun w z3 a3 hz3 hw _ => ?_⟩
    have a13 := a2.trans a3
    have vd := valD_of (k := k) h2
    refine ⟨valV xs k, by rw [kD_kV hu]; exact DGet.k (a13.h _ _ h1).1, ?_⟩
    cases q : valD kvs k with
    | none =>
      rw [vd.2 q]
      exact c w z3 (a1.trans a13) hz3 (by rw [q]; exact hw) trivial
    | some d' =>
      obtain ⟨u', e1, hu'⟩ := vd.1 d' q
      rw [e1]
      exact c u' z3 (a1.trans a13) hz3 (by rw [q]; exact Dt.mono a13.s hu') trivial
theorem evs_newT : EvS F tDNewT Γ (.dT []) := fun z σ Q hz hs c p hp =>
  have f := hz.free hp
  c _ (z.tmp p (.dT [])) (Add.tmp hp) (hz.tmp hp) ⟨p, [], rfl, upd_same, f.2.2, f.1, f.2.1, .nil⟩ ⟨p, rfl, hp⟩
theorem evs_newK : EvS F tDNewK Γ (.dK []) := fun z σ Q hz hs c p hp =>
  have f := hz.free hp
  c _ (z.tmp p (.dK [])) (Add.tmp hp) (hz.tmp hp) ⟨p, [], rfl, upd_same, f.2.2, f.1, f.2.1, .nil⟩ ⟨p, rfl, hp⟩

theorem OpS.shareL {r : R2} (h : OpS F r x y (.lst ds)) : OpS F r x y (.d (.list ds)) := fun z v w Q hz hv hw c =>
  h z v w Q hz hv hw fun v' z' a hz' ⟨p, xs, e, q1, q2, q3, q4, q5⟩ ⟨p', e', hp⟩ => by
    obtain rfl : p = p' := V.ref.inj (e.symm.trans e')
    have e1 : Ex z'.S (upd z'.S p (.lst xs)) := Ex.upd q3
    refine c v' ⟨upd z'.S p (.lst xs), z'.H, z'.own⟩ ⟨a.s.trans e1, fun b u hb => ⟨(a.h b u hb).1, ?_⟩, a.own⟩ ⟨fun b u hb => ?_, hz'.base, hz'.s0.trans e1, fun b i hb => ?_, fun b u hb => ?_⟩ ?_ trivial
    · exact (upd_ne (ne_of_none hb hp)).trans (a.h b u hb).2
    · by_cases hq : b = p
      · subst hq; exact (q1.trans (upd_same.symm.trans hb))
      · exact hz'.sub _ _ (by rw [← hb]; exact (upd_ne hq).symm)
    · have hq : b ≠ p := fun q => by subst q; rw [show z'.own b = some i from hb] at q2; cases q2
      obtain ⟨w1, w2, w3⟩ := hz'.own b i hb
      exact ⟨(upd_ne hq).trans w1, w2, w3⟩
    · have hq : b ≠ p := fun q => by subst q; rw [q4] at hb; cases hb
      exact (upd_ne hq).trans (hz'.fresh b u hb)
    · subst e; exact .lst upd_same (q5.mono e1)
theorem CallS.shareL {r : List V → Hp → VK → Prop} {ss : List Sl} (h : CallS F r ss (.lst ds)) : CallS F r ss (.d (.list ds)) := fun z v Q hz hv c =>
  h z v Q hz hv fun v' z' a hz' ⟨p, xs, e, q1, q2, q3, q4, q5⟩ ⟨p', e', hp⟩ => by
    obtain rfl : p = p' := V.ref.inj (e.symm.trans e')
    have e1 : Ex z'.S (upd z'.S p (.lst xs)) := Ex.upd q3
    refine c v' ⟨upd z'.S p (.lst xs), z'.H, z'.own⟩ ⟨a.s.trans e1, fun b u hb => ⟨(a.h b u hb).1, ?_⟩, a.own⟩ ⟨fun b u hb => ?_, hz'.base, hz'.s0.trans e1, fun b i hb => ?_, fun b u hb => ?_⟩ ?_ trivial
    · exact (upd_ne (ne_of_none hb hp)).trans (a.h b u hb).2
    · by_cases hq : b = p
      · subst hq; exact (q1.trans (upd_same.symm.trans hb))
      · exact hz'.sub _ _ (by rw [← hb]; exact (upd_ne hq).symm)
    · have hq : b ≠ p := fun q => by subst q; rw [show z'.own b = some i from hb] at q2; cases q2
      obtain ⟨w1, w2, w3⟩ := hz'.own b i hb
      exact ⟨(upd_ne hq).trans w1, w2, w3⟩
    · have hq : b ≠ p := fun q => by subst q; rw [q4] at hb; cases hb
      exact (upd_ne hq).trans (hz'.fresh b u hb)
    · subst e; exact .lst upd_same (q5.mono e1)
/-- a, b = e1, e2, the values data or lists of our own -/
theorem wp_parD {i j : Nat} {tA : TA} {x y : Sl} (h : EvA F tA Γ [x, y]) (hij : i ≠ j) (hi : i < Γ.length) (hj : j < Γ.length) (hx : x.pass = true) (hy : y.pass = true) (q : nx ((Γ.set i x).set j y)) : Wp F (tPar i j tA) Γ nx rt bk ct := fun z σ D hF hz hs r =>
  h z σ _ hz hs fun vs z1 a1 hz1 hv => by
    obtain ⟨v, w, rfl, hv, hw⟩ := VAll.two hv
    refine ⟨v, w, rfl, ?_⟩
    have pk : ∀ {s : Sl} {v : V} {o o' : Option Nat}, s.pass = true → VOk F z1 o v s → VOk F z1 o' v s := fun {s v o o'} hp h => by
      cases s with
      | d x => exact h
      | raw w => exact h
      | sK x => exact h
      | sT x => exact h
      | sq x => exact h
      | _ => cases hp
    have s1 := (hs.add a1).other (own' := z1.own) hi (pk hx hv) fun a j _ e => e
    have s2 := s1.other (own' := z1.own) (by rw [List.length_set]; exact hj) (pk hy hw) fun a j _ e => e
    exact r.nx _ _ z1 q a1.s hz1 s2
end

/-! isinstance -/
def isTy (n : String) (d : PyData) : Bool := tyD d == n || (n == "int" && tyD d == "bool")
section
variable {F : Fx} {d : PyData}
theorem tyD_in (d : PyData) : tyD d ∈ ["NoneType", "bool", "int", "str", "list", "tuple", "dict"] := by cases d <;> simp [tyD]
def isI : PyData → Bool
  | .int _ => true
  | .bool _ => true
  | _ => false
def isB : PyData → Bool
  | .bool _ => true
  | _ => false
def isS : PyData → Bool
  | .str _ => true
  | _ => false
def isT : PyData → Bool
  | .tuple _ => true
  | _ => false
def isLs : PyData → Bool
  | .list _ => true
  | _ => false
theorem isi_int : CallS F (rIsi F.K) [.d d, .raw (.ty "int")] (.d (.bool (isI d))) := by
  have h : isTy "int" d = isI d := by cases d <;> simp [isTy, tyD, isI]
  rw [← h]
  exact isi_ty ((by decide +kernel : ∀ t ∈ ["NoneType", "bool", "int", "str", "list", "tuple", "dict"], kitB t "int" = some (t == "int" || ("int" == "int" && t == "bool"))) (tyD d) (tyD_in d))
theorem isi_bool : CallS F (rIsi F.K) [.d d, .raw (.ty "bool")] (.d (.bool (isB d))) := by
  have h : isTy "bool" d = isB d := by cases d <;> simp [isTy, tyD, isB]
  rw [← h]
  exact isi_ty ((by decide +kernel : ∀ t ∈ ["NoneType", "bool", "int", "str", "list", "tuple", "dict"], kitB t "bool" = some (t == "bool" || ("bool" == "int" && t == "bool"))) (tyD d) (tyD_in d))
theorem isi_str : CallS F (rIsi F.K) [.d d, .raw (.ty "str")] (.d (.bool (isS d))) := by
  have h : isTy "str" d = isS d := by cases d <;> simp [isTy, tyD, isS]
  rw [← h]
  exact isi_ty ((by decide +kernel : ∀ t ∈ ["NoneType", "bool", "int", "str", "list", "tuple", "dict"], kitB t "str" = some (t == "str" || ("str" == "int" && t == "bool"))) (tyD d) (tyD_in d))
theorem isi_tuple : CallS F (rIsi F.K) [.d d, .raw (.ty "tuple")] (.d (.bool (isT d))) := by
  have h : isTy "tuple" d = isT d := by cases d <;> simp [isTy, tyD, isT]
  rw [← h]
  exact isi_ty ((by decide +kernel : ∀ t ∈ ["NoneType", "bool", "int", "str", "list", "tuple", "dict"], kitB t "tuple" = some (t == "tuple" || ("tuple" == "int" && t == "bool"))) (tyD d) (tyD_in d))
theorem isi_list : CallS F (rIsi F.K) [.d d, .raw (.ty "list")] (.d (.bool (isLs d))) := by
  have h : isTy "list" d = isLs d := by cases d <;> simp [isTy, tyD, isLs]
  rw [← h]
  exact isi_ty ((by decide +kernel : ∀ t ∈ ["NoneType", "bool", "int", "str", "list", "tuple", "dict"], kitB t "list" = some (t == "list" || ("list" == "int" && t == "bool"))) (tyD d) (tyD_in d))
variable {ta tb : TE} {Γ : List Sl} {tt tu : TT} {nx bk ct : List Sl → Prop} {rt : Sl → List Sl → Prop} {t u : TS} {s : Sl}
theorem evs_andV0 {a : Bool} (h1 : EvS F ta Γ (.d (.bool a))) (e : a = false) : EvS F (tAndV ta tb) Γ (.d (.bool false)) := by subst e; exact evs_andV (b := true) h1 fun q => nomatch q
theorem evs_orV1 {a : Bool} (h1 : EvS F ta Γ (.d (.bool a))) (e : a = true) : EvS F (tOrV ta tb) Γ (.d (.bool true)) := by subst e; exact evs_orV (b := true) h1 fun q => nomatch q
theorem evt_and0 {a : Bool} (h1 : EvT F tt Γ a) (e : a = false) : EvT F (tAnd tt tu) Γ false := by subst e; exact evt_and (b := true) h1 fun q => nomatch q
theorem evt_or1 {a : Bool} (h1 : EvT F tt Γ a) (e : a = true) : EvT F (tOr tt tu) Γ true := by subst e; exact evt_or (b := true) h1 fun q => nomatch q
end
theorem lcp_ds {F : Fx} {g : TG} {te : TE} {f : PyData → PyData} {Γw : List Sl} {ds : List PyData} (h : ∀ d ∈ ds, ∃ Γ1, GTo F g d Γw Γ1 ∧ EvS F te Γ1 (.d (f d))) : LcP F g tYes te Γw ds (ds.map f) := by
  have := lcp_all (F := F) (g := g) (te := te) (enc := id) (f := f) (Γw := Γw) (xs := ds) h
  rwa [List.map_id] at this
theorem lcp_dsF {F : Fx} {g : TG} {tt : TT} {te : TE} {p : PyData → Bool} {f : PyData → PyData} {Γw : List Sl} {ds : List PyData} (h : ∀ d ∈ ds, ∃ Γ1, GTo F g d Γw Γ1 ∧ EvT F tt Γ1 (p d) ∧ (p d = true → EvS F te Γ1 (.d (f d)))) : LcP F g tt te Γw ds ((ds.filter p).map f) := by
  have := lcp_map (F := F) (g := g) (tt := tt) (te := te) (enc := id) (p := p) (f := f) (Γw := Γw) (xs := ds) h
  rwa [List.map_id] at this
/-- a, b = e1, e2: the first a list of our own, the second data -/
theorem wp_parL {F : Fx} {Γ : List Sl} {nx bk ct : List Sl → Prop} {rt : Sl → List Sl → Prop} {i j : Nat} {ta tb : TE} {ds : List PyData} {y : PyData} (h : EvS F ta Γ (.lst ds)) (h2 : EvS F tb Γ (.d y)) (hij : i ≠ j) (hi : i < Γ.length) (hj : j < Γ.length) (q : nx ((Γ.set i (.lst ds)).set j (.d y))) : Wp F (tPar i j (tCons ta (tCons tb tNil))) Γ nx rt bk ct := fun z σ D hF hz hs r =>
  h z σ _ hz hs fun v z1 a1 hz1 hv _ => h2 z1 σ _ hz1 (hs.add a1) fun u z2 a2 hz2 hu _ => by
    refine ⟨v, u, rfl, ?_⟩
    have hs2 := (hs.add a1).add a2
    have hv2 := hv.add a2
    have s1 : SOk F z2 (σ.set j (some u)) (Γ.set j (.d y)) := hs2.other (own' := z2.own) hj hu fun a j _ e => e
    obtain ⟨p, xs, e, q1, q2, q3, q4, q5⟩ := hv2
    have hz3 := own_step (i := i) hz2 q1 q3 q4
    have s2 := s1.other (i := i) (v := v) (s := .lst ds) (own' := fun a => if a = p then some i else z2.own a) (by rw [List.length_set]; exact hi) ⟨p, xs, e, q1, if_pos rfl, q3, q4, q5⟩ fun a j _ e' => by
      show (if a = p then some i else z2.own a) = some j
      rw [if_neg (fun q => by subst q; rw [q2] at e'; cases e')]; exact e'
    rw [List.set_comm _ _ (Ne.symm hij)] at s2
    rw [List.set_comm _ _ (Ne.symm hij)] at s2
    exact r.nx _ _ ⟨z2.S, z2.H, fun a => if a = p then some i else z2.own a⟩ q (a1.s.trans a2.s) hz3 s2
/-- items by place -/
def encs {α : Type} (enc : Nat → α → PyData) : Nat → List α → List PyData
  | _, [] => []
  | i, x :: xs => enc i x :: encs enc (i + 1) xs
theorem encs_map {α : Type} {enc : α → PyData} : ∀ (xs : List α) (i : Nat), encs (fun _ => enc) i xs = xs.map enc
  | [], _ => rfl
  | x :: xs, i => by rw [encs, encs_map xs, List.map_cons]
theorem encs_enum {α : Type} {enc : α → PyData} (xs : List α) : enumD (xs.map enc) = encs (fun i x => .tuple [.int (i : Int), enc x]) 0 xs := by
  have h : ∀ (xs : List α) (i : Nat), ((xs.map enc).zipIdx i).map (fun p => PyData.tuple [.int (p.2 : Int), p.1]) = encs (fun i x => .tuple [.int (i : Int), enc x]) i xs := by
    intro xs
    induction xs with
    | nil => intro i; rfl
    | cons x xs ih => intro i; rw [List.map_cons, List.zipIdx_cons, List.map_cons, ih]; rfl
  exact h xs 0
/-- a for by what is left of it -/
theorem forW_suf {F : Fx} {g : TG} {tb : TS} {nx : List Sl → Prop} {rt : Sl → List Sl → Prop} {α : Type} {enc : Nat → α → PyData} (I : Nat → List α → List Sl → Prop)
    (hs : ∀ i x rest Γ', I i (x :: rest) Γ' → WpG F g (.d (enc i x)) Γ' fun Γ1 => Wp F tb Γ1 (I (i + 1) rest) rt nx (I (i + 1) rest)) (hd : ∀ i Γ', I i [] Γ' → nx Γ') :
    ∀ (xs : List α) (i : Nat) (Γ : List Sl), I i xs Γ → ForW F g tb nx rt (encs enc i xs) Γ
  | [], i, Γ, h => hd i Γ h
  | x :: xs, i, Γ, h => by
    intro z σ v Q hF hz hss hv c
    refine hs i x xs Γ h z σ v Q hF hz hss hv fun Γ1 σ1 z1 w e1 hz1 hs1 => c Γ1 σ1 z1 ?_ e1 hz1 hs1
    intro z2 σ2 D hF2 hz2 hs2 r
    exact w z2 σ2 D hF2 hz2 hs2 ⟨fun Γ3 σ3 z3 p => r.nx Γ3 σ3 z3 (forW_suf I hs hd xs (i + 1) Γ3 p), r.rt, r.bk, fun Γ3 σ3 z3 p => r.ct Γ3 σ3 z3 (forW_suf I hs hd xs (i + 1) Γ3 p)⟩
/-- over xs.map enc -/
theorem forW_map {F : Fx} {g : TG} {tb : TS} {nx : List Sl → Prop} {rt : Sl → List Sl → Prop} {α : Type} {enc : α → PyData} {Γ : List Sl} {xs : List α} (I : Nat → List α → List Sl → Prop) (h0 : I 0 xs Γ)
    (hs : ∀ i x rest Γ', I i (x :: rest) Γ' → WpG F g (.d (enc x)) Γ' fun Γ1 => Wp F tb Γ1 (I (i + 1) rest) rt nx (I (i + 1) rest)) (hd : ∀ i Γ', I i [] Γ' → nx Γ') :
    ForW F g tb nx rt (xs.map enc) Γ := by
  rw [← encs_map xs 0]
  exact forW_suf I hs hd xs 0 Γ h0
theorem forW_enum {F : Fx} {g : TG} {tb : TS} {nx : List Sl → Prop} {rt : Sl → List Sl → Prop} {α : Type} {enc : α → PyData} {Γ : List Sl} {xs : List α} (I : Nat → List α → List Sl → Prop) (h0 : I 0 xs Γ)
    (hs : ∀ i x rest Γ', I i (x :: rest) Γ' → WpG F g (.d (.tuple [.int (i : Int), enc x])) Γ' fun Γ1 => Wp F tb Γ1 (I (i + 1) rest) rt nx (I (i + 1) rest)) (hd : ∀ i Γ', I i [] Γ' → nx Γ') :
    ForW F g tb nx rt (enumD (xs.map enc)) Γ := by
  rw [encs_enum]
  exact forW_suf (enc := fun i x => .tuple [.int (i : Int), enc x]) I hs hd xs 0 Γ h0
/-- over a range: the turn's number -/
theorem forW_range {F : Fx} {g : TG} {tb : TS} {nx : List Sl → Prop} {rt : Sl → List Sl → Prop} {Γ : List Sl} {lo : Int} {n : Nat} (I : Nat → List Sl → Prop) (h0 : I 0 Γ)
    (hs : ∀ i Γ', i < n → I i Γ' → WpG F g (.d (.int (lo + (i : Int)))) Γ' fun Γ1 => Wp F tb Γ1 (I (i + 1)) rt nx (I (i + 1))) (hd : ∀ Γ', I n Γ' → nx Γ') :
    ForW F g tb nx rt (rangeD lo n) Γ :=
  forW_inv I h0 (fun i d Γ' hd h => by
    have hi : i < n := by have := (List.getElem?_eq_some_iff.mp hd).1; rwa [rangeD_len] at this
    have : d = .int (lo + (i : Int)) := by
      simp [rangeD, hi] at hd
      exact hd.symm
    subst this
    exact hs i Γ' hi h) (fun Γ' h => hd Γ' (by rwa [rangeD_len] at h))
theorem cutD_le {α : Type} (xs : List α) (lo hi : Option Int) : (cutD xs lo hi).length ≤ xs.length := by
  unfold cutD; rw [List.length_take, List.length_drop]; omega
theorem cutD_map {α β : Type} (f : α → β) (xs : List α) (lo hi : Option Int) : cutD (xs.map f) lo hi = (cutD xs lo hi).map f := by
  unfold cutD; rw [List.length_map, List.map_take, List.map_drop]
theorem sIx_pos {n d : Nat} {i : Int} (h : 0 ≤ i) : HT.sIx n d (some i) = min i.toNat n := by
  show (if i < 0 then (i + (n : Int)).toNat else min i.toNat n) = _
  rw [if_neg (by omega)]
theorem cutD_take {α : Type} (xs : List α) {i : Int} (h : 0 ≤ i) : cutD xs none (some i) = xs.take i.toNat := by
  unfold cutD; rw [sIx_pos h, HT.sIx_none, List.drop_zero, Nat.sub_zero]
  rw [List.take_eq_take_iff]; omega
theorem cutD_drop {α : Type} (xs : List α) {i : Int} (h : 0 ≤ i) : cutD xs (some i) none = xs.drop i.toNat := by
  unfold cutD; rw [sIx_pos h, HT.sIx_none]
  by_cases hl : i.toNat ≤ xs.length
  · rw [Nat.min_eq_left hl, List.take_of_length_le (by rw [List.length_drop]; omega)]
  · rw [Nat.min_eq_right (by omega), List.drop_length, List.take_nil, List.drop_eq_nil_of_le (by omega)]
theorem cutD_mid {α : Type} (xs : List α) {i j : Int} (h : 0 ≤ i) (h2 : 0 ≤ j) : cutD xs (some i) (some j) = (xs.drop i.toNat).take (j.toNat - i.toNat) := by
  unfold cutD; rw [sIx_pos h, sIx_pos h2]
  by_cases hl : i.toNat ≤ xs.length
  · rw [Nat.min_eq_left hl]
    rw [List.take_eq_take_iff, List.length_drop]; omega
  · rw [Nat.min_eq_right (show xs.length ≤ i.toNat by omega), List.drop_length, List.take_nil, List.drop_eq_nil_of_le (show xs.length ≤ i.toNat by omega), List.take_nil]
theorem evs_ifT {F : Fx} {Γ : List Sl} {tt : TT} {ta tb : TE} {b : Bool} {ds es : List PyData} (hc : EvT F tt Γ b) (ha : b = true → EvS F ta Γ (.d (.tuple ds))) (hb : b = false → EvS F tb Γ (.d (.tuple es))) : EvS F (tIf tt ta tb) Γ (.d (.tuple (if b = true then ds else es))) :=
  evs_if hc (fun q => by rw [if_pos q]; exact ha q) fun q => by rw [if_neg (by rw [q]; exact Bool.false_ne_true)]; exact hb q
theorem evs_one {F : Fx} {Γ : List Sl} {te : TE} {i j : Int} (h : EvS F te Γ (.d (.int i))) (e : i = j) : EvA F (tCons te tNil) Γ [.d (.int j)] := by subst e; exact eva_cons h eva_nil
theorem Wp.mono {F : Fx} {t : TS} {Γ : List Sl} {nx bk ct nx' bk' ct' : List Sl → Prop} {rt rt' : Sl → List Sl → Prop} (h : Wp F t Γ nx rt bk ct) (h1 : ∀ Γ, nx Γ → nx' Γ) (h2 : ∀ r Γ, rt r Γ → rt' r Γ) (h3 : ∀ Γ, bk Γ → bk' Γ) (h4 : ∀ Γ, ct Γ → ct' Γ) : Wp F t Γ nx' rt' bk' ct' := fun z σ D hF hz hs r =>
  h z σ D hF hz hs ⟨fun Γ σ z p => r.nx Γ σ z (h1 Γ p), fun v s Γ σ z p => r.rt v s Γ σ z (h2 s Γ p), fun Γ σ z p => r.bk Γ σ z (h3 Γ p), fun Γ σ z p => r.ct Γ σ z (h4 Γ p)⟩
/-- a block, then the rest, by what holds between them -/
theorem wp_seqI {F : Fx} {t u : TS} {Γ : List Sl} {nx bk ct : List Sl → Prop} {rt : Sl → List Sl → Prop} (I : List Sl → Prop) (h : Wp F t Γ (I) rt bk ct) (h2 : ∀ Γ', I Γ' → Wp F u Γ' nx rt bk ct) : Wp F (tSeq t u) Γ nx rt bk ct :=
  wp_seq (h.mono h2 (fun _ _ h => h) (fun _ h => h) fun _ h => h)
/-- a, b = e1, e2 where e1, e2 change what slots own; the values data -/
theorem wp_parW {F : Fx} {Γ : List Sl} {nx bk ct : List Sl → Prop} {rt : Sl → List Sl → Prop} {i j : Nat} {tA : TA} (hij : i ≠ j) (h : WpA F tA Γ fun ss Γ' => ∃ x y, ss = [x, y] ∧ x.pass = true ∧ y.pass = true ∧ i < Γ'.length ∧ j < Γ'.length ∧ nx ((Γ'.set i x).set j y)) : Wp F (tPar i j tA) Γ nx rt bk ct := fun z σ D hF hz hs r =>
  h z σ _ hF hz hs fun vs ss Γ' z1 ⟨x, y, es, hx, hy, hi, hj, q⟩ a1 hz1 hs1 hv => by
    subst es
    obtain ⟨v, w, rfl, hv, hw⟩ := VAll.two hv
    refine ⟨v, w, rfl, ?_⟩
    have pk : ∀ {s : Sl} {v : V} {o o' : Option Nat}, s.pass = true → VOk F z1 o v s → VOk F z1 o' v s := fun {s v o o'} hp h => by
      cases s with
      | d x => exact h
      | raw w => exact h
      | sK x => exact h
      | sT x => exact h
      | sq x => exact h
      | _ => cases hp
    have s1 := hs1.other (own' := z1.own) hi (pk hx hv) fun a j _ e => e
    have s2 := s1.other (own' := z1.own) (by rw [List.length_set]; exact hj) (pk hy hw) fun a j _ e => e
    exact r.nx _ _ z1 q a1.s hz1 s2
theorem flat1 {d : PyData} : ∀ n : Nat, (List.replicate n [d]).flatten = List.replicate n d
  | 0 => rfl
  | n + 1 => by rw [List.replicate_succ, List.flatten_cons, flat1 n]; rfl
theorem lt_ble {i n : Nat} (h : Nat.ble (i + 1) n = true) : i < n := Nat.le_of_ble_eq_true h
theorem sz {n : Nat} (h : n ≤ 100000) : n ≤ sizeLine := Nat.le_trans h (by decide)
theorem sz' {n : Nat} (h : n ≤ 100000) : n < sizeLine := Nat.lt_of_le_of_lt h (by decide)
end GL
/-! GLf: from the top's facts; the law's end -/
namespace GL
open PySem PySem.Spec PyProof.Rows L2
theorem fun_of {K : PySem.W.Frag} {x qual : Str} {st : Stmt} {f : Addr} {fd : FuncData} (h : FunD K x qual (defArgs st) (defBody st) (defScope st) [] [] f fd) : Fun K x qual st f fd := by
  obtain ⟨oc, od, dV, kV, doc, pm, an, cdv, ct, osl, e, lk, hc, d, _⟩ := h.ex
  rcases d with ⟨_, rfl⟩ | ⟨q, _⟩
  · exact ⟨⟨oc, od, kV, doc, pm, an, cdv, ct, osl, e, lk, hc⟩, h.kp⟩
  · exact absurd rfl q
theorem vals_ints {K : PySem.W.Frag} {S : Hp} : ∀ ns : List Int, DtAll K S (ns.map V.int) (ns.map PyData.int)
  | [] => .nil
  | n :: ns => .cons (.int n) (vals_ints ns)
/-- a law over its script -/
abbrev lawC : Con := { α := List Int, args := fun a => [.sq (a.map PyData.int)], pre := fun a => a.length ≤ 63, post := fun a r => r = .d (.bool true) }
theorem law_wish {K : PySem.W.Frag} {H : Hp} {a : Addr} {ns : List Int} (hl : ns.length ≤ 63) (h : SqL K H a (ns.map V.int)) : spP K lawC [.ref a] H (fun v _ => v = .bl true) fun _ _ _ => False := by
  refine ⟨fun b => if b = a then H b else none, ns, fun b o e => ?_, .cons ⟨a, _, rfl, ?_, vals_ints ns⟩ .nil, hl, ?_, ?_⟩
  · dsimp only at e
    by_cases q : b = a
    · rwa [if_pos q] at e
    · rw [if_neg q] at e; cases e
  · rcases h with h | h
    · refine .inl ?_
      unfold Rd at h ⊢
      simpa using h
    · exact .inr h
  · intro v r S' H' hp _ _ _ _ hv
    rw [hp] at hv
    cases hv
    rfl
  · intro C H' q
    exact q.elim
/-- its one argument binds over every heap -/
theorem law_binds {K : PySem.W.Frag} {x qual y : Str} {st : Stmt} {f : Addr} {fd : FuncData} (F : Fun K x qual st f fd)
    (h : ∀ (kV doc pm : Value) (an : Option Addr) (cdv ct : Value) (u : Value), bindArgs (PySem.W.fnOf x qual (defArgs st) (defBody st) (defScope st) .none kV doc pm an cdv ct) ⟨[u], []⟩ = pure [(y, u)]) (s : Shared) (u : Value) : BindsTo s fd ⟨[u], []⟩ [(y, u)] := by
  obtain ⟨oc, od, kV, doc, pm, an, cdv, ct, osl, rfl, lk, hcd⟩ := F.ex
  exact .of_eq (h kV doc pm an cdv ct u)
end GL
/-! GLg: set(a list), told by what the set holds behind each item -/
namespace GL
open PySem PySem.Spec PyProof.Rows L2
/-- J i h: what the set at a holds in h behind i of the items -/
structure SetJ (P : Program) (w : World) (A : Around) (items : Array Value) (a : Addr) (J : Nat → Heap → Prop) : Prop where
  keep : ∀ i h h', J i h → (∀ o, h.get? a = some o → h'.get? a = some o) → J i h'
  add : ∀ (i : Nat) (v : Value) (s : Shared) (Q : Bool → Shared → Prop) (E : Value → Shared → Prop), items[i]? = some v → J i s.heap →
    (∀ b h' tk, Heap.SameBut a s.heap h' → s.toks ≤ tk → J (i + 1) h' → Q b { s with heap := h', toks := tk }) → wpAny (model P w) A (setAdd a v) Q E s
section
variable {P : Program} {w : World} {A : Around} {E : Value → Shared → Prop} {s : Shared}
theorem set_walk {I a : Addr} {fp wr : List Addr} {G : Array GenState → Array GenState → Prop} {n : Nat} {St : Nat → Shared → Prop} {R : Result → Shared → Prop} {items : Array Value} {J : Nat → Heap → Prop}
    (W : WalksS P w A.in1 I fp wr G n (fun i v => items[i]? = some v) St) (nf : a ∉ fp) (Y : SetJ P w A.in1 items a J) (m : Nat) :
    ∀ (i : Nat) (s : Shared), i + m = n → St i s → J i s.heap → (∀ s', Moved (a :: wr) G s s' → J n s'.heap → R (.ok (.ret .none)) s') →
      codeAny (model P w) A (.builtin "set.update.loop" ⟨[.ref a, .ref I], []⟩) R s := by
  have na : a ∉ wr := fun q => nf (W.sub _ q)
  have more : ∀ b, b ∈ wr → b ∈ a :: wr := fun b q => .tail _ q
  induction m with
  | zero =>
    rintro i s rfl st j hR
    apply codeAny_builtin F.entry_set_update_loop
    rw [Around.under_plainId F.plain_set_update_loop _]
    change wpAny _ A.in1 (pyNext (.ref I) >>= _) _ _ s
    apply wpAny_bind
    apply W.done s _ _ st
    intro s' mv
    change wpAny _ A.in1 (ret Value.none) _ _ s'
    exact wpAny_pure (hR s' (mv.mono more) (Y.keep _ _ _ j fun o q => mv.heap a o na q))
  | succ m ih =>
    intro i s hi st j hR
    apply codeAny_builtin F.entry_set_update_loop
    rw [Around.under_plainId F.plain_set_update_loop _]
    change wpAny _ A.in1 (pyNext (.ref I) >>= _) _ _ s
    apply wpAny_bind
    apply W.item i s _ _ (by omega) st
    intro v s' hv st' mv
    change wpAny _ A.in1 (holding [v] (setAdd a v) >>= _) _ _ s'
    apply wpAny_bind
    apply wpAny_holding
    apply Y.add i v s' _ _ hv (Y.keep _ _ _ j fun o q => mv.heap a o na q)
    intro b h' tk sb le j'
    apply wpAny_pure
    refine ⟨plainId_quiet F.plain_set_update_loop _, ih (i + 1) _ (by omega) (W.frame _ s' _ _ st' le fun b hb o q => ?_) j' fun s2 mv2 j2 => ?_⟩
    · exact (sb.2 b fun z => nf (z ▸ hb)).trans q
    · refine hR s2 (Moved.trans W.gtrans ((mv.mono more).then_heap le fun b o hb q => ?_) mv2) j2
      exact (sb.2 b fun z => hb (z ▸ .head _)).trans q
/-- the new set's object -/
abbrev newSet (led : Bool) : Obj := { cls := .type "set", dict := none, data := .set #[] 0 (.fresh 0 0 led) }
/-- set(xs) of a list: J 0 holds of a new set, J's end is what it holds -/
theorem set_of_list {l : Addr} {items : Array Value} {J : Nat → Heap → Prop} {Q : Value → Shared → Prop} (hh : A.handled = none) (hl : s.heap.IsList l items)
    (Y : ∀ B : Around, SetJ P w B items s.heap.objs.size J) (j0 : ∀ h : Heap, h.get? s.heap.objs.size = some (newSet (!w.params.followText "set-order")) → J 0 h)
    (h : ∀ (h' : Heap) (tk : Nat), J items.size h' → (∀ b o, s.heap.get? b = some o → h'.get? b = some o) → Q (.ref s.heap.objs.size) { s with heap := h', toks := tk }) :
    wpAny (model P w) A (call (.type "set") [.ref l]) Q E s := by
  obtain ⟨cc, tl, hmro⟩ := F.called_set.mro
  have m1 := F.called_set.made
  have m2 := F.called_set.sub
  have m3 := F.called_set.notType
  have m4 := F.called_set.canCreate
  have m5 := F.typeCall_set_1 (.ref l)
  apply wpAny_call
  apply codeAny_of_tree
  change wpAny _ _ (callAny (.type "set") _) _ _ _
  apply wpAny_pure
  refine ⟨Code.quiet_builtin _ (by decide +kernel), codeAny_builtin F.entry_type_call ?_⟩
  rw [Around.under_plain (weight_type_call_type "set" [.ref l] []) rfl]
  repeat (any_goals (first | assumption | wp_step))
  refine codeAny_mono (code_set_led1 (.ref l) (E := E) (Q₁ := fun o s1 => o = .ref s.heap.objs.size ∧ s1 = { s with heap := s.heap.push (newSet (!w.params.followText "set-order")) }) ⟨rfl, rfl⟩) fun r s1 hr => ?_
  cases r with
  | error e => exact hr
  | ok fl =>
    cases fl with
    | ret o =>
      obtain ⟨rfl, rfl⟩ := hr
      generalize hled : (!w.params.followText "set-order") = led at j0 ⊢
      have hS : (s.heap.push (newSet led)).get? s.heap.objs.size = some (newSet led) := Heap.get?_push_size _ rfl
      have hT : Shared.TypeIs { s with heap := s.heap.push (newSet led) } (.ref s.heap.objs.size) "set" := ⟨_, hS, rfl⟩
      have i1 := F.called_set.init.lookup
      have i2 := F.called_set.init.bind (.ref s.heap.objs.size)
      repeat (any_goals (first | assumption | wp_step))
      refine codeAny_mono (codeAny_call_builtin (R := wants (fun r s2 => r = .none ∧ ∃ h' tk, s2 = { s with heap := h', toks := tk } ∧ J items.size h' ∧ ∀ b o, s.heap.get? b = some o → h'.get? b = some o) E)
        F.called_set.init.plain F.entry_set_init (check_set_init_1 hT ?_)) fun r2 s2 hr2 => ?_
      · obtain ⟨ol, hol, hcl, nl, hdl⟩ := hl
        obtain ⟨oc, od, odt, osl⟩ := ol
        dsimp only at hcl hdl
        subst hcl; subst hdl
        have hol2 : (s.heap.push (newSet led)).get? l = some { cls := .type "list", dict := od, data := .seq items nl, slots := osl } := Heap.get?_push_of_some _ hol
        have f1 := F.sub_list_set
        have f2 := F.sub_list_frozenset
        have f3 : (Value.type "list" == Value.type "dict") = false := by decide
        have hl2 : (s.heap.push (newSet led)).IsList l items := ⟨_, hol2, rfl, nl, rfl⟩
        unfold Builtin.«set.__init__» noKeywords Builtin.Frozenset.updateFrom
        generalize hPI : pyIter = PI
        wp_walk
        subst hPI
        apply wpAny_pyIter_list hl2
        apply wpAny_bind
        apply wpAny_runValue
        have hlt : l < s.heap.objs.size := Heap.lt_size hol
        have hsz : (s.heap.push (newSet led)).objs.size = s.heap.objs.size + 1 := Heap.size_push ..
        have h3 : A.in1.in1.in1.handled = none := by simp [hh]
        refine set_walk (Walks.list h3 _ l (by rw [hsz]; exact Nat.ne_of_lt (Nat.lt_succ_of_lt hlt)) items).toS (a := s.heap.objs.size) (J := J) ?_ (Y _) items.size 0 _ (Nat.zero_add _) ⟨⟨_, Heap.get?_push_size _ rfl, rfl, rfl⟩, hl2.push _⟩ ?_ ?_
        · rw [hsz]
          simp only [List.mem_cons, List.not_mem_nil, or_false, not_or]
          exact ⟨Nat.ne_of_lt (Nat.lt_succ_self _), Nat.ne_of_gt hlt⟩
        · exact j0 _ (Heap.get?_push_of_some _ hS)
        · rintro ⟨h', g', d', t', o'⟩ mv j'
          have e1 : g' = s.gens := mv.gens
          have e2 : d' = s.drawn := mv.drawn
          have e3 : o' = s.os := mv.os
          subst e1 e2 e3
          show wpAny _ _ _ _ _ _
          apply wpAny_pure
          show wpAny _ _ (ret Value.none) _ _ _
          apply wpAny_pure
          refine ⟨rfl, h', t', rfl, j', fun b o q => mv.heap b o ?_ (Heap.get?_push_of_some _ (Heap.get?_push_of_some _ q))⟩
          have := Heap.lt_size q
          rw [hsz]
          simp only [List.mem_cons, List.not_mem_nil, or_false, not_or]
          exact ⟨Nat.ne_of_lt this, Nat.ne_of_lt (Nat.lt_succ_of_lt this)⟩
      · cases r2 with
        | error e => exact hr2
        | ok fl2 =>
          cases fl2 with
          | ret r =>
            obtain ⟨rfl, h', tk, rfl, j', k'⟩ := hr2
            repeat (any_goals (first | assumption | wp_step))
            exact h _ _ j' k'
          | _ => exact hr2.elim
    | _ => exact hr.elim
end
/-! ### what is met, each once, in order -/
section
variable {κ : Type} [DecidableEq κ]
def hasL (ks : List κ) (k : κ) : Bool := ks.any fun j => decide (j = k)
theorem hasL_iff {ks : List κ} {k : κ} : hasL ks k = true ↔ k ∈ ks := by unfold hasL; rw [List.any_eq_true]; exact ⟨fun ⟨j, h, e⟩ => of_decide_eq_true e ▸ h, fun h => ⟨k, h, decide_eq_true rfl⟩⟩
def uStep (acc : List κ) (k : κ) : List κ := if hasL acc k = true then acc else acc ++ [k]
def uniq (ks : List κ) : List κ := ks.foldl uStep []
theorem uniq_snoc (ks : List κ) (k : κ) : uniq (ks ++ [k]) = uStep (uniq ks) k := by unfold uniq; rw [List.foldl_append]; rfl
theorem uniq_at {ks : List κ} {i : Nat} {k : κ} (h : ks[i]? = some k) : uniq (ks.take (i + 1)) = uStep (uniq (ks.take i)) k := by
  rw [List.take_succ, h, Option.toList_some, uniq_snoc]
theorem uStep_mem {acc : List κ} {k j : κ} : j ∈ uStep acc k ↔ j ∈ acc ∨ j = k := by
  unfold uStep
  split
  · rename_i h
    exact ⟨.inl, fun q => q.elim id fun q => by rw [q]; exact hasL_iff.mp h⟩
  · rw [List.mem_append, List.mem_singleton]
theorem uStep_len {acc : List κ} {k : κ} : (uStep acc k).length = if hasL acc k = true then acc.length else acc.length + 1 := by
  unfold uStep
  split
  · rfl
  · rw [List.length_append]; rfl
theorem fold_mem {j : κ} : ∀ (ks acc : List κ), j ∈ ks.foldl uStep acc ↔ j ∈ acc ∨ j ∈ ks
  | [], acc => by simp
  | k :: ks, acc => by rw [List.foldl_cons, fold_mem ks, uStep_mem, List.mem_cons, or_assoc]
theorem uniq_mem {ks : List κ} {j : κ} : j ∈ uniq ks ↔ j ∈ ks := by unfold uniq; rw [fold_mem]; simp
theorem fold_nodup : ∀ (ks acc : List κ), acc.Nodup → (ks.foldl uStep acc).Nodup
  | [], _, h => h
  | k :: ks, acc, h => by
    refine fold_nodup ks _ ?_
    unfold uStep
    split
    · exact h
    · rename_i q
      exact List.nodup_append.mpr ⟨h, by simp, fun a ha b hb e => q (by rw [List.mem_singleton] at hb; rw [← hb, ← e]; exact hasL_iff.mpr ha)⟩
theorem uniq_nodup (ks : List κ) : (uniq ks).Nodup := fold_nodup ks [] List.nodup_nil
theorem fold_le : ∀ (ks acc : List κ), (ks.foldl uStep acc).length ≤ acc.length + ks.length
  | [], _ => Nat.le_refl _
  | k :: ks, acc => by
    refine Nat.le_trans (fold_le ks _) ?_
    have : (uStep acc k).length ≤ acc.length + 1 := by rw [uStep_len]; split <;> omega
    simp only [List.length_cons]; omega
theorem uniq_le (ks : List κ) : (uniq ks).length ≤ ks.length := by have := fold_le ks []; simpa [uniq] using this
theorem fold_eq : ∀ (ks acc : List κ), (ks.foldl uStep acc).length = acc.length + ks.length → (∀ k ∈ ks, k ∉ acc) ∧ ks.Nodup
  | [], _, _ => ⟨by simp, List.nodup_nil⟩
  | k :: ks, acc, h => by
    rw [List.foldl_cons] at h
    have h1 := fold_le ks (uStep acc k)
    have h2 : (uStep acc k).length = acc.length + 1 := by
      have : (uStep acc k).length ≤ acc.length + 1 := by rw [uStep_len]; split <;> omega
      simp only [List.length_cons] at h
      omega
    have h3 : k ∉ acc := fun q => by rw [uStep_len, if_pos (hasL_iff.mpr q)] at h2; omega
    obtain ⟨a, b⟩ := fold_eq ks (uStep acc k) (by simp only [List.length_cons] at h; omega)
    refine ⟨fun j hj => ?_, List.nodup_cons.mpr ⟨fun q => a k q (uStep_mem.mpr (.inr rfl)), b⟩⟩
    rcases List.mem_cons.mp hj with rfl | hj
    · exact h3
    · exact fun q => a j hj (uStep_mem.mpr (.inl q))
theorem fold_id : ∀ (ks acc : List κ), (∀ k ∈ ks, k ∉ acc) → ks.Nodup → ks.foldl uStep acc = acc ++ ks
  | [], _, _, _ => by simp
  | k :: ks, acc, h, n => by
    rw [List.foldl_cons]
    have e : uStep acc k = acc ++ [k] := by unfold uStep; rw [if_neg fun q => h k List.mem_cons_self (hasL_iff.mp q)]
    rw [e, fold_id ks (acc ++ [k]) (fun j hj q => ?_) (List.nodup_cons.mp n).2, List.append_assoc]; rfl
    rcases List.mem_append.mp q with q | q
    · exact h j (.tail _ hj) q
    · rw [List.mem_singleton] at q; exact (List.nodup_cons.mp n).1 (q ▸ hj)
theorem uniq_len_iff (ks : List κ) : (uniq ks).length = ks.length ↔ ks.Nodup :=
  ⟨fun h => (fold_eq ks [] (by simpa [uniq] using h)).2, fun h => by unfold uniq; rw [fold_id ks [] (by simp) h]; rfl⟩
end
/-! ### sets of texts, of ints, of truth values -/
section
variable {P : Program} {w : World} {s : Shared}
theorem vals_at {α : Type} {f : α → V} : ∀ {xs : List α} {us : List Value} {i : Nat} {v : Value}, Vals (xs.map f) us → us[i]? = some v → ∃ x, xs[i]? = some x ∧ RelV (f x) v
  | [], _, i, v, .nil, h => by simp at h
  | x :: xs, u :: us, 0, v, .cons r _, h => by simp at h; exact ⟨x, rfl, h ▸ r⟩
  | x :: xs, u :: us, i + 1, v, .cons _ r, h => vals_at (xs := xs) (us := us) (i := i) r (by simpa using h)
theorem setJ_key {a : Addr} {items : List Value} {ks : List Key} (r : Vals (ks.map kV) items) (hb : ks.length + 1 < scanBound) (A : Around) :
    SetJ P w A items.toArray a fun i h => h.SetOf (mixKind P w) a (fun k => hasL (uniq (ks.take i)) k) (uniq (ks.take i)).length where
  keep := fun i h h' j k => setOf_at j k
  add := fun i v s Q E hv j c => by
    obtain ⟨k, hk, rv⟩ := vals_at r (by simpa using hv)
    unfold setAdd
    apply wpAny_holding
    apply wpAny_bind
    apply (mixKind P w).pyHash (kV_is rv)
    have l1 := uniq_le (ks.take i)
    have l2 : (ks.take i).length ≤ ks.length := by rw [List.length_take]; omega
    refine wpAny_setAddHashed_of (knd := mixKind P w) (s := { s with toks := s.toks + 1 }) (kV_is rv) (key_scan rv) j (by omega) fun h' sb new => ?_
    refine c _ h' (s.toks + 1) sb (Nat.le_succ _) ?_
    rw [uniq_at hk, uStep_len]
    have e : (fun k' => hasL (uniq (ks.take i)) k' || decide (k' = k)) = fun k' => hasL (uStep (uniq (ks.take i)) k) k' := funext fun k' => by
      rw [Bool.eq_iff_iff, Bool.or_eq_true, decide_eq_true_eq, hasL_iff, hasL_iff, uStep_mem]
    rw [e] at new
    exact new
theorem setJ_int {a : Addr} {items : List Value} {ns : List Int} (r : Vals (ns.map V.int) items) (hb : ns.length + 1 < scanBound) (A : Around) :
    SetJ P w A items.toArray a fun i h => SetR w h a (fun k => hasL (uniq (ns.take i)) k) (uniq (ns.take i)).length where
  keep := fun i h h' j k => SetR.at j k
  add := fun i v s Q E hv j c => by
    obtain ⟨k, hk, tk, rfl⟩ := vals_at r (by simpa using hv)
    unfold setAdd
    apply wpAny_holding
    apply wpAny_bind
    apply (intKind P w).pyHash (intKind_is P w k tk)
    have l1 := uniq_le (ns.take i)
    have l2 : (ns.take i).length ≤ ns.length := by rw [List.length_take]; omega
    refine setR_add_hashed (s := { s with toks := s.toks + 1 }) j (by omega) fun h' sb new => ?_
    refine c _ h' (s.toks + 1) sb (Nat.le_succ _) ?_
    rw [uniq_at hk, uStep_len]
    have e : (fun k' => hasL (uniq (ns.take i)) k' || decide (k' = k)) = fun k' => hasL (uStep (uniq (ns.take i)) k) k' := funext fun k' => by
      rw [Bool.eq_iff_iff, Bool.or_eq_true, decide_eq_true_eq, hasL_iff, hasL_iff, uStep_mem]
    rw [e] at new
    exact new
end
section
variable {X : Cx}
/-- set(xs) of a list of texts or ints -/
def rSetKs (K : PySem.W.Frag) (P : Program) (w : World) : List V → Hp → VK → Prop := fun xs H Q => ∃ (l : Addr) (ks : List Key), xs = [.ref l] ∧ SqL K H l (ks.map kV) ∧ ks.length ≤ 1000 ∧ ∀ p, H p = none → Q (.ref p) (upd H p (SetK P w p (fun k => hasL (uniq ks) k) (uniq ks).length))
theorem cr_setKs (hc : X.calm = true) : CallR X (.type "set") (rSetKs X.K X.prog X.w) := by
  intro pins s σ H xs us Q I r h
  obtain ⟨l, ks, rfl, hq, hb, q⟩ := h
  rw [Vals.ref1 r]
  obtain ⟨its, rv, pl, hz⟩ := I.list hq
  have hsz : its.toArray.size = ks.length := by rw [List.size_toArray, ← rv.length, List.length_map]
  refine set_of_list (I.ok.hd hc) pl.isList (J := fun i h => h.SetOf (mixKind X.prog X.w) s.heap.objs.size (fun k => hasL (uniq (ks.take i)) k) (uniq (ks.take i)).length) (setJ_key rv (Nat.lt_of_le_of_lt (Nat.add_le_add_right hb 1) (by decide))) (fun h hn => ⟨_, #[], 0, _, hn, ⟨rfl, rfl, rfl⟩, rfl, (fun e he => by simp at he), (fun k => by simp [uniq, hasL]), (by decide), (by rfl), rfl⟩) fun h' tk j k => ?_
  rw [hsz, List.take_length] at j
  have I2 : Inv X pins σ (upd H s.heap.objs.size (SetK X.prog X.w s.heap.objs.size (fun k => hasL (uniq ks) k) (uniq ks).length)) { s with heap := h', toks := tk } := I.laid k (Nat.le_refl _) (setK_new j)
  exact ⟨.ref _, _, I2, rfl, q _ (I.hok.fresh (Nat.le_refl _))⟩
/-- set(xs) of a list of ints, to be walked -/
def rSetIs (K : PySem.W.Frag) (w : World) : List V → Hp → VK → Prop := fun xs H Q => ∃ (l : Addr) (ns : List Int), xs = [.ref l] ∧ SqL K H l (ns.map V.int) ∧ ns.length ≤ 1000 ∧ ∀ p, H p = none → Q (.ref p) (upd H p (SetO w p (fun k => hasL (uniq ns) k) (uniq ns).length))
theorem cr_setIs (hc : X.calm = true) : CallR X (.type "set") (rSetIs X.K X.w) := by
  intro pins s σ H xs us Q I r h
  obtain ⟨l, ns, rfl, hq, hb, q⟩ := h
  rw [Vals.ref1 r]
  obtain ⟨its, rv, pl, hz⟩ := I.list hq
  have hsz : its.toArray.size = ns.length := by rw [List.size_toArray, ← rv.length, List.length_map]
  refine set_of_list (I.ok.hd hc) pl.isList (J := fun i h => SetR X.w h s.heap.objs.size (fun k => hasL (uniq (ns.take i)) k) (uniq (ns.take i)).length) (setJ_int (P := X.prog) rv (Nat.lt_of_le_of_lt (Nat.add_le_add_right hb 1) (by decide))) (fun h hn => by have q := setR_new_at (ns := ns) hn; simp only [List.take_zero, List.not_mem_nil, decide_false] at q; exact q) fun h' tk j k => ?_
  rw [hsz, List.take_length] at j
  have I2 : Inv X pins σ (upd H s.heap.objs.size (SetO X.w s.heap.objs.size (fun k => hasL (uniq ns) k) (uniq ns).length)) { s with heap := h', toks := tk } := I.laid k (Nat.le_refl _) (setO_new j)
  exact ⟨.ref _, _, I2, rfl, q _ (I.hok.fresh (Nat.le_refl _))⟩
/-- len of a set of texts or ints -/
def rLenK (P : Program) (w : World) : List V → Hp → VK → Prop := fun xs H Q => ∃ (a : Addr) (S : Key → Bool) (n : Nat), xs = [.ref a] ∧ H a = some (SetK P w a S n) ∧ n ≤ 1000 ∧ Q (.int (n : Int)) H
theorem cr_lenK : CallR X (.builtin "len") (rLenK X.prog X.w) := by
  intro pins s σ H xs us Q I r h
  obtain ⟨a, S, n, rfl, ha, hb, q⟩ := h
  rw [Vals.ref1 r]
  obtain ⟨o, es, ep, t, ho, hx, hd, _, _, _, hf, hn⟩ := setK_get I ha
  exact call_len_set ho hx hd hf (by rw [hn]; omega) ⟨.int n, H, I.tok _, ⟨_, by rw [hn]⟩, q⟩
end
end GL
/-! GLh: more rules of the slot logic: dict stores, sets, sorted, max, downward ranges, three at once, two clauses -/
namespace GL
open PySem PySem.Spec PyProof.Rows L2
section
variable {F : Fx} {z : Z} {Γ : List Sl} {te ti ta tb : TE} {tA : TA} {tt : TT} {nx bk ct : List Sl → Prop} {rt : Sl → List Sl → Prop} {ds : List PyData} {x s s0 : Sl} {i : Nat} {d : PyData}
/-- a slot's own object changed -/
theorem mut_at {σ : L2.St} {p : Addr} {o0 : HO} {s1 : Sl} (hz : ZOk F z) (hs : SOk F z σ Γ) (hi : Γ[i]? = some s0) (h1 : σ[i]? = some (some (.ref p))) (q1 : z.H p = some o0) (q2 : z.own p = some i) (q3 : z.S p = none) (q4 : F.B p = none)
    (z1 : Z) (a1 : Add z z1) (hz1 : ZOk F z1) (o : HO) (mk : ∀ z2 : Z, z2.H p = some o → z2.own p = some i → z2.S p = none → z2.S = z1.S → VOk F z2 (some i) (.ref p) s1) :
    ZOk F ⟨z1.S, upd z1.H p o, z1.own⟩ ∧ SOk F ⟨z1.S, upd z1.H p o, z1.own⟩ σ (Γ.set i s1) ∧ Ext z ⟨z1.S, upd z1.H p o, z1.own⟩ := by
  have hl : i < Γ.length := (List.getElem?_eq_some_iff.mp hi).1
  have p1 := a1.h p _ q1
  have r1 : z1.S p = none := p1.2.trans q3
  have r2 : z1.own p = some i := by rw [a1.own]; exact q2
  have hs1 := hs.add a1
  refine ⟨⟨fun a u e => ?_, fun a u e => ?_, hz1.s0, fun a j e => ?_, hz1.fresh⟩, ⟨by rw [List.length_set]; exact hs.len, fun j s' e => ?_⟩, ⟨a1.s, fun a u e n => ?_, fun a e => ?_⟩⟩
  · exact (upd_ne (fun q => by subst q; rw [show z1.S a = some u from e] at r1; cases r1)).trans (hz1.sub a u e)
  · exact (upd_ne (fun q => by subst q; rw [e] at q4; cases q4)).trans (hz1.base a u e)
  · obtain ⟨w1, w2, w3⟩ := hz1.own a j e
    refine ⟨w1, w2, ?_⟩
    by_cases q : a = p
    · subst q; exact ⟨_, upd_same⟩
    · obtain ⟨u, w3⟩ := w3; exact ⟨u, (upd_ne q).trans w3⟩
  · by_cases hj : j = i
    · subst hj
      rw [List.getElem?_set_self hl] at e
      cases e
      exact .inr ⟨_, h1, mk ⟨z1.S, upd z1.H p o, z1.own⟩ upd_same r2 r1 rfl⟩
    · rw [List.getElem?_set_ne (Ne.symm hj)] at e
      have ho : ∀ {a : Addr}, z1.own a = some j → a ≠ p := fun {a} w q => by subst q; rw [r2] at w; exact hj (Option.some.inj w).symm
      refine (hs1.at_ j s' e).elim .inl fun ⟨w, w1, h2⟩ => .inr ⟨w, w1, ?_⟩
      cases s' with
      | lst ds => obtain ⟨a, xs, e, g1, g2, g3⟩ := h2; exact ⟨a, xs, e, (upd_ne (ho g2)).trans g1, g2, g3⟩
      | bor ds => exact nomatch h2.1
      | bK ds => exact nomatch h2.1
      | bT ds => exact nomatch h2.1
      | src a ds => obtain ⟨xs, e, g1, g2, g3⟩ := h2; exact ⟨xs, e, (upd_ne (ho g2)).trans g1, g2, g3⟩
      | dK ds => obtain ⟨a, xs, e, g1, g2, g3⟩ := h2; exact ⟨a, xs, e, (upd_ne (ho g2)).trans g1, g2, g3⟩
      | dT ds => obtain ⟨a, xs, e, g1, g2, g3⟩ := h2; exact ⟨a, xs, e, (upd_ne (ho g2)).trans g1, g2, g3⟩
      | _ => exact h2
  · have ne : a ≠ p := fun q => by subst q; rw [n] at q2; cases q2
    have w := a1.h a u e
    exact ⟨(upd_ne ne).trans w.1, by rw [a1.own]; exact n, w.2⟩
  · by_cases q : a = p
    · subst q; exact nomatch (upd_same.symm.trans (show upd z1.H a o a = none from e))
    · exact a1.dom a ((upd_ne q).symm.trans e)
/-- d[k] = e, d a dict of our own -/
theorem wp_setDT {kvs : List (List Key × PyData)} {ks : List Key} (hi : Γ[i]? = some (.dT kvs)) (h : EvS F te Γ (.d d)) (hk : EvS F ti Γ (.d (.tuple (ks.map kD)))) (hl : kvs.length < sizeLine) (q : nx (Γ.set i (.dT (putD kvs ks d)))) : Wp F (tAsg te (gSub (tVar i) ti rSetD)) Γ nx rt bk ct := fun z σ D hF hz hs r => by
  obtain ⟨v, h1, p, xs, rfl, q1, q2, q3, q4, q5⟩ := (hs.at_ i _ hi).resolve_left (fun e => nomatch e)
  refine h z σ _ hz hs fun v z1 a1 hz1 hv _ => ⟨_, h1, hk z1 σ _ hz1 (hs.add a1) fun u z2 a2 hz2 hu _ => ?_⟩
  have a := a1.trans a2
  have p1 := a.h p _ q1
  cases hu with
  | tup w1 w2 =>
    have ek := ks_kV w2
    subst ek
    have kv := kvd_put (k := ks) (q5.mono a.s) (hv.add a2)
    obtain ⟨hz3, hs3, x3⟩ := mut_at hz hs hi h1 q1 q2 q3 q4 z2 a hz2 (.dT (putK xs ks v)) (s1 := .dT (putD kvs ks d)) fun z' e1 e2 e3 e4 => ⟨p, _, rfl, e1, e2, e3, q4, by rw [e4]; exact kv⟩
    exact ⟨p, _, rfl, DPut.t p1.1 (hz2.sub _ _ w1) (by rw [kvd_len q5]; exact hl), r.nx _ _ _ q x3.s hz3 hs3⟩
theorem wp_setDK {kvs : List (Key × PyData)} {k : Key} (hi : Γ[i]? = some (.dK kvs)) (h : EvS F te Γ (.d d)) (hk : EvS F ti Γ (.d (kD k))) (hl : kvs.length < sizeLine) (q : nx (Γ.set i (.dK (putD kvs k d)))) : Wp F (tAsg te (gSub (tVar i) ti rSetD)) Γ nx rt bk ct := fun z σ D hF hz hs r => by
  obtain ⟨v, h1, p, xs, rfl, q1, q2, q3, q4, q5⟩ := (hs.at_ i _ hi).resolve_left (fun e => nomatch e)
  refine h z σ _ hz hs fun v z1 a1 hz1 hv _ => ⟨_, h1, hk z1 σ _ hz1 (hs.add a1) fun u z2 a2 hz2 hu _ => ?_⟩
  have a := a1.trans a2
  have p1 := a.h p _ q1
  have ek := kD_kV hu
  subst ek
  have kv := kvd_put (k := k) (q5.mono a.s) (hv.add a2)
  obtain ⟨hz3, hs3, x3⟩ := mut_at hz hs hi h1 q1 q2 q3 q4 z2 a hz2 (.dK (putK xs k v)) (s1 := .dK (putD kvs k d)) fun z' e1 e2 e3 e4 => ⟨p, _, rfl, e1, e2, e3, q4, by rw [e4]; exact kv⟩
  exact ⟨p, _, rfl, DPut.k p1.1 (by rw [kvd_len q5]; exact hl), r.nx _ _ _ q x3.s hz3 hs3⟩
/-- a conditional value returned -/
theorem wp_retIf {b : Bool} (hc : EvT F tt Γ b) (ha : b = true → Wp F (tRet ta) Γ nx rt bk ct) (hb : b = false → Wp F (tRet tb) Γ nx rt bk ct) : Wp F (tRet (tIf tt ta tb)) Γ nx rt bk ct := fun z σ D hF hz hs r => by
  refine hc z σ _ hz hs fun z1 a1 hz1 => ?_
  cases b with
  | true => exact ha rfl z1 σ D hF hz1 (hs.add a1) (r.mono a1.s)
  | false => exact hb rfl z1 σ D hF hz1 (hs.add a1) (r.mono a1.s)
/-! ### values at once into several slots -/
def Sl.isOwn : Sl → Bool
  | .lst _ => true
  | .dK _ => true
  | .dT _ => true
  | _ => false
theorem claim {σ : L2.St} {v : V} (hz : ZOk F z) (hs : SOk F z σ Γ) (hi : i < Γ.length) (hk : s.keep = true) (hv : VOk F z none v s) : ∃ own' : Addr → Option Nat, ZOk F ⟨z.S, z.H, own'⟩ ∧ SOk F ⟨z.S, z.H, own'⟩ (σ.set i (some v)) (Γ.set i s) ∧ ∀ a, own' a = z.own a ∨ (s.isOwn = true ∧ v = .ref a) := by
  have own1 : ∀ {p : Addr} {o : HO}, s.isOwn = true → v = .ref p → z.H p = some o → z.own p = none → z.S p = none → F.B p = none → VOk F ⟨z.S, z.H, fun a => if a = p then some i else z.own a⟩ (some i) v s → ∃ own' : Addr → Option Nat, ZOk F ⟨z.S, z.H, own'⟩ ∧ SOk F ⟨z.S, z.H, own'⟩ (σ.set i (some v)) (Γ.set i s) ∧ ∀ a, own' a = z.own a ∨ (s.isOwn = true ∧ v = .ref a) := fun {p o} h0 ev h1 h2 h3 h4 h5 => by
    refine ⟨fun a => if a = p then some i else z.own a, own_step hz h1 h3 h4, hs.other hi h5 fun a j _ e => ?_, fun a => ?_⟩
    · show (if a = p then some i else z.own a) = some j
      rw [if_neg (fun q => by subst q; rw [h2] at e; cases e)]; exact e
    · by_cases q : a = p
      · subst q; exact .inr ⟨h0, ev⟩
      · exact .inl (if_neg q)
  have pure1 : VOk F z (some i) v s → ∃ own' : Addr → Option Nat, ZOk F ⟨z.S, z.H, own'⟩ ∧ SOk F ⟨z.S, z.H, own'⟩ (σ.set i (some v)) (Γ.set i s) ∧ ∀ a, own' a = z.own a ∨ (s.isOwn = true ∧ v = .ref a) := fun h5 =>
    ⟨z.own, hz, hs.other (own' := z.own) hi h5 fun a j _ e => e, fun a => .inl rfl⟩
  cases s with
  | un => exact pure1 trivial
  | d x => exact pure1 hv
  | raw u => exact pure1 hv
  | lst ds => obtain ⟨p, xs, e, q1, q2, q3, q4, q5⟩ := hv; exact own1 rfl e q1 q2 q3 q4 ⟨p, xs, e, q1, if_pos rfl, q3, q4, q5⟩
  | dK ds => obtain ⟨p, xs, e, q1, q2, q3, q4, q5⟩ := hv; exact own1 rfl e q1 q2 q3 q4 ⟨p, xs, e, q1, if_pos rfl, q3, q4, q5⟩
  | dT ds => obtain ⟨p, xs, e, q1, q2, q3, q4, q5⟩ := hv; exact own1 rfl e q1 q2 q3 q4 ⟨p, xs, e, q1, if_pos rfl, q3, q4, q5⟩
  | sK ds => exact pure1 hv
  | sT ds => exact pure1 hv
  | sq ds => exact pure1 hv
  | _ => cases hk
/-- a value on its way is not touched by another's claim -/
theorem VOk.apart {u v : V} {s2 : Sl} {own' : Addr → Option Nat} (hv : VOk F z none u s2) (ho : ∀ a, own' a = z.own a ∨ (s.isOwn = true ∧ v = .ref a)) (ne : s.isOwn = true → s2.isOwn = true → u ≠ v) (hk : s2.keep = true) : VOk F ⟨z.S, z.H, own'⟩ none u s2 := by
  have at1 : ∀ {p : Addr}, s2.isOwn = true → u = .ref p → z.own p = none → own' p = none := fun {p} h e q => by
    rcases ho p with w | ⟨w1, w2⟩
    · exact w.trans q
    · exact absurd (e.trans w2.symm) (ne w1 h)
  cases s2 with
  | lst ds => obtain ⟨p, xs, e, q1, q2, q3⟩ := hv; exact ⟨p, xs, e, q1, at1 rfl e q2, q3⟩
  | dK ds => obtain ⟨p, xs, e, q1, q2, q3⟩ := hv; exact ⟨p, xs, e, q1, at1 rfl e q2, q3⟩
  | dT ds => obtain ⟨p, xs, e, q1, q2, q3⟩ := hv; exact ⟨p, xs, e, q1, at1 rfl e q2, q3⟩
  | bor ds => cases hk
  | bK ds => cases hk
  | bT ds => cases hk
  | src a ds => cases hk
  | _ => exact hv
theorem own_in {v : V} (hv : VOk F z none v s) (ho : s.isOwn = true) : ∃ p o, v = .ref p ∧ z.H p = some o := by
  cases s with
  | lst ds => obtain ⟨p, xs, e, q1, _⟩ := hv; exact ⟨p, _, e, q1⟩
  | dK ds => obtain ⟨p, xs, e, q1, _⟩ := hv; exact ⟨p, _, e, q1⟩
  | dT ds => obtain ⟨p, xs, e, q1, _⟩ := hv; exact ⟨p, _, e, q1⟩
  | _ => cases ho
theorem new_out {v : V} (hn : New z v s) (ho : s.isOwn = true) : ∃ p, v = .ref p ∧ z.H p = none := by
  cases s with
  | lst ds => exact hn
  | dK ds => exact hn
  | dT ds => exact hn
  | _ => cases ho
theorem new_ne {u v : V} {s2 : Sl} (hv : VOk F z none v s) (hn : New z u s2) (h1 : s.isOwn = true) (h2 : s2.isOwn = true) : u ≠ v := fun e => by
  obtain ⟨p, o, e1, q1⟩ := own_in hv h1
  obtain ⟨p', e2, q2⟩ := new_out hn h2
  rw [e, e1] at e2
  cases e2
  rw [q1] at q2
  cases q2
theorem wp_parE {j : Nat} {s1 s2 : Sl} (h : EvS F ta Γ s1) (h2 : EvS F tb Γ s2) (k1 : s1.keep = true) (k2 : s2.keep = true) (hij : i ≠ j) (hi : i < Γ.length) (hj : j < Γ.length) (q : nx ((Γ.set i s1).set j s2)) : Wp F (tPar i j (tCons ta (tCons tb tNil))) Γ nx rt bk ct := fun z σ D hF hz hs r =>
  h z σ _ hz hs fun v z1 a1 hz1 hv _ => h2 z1 σ _ hz1 (hs.add a1) fun u z2 a2 hz2 hu hn => by
    refine ⟨v, u, rfl, ?_⟩
    obtain ⟨o1, hz3, hs3, p1⟩ := claim hz2 ((hs.add a1).add a2) hi k1 (hv.add a2)
    have hu2 := hu.apart p1 (fun w1 w2 => new_ne hv hn w1 w2) k2
    obtain ⟨o2, hz4, hs4, p2⟩ := claim hz3 hs3 (i := j) (by rw [List.length_set]; exact hj) k2 hu2
    exact r.nx _ _ ⟨z2.S, z2.H, o2⟩ q (a1.s.trans a2.s) hz4 hs4
theorem wp_par3 {j l : Nat} {s1 s2 s3 : Sl} {tc : TE} (h : EvS F ta Γ s1) (h2 : EvS F tb Γ s2) (h3 : EvS F tc Γ s3) (k1 : s1.keep = true) (k2 : s2.keep = true) (k3 : s3.keep = true) (hi : i < Γ.length) (hj : j < Γ.length) (hl : l < Γ.length) (q : nx (((Γ.set i s1).set j s2).set l s3)) : Wp F (tPar3 i j l (tCons ta (tCons tb (tCons tc tNil)))) Γ nx rt bk ct := fun z σ D hF hz hs r =>
  h z σ _ hz hs fun v z1 a1 hz1 hv _ => h2 z1 σ _ hz1 (hs.add a1) fun u z2 a2 hz2 hu hn => h3 z2 σ _ hz2 ((hs.add a1).add a2) fun t z3 a3 hz3 ht hm => by
    refine ⟨v, u, t, rfl, ?_⟩
    obtain ⟨o1, hz4, hs4, p1⟩ := claim hz3 (((hs.add a1).add a2).add a3) hi k1 (hv.add (a2.trans a3))
    have hu2 := (hu.add a3).apart p1 (fun w1 w2 => new_ne hv hn w1 w2) k2
    have ht2 := ht.apart p1 (fun w1 w2 => new_ne (hv.add a2) hm w1 w2) k3
    obtain ⟨o2, hz5, hs5, p2⟩ := claim hz4 hs4 (i := j) (by rw [List.length_set]; exact hj) k2 hu2
    have ht3 := ht2.apart p2 (fun w1 w2 => new_ne hu hm w1 w2) k3
    obtain ⟨o3, hz6, hs6, p3⟩ := claim hz5 hs5 (i := l) (by rw [List.length_set, List.length_set]; exact hl) k3 ht3
    exact r.nx _ _ ⟨z3.S, z3.H, o3⟩ q ((a1.s.trans a2.s).trans a3.s) hz6 hs6
/-! ### max, sorted, sets -/
def maxI (ns : List Int) : Int := ns.foldl (fun m y => if m < y then y else m) (ns.headD 0)
theorem foldmax : ∀ (ns : List Int) (a : Int), (ns.foldl (fun m y => if m < y then y else m) a = a ∨ ns.foldl (fun m y => if m < y then y else m) a ∈ ns) ∧ a ≤ ns.foldl (fun m y => if m < y then y else m) a ∧ ∀ y ∈ ns, y ≤ ns.foldl (fun m y => if m < y then y else m) a
  | [], a => ⟨.inl rfl, Int.le_refl _, by simp⟩
  | n :: ns, a => by
    obtain ⟨h1, h2, h3⟩ := foldmax ns (if a < n then n else a)
    rw [List.foldl_cons]
    refine ⟨?_, ?_, fun y hy => ?_⟩
    · rcases h1 with h1 | h1
      · rw [h1]; split
        · exact .inr (.head _)
        · exact .inl rfl
      · exact .inr (.tail _ h1)
    · refine Int.le_trans ?_ h2; split <;> omega
    · rcases List.mem_cons.mp hy with rfl | hy
      · refine Int.le_trans ?_ h2; split <;> omega
      · exact h3 y hy
theorem maxI_spec {ns : List Int} (h : ns ≠ []) : maxI ns ∈ ns ∧ ∀ y ∈ ns, y ≤ maxI ns := by
  cases ns with
  | nil => exact absurd rfl h
  | cons n ns =>
    obtain ⟨h1, h2, h3⟩ := foldmax (n :: ns) n
    refine ⟨?_, h3⟩
    rcases h1 with h1 | h1
    · show List.foldl _ n (n :: ns) ∈ _; rw [h1]; exact .head _
    · exact h1
theorem maxI_eq {ns : List Int} {m : Int} (h1 : m ∈ ns) (h2 : ∀ y ∈ ns, y ≤ m) : maxI ns = m := by
  have := maxI_spec (ns := ns) (fun e => by rw [e] at h1; cases h1)
  have a := h2 _ this.1
  have b := this.2 _ h1
  omega
theorem max_ints {ns : List Int} (h : x.asL = some (ns.map PyData.int)) (hne : ns ≠ []) : CallS F (rMax F.K) [x] (.d (.int (maxI ns))) := calls_val fun z vs Q hz ha c => by
  obtain ⟨v, rfl, hv⟩ := VAll.one ha
  obtain ⟨a, xs, rfl, h1, h2⟩ := hv.asL hz h
  have e := h2.ints
  subst e
  refine ⟨a, ns, rfl, SqL.of h1, by cases ns with | nil => exact absurd rfl hne | cons _ _ => simp, fun m m1 m2 => ?_⟩
  rw [← maxI_eq m1 m2]
  exact c _ (.int _)
/-- in order, each once -/
def insU (k : Int) : List Int → List Int
  | [] => [k]
  | n :: ns => if k < n then k :: n :: ns else if k = n then n :: ns else n :: insU k ns
def sortU (ns : List Int) : List Int := ns.foldr insU []
theorem insU_mem {k j : Int} : ∀ {ns : List Int}, j ∈ insU k ns ↔ j = k ∨ j ∈ ns
  | [] => by simp [insU]
  | n :: ns => by
    unfold insU
    split
    · simp
    · split
      · rename_i h; subst h; simp
      · rw [List.mem_cons, insU_mem, List.mem_cons]; exact ⟨fun q => q.elim (fun q => .inr (.inl q)) fun q => q.elim .inl fun q => .inr (.inr q), fun q => q.elim (fun q => .inr (.inl q)) fun q => q.elim .inl fun q => .inr (.inr q)⟩
theorem insU_lt {k : Int} : ∀ {ns : List Int}, ns.Pairwise (· < ·) → (insU k ns).Pairwise (· < ·)
  | [], _ => List.pairwise_singleton _ _
  | n :: ns, h => by
    obtain ⟨h1, h2⟩ := List.pairwise_cons.mp h
    unfold insU
    split
    · rename_i q
      exact List.pairwise_cons.mpr ⟨fun y hy => by rcases List.mem_cons.mp hy with rfl | hy; exact q; exact Int.lt_trans q (h1 y hy), h⟩
    · split
      · exact h
      · refine List.pairwise_cons.mpr ⟨fun y hy => ?_, insU_lt h2⟩
        rcases insU_mem.mp hy with rfl | hy
        · omega
        · exact h1 y hy
theorem sortU_mem {j : Int} : ∀ {ns : List Int}, j ∈ sortU ns ↔ j ∈ ns
  | [] => Iff.rfl
  | n :: ns => by show j ∈ insU n (sortU ns) ↔ _; rw [insU_mem, sortU_mem, List.mem_cons]
theorem sortU_lt : ∀ (ns : List Int), (sortU ns).Pairwise (· < ·)
  | [] => .nil
  | n :: ns => insU_lt (sortU_lt ns)
theorem lt_unique : ∀ {as bs : List Int}, as.Pairwise (· < ·) → bs.Pairwise (· < ·) → (∀ k, k ∈ as ↔ k ∈ bs) → as = bs
  | [], [], _, _, _ => rfl
  | [], b :: bs, _, _, h => nomatch (h b).mpr (.head _)
  | a :: as, [], _, _, h => nomatch (h a).mp (.head _)
  | a :: as, b :: bs, ha, hb, h => by
    obtain ⟨a1, a2⟩ := List.pairwise_cons.mp ha
    obtain ⟨b1, b2⟩ := List.pairwise_cons.mp hb
    have e : a = b := by
      rcases List.mem_cons.mp ((h a).mp (.head _)) with q | q
      · exact q
      · rcases List.mem_cons.mp ((h b).mpr (.head _)) with w | w
        · exact w.symm
        · have := b1 a q; have := a1 b w; omega
    subst e
    rw [lt_unique a2 b2 fun k => ⟨fun q => ?_, fun q => ?_⟩]
    · rcases List.mem_cons.mp ((h k).mp (.tail _ q)) with w | w
      · subst w; exact absurd (a1 k q) (Int.lt_irrefl _)
      · exact w
    · rcases List.mem_cons.mp ((h k).mpr (.tail _ q)) with w | w
      · subst w; exact absurd (b1 k q) (Int.lt_irrefl _)
      · exact w
theorem sortU_eq {ns ms : List Int} (h : ms.Pairwise (· < ·)) (h2 : ∀ k, k ∈ ms ↔ k ∈ ns) : sortU ns = ms := lt_unique (sortU_lt ns) h fun k => sortU_mem.trans (h2 k).symm
variable {P : Program} {w : World}
/-- len(set(xs)), xs a list of texts -/
theorem evs_lenSetS {xs : List Str} (h : EvS F te Γ x) (hx : x.asL = some (xs.map PyData.str)) (hl : xs.length ≤ 1000) : EvS F (tCB (rLenK P w) (tCons (tCB (rSetKs F.K P w) (tCons te tNil)) tNil)) Γ (.d (.int ((uniq (xs.map (Sum.inr : Str → Key))).length : Nat))) := fun z σ Q hz hs c =>
  h z σ _ hz hs fun v z1 a1 hz1 hv _ => by
    obtain ⟨a, vs, rfl, h1, h2⟩ := hv.asL hz1 hx
    have e : vs = (xs.map (Sum.inr : Str → Key)).map kV := ks_kV (by rw [List.map_map]; exact h2)
    subst e
    have hb := uniq_le (xs.map (Sum.inr : Str → Key))
    rw [List.length_map] at hb
    refine ⟨a, _, rfl, SqL.of h1, by rw [List.length_map]; exact hl, fun p hp => ⟨p, _, _, rfl, upd_same, by omega, ?_⟩⟩
    exact c _ (z1.tmp p _) (a1.trans (Add.tmp hp)) (hz1.tmp hp) (.int _) trivial
/-- len(set(xs)), xs a list of ints -/
theorem evs_lenSetI {xs : List Int} (h : EvS F te Γ x) (hx : x.asL = some (xs.map PyData.int)) (hl : xs.length ≤ 1000) : EvS F (tCB (rLenK P w) (tCons (tCB (rSetKs F.K P w) (tCons te tNil)) tNil)) Γ (.d (.int ((uniq (xs.map (Sum.inl : Int → Key))).length : Nat))) := fun z σ Q hz hs c =>
  h z σ _ hz hs fun v z1 a1 hz1 hv _ => by
    obtain ⟨a, vs, rfl, h1, h2⟩ := hv.asL hz1 hx
    have e : vs = (xs.map (Sum.inl : Int → Key)).map kV := ks_kV (by rw [List.map_map]; exact h2)
    subst e
    have hb := uniq_le (xs.map (Sum.inl : Int → Key))
    rw [List.length_map] at hb
    refine ⟨a, _, rfl, SqL.of h1, by rw [List.length_map]; exact hl, fun p hp => ⟨p, _, _, rfl, upd_same, by omega, ?_⟩⟩
    exact c _ (z1.tmp p _) (a1.trans (Add.tmp hp)) (hz1.tmp hp) (.int _) trivial
theorem dt_ints {S : Hp} : ∀ ns : List Int, DtAll F.K S (ns.map V.int) (ns.map PyData.int)
  | [] => .nil
  | n :: ns => .cons (.int n) (dt_ints ns)
/-- sorted(set(xs)), xs a list of ints -/
theorem evs_sortSet {xs : List Int} (h : EvS F te Γ x) (hx : x.asL = some (xs.map PyData.int)) (hl : xs.length ≤ 1000) (hm : (sortU xs).length < 64) : EvS F (tCB (rSortedSet w) (tCons (tCB (rSetIs F.K w) (tCons te tNil)) tNil)) Γ (.lst ((sortU xs).map PyData.int)) := fun z σ Q hz hs c =>
  h z σ _ hz hs fun v z1 a1 hz1 hv _ => by
    obtain ⟨a, vs, rfl, h1, h2⟩ := hv.asL hz1 hx
    have e := h2.ints
    subst e
    have hn : (uniq xs).length = (sortU xs).length := ((List.perm_ext_iff_of_nodup (uniq_nodup xs) ((sortU_lt xs).imp fun q => Int.ne_of_lt q)).mpr fun k => by rw [uniq_mem, sortU_mem]).length_eq
    refine ⟨a, _, rfl, SqL.of h1, hl, fun p hp => ⟨p, _, _, rfl, upd_same, by omega, fun ns b hs1 hs2 _ hb => ?_⟩⟩
    have e : sortU xs = ns := sortU_eq hs1 fun k => by rw [hs2, hasL_iff, uniq_mem]
    subst e
    have hz2 := hz1.tmp (o := SetO w p (fun k => hasL (uniq xs) k) (uniq xs).length) hp
    have a2 := a1.trans (Add.tmp (o := SetO w p (fun k => hasL (uniq xs) k) (uniq xs).length) hp)
    exact c _ ((z1.tmp p _).tmp b _) (a2.trans (Add.tmp hb)) (hz2.tmp hb) (VOk.tmp_lst hz2 hb (dt_ints _)) ⟨b, rfl, a2.dom b hb⟩
/-- sorted(xs), xs a list of ints, fewer than 64 -/
def sortI (ns : List Int) : List Int := ns.mergeSort fun a b => decide (a ≤ b)
theorem sortI_eq {ns ms : List Int} (hp : ms.Perm ns) (hs : ms.Pairwise (· ≤ ·)) : sortI ns = ms := by
  have h1 : (sortI ns).Pairwise (· ≤ ·) := by
    have := List.pairwise_mergeSort (le := fun a b : Int => decide (a ≤ b)) (fun a b c h1 h2 => by simp at *; omega) (fun a b => by simp; omega) ns
    exact this.imp fun q => by simpa using q
  exact List.Perm.eq_of_pairwise (le := fun a b : Int => a ≤ b) (fun a b _ _ q r => Int.le_antisymm q r) h1 hs ((List.mergeSort_perm ns _).trans hp.symm)
theorem sorted_ints {ns : List Int} (h : x.asL = some (ns.map PyData.int)) (hl : ns.length < 64) : CallS F (rSorted F.K) [x] (.lst ((sortI ns).map PyData.int)) := fun z vs Q hz ha c => by
  obtain ⟨v, rfl, hv⟩ := VAll.one ha
  obtain ⟨a, xs, rfl, h1, h2⟩ := hv.asL hz h
  have e := h2.ints
  subst e
  refine ⟨a, ns, rfl, SqL.of h1, hl, fun ns' p hp hs hn => ?_⟩
  rw [← sortI_eq hp hs]
  exact c _ (z.tmp p _) (Add.tmp hn) (hz.tmp hn) (VOk.tmp_lst hz hn (dt_ints _)) ⟨p, rfl, hn⟩
end
end GL
/-! GLi: comprehensions of two clauses, ranges by steps, pop -/
namespace GL
open PySem PySem.Spec PyProof.Rows L2
section
variable {F : Fx} {Γ Γ1 : List Sl} {te ti ta tb : TE} {tA : TA} {tt tt1 : TT} {nx bk ct : List Sl → Prop} {rt : Sl → List Sl → Prop} {ds : List PyData} {x s s0 : Sl} {i : Nat} {d : PyData} {g g1 : TG} {wi wi1 : TI}
/-! ### a new list at D, filled -/
/-- from z to z2, but for what stands at D -/
def Adv (D : Addr) (z z2 : Z) : Prop := Add (z.tmp D (.lst [])) ⟨z2.S, upd z2.H D (.lst []), z2.own⟩
/-- the list at D holds these -/
def Acc (F : Fx) (D : Addr) (accD : List PyData) (z : Z) : Prop := ZOk F z ∧ z.S D = none ∧ F.B D = none ∧ z.own D = none ∧ ∃ acc, z.H D = some (.lst acc) ∧ DtAll F.K z.S acc accD
theorem Adv.refl {D : Addr} (z : Z) : Adv D z z := ⟨Ex.refl _, fun a o e => ⟨e, rfl⟩, rfl⟩
theorem Adv.trans {D : Addr} {x y z : Z} (a : Adv D x y) (b : Adv D y z) : Adv D x z := ⟨a.s.trans b.s, fun p o e => ⟨(b.h p o (a.h p o e).1).1, (b.h p o (a.h p o e).1).2.trans (a.h p o e).2⟩, b.own.trans a.own⟩
theorem Adv.of {D : Addr} {z z2 : Z} (a : Add z z2) {o : HO} (hD : z.H D = some o) : Adv D z z2 := by
  refine ⟨a.s, fun p u e => ?_, a.own⟩
  by_cases q : p = D
  · subst q; exact ⟨by rw [← e]; exact upd_same.trans upd_same.symm, (a.h p _ hD).2⟩
  · have w := a.h p u ((upd_ne q).symm.trans e)
    exact ⟨(upd_ne q).trans w.1, w.2⟩
theorem Adv.s_ {D : Addr} {z z2 : Z} (a : Adv D z z2) : Ex z.S z2.S := a.s
theorem SOk.adv {D : Addr} {z z2 : Z} {σ : L2.St} (hs : SOk F z σ Γ) (a : Adv D z z2) (o : z.own D = none) : SOk F z2 σ Γ := by
  refine ⟨hs.len, fun j s' e => (hs.at_ j s' e).elim .inl fun ⟨w, w1, h2⟩ => .inr ⟨w, w1, ?_⟩⟩
  have ow : ∀ {b : Addr} {u : HO}, z.own b = some j → z.H b = some u → z2.H b = some u ∧ z2.own b = some j ∧ z2.S b = z.S b := fun {b u} w q => by
    have ne : b ≠ D := fun e => by subst e; rw [o] at w; cases w
    have r := a.h b u ((upd_ne ne).trans q)
    exact ⟨(upd_ne ne).symm.trans r.1, by rw [show z2.own = z.own from a.own]; exact w, r.2⟩
  cases s' with
  | un => exact h2
  | d x => exact Dt.mono a.s h2
  | raw u => exact h2
  | lst ds => obtain ⟨b, xs, e, g1, g2, g3, g4, g5⟩ := h2; have r := ow g2 g1; exact ⟨b, xs, e, r.1, r.2.1, r.2.2.trans g3, g4, g5.mono a.s⟩
  | bor ds => exact nomatch h2.1
  | bK ds => exact nomatch h2.1
  | bT ds => exact nomatch h2.1
  | src b ds => obtain ⟨xs, e, g1, g2, g3, g4, g5⟩ := h2; have r := ow g2 g1; exact ⟨xs, e, r.1, r.2.1, r.2.2.trans g3, g4, g5.mono a.s⟩
  | dK ds => obtain ⟨b, xs, e, g1, g2, g3, g4, g5⟩ := h2; have r := ow g2 g1; exact ⟨b, xs, e, r.1, r.2.1, r.2.2.trans g3, g4, g5.mono a.s⟩
  | dT ds => obtain ⟨b, xs, e, g1, g2, g3, g4, g5⟩ := h2; have r := ow g2 g1; exact ⟨b, xs, e, r.1, r.2.1, r.2.2.trans g3, g4, g5.mono a.s⟩
  | sK ds => obtain ⟨b, xs, e, g1, g5⟩ := h2; exact ⟨b, xs, e, a.s _ _ g1, g5.mono a.s⟩
  | sT ds => obtain ⟨b, xs, e, g1, g5⟩ := h2; exact ⟨b, xs, e, a.s _ _ g1, g5.mono a.s⟩
  | sq ds => obtain ⟨b, xs, e, g1, g5⟩ := h2; exact ⟨b, xs, e, ex_l a.s g1, g5.mono a.s⟩
theorem Acc.new {D : Addr} {z : Z} (hz : ZOk F z) (hD : z.H D = none) : Acc F D [] (z.tmp D (.lst [])) := by
  obtain ⟨n1, n2, n3⟩ := hz.free hD
  exact ⟨hz.tmp hD, n1, n2, n3, [], upd_same, .nil⟩
theorem Acc.add {D : Addr} {accD : List PyData} {z z2 : Z} (h : Acc F D accD z) (a : Add z z2) (hz2 : ZOk F z2) : Acc F D accD z2 := by
  obtain ⟨_, h1, h2, h3, acc, h4, h5⟩ := h
  have w := a.h _ _ h4
  exact ⟨hz2, w.2.trans h1, h2, by rw [a.own]; exact h3, acc, w.1, h5.mono a.s⟩
theorem Acc.push {D : Addr} {accD : List PyData} {z : Z} {acc : List V} {u : V} {y : PyData} (h : Acc F D accD z) (hD : z.H D = some (.lst acc)) (hu : Dt F.K z.S u y) : Acc F D (accD ++ [y]) ⟨z.S, upd z.H D (.lst (acc ++ [u])), z.own⟩ ∧ Adv D z ⟨z.S, upd z.H D (.lst (acc ++ [u])), z.own⟩ := by
  obtain ⟨hz, h1, h2, h3, acc2, h4, h5⟩ := h
  have e : acc2 = acc := by rw [h4] at hD; cases hD; rfl
  subst e
  refine ⟨⟨⟨fun a o e => ?_, fun a o e => ?_, hz.s0, fun a j e => ?_, hz.fresh⟩, h1, h2, h3, _, upd_same, h5.app (.cons hu .nil)⟩, ⟨Ex.refl _, fun a o e => ⟨?_, rfl⟩, rfl⟩⟩
  · exact (upd_ne (fun q => by subst q; rw [show z.S a = some o from e] at h1; cases h1)).trans (hz.sub a o e)
  · exact (upd_ne (fun q => by subst q; rw [h2] at e; cases e)).trans (hz.base a o e)
  · obtain ⟨w1, w2, o, w3⟩ := hz.own a j e
    exact ⟨w1, w2, o, (upd_ne (fun q => by subst q; rw [show z.own a = some j from e] at h3; cases h3)).trans w3⟩
  · show upd (upd z.H D (.lst (acc2 ++ [u]))) D (.lst []) a = some o
    rw [show upd (upd z.H D (.lst (acc2 ++ [u]))) D (.lst []) = upd z.H D (.lst []) from upd_upd]; exact e
theorem Adv.out {D : Addr} {z0 z2 : Z} (hz : ZOk F z0) (hD : z0.H D = none) (a : Adv D (z0.tmp D (.lst [])) z2) : Add z0 z2 := by
  refine ⟨a.s, fun p o e => ?_, a.own⟩
  have ne : p ≠ D := ne_of_none e hD
  have w := a.h p o ((upd_ne ne).trans ((upd_ne ne).trans e))
  exact ⟨(upd_ne ne).symm.trans w.1, w.2⟩
/-! ### two clauses -/
/-- pure turns of two clauses -/
def LcP2 (F : Fx) (g : TG) (tt : TT) (wi1 : TI) (g1 : TG) (tt1 : TT) (te : TE) (vs1 : List Nat) (Γw : List Sl) : List PyData → List PyData → Prop
  | [], outs => outs = []
  | d :: ds, outs => ∃ Γ1 b, GTo F g d Γw Γ1 ∧ EvT F tt Γ1 b ∧ (b = true → ∃ items1 o1 rest, outs = o1 ++ rest ∧ EvI F wi1 Γ1 items1 ∧ LcP F g1 tt1 te (wipeS Γ1 vs1) items1 o1 ∧ LcP2 F g tt wi1 g1 tt1 te vs1 Γw ds rest) ∧ (b = false → LcP2 F g tt wi1 g1 tt1 te vs1 Γw ds outs)
theorem evs_lc2 {vs vs1 : List Nat} {items outs : List PyData} (hi : EvI F wi Γ items) (hg : Gvs vs g) (hg1 : Gvs vs1 g1) (hl : outs.length < sizeLine) (h : LcP2 F g tt wi1 g1 tt1 te vs1 (wipeS Γ vs) items outs) : EvS F (tLc2 wi g tt wi1 g1 tt1 te vs vs1) Γ (.lst outs) := fun z σ Q hz hs c =>
  hi z σ _ hz hs fun J z1 a1 hz1 hy D hD => by
    have hs1 := hs.add a1
    have oD : (z1.tmp D (.lst [])).own D = none := (hz1.free hD).2.2
    have hs1' : SOk F (z1.tmp D (.lst [])) σ Γ := hs1.add (Add.tmp hD)
    refine ⟨fun i m H => ∃ z2 accD, H = z2.H ∧ Adv D (z1.tmp D (.lst [])) z2 ∧ Acc F D accD z2 ∧ (∃ rest, outs = accD ++ rest ∧ LcP2 F g tt wi1 g1 tt1 te vs1 (wipeS Γ vs) (items.drop i) rest) ∧ m = items.length - i,
      ⟨items.length, z1.tmp D (.lst []), [], rfl, Adv.refl _, Acc.new hz1 hD, ⟨outs, rfl, h⟩, rfl⟩, ?_⟩
    rintro i m H ⟨z2, accD, rfl, ad, hA, ⟨rest, er, hp⟩, em⟩
    have hz2 := hA.1
    have e12 : Ex z1.S z2.S := ad.s_
    obtain ⟨yg, ys⟩ := hy z2 e12 hz2 i
    cases q : items[i]? with
    | none =>
      have hlen := List.getElem?_eq_none_iff.mp q
      rw [List.drop_eq_nil_of_le hlen] at hp
      have e0 : rest = [] := hp
      subst e0
      rw [List.append_nil] at er
      subst er
      obtain ⟨_, w1, w2, w3, acc, w4, w5⟩ := hA
      exact .inl ⟨ys hlen, c _ z2 (a1.trans (ad.out hz1 hD)) hz2 ⟨D, acc, rfl, w4, w3, w1, w2, w5⟩ ⟨D, rfl, a1.dom D hD⟩⟩
    | some d =>
      have hlen := (List.getElem?_eq_some_iff.mp q).1
      obtain ⟨go, yl⟩ := yg d q
      have ed : items.drop i = d :: items.drop (i + 1) := by
        rw [List.drop_eq_getElem_cons hlen, (List.getElem?_eq_some_iff.mp q).2]
      rw [ed] at hp
      obtain ⟨Γ1, b, hG1, ht1, hb1, hb0⟩ := hp
      refine .inr ⟨go, fun H' => ∃ z2 accD, H' = z2.H ∧ Adv D (z1.tmp D (.lst [])) z2 ∧ Acc F D accD z2 ∧ (∃ rest, outs = accD ++ rest ∧ LcP2 F g tt wi1 g1 tt1 te vs1 (wipeS Γ vs) (items.drop (i + 1)) rest), ?_, ?_⟩
      · rintro H' ⟨z3, accD3, w1, w2, w3, w4⟩
        exact ⟨items.length - (i + 1), by omega, z3, accD3, w1, w2, w3, w4, rfl⟩
      intro x H' hx
      obtain ⟨z3, rfl, a3, hz3, dx⟩ := yl x H' hx
      have hG := hg x (wipe σ vs) z3.H
      rw [wipe_wipe] at hG
      refine hG _ ?_
      have s2 : SOk F z2 σ Γ := hs1'.adv ad oD
      refine hG1 z3 (wipe σ vs) x _ hz3 (wipeS_ok (s2.add a3) vs) dx fun σ4 hs4 => ?_
      refine ht1 z3 σ4 _ hz3 hs4 fun z4 a4 hz4 => ?_
      obtain ⟨acc0, hD0⟩ : ∃ acc, z2.H D = some (.lst acc) := let ⟨_, _, _, _, acc, w, _⟩ := hA; ⟨acc, w⟩
      have hA4 := hA.add (a3.trans a4) hz4
      have ad4 : Adv D (z1.tmp D (.lst [])) z4 := ad.trans (Adv.of (a3.trans a4) hD0)
      cases b with
      | false =>
        rw [if_neg Bool.false_ne_true]
        exact ⟨z4, accD, rfl, ad4, hA4, rest, er, hb0 rfl⟩
      | true =>
        rw [if_pos rfl]
        obtain ⟨items1, o1, rest2, e2, hI1, hP1, hP2⟩ := hb1 rfl
        refine hI1 z4 σ4 _ hz4 (hs4.add a4) fun J1 z5 a5 hz5 hy1 => ?_
        have hs5 := (hs4.add a4).add a5
        have hA5 := hA4.add a5 hz5
        obtain ⟨acc5, hD5⟩ : ∃ acc, z5.H D = some (.lst acc) := let ⟨_, _, _, _, acc, w, _⟩ := hA5; ⟨acc, w⟩
        obtain ⟨acc4, hD4⟩ : ∃ acc, z4.H D = some (.lst acc) := let ⟨_, _, _, _, acc, w, _⟩ := hA4; ⟨acc, w⟩
        have ad5 : Adv D (z1.tmp D (.lst [])) z5 := ad4.trans (Adv.of a5 hD4)
        refine ⟨fun j k H => ∃ z6 bccD, H = z6.H ∧ Adv D z5 z6 ∧ Acc F D (accD ++ bccD) z6 ∧ (∃ r1, o1 = bccD ++ r1 ∧ LcP F g1 tt1 te (wipeS Γ1 vs1) (items1.drop j) r1) ∧ k = items1.length - j, ⟨items1.length, z5, [], rfl, Adv.refl _, by rw [List.append_nil]; exact hA5, ⟨o1, rfl, hP1⟩, rfl⟩, ?_⟩
        rintro j k H ⟨z6, bccD, rfl, ad6, hA6, ⟨r1, e1, hp1⟩, ek⟩
        have hz6 := hA6.1
        obtain ⟨yg1, ys1⟩ := hy1 z6 ad6.s_ hz6 j
        cases q1 : items1[j]? with
        | none =>
          have hlen1 := List.getElem?_eq_none_iff.mp q1
          rw [List.drop_eq_nil_of_le hlen1] at hp1
          have e0 : r1 = [] := hp1
          subst e0
          rw [List.append_nil] at e1
          subst e1
          exact .inl ⟨ys1 hlen1, z6, accD ++ o1, rfl, ad5.trans ad6, hA6, rest2, by rw [er, e2, List.append_assoc], hP2⟩
        | some d1 =>
          have hlen1 := (List.getElem?_eq_some_iff.mp q1).1
          obtain ⟨go1, yl1⟩ := yg1 d1 q1
          have ed1 : items1.drop j = d1 :: items1.drop (j + 1) := by
            rw [List.drop_eq_getElem_cons hlen1, (List.getElem?_eq_some_iff.mp q1).2]
          rw [ed1] at hp1
          obtain ⟨Γ3, b1, hG3, ht3, hc1, hc0⟩ := hp1
          refine .inr ⟨go1, fun H' => ∃ z6 bccD, H' = z6.H ∧ Adv D z5 z6 ∧ Acc F D (accD ++ bccD) z6 ∧ (∃ r1, o1 = bccD ++ r1 ∧ LcP F g1 tt1 te (wipeS Γ1 vs1) (items1.drop (j + 1)) r1), ?_, ?_⟩
          · rintro H' ⟨z7, ccD, w1, w2, w3, w4⟩
            exact ⟨items1.length - (j + 1), by omega, z7, ccD, w1, w2, w3, w4, rfl⟩
          intro x1 H' hx1
          obtain ⟨z7, rfl, a7, hz7, dx1⟩ := yl1 x1 H' hx1
          have hGG := hg1 x1 (wipe σ4 vs1) z7.H
          rw [wipe_wipe] at hGG
          refine hGG _ ?_
          have oD5 : z5.own D = none := hA5.2.2.2.1
          have s6 : SOk F z6 σ4 Γ1 := hs5.adv ad6 oD5
          refine hG3 z7 (wipe σ4 vs1) x1 _ hz7 (wipeS_ok (s6.add a7) vs1) dx1 fun σ8 hs8 => ?_
          refine ht3 z7 σ8 _ hz7 hs8 fun z8 a8 hz8 => ?_
          obtain ⟨acc6, hD6⟩ : ∃ acc, z6.H D = some (.lst acc) := let ⟨_, _, _, _, acc, w, _⟩ := hA6; ⟨acc, w⟩
          cases b1 with
          | false =>
            rw [if_neg Bool.false_ne_true]
            exact ⟨z8, bccD, rfl, ad6.trans (Adv.of (a7.trans a8) hD6), hA6.add (a7.trans a8) hz8, r1, e1, hc0 rfl⟩
          | true =>
            rw [if_pos rfl]
            obtain ⟨y, r2, e3, he, hr⟩ := hc1 rfl
            refine he z8 σ8 _ hz8 (hs8.add a8) fun u z9 a9 hz9 hu _ => ?_
            have a69 := a7.trans (a8.trans a9)
            have hA9 := hA6.add a69 hz9
            obtain ⟨_, _, _, _, acc, hD9, hd9⟩ := id hA9
            obtain ⟨hP, hQ⟩ := hA9.push hD9 hu
            have hle : acc.length = (accD ++ bccD).length := hd9.len
            refine ⟨acc, hD9, ?_, ⟨z9.S, upd z9.H D (.lst (acc ++ [u])), z9.own⟩, bccD ++ [y], rfl, (ad6.trans (Adv.of a69 hD6)).trans hQ, by rw [← List.append_assoc]; exact hP, r2, by rw [e1, e3, List.append_assoc]; rfl, hr⟩
            rw [hle, List.length_append]
            rw [er, e2, e1, e3] at hl
            simp only [List.length_append, List.length_cons] at hl
            omega
theorem lcp2_map {α β : Type} {enc : α → PyData} {enc1 : β → PyData} {f : α → List β} {vs1 : List Nat} {o : β → PyData} {p : β → Bool} {Γw : List Sl} : ∀ {xs : List α}, (∀ x ∈ xs, ∃ Γ1, GTo F g (enc x) Γw Γ1 ∧ EvI F wi1 Γ1 ((f x).map enc1) ∧ ∀ y ∈ f x, ∃ Γ2, GTo F g1 (enc1 y) (wipeS Γ1 vs1) Γ2 ∧ EvT F tt1 Γ2 (p y) ∧ (p y = true → EvS F te Γ2 (.d (o y)))) → LcP2 F g tYes wi1 g1 tt1 te vs1 Γw (xs.map enc) (((xs.flatMap f).filter p).map o)
  | [], _ => rfl
  | x :: xs, h => by
    obtain ⟨Γ1, h1, h2, h3⟩ := h x (by simp)
    have ih := lcp2_map (xs := xs) fun y hy => h y (by simp [hy])
    refine ⟨Γ1, true, h1, evt_yes, fun _ => ⟨(f x).map enc1, ((f x).filter p).map o, _, ?_, h2, lcp_map h3, ih⟩, fun q => nomatch q⟩
    rw [List.flatMap_cons, List.filter_append, List.map_append]
/-! ### ranges by steps -/
def rangeC (lo c : Int) (n : Nat) : List PyData := (List.range n).map fun k : Nat => PyData.int (lo + (k : Int) * c)
theorem yields_rangeC {S : Hp} {lo c : Int} {n : Nat} : Yields F (Itc lo c n) S (rangeC lo c n) := fun z e hz i => by
  refine ⟨fun d hd => ?_, fun hl => (by simpa [rangeC] using hl : n ≤ i)⟩
  have hi : i < n := by have := (List.getElem?_eq_some_iff.mp hd).1; simpa [rangeC] using this
  refine ⟨hi, fun x H' ⟨eH, y⟩ => ⟨z, eH.symm, Add.refl z, hz, ?_⟩⟩
  have : d = .int (lo + (i : Int) * c) := by
    simp [rangeC, hi] at hd
    exact hd.symm
  subst this y
  exact .int _
theorem evi_down {i j : Int} (h : EvA F tA Γ [.d (.int i), .d (.int j), .d (.int (-1))]) (h1 : -(2 ^ 62) ≤ i ∧ i < 2 ^ 62 ∧ -(2 ^ 62) ≤ j ∧ j < 2 ^ 62) : EvI F (iRng3 tA) Γ (rangeC i (-1) (i - j).toNat) := fun z σ R hz hs c =>
  h z σ _ hz hs fun vs z' a hz' ha => by
    cases ha with
    | cons hv t => cases t with
      | cons hw t => cases t with
        | cons hu t =>
          cases t
          exact ⟨i, j, -1, (i - j).toNat, by rw [hv.d_int, hw.d_int, hu.d_int], RgC.neg h1.1 h1.2.1 h1.2.2.1 h1.2.2.2, c _ _ a hz' yields_rangeC⟩
theorem forW_down {tb : TS} {lo : Int} {n : Nat} (I : Nat → List Sl → Prop) (h0 : I 0 Γ)
    (hs : ∀ i Γ', i < n → I i Γ' → WpG F g (.d (.int (lo - (i : Int)))) Γ' fun Γ1 => Wp F tb Γ1 (I (i + 1)) rt nx (I (i + 1))) (hd : ∀ Γ', I n Γ' → nx Γ') :
    ForW F g tb nx rt (rangeC lo (-1) n) Γ :=
  forW_inv I h0 (fun i d Γ' hd h => by
    have hi : i < n := by have := (List.getElem?_eq_some_iff.mp hd).1; simpa [rangeC] using this
    have : d = .int (lo - (i : Int)) := by
      simp [rangeC, hi] at hd
      rw [← hd]; congr 1
    subst this
    exact hs i Γ' hi h) (fun Γ' h => hd Γ' (by simpa [rangeC] using h))
/-! ### pop -/
theorem dt_erase {S : Hp} {K : PySem.W.Frag} : ∀ {xs : List V} {ds : List PyData} (_ : DtAll K S xs ds) (k : Nat), DtAll K S (xs.eraseIdx k) (ds.eraseIdx k)
  | _, _, .nil, _ => .nil
  | _, _, .cons _ t, 0 => t
  | _, _, .cons h t, k + 1 => .cons h (dt_erase t k)
/-- xs.pop(e), xs a list of our own; e may change other slots -/
theorem wpe_popAt {k : Sl → List Sl → Prop} (hi : Γ[i]? = some (.lst ds)) (h : WpE F te Γ fun s Γ' => ∃ (j : Nat) (y : PyData), s = .d (.int (j : Int)) ∧ Γ'[i]? = some (.lst ds) ∧ ds[j]? = some y ∧ ds.length ≤ 100000 ∧ k (.d y) (Γ'.set i (.lst (ds.eraseIdx j)))) : WpE F (tBM F.K "list" rPopAt (tVar i) (tCons te tNil)) Γ k := fun z σ Q hF hz hs q => by
  obtain ⟨v, h1, p, xs, rfl, q1, q2, q3, q4, q5⟩ := (hs.at_ i _ hi).resolve_left (fun e => nomatch e)
  refine ⟨_, h1, .inl ⟨rfl, xs, SqL.of q1⟩, h z σ _ hF hz hs fun u s Γ' z1 ⟨j, y, es, hi', hy, hl, hk⟩ e1 hz1 hs1 hu _ => ?_⟩
  subst es
  obtain ⟨v', h1', p', xs', rfl, r1, r2, r3, r4, r5⟩ := (hs1.at_ i _ hi').resolve_left (fun e => nomatch e)
  rw [h1] at h1'
  cases h1'
  have hj := (List.getElem?_eq_some_iff.mp hy).1
  have hlen := r5.len
  obtain ⟨w, hw, dw⟩ := r5.get hy
  obtain ⟨hz3, hs3, x3⟩ := mut_at hz1 hs1 hi' h1 r1 r2 r3 r4 z1 (Add.refl z1) hz1 (.lst (xs'.eraseIdx j)) (s1 := .lst (ds.eraseIdx j)) fun z' e1 e2 e3 e4 => ⟨p, _, rfl, e1, e2, e3, r4, by rw [e4]; exact dt_erase r5 j⟩
  refine ⟨p, xs', j, j, w, rfl, by rw [hu.d_int], r1, by omega, by omega, ?_, hw, ?_⟩
  · unfold seqIndex?
    have c1 : ¬ ((j : Int) < 0) := by omega
    rw [if_neg c1]
    have c2 : (0 ≤ (j : Int) && (j : Int) < (xs'.length : Int)) = true := by simp; omega
    show (if (0 ≤ (j : Int) && (j : Int) < (xs'.length : Int)) = true then some ((j : Int)).toNat else none) = some j
    rw [if_pos c2, Int.toNat_natCast]
  · exact q w (.d y) _ ⟨z1.S, upd z1.H p (.lst (xs'.eraseIdx j)), z1.own⟩ hk (e1.trans x3) hz3 hs3 (show Dt _ _ _ _ from dw) trivial
end
end GL
/-! GLj: the same rules within a block's own frame, told of the def's K; list(range) -/
namespace GL
open PySem PySem.Spec PyProof.Rows L2
theorem opK {X : Cx} {f : Value → Value → Sem Value} (r : PySem.W.Frag → R2) (K : PySem.W.Frag) (h : OpR X f (r X.K)) (e : X.K = K := by rfl) : OpR X f (r K) := by subst e; exact h
theorem ixK {X : Cx} (r : PySem.W.Frag → R2) (K : PySem.W.Frag) (h : IxR X (r X.K)) (e : X.K = K := by rfl) : IxR X (r K) := by subst e; exact h
theorem slK {X : Cx} (r : PySem.W.Frag → V → Option Int → Option Int → Hp → VK → Prop) (K : PySem.W.Frag) (h : SlR X (r X.K)) (e : X.K = K := by rfl) : SlR X (r K) := by subst e; exact h
theorem crK {X : Cx} {v : Value} (r : PySem.W.Frag → List V → Hp → VK → Prop) (K : PySem.W.Frag) (h : CallR X v (r X.K)) (e : X.K = K := by rfl) : CallR X v (r K) := by subst e; exact h
theorem piSeqK {X : Cx} {tg e : Expr} {te : TE} (K : PySem.W.Frag) (h : PI X tg e (iSeq X.K te)) (q : X.K = K := by rfl) : PI X tg e (iSeq K te) := by subst q; exact h
theorem piEnumK {X : Cx} {tg e : Expr} {ta : TA} (K : PySem.W.Frag) (h : PI X tg e (iEnumG X.K ta)) (q : X.K = K := by rfl) : PI X tg e (iEnumG K ta) := by subst q; exact h
theorem pgTupK {X : Cx} {e : Expr} {n : Nat} {gs : TGs} (K : PySem.W.Frag) (h : PG X e (gTup X.K n gs)) (q : X.K = K := by rfl) : PG X e (gTup K n gs) := by subst q; exact h
theorem un_negI {F : Fx} {i : Int} : UnS F (rU fun i => .int (-i)) (.d (.int i)) (.d (.int (-i))) := fun z v Q hz hv c => ⟨i, hv.d_int, c _ z (Add.refl z) hz (.int _) trivial⟩
/-- return what is our own -/
theorem wp_retO {F : Fx} {Γ : List Sl} {i : Nat} {s : Sl} {nx bk ct : List Sl → Prop} {rt : Sl → List Sl → Prop} (hi : Γ[i]? = some s) (ho : s.isOwn = true) (q : rt s (Γ.set i .un)) : Wp F (tRet (tVar i)) Γ nx rt bk ct := fun z σ D hF hz hs r => by
  obtain ⟨v, h1, hv⟩ := (hs.at_ i _ hi).resolve_left (fun e => by subst e; cases ho)
  obtain ⟨p, rfl, q2, mk⟩ : ∃ p, v = .ref p ∧ z.own p = some i ∧ VOk F ⟨z.S, z.H, fun a => if a = p then none else z.own a⟩ none v s := by
    cases s with
    | lst ds => obtain ⟨p, xs, rfl, q1, q2, q3, q4, q5⟩ := hv; exact ⟨p, rfl, q2, p, xs, rfl, q1, if_pos rfl, q3, q4, q5⟩
    | dK ds => obtain ⟨p, xs, rfl, q1, q2, q3, q4, q5⟩ := hv; exact ⟨p, rfl, q2, p, xs, rfl, q1, if_pos rfl, q3, q4, q5⟩
    | dT ds => obtain ⟨p, xs, rfl, q1, q2, q3, q4, q5⟩ := hv; exact ⟨p, rfl, q2, p, xs, rfl, q1, if_pos rfl, q3, q4, q5⟩
    | _ => cases ho
  refine ⟨_, h1, r.rt _ s _ σ ⟨z.S, z.H, fun a => if a = p then none else z.own a⟩ q (Ex.refl _) ⟨hz.sub, hz.base, hz.s0, fun a j e => ?_, hz.fresh⟩ ⟨by rw [List.length_set]; exact hs.len, fun j s' e => ?_⟩ mk⟩
  · have ne : a ≠ p := fun w => by subst w; exact nomatch ((if_pos rfl).symm.trans (show (if a = a then none else z.own a) = some j from e))
    exact hz.own a j ((if_neg ne).symm.trans e)
  · have hl : i < Γ.length := (List.getElem?_eq_some_iff.mp hi).1
    by_cases hj : j = i
    · subst hj; rw [List.getElem?_set_self hl] at e; exact .inl (Option.some.inj e).symm
    · rw [List.getElem?_set_ne (Ne.symm hj)] at e
      have ow : ∀ {a : Addr}, z.own a = some j → a ≠ p := fun {a} w q => by subst q; rw [q2] at w; exact hj (Option.some.inj w).symm
      refine (hs.at_ j s' e).elim .inl fun ⟨w, w1, h2⟩ => .inr ⟨w, w1, ?_⟩
      cases s' with
      | lst ds => obtain ⟨a, xs, e, g1, g2, g3⟩ := h2; exact ⟨a, xs, e, g1, (if_neg (ow g2)).trans g2, g3⟩
      | bor ds => exact nomatch h2.1
      | bK ds => exact nomatch h2.1
      | bT ds => exact nomatch h2.1
      | src a ds => obtain ⟨xs, e, g1, g2, g3⟩ := h2; exact ⟨xs, e, g1, (if_neg (ow g2)).trans g2, g3⟩
      | dK ds => obtain ⟨a, xs, e, g1, g2, g3⟩ := h2; exact ⟨a, xs, e, g1, (if_neg (ow g2)).trans g2, g3⟩
      | dT ds => obtain ⟨a, xs, e, g1, g2, g3⟩ := h2; exact ⟨a, xs, e, g1, (if_neg (ow g2)).trans g2, g3⟩
      | _ => exact h2
/-! ### slices with a drawn end, walks over them; list(range) -/
section
variable {F : Fx} {Γ : List Sl} {te ta tb th : TE} {x : Sl} {ds : List PyData} {k : Sl → List Sl → Prop}
theorem wpe_slD (hx : EvS F te Γ x) (e : x.asL = some ds) (hw : x.way = true) (h : WpE F th Γ fun s Γ' => ∃ j : Int, s = .d (.int j) ∧ k (.d (.list (cutD ds none (some j)))) Γ') : WpE F (tSl (rSlG F.K) te tNoPart (tPart th)) Γ k := fun z σ Q hF hz hs q =>
  hx z σ _ hz hs fun v z1 a1 hz1 hv _ => h z1 σ _ hF hz1 (hs.add a1) fun u s Γ' z2 ⟨j, es, hk⟩ a2 hz2 hs2 hu _ => by
    subst es
    obtain ⟨a, xs, rfl, g1, g2⟩ := (hv.ext a2 hw).asL hz2 e
    exact ⟨j, hu.d_int, .inr ⟨a, xs, rfl, SqL.of g1, fun p hp => q _ _ Γ' (z2.sh p _) hk (a1.ext.trans (a2.trans (Add.sh hz2 hp).ext)) (hz2.sh hp) (hs2.add (Add.sh hz2 hp)) (VOk.sh_lst hz2 hp (g2.cut none (some j))) trivial⟩⟩
theorem wpi_seqL {kI : List PyData → List Sl → Prop} (h : WpE F te Γ fun s Γ' => ∃ ds, s = .d (.list ds) ∧ kI ds Γ') : WpI F (iSeq F.K te) Γ kI := fun z σ R hF hz hs c =>
  h z σ _ hF hz hs fun v s Γ' z' ⟨ds, e, hk⟩ a hz' hs' hv _ => by
    subst e
    cases hv with
    | lst h1 h2 => exact .inl ⟨_, rfl, ⟨_, SqL.of (hz'.sub _ _ h1)⟩, c _ _ _ _ hk a hz' hs' (yields_list h1 h2)⟩
theorem dt_rg {S : Hp} {a b : Int} : DtAll F.K S (rgV a b) (rangeD a (b - a).toNat) := by
  unfold rgV rangeD
  induction (List.range (b - a).toNat) with
  | nil => exact .nil
  | cons i is ih => exact .cons (.int _) ih
theorem evs_rg1 {n : Int} (h : EvS F te Γ (.d (.int n))) (h0 : 0 ≤ n) (h1 : n ≤ 16777216) : EvS F (tLstRg (tRg1 te)) Γ (.lst (rangeD 0 n.toNat)) := fun z σ Q hz hs c =>
  h z σ _ hz hs fun v z1 a1 hz1 hv _ => ⟨n, hv.d_int, RgOk.of_le (Int.le_refl _) h1 (by decide) h0, fun p hp => by
    have d := dt_rg (F := F) (S := z1.S) (a := 0) (b := n)
    rw [Int.sub_zero] at d
    exact c _ (z1.tmp p _) (a1.trans (Add.tmp hp)) (hz1.tmp hp) (VOk.tmp_lst hz1 hp d) ⟨p, rfl, a1.dom p hp⟩⟩
theorem evs_rg2 {m n : Int} (h : EvS F ta Γ (.d (.int m))) (h' : EvS F tb Γ (.d (.int n))) (h0 : 0 ≤ m ∧ m ≤ 16777216) (h1 : 0 ≤ n ∧ n ≤ 16777216) : EvS F (tLstRg (tRg2 ta tb)) Γ (.lst (rangeD m (n - m).toNat)) := fun z σ Q hz hs c =>
  h z σ _ hz hs fun v z1 a1 hz1 hv _ => h' z1 σ _ hz1 (hs.add a1) fun u z2 a2 hz2 hu _ => ⟨m, n, hv.d_int, hu.d_int, RgOk.of_le h0.1 h1.2 h0.2 h1.1, fun p hp =>
    c _ (z2.tmp p _) ((a1.trans a2).trans (Add.tmp hp)) (hz2.tmp hp) (VOk.tmp_lst hz2 hp dt_rg) ⟨p, rfl, (a1.trans a2).dom p hp⟩⟩
end
/-- the ints a .. b - 1 -/
def rangeI (a b : Int) : List Int := (List.range (b - a).toNat).map fun i : Nat => a + (i : Int)
theorem rangeI_mem {a b x : Int} : x ∈ rangeI a b ↔ a ≤ x ∧ x < b := by
  unfold rangeI
  rw [List.mem_map]
  constructor
  · rintro ⟨i, hi, rfl⟩
    rw [List.mem_range] at hi
    omega
  · intro h
    exact ⟨(x - a).toNat, List.mem_range.mpr (by omega), by omega⟩
theorem rangeI_len (a b : Int) : (rangeI a b).length = (b - a).toNat := by unfold rangeI; rw [List.length_map, List.length_range]
theorem rangeI_map (a b : Int) : rangeD a (b - a).toNat = (rangeI a b).map PyData.int := by unfold rangeI rangeD; rw [List.map_map]; rfl
theorem evs_rgI {F : Fx} {Γ : List Sl} {ta tb : TE} {m n : Int} (h : EvS F ta Γ (.d (.int m))) (h' : EvS F tb Γ (.d (.int n))) (h0 : -100000 ≤ m ∧ m ≤ 100000) (h1 : -100000 ≤ n ∧ n ≤ 100000) : EvS F (tLstRg (tRg2 ta tb)) Γ (.lst ((rangeI m n).map PyData.int)) := fun z σ Q hz hs c =>
  h z σ _ hz hs fun v z1 a1 hz1 hv _ => h' z1 σ _ hz1 (hs.add a1) fun u z2 a2 hz2 hu _ => ⟨m, n, hv.d_int, hu.d_int, ⟨by omega, by omega, by omega, by omega, by omega⟩, fun p hp => by
    rw [← rangeI_map] at c
    exact c _ (z2.tmp p _) ((a1.trans a2).trans (Add.tmp hp)) (hz2.tmp hp) (VOk.tmp_lst hz2 hp dt_rg) ⟨p, rfl, (a1.trans a2).dom p hp⟩⟩
theorem notin_strG {F : Fx} {a b : Str} : OpS F (rNotInG F.K) (.d (.str a)) (.d (.str b)) (.d (.bool (!(!(Builtin.Str.occurrences b a 0 b.length 1).isEmpty)))) := ops_val fun z v w Q hz hv hw c => .inr ⟨a, b, hv.d_str, hw.d_str, c _ (.bl _)⟩
/-- a call that changes a slot's list, behind its arguments -/
theorem callS_core {F : Fx} {z1 : Z} {Γ : List Sl} {σ : L2.St} {k : Sl → List Sl → Prop} {c : ConS} {E : XK} {i : Nat} {s0 : Sl} {p : Addr} {vs : List V} {Q : VK} (b : c.α) (hz1 : ZOk F z1) (hs : SOk F z1 σ Γ) (hi : Γ[i]? = some s0) (ho : s0.ownL = some (c.src b)) (hσ : σ[i]? = some (some (.ref p))) (hv : VAll F z1 vs (c.args b)) (hp : (c.args b).all Sl.pass = true) (hpre : c.pre b) (hk : ∀ r ds', c.post b r ds' → k r (Γ.set i (s0.withL ds')))
    (q : ∀ v s Γ' z', k s Γ' → Ext z1 z' → ZOk F z' → SOk F z' σ Γ' → VOk F z' none v s → New z1 v s → Q v z'.H) : spS F.K c (V.ref p :: vs) z1.H Q E := by
  obtain ⟨p', xs, h1, q1, q2, q3, q4, q5, mu⟩ := mut_own hz1 hs hi ho
  rw [hσ] at h1
  cases h1
  have p1 : z1.H p = some (.lst xs) ∧ True := ⟨q1, trivial⟩
  refine ⟨z1.S, p, xs, vs, b, rfl, q1, q2, q5, hz1.sub, hv.pass hp, hpre, fun v r ds' xs' S' H' hr e1 e2 e3 e4 e5 e6 hn => ?_⟩
  -- the callee's other doings, then the change
  let z2 : Z := ⟨S', upd H' p (.lst xs), z1.own⟩
  have sp : S' p = none := (e4 p _ p1.1).trans q2
  have ex12 : Ex z1.H z2.H := fun a o e => by
    by_cases hq : a = p
    · subst hq; rw [p1.1] at e; cases e; exact upd_same
    · exact (upd_ne hq).trans (e3 a o hq e)
  obtain ⟨hz2, a2⟩ := call_after (S' := S') (H' := upd H' p (.lst xs)) hz1 e1 (fun a o e => (upd_ne (fun hq => by subst hq; rw [e] at sp; cases sp)).trans (e2 a o e)) ex12 e4
  obtain ⟨hz3, hs3, x3⟩ := mu z2 a2 hz2 xs' ds' e6
  have eH : upd z2.H p (.lst xs') = H' := by
    show upd (upd H' p (.lst xs)) p (.lst xs') = H'
    rw [upd_upd]
    funext b
    by_cases hb : b = p
    · subst hb; rw [upd_same]; exact e5.symm
    · exact upd_ne hb
  have hn' : VN F.K S' z1.H z2.H v r := by
    have na : ∀ {a : Addr}, z1.H a = none → a ≠ p := fun {a} e hq => by subst hq; rw [p1.1] at e; cases e
    cases r with
    | un => exact hn.elim
    | d x => exact hn
    | raw w => exact hn
    | lst ds => obtain ⟨a, xs, e, h1, h2, h3, h4⟩ := hn; exact ⟨a, xs, e, h1, (upd_ne (na h1)).trans h2, h3, h4⟩
    | bor ds => exact hn.elim
    | bK ds => exact hn.elim
    | bT ds => exact hn.elim
    | src a ds => exact hn.elim
    | dK ds => obtain ⟨a, xs, e, h1, h2, h3, h4⟩ := hn; exact ⟨a, xs, e, h1, (upd_ne (na h1)).trans h2, h3, h4⟩
    | dT ds => obtain ⟨a, xs, e, h1, h2, h3, h4⟩ := hn; exact ⟨a, xs, e, h1, (upd_ne (na h1)).trans h2, h3, h4⟩
    | sK ds => exact hn
    | sT ds => exact hn
    | sq ds => exact hn
  obtain ⟨hv2, hn2⟩ := vn_vok hz1 hn'
  have key := q v r _ ⟨z2.S, upd z2.H p (.lst xs'), z2.own⟩ (hk r ds' hr) x3 hz3 hs3
  rw [show (Z.H ⟨z2.S, upd z2.H p (.lst xs'), z2.own⟩) = H' from eH] at key
  refine key ?_ hn2
  have na : ∀ {a : Addr} {o : Option Nat}, z1.own a = none → a ≠ p := fun {a o} e hq => by subst hq; rw [q3] at e; cases e
  cases r with
  | un => exact hv2
  | d x => exact hv2
  | raw w => exact hv2
  | lst ds => obtain ⟨a, xs, e, g1, g2, g3, g4, g5⟩ := hv2; exact ⟨a, xs, e, (upd_ne (na (o := none) g2)).trans g1, g2, g3, g4, g5⟩
  | bor ds => exact hn.elim
  | bK ds => exact hn.elim
  | bT ds => exact hn.elim
  | src a ds => exact hn.elim
  | dK ds => obtain ⟨a, xs, e, g1, g2, g3, g4, g5⟩ := hv2; exact ⟨a, xs, e, (upd_ne (na (o := none) g2)).trans g1, g2, g3, g4, g5⟩
  | dT ds => obtain ⟨a, xs, e, g1, g2, g3, g4, g5⟩ := hv2; exact ⟨a, xs, e, (upd_ne (na (o := none) g2)).trans g1, g2, g3, g4, g5⟩
  | sK ds => exact hv2
  | sT ds => exact hv2
  | sq ds => exact hv2
theorem wpe_callSW {F : Fx} {Γ : List Sl} {tA : TA} {k : Sl → List Sl → Prop} {c : ConS} {E : XK} {i : Nat} (hi : ∃ s0, Γ[i]? = some s0 ∧ s0.ownL.isSome = true) (h : WpA F tA Γ fun ss Γ' => ∃ b s0, ss = c.args b ∧ Γ'[i]? = some s0 ∧ s0.ownL = some (c.src b) ∧ (c.args b).all Sl.pass = true ∧ c.pre b ∧ ∀ r ds', c.post b r ds' → k r (Γ'.set i (s0.withL ds'))) : WpE F (tCall (spS F.K c) [] E (tCons (tVar i) tA)) Γ k := fun z σ Q hF hz hs q => by
  obtain ⟨s0, hi0, ho0⟩ := hi
  cases hd : s0.ownL with
  | none => rw [hd] at ho0; cases ho0
  | some ds =>
    obtain ⟨p, xs, h1, _⟩ := mut_own hz hs hi0 hd
    refine ⟨_, h1, h z σ _ hF hz hs fun vs ss Γ' z1 ⟨b, s1, es, hi1, ho1, hp, hpre, hk⟩ e1 hz1 hs1 hv => ?_⟩
    subst es
    show spS F.K c ((V.ref p :: vs) ++ []) z1.H Q E
    rw [List.append_nil]
    exact callS_core b hz1 hs1 hi1 ho1 h1 hv hp hpre hk fun v s Γ2 z2 hks e2 hz2 hs2 hv2 hn => q v s Γ2 z2 hks (e1.trans e2) hz2 hs2 hv2 (hn.back e1.dom)
end GL
/-! GLk: a dict written with one pair whose key is a tuple -/
namespace GL
open PySem PySem.Spec PyProof.Rows L2
section
variable {prog : Program} {w : World} {K : Type} [DecidableEq K] {knd : HeapKind prog w K} {A : Around} {E : Value → Shared → Prop} {s : Shared}
theorem dict_pairsH {env : Env} {keys : List (Option Expr)} {values : List Expr} {pos : Pos} {pairs : List (Sem Value × Sem Value)} {Q : Value → Shared → Prop} (hu : knd.room A)
    (hshape : (evalEachOpt keys env).zip ((evalEach values env).map fun v => do let x ← v; standAt pos; pure x) = pairs.map fun p => (some p.1, p.2)) (h0 : pairs ≠ []) (hlen : pairs.length ≤ 15)
    (h : wpAny (model prog w) A (evalPairs pairs) (fun vs s₁ => ∃ ps, CarriesH knd s₁.heap vs ps ∧ s₁.heap.DictOfH knd s.heap.objs.size [] ∧
      ∀ h' tk, h'.DictOfH knd s.heap.objs.size (storedAllH [] ps) → Heap.SameBut s.heap.objs.size s₁.heap h' → Q (.ref s.heap.objs.size) { s₁ with heap := h', toks := tk }) E
      { s with heap := s.heap.push { cls := .type "dict", data := .dict #[] } }) :
    wpAny (model prog w) A (eval (.Dict keys values pos) env) Q E s := by
  rw [arm_eval_Dict, hshape, dictDisplay_pairs pairs h0 (by omega)]
  exact wpAny_bind (wpAny_standAt (wpAny_bind (wpAny_subDictH (knd := knd) (Q := fun d s' => wpAny (model prog w) A (pure (Value.ref d)) Q E s') hu hlen
    (wpAny_mono h (fun vs s₁ h₁ => by obtain ⟨ps, hc, hm, hq⟩ := h₁; exact ⟨ps, hc, hm, fun h' tk a b => wpAny_pure (hq h' tk a b)⟩) fun _ _ e => e))))
end
/-- {k: v}, k a tuple -/
def tDisp1T (tk tv : TE) : TE := fun σ H Q => ∀ p, H p = none → tk σ (upd H p (.dT [])) fun x H1 => tv σ H1 fun y H2 => H2 p = some (.dT []) ∧ ∃ (b : Addr) (ks : List Key), x = .ref b ∧ H2 b = some (.tup (ks.map kV)) ∧ Q (.ref p) (upd H2 p (.dT [(ks, y)]))
theorem pe_disp1T {X : Cx} {pos : Pos} {k v : Expr} {tk tv : TE} (hu : X.A.units + 1 < cLine) (hk : PE X k tk) (hv : PE X v tv) : PE X (.Dict [some k] [v] pos) (tDisp1T tk tv) := by
  refine ⟨fun pins s σ H Q I q => ?_⟩
  have hn := I.hok.fresh (Nat.le_refl s.heap.objs.size)
  have I1 := I.laid (a := s.heap.objs.size) (o := .dT []) (h' := s.heap.push { cls := .type "dict", data := .dict #[] }) (t' := s.toks) (fun _ _ q => Heap.get?_push_of_some _ q) (Nat.le_refl _) (dt_empty s.heap I.big)
  refine dict_pairsH (knd := tupleKind (mixKind X.prog X.w)) (pairs := pairTrees [some k] [v] X.env pos) (show X.A.units < cLine by omega) (zip_pairTrees [some k] [v] X.env pos rfl rfl) (fun z => by cases z) (show 1 ≤ 15 by decide) ?_
  refine pairTrees_cons_walk (thn (hk.run pins _ σ _ _ I1 (q _ hn)) fun u s1 ⟨x, H1, J1, rx, q1⟩ => thn (hv.run pins s1 σ H1 _ J1 q1) fun w2 s2 ⟨y, H2, J2, ry, e, b, ks, ex, eb, q2⟩ => pairTrees_nil_walk ?_)
  subst ex
  cases (show u = Value.ref b from rx)
  obtain ⟨z, hd, xs, rel, dd⟩ := dt_of J2.hok e
  cases rel
  refine ⟨[(ks, b, w2)], ⟨rfl, rfl, key_of J2.hok eb, True.intro⟩, dd, fun h' tk dd' hs => ⟨.ref s.heap.objs.size, _, ?_, rfl, q2⟩⟩
  obtain ⟨q, es, ep, hq, h2, h3, h4, _, h5⟩ := dd'
  refine d_write J2 (by rw [e]; exact True.intro) hs ⟨q, hq⟩ ⟨by show 1 ≤ sizeLine; decide, hd, [(ks, b, w2)], .cons ⟨rfl, ?_, ry⟩ .nil, q, es, ep, hq, h2, h3, h4, h5⟩
  show upd H2 s.heap.objs.size (.dT [(ks, y)]) b = some (.tup (ks.map kV))
  rw [upd_ne (ne_of eb e (fun z => nomatch z))]
  exact eb
theorem names_lt {is : List Nat} {n : Nat} (h : (is.all fun i => Nat.ble (i + 1) n) = true) : ∀ i ∈ is, i < n := fun i hi => Nat.le_of_ble_eq_true (List.all_eq_true.mp h i hi)
section
variable {F : Fx} {ta tb : TE} {Γ : List Sl} {d : PyData} {ks : List Key}
theorem evs_disp1T (hk : EvS F ta Γ (.d (.tuple (ks.map kD)))) (hv : EvS F tb Γ (.d d)) : EvS F (tDisp1T ta tb) Γ (.dT [(ks, d)]) := fun z σ Q hz hs c p hp =>
  hk (z.tmp p (.dT [])) σ _ (hz.tmp hp) (hs.add (Add.tmp hp)) fun v z1 a1 hz1 hv1 _ => hv z1 σ _ hz1 ((hs.add (Add.tmp hp)).add a1) fun y z2 a2 hz2 hy _ => by
    have a12 := a1.trans a2
    have n := hz.free hp
    have hD := a12.h p (.dT []) upd_same
    obtain ⟨b, xs, rfl, hb⟩ : ∃ b xs, v = .ref b ∧ z1.S b = some (.tup xs) ∧ DtAll F.K z1.S xs (ks.map kD) := by
      cases hv1 with
      | tup h1 h2 => exact ⟨_, _, rfl, h1, h2⟩
    have eks := ks_kV hb.2
    subst eks
    have hb2 : z2.H b = some (.tup (ks.map kV)) := hz2.sub _ _ (a2.s _ _ hb.1)
    refine ⟨hD.1, b, ks, rfl, hb2, ?_⟩
    refine c _ ⟨z2.S, upd z2.H p (.dT [(ks, y)]), z2.own⟩ ⟨a12.s, fun a o e => ?_, a12.own⟩ ⟨fun a o e => ?_, fun a o e => ?_, hz2.s0, fun a i e => ?_, hz2.fresh⟩ ⟨p, [(ks, y)], rfl, upd_same, ?_, hD.2.trans n.1, n.2.1, .cons ⟨rfl, hy⟩ .nil⟩ ⟨p, rfl, hp⟩
    · have ne : a ≠ p := ne_of_none e hp
      have w := a12.h a o ((upd_ne ne).trans e)
      exact ⟨(upd_ne ne).trans w.1, w.2⟩
    · exact (upd_ne (fun q => by subst q; rw [show z2.S a = some o from e] at hD; rw [show (z.tmp a (.dT [])).S a = z.S a from rfl, n.1] at hD; exact nomatch hD.2)).trans (hz2.sub a o e)
    · exact (upd_ne (fun q => by subst q; rw [n.2.1] at e; cases e)).trans (hz2.base a o e)
    · obtain ⟨w1, w2, o, w3⟩ := hz2.own a i e
      refine ⟨w1, w2, o, (upd_ne (fun q => ?_)).trans w3⟩
      subst q
      have : z2.own a = z.own a := by rw [a12.own]; rfl
      rw [show z2.own a = some i from e, n.2.2] at this
      cases this
    · show z2.own p = none
      rw [a12.own]; exact n.2.2
end
end GL
/-! GLl: sorted(list of data), any length -/
namespace GL
open PySem PySem.Spec PyProof.Rows L2
def rSortedD (K : PySem.W.Frag) : List V → Hp → VK → Prop := fun vs H Q => ∃ (a : Addr) (xs : List V) (ds : List PyData), vs = [V.ref a] ∧ SqL K H a xs ∧ DpAll K H xs ds ∧ PySem.W.AllAlike ds ∧ PySem.W.Sortable ds ∧ ds.length ≤ sizeLine ∧ (∀ d ∈ ds, d.depth ≤ 50) ∧
  ∀ p, H p = none → Q (.ref p) (upd H p (.lst (((xs.zip ds).mergeSort (PySem.W.dataLe false Prod.snd)).map Prod.fst)))
theorem dpAll_len {K : PySem.W.Frag} {H : Hp} : ∀ {xs : List V} {ds : List PyData}, DpAll K H xs ds → xs.length = ds.length
  | _, _, .nil => rfl
  | _, _, .cons _ t => congrArg (· + 1) (dpAll_len t)
theorem zip_fst {α β : Type} : ∀ {xs : List α} {ds : List β}, xs.length = ds.length → (xs.zip ds).map Prod.fst = xs
  | [], [], _ => rfl
  | x :: xs, d :: ds, h => by rw [List.zip_cons_cons, List.map_cons, zip_fst (by simpa using h)]
theorem zip_snd {α β : Type} : ∀ {xs : List α} {ds : List β}, xs.length = ds.length → (xs.zip ds).map Prod.snd = ds
  | [], [], _ => rfl
  | x :: xs, d :: ds, h => by rw [List.zip_cons_cons, List.map_cons, zip_snd (by simpa using h)]
theorem each_rel {K : PySem.W.Frag} {H : Hp} : ∀ {xs : List V} {ds : List PyData} {its : List Value}, DpAll K H xs ds → Vals xs its → PySem.W.EachIs (fun (v : Value) (b : V × PyData) => RelV b.1 v) its (xs.zip ds)
  | _, _, _, .nil, .nil => .nil
  | _, _, _, .cons _ t, .cons r rr => .cons r (each_rel t rr)
theorem each_reads {X : Cx} {pins : List (Addr × Obj)} {σ : L2.St} {H : Hp} {s : Shared} (I : Inv X pins σ H s) : ∀ {xs : List V} {ds : List PyData} {its : List Value}, DpAll X.K H xs ds → Vals xs its → PySem.W.EachIs (fun (v : Value) (b : V × PyData) => ∃ as, Reads s.heap v b.2 as) its (xs.zip ds)
  | _, _, _, .nil, .nil => .nil
  | _, _, _, .cons h t, .cons r rr => .cons (Dp.reads I _ _ _ h r) (each_reads I t rr)
theorem rel_vals : ∀ {out : List Value} {bs : List (V × PyData)}, PySem.W.EachIs (fun (v : Value) (b : V × PyData) => RelV b.1 v) out bs → Vals (bs.map Prod.fst) out
  | _, _, .nil => .nil
  | _, _, .cons h t => .cons h (rel_vals t)
theorem cr_sortedD {X : Cx} (hu : X.A.units + 64 < cLine) : CallR X (.builtin "sorted") (rSortedD X.K) := by
  intro pins s σ H vs us Q I r h
  obtain ⟨a, xs, ds, rfl, hs, hd, h1, h2, h3, h4, q⟩ := h
  obtain ⟨its, rv, hl, hz⟩ := I.list hs
  obtain ⟨u, rfl, ru⟩ := vals1 r
  obtain rfl : u = Value.ref a := ru
  have hlen := dpAll_len hd
  have hmap := zip_snd hlen
  have hzl : (xs.zip ds).length = ds.length := by have := congrArg List.length hmap; rwa [List.length_map] at this
  refine PySem.W.sorted_data (β := V × PyData) (bs := xs.zip ds) (enc := Prod.snd) (R := fun v b => RelV b.1 v) hl.isList (each_rel hd rv) (each_reads I hd rv) (by rw [hmap]; exact h1) (by rw [hmap]; exact h2) (by rw [hzl]; exact h3) (fun b hb => ?_) fun out ho hR => ?_
  · have hb2 : b.2 ∈ ds := by rw [← hmap]; exact List.mem_map.mpr ⟨b, hb, rfl⟩
    have := h4 b.2 hb2
    omega
  · obtain ⟨ep, he'⟩ := PyProof.Rows.sortedAll_at s.heap its out.toArray
    refine ⟨.ref _, upd H (s.heap.objs.size + 1) (.lst (((xs.zip ds).mergeSort (PySem.W.dataLe false Prod.snd)).map Prod.fst)), I.laid (t' := s.toks) (fun _ _ => PyProof.Rows.sortedAll_old) (Nat.le_succ _) ⟨?_, out, ep, rel_vals hR, he'⟩, rfl, q _ (I.hok.fresh (Nat.le_succ _))⟩
    rw [List.length_map, List.length_mergeSort, hzl]; exact h3
/-- in the order of data -/
def sortD (ds : List PyData) : List PyData := ds.mergeSort (PySem.W.dataLe false id)
theorem dtAll_zip {K : PySem.W.Frag} {S : Hp} : ∀ {xs : List V} {ds : List PyData}, DtAll K S xs ds → ∀ b ∈ xs.zip ds, Dt K S b.1 b.2
  | _, _, .nil, b, hb => nomatch hb
  | _, _, .cons h t, b, hb => by
    rw [List.zip_cons_cons] at hb
    rcases List.mem_cons.mp hb with rfl | hb
    · exact h
    · exact dtAll_zip t b hb
theorem dtAll_of {K : PySem.W.Frag} {S : Hp} : ∀ {bs : List (V × PyData)}, (∀ b ∈ bs, Dt K S b.1 b.2) → DtAll K S (bs.map Prod.fst) (bs.map Prod.snd)
  | [], _ => .nil
  | b :: bs, h => .cons (h b (.head _)) (dtAll_of fun c hc => h c (.tail _ hc))
theorem sorted_data {F : Fx} {x : Sl} {ds : List PyData} (h : x.asL = some ds) (h1 : PySem.W.AllAlike ds) (h2 : PySem.W.Sortable ds) (h3 : ds.length ≤ sizeLine) (h4 : ∀ d ∈ ds, d.depth ≤ 50) : CallS F (rSortedD F.K) [x] (.lst (sortD ds)) := fun z vs Q hz ha c => by
  obtain ⟨v, rfl, hv⟩ := VAll.one ha
  obtain ⟨a, xs, rfl, g1, g2⟩ := hv.asL hz h
  refine ⟨a, xs, ds, rfl, SqL.of g1, g2.dp hz.sub, h1, h2, h3, h4, fun p hp => ?_⟩
  refine c _ (z.tmp p _) (Add.tmp hp) (hz.tmp hp) (VOk.tmp_lst hz hp ?_) ⟨p, rfl, hp⟩
  have e : ((xs.zip ds).mergeSort (PySem.W.dataLe false Prod.snd)).map Prod.snd = sortD ds := by
    rw [List.map_mergeSort (r := PySem.W.dataLe false (Prod.snd : V × PyData → PyData)) (f := Prod.snd) (s := PySem.W.dataLe false id) (fun a _ b _ => rfl), zip_snd g2.len]; rfl
  rw [← e]
  exact dtAll_of fun b hb => dtAll_zip g2 b (List.mem_mergeSort.mp hb)
/-- told by an order of our own -/
theorem sortD_eq {ds es : List PyData} (hp : es.Perm ds) (hs : es.Pairwise fun a b => PySem.W.dataLt b a = false) (hu : ∀ a ∈ ds, ∀ b ∈ ds, PySem.W.dataLt a b = false → PySem.W.dataLt b a = false → a = b) (ht : ∀ a b c : PyData, PySem.W.dataLt b a = false → PySem.W.dataLt c b = false → PySem.W.dataLt c a = false) (hl : ∀ a b : PyData, PySem.W.dataLt b a = false ∨ PySem.W.dataLt a b = false) : sortD ds = es := by
  have e : PySem.W.dataLe false (id : PyData → PyData) = fun a b => !PySem.W.dataLt b a := by rw [PySem.W.dataLe_eq]; rfl
  have s1 : (sortD ds).Pairwise fun a b => (PySem.W.dataLe false (id : PyData → PyData) a b) = true := by
    unfold sortD
    refine List.pairwise_mergeSort ?_ ?_ ds
    · intro a b c h1 h2
      rw [e] at h1 h2 ⊢
      simp only [Bool.not_eq_true'] at h1 h2 ⊢
      exact ht a b c h1 h2
    · intro a b
      rw [e]
      rcases hl a b with q | q <;> simp [q]
  have p1 : (sortD ds).Perm es := (List.mergeSort_perm ds _).trans hp.symm
  refine List.Perm.eq_of_pairwise (le := fun a b => PySem.W.dataLt b a = false) ?_ ?_ hs p1
  · intro a b ha hb q1 q2
    exact hu a (List.mem_mergeSort.mp ha) b (hp.mem_iff.mp hb) q2 q1
  · rw [e] at s1
    simpa using s1
/-! zip of two tuples, of two lists -/
def zipD (ds es : List PyData) : List PyData := (ds.zip es).map fun p => PyData.tuple [p.1, p.2]
theorem zipD_len {ds es : List PyData} : (zipD ds es).length = min ds.length es.length := by simp [zipD]
theorem zipD_get {ds es : List PyData} {i : Nat} {d : PyData} (h : (zipD ds es)[i]? = some d) : ∃ x y, ds[i]? = some x ∧ es[i]? = some y ∧ d = .tuple [x, y] := by
  unfold zipD at h
  rw [List.getElem?_map, Option.map_eq_some_iff] at h
  obtain ⟨p, hp, rfl⟩ := h
  rw [List.getElem?_zip_eq_some] at hp
  exact ⟨p.1, p.2, hp.1, hp.2, rfl⟩
section
variable {F : Fx} {ta : TA} {Γ : List Sl} {ds es : List PyData}
theorem yields_zipT {z : Z} {a b : Addr} {xs ys : List V} (h : z.S a = some (.tup xs)) (q : DtAll F.K z.S xs ds) (h' : z.S b = some (.tup ys)) (q' : DtAll F.K z.S ys es) : Yields F (RZ.ItzT F.K a b) z.S (zipD ds es) := fun z2 e hz2 i => by
  have h2 : SqT F.K z2.H a xs := SqT.of (hz2.sub _ _ (e _ _ h))
  have h3 : SqT F.K z2.H b ys := SqT.of (hz2.sub _ _ (e _ _ h'))
  refine ⟨fun d hd => ?_, fun hl => ⟨xs, ys, h2, h3, by rw [zipD_len] at hl; rw [q.len, q'.len]; omega⟩⟩
  obtain ⟨x0, y0, hx0, hy0, rfl⟩ := zipD_get hd
  obtain ⟨v, hv, dv⟩ := q.get hx0
  obtain ⟨u, hu, du⟩ := q'.get hy0
  refine ⟨⟨xs, ys, v, u, h2, h3, hv, hu⟩, fun x H' ⟨T, x1, y1, ex, nT, eH, y, y'⟩ => ⟨z2.sh T (.tup [x1, y1]), eH.symm, Add.sh hz2 nT, hz2.sh nT, ?_⟩⟩
  have e1 := (y xs h2).symm.trans hv
  have e2 := (y' ys h3).symm.trans hu
  cases e1
  cases e2
  subst ex
  exact VOk.sh_tup hz2 nT (.cons (dv.mono e) (.cons (du.mono e) .nil))
theorem yields_zipL {z : Z} {a b : Addr} {xs ys : List V} (h : z.S a = some (.lst xs)) (q : DtAll F.K z.S xs ds) (h' : z.S b = some (.lst ys)) (q' : DtAll F.K z.S ys es) : Yields F (Itz F.K a b) z.S (zipD ds es) := fun z2 e hz2 i => by
  have h2 : SqL F.K z2.H a xs := SqL.of (hz2.sub _ _ (e _ _ h))
  have h3 : SqL F.K z2.H b ys := SqL.of (hz2.sub _ _ (e _ _ h'))
  refine ⟨fun d hd => ?_, fun hl => ⟨xs, ys, h2, h3, by rw [zipD_len] at hl; rw [q.len, q'.len]; omega⟩⟩
  obtain ⟨x0, y0, hx0, hy0, rfl⟩ := zipD_get hd
  obtain ⟨v, hv, dv⟩ := q.get hx0
  obtain ⟨u, hu, du⟩ := q'.get hy0
  refine ⟨⟨xs, ys, v, u, h2, h3, hv, hu⟩, fun x H' ⟨T, x1, y1, ex, nT, eH, y, y'⟩ => ⟨z2.sh T (.tup [x1, y1]), eH.symm, Add.sh hz2 nT, hz2.sh nT, ?_⟩⟩
  have e1 := (y xs h2).symm.trans hv
  have e2 := (y' ys h3).symm.trans hu
  cases e1
  cases e2
  subst ex
  exact VOk.sh_tup hz2 nT (.cons (dv.mono e) (.cons (du.mono e) .nil))
theorem VAll.two' {z : Z} {vs : List V} {x y : Sl} (h : VAll F z vs [x, y]) : ∃ v w, vs = [v, w] ∧ VOk F z none v x ∧ VOk F z none w y := VAll.two h
theorem evi_zipT (h : EvA F ta Γ [.d (.tuple ds), .d (.tuple es)]) : EvI F (RZ.iZipA F.K ta) Γ (zipD ds es) := fun z σ R hz hs c =>
  h z σ _ hz hs fun vs z' a hz' hv => by
    obtain ⟨v, w, rfl, h1, h2⟩ := VAll.two hv
    cases h1 with
    | tup g1 g2 => cases h2 with
      | tup g3 g4 => exact ⟨_, _, _, _, rfl, .inr ⟨SqT.of (hz'.sub _ _ g1), SqT.of (hz'.sub _ _ g3), c _ _ a hz' (yields_zipT g1 g2 g3 g4)⟩⟩
theorem evi_zipL (h : EvA F ta Γ [.d (.list ds), .d (.list es)]) : EvI F (RZ.iZipA F.K ta) Γ (zipD ds es) := fun z σ R hz hs c =>
  h z σ _ hz hs fun vs z' a hz' hv => by
    obtain ⟨v, w, rfl, h1, h2⟩ := VAll.two hv
    cases h1 with
    | lst g1 g2 => cases h2 with
      | lst g3 g4 => exact ⟨_, _, _, _, rfl, .inl ⟨SqL.of (hz'.sub _ _ g1), SqL.of (hz'.sub _ _ g3), c _ _ a hz' (yields_zipL g1 g2 g3 g4)⟩⟩
/-! xs.count(k) -/
theorem evs_lcount {te tb : TE} {x : Sl} {ns : List Int} {k : Int} (h : EvS F te Γ x) (hx : x.asL = some (ns.map PyData.int)) (h2 : EvS F tb Γ (.d (.int k))) : EvS F (tBM F.K "list" (rCntI F.K) te (tCons tb tNil)) Γ (.d (.int (ns.count k : Nat))) := fun z σ Q hz hs c =>
  h z σ _ hz hs fun v z1 a1 hz1 hv _ => by
    obtain ⟨a, xs, rfl, g1, g2⟩ := hv.asL hz1 hx
    refine ⟨.inl ⟨rfl, xs, SqL.of g1⟩, h2 z1 σ _ hz1 (hs.add a1) fun w z2 a2 hz2 hw _ => ?_⟩
    obtain ⟨a', xs', e, g3, g4⟩ := (hv.add a2).asL hz2 hx
    cases e
    have e4 := g4.ints
    subst e4
    exact ⟨a, ns, k, rfl, by rw [hw.d_int], SqL.of g3, c _ z2 (a1.trans a2) hz2 (.int _) trivial⟩
end
theorem EvI.is {F : Fx} {wi : TI} {Γ : List Sl} {ds es : List PyData} (h : EvI F wi Γ ds) (e : ds = es) : EvI F wi Γ es := e ▸ h
theorem piZipK {X : Cx} {tg e : Expr} {ta : TA} (K : PySem.W.Frag) (h : PI X tg e (RZ.iZipA X.K ta)) (q : X.K = K := by rfl) : PI X tg e (RZ.iZipA K ta) := by subst q; exact h
theorem bmK {X : Cx} {e : Expr} {T : String} {to : TE} {t : TA} (r : PySem.W.Frag → V → List V → Hp → VK → Prop) (K : PySem.W.Frag) (h : PE X e (tBM X.K T (r X.K) to t)) (q : X.K = K := by rfl) : PE X e (tBM K T (r K) to t) := by subst q; exact h
theorem bmMK {X : Cx} {e : Expr} {T : String} {to : TE} {t : TA} (r : V → List V → Hp → VK → Prop) (K : PySem.W.Frag) (h : PE X e (tBM X.K T r to t)) (q : X.K = K := by rfl) : PE X e (tBM K T r to t) := by subst q; exact h
end GL
/-! GLn: sorted(set(a list of truth values)) -/
namespace GL
open PySem PySem.Spec PyProof.Rows L2 PpSet
section
variable {P : Program} {w : World} {A : Around} {E : Value → Shared → Prop} {s : Shared}
theorem setJ_bool {a : Addr} {items : List Value} {ns : List Bool} (r : Vals (ns.map V.bl) items) (hb : ns.length + 1 < scanBound) (A : Around) :
    SetJ P w A items.toArray a fun i h => SetB w h a (fun k => hasL (uniq (ns.take i)) k) (uniq (ns.take i)).length where
  keep := fun i h h' j k => SetB.at j k
  add := fun i v s Q E hv j c => by
    obtain ⟨k, hk, rv⟩ := vals_at r (by simpa using hv)
    have ev : v = .bool k := rv
    subst ev
    unfold setAdd
    apply wpAny_holding
    apply wpAny_bind
    apply (boolK P w).pyHash (boolK_is P w k)
    have l1 := uniq_le (ns.take i)
    have l2 : (ns.take i).length ≤ ns.length := by rw [List.length_take]; omega
    refine setB_add_hashed (P := P) (s := { s with toks := s.toks + 1 }) j (by omega) fun h' sb new => ?_
    refine c _ h' (s.toks + 1) sb (Nat.le_succ _) ?_
    rw [uniq_at hk, uStep_len]
    have e : (fun k' => hasL (uniq (ns.take i)) k' || decide (k' = k)) = fun k' => hasL (uStep (uniq (ns.take i)) k) k' := funext fun k' => by
      rw [Bool.eq_iff_iff, Bool.or_eq_true, decide_eq_true_eq, hasL_iff, hasL_iff, uStep_mem]
    rw [e] at new
    exact new
theorem setB_new_at {h : Heap} {a : Addr} (ho : h.get? a = some { cls := .type "set", dict := none, data := .set #[] 0 (.fresh 0 0 (!w.params.followText "set-order")) }) : SetB w h a (fun _ => false) 0 :=
  ⟨_, #[], 0, _, ho, ⟨rfl, rfl, rfl⟩, rfl, (fun e he => by simp at he), (by simp), (fun k => by simp), (by decide), (by rfl), rfl, List.Pairwise.nil, by
    cases h : w.params.followText "set-order"
    · right; rfl
    · left; rfl⟩
theorem goodB_vals {es : List (Int × Value)} (g : ∀ e ∈ es, GoodB e) : es.map (·.2) = (es.map keyB).map Value.bool := by
  induction es with
  | nil => rfl
  | cons e es ih =>
    obtain ⟨k, h1, h2⟩ := g e (by simp)
    rw [List.map_cons, List.map_cons, List.map_cons, ih fun x hx => g x (by simp [hx])]
    unfold keyB
    rw [h1]
theorem each_bools {h : Heap} (R : Value → Bool → Prop) (hR : ∀ b, R (.bool b) b) : ∀ bs : List Bool, PySem.W.EachIs R (bs.map Value.bool) bs
  | [] => .nil
  | b :: bs => .cons (hR b) (each_bools (h := h) R hR bs)
theorem of_each_bools : ∀ {out : List Value} {bs : List Bool}, PySem.W.EachIs (fun (v : Value) (b : Bool) => v = .bool b) out bs → out = bs.map Value.bool
  | _, _, .nil => rfl
  | _, _, .cons h t => by rw [h, of_each_bools t]; rfl
theorem dataLe_bool : PySem.W.dataLe false (fun b : Bool => PyData.bool b) = fun a b => !a || b := by
  rw [PySem.W.dataLe_eq]
  funext a b
  show (!PySem.W.dataLt (.bool b) (.bool a)) = _
  rw [PySem.W.dataLt_bool]
  cases a <;> cases b <;> rfl
/-- the truth values that are there, in order -/
def boolsOf (S : Bool → Bool) : List Bool := [false, true].filter S
theorem boolsOf_eq {S : Bool → Bool} {bs : List Bool} (hn : bs.Nodup) (hm : ∀ k, S k = true ↔ k ∈ bs) : bs.mergeSort (fun a b => !a || b) = boolsOf S := by
  refine List.Perm.eq_of_pairwise (le := fun a b : Bool => (!a || b) = true) (fun a b _ _ h1 h2 => by revert h1 h2; cases a <;> cases b <;> decide) ?_ ?_ ?_
  · exact List.pairwise_mergeSort (fun a b c => by cases a <;> cases b <;> cases c <;> decide) (fun a b => by cases a <;> cases b <;> decide) bs
  · unfold boolsOf
    exact List.Pairwise.filter _ (by decide)
  · refine (List.mergeSort_perm bs _).trans ?_
    refine (List.perm_ext_iff_of_nodup hn (List.Nodup.sublist List.filter_sublist (by decide))).mpr fun k => ?_
    rw [List.mem_filter, ← hm k]
    cases k <;> simp
theorem sorted_setB {a : Addr} {S : Bool → Bool} {n : Nat} {Q : Value → Shared → Prop} (R : SetB w s.heap a S n) (hh : A.handled = none) (hu : A.units + 64 < cLine)
    (hQ : ∀ s' p (c : Nat), (∀ b o, s.heap.get? b = some o → s'.heap.get? b = some o) → s'.gens = s.gens → s'.os = s.os → s.heap.objs.size ≤ p →
      s'.heap.get? p = some (seqObj "list" (((boolsOf S).map Value.bool).toArray) c) → Q (.ref p) s') :
    wpAny (model P w) A (call (.builtin "sorted") [.ref a]) Q E s := by
  obtain ⟨o, es, ep, t, ho, hex, hd, g, nd, hm, hb, hf, hn, hr, hl⟩ := R
  refine Calls.call_function_entry kind_sorted plain_sorted entry_sorted (args_sorted1 _) ?_
  unfold Builtin.«sorted»
  refine wpAny_bind (m := checkCount "sorted" 1 1 _) (wpAny_pure ?_)
  refine wpAny_bind (collect_set (A := A.in1) hh ⟨o, ho, hex.1, hd⟩ hf hb hr hl fun s1 vs k1 hz g1 o1 pm => ?_)
  rw [goodB_vals g] at pm
  -- the values are truth values
  have ord : ∃ bs : List Bool, vs = bs.map Value.bool ∧ bs.Perm (es.toList.map keyB) := by
    have h1 : ∀ vs : List Value, (∀ v ∈ vs, ∃ b : Bool, v = .bool b) → ∃ bs : List Bool, vs = bs.map Value.bool := by
      intro vs
      induction vs with
      | nil => intro _; exact ⟨[], rfl⟩
      | cons v vs ih =>
        intro hv
        obtain ⟨b, e⟩ := hv v (by simp)
        obtain ⟨bs, e2⟩ := ih fun u hu => hv u (by simp [hu])
        exact ⟨b :: bs, by rw [e, e2]; rfl⟩
    obtain ⟨bs, rfl⟩ := h1 vs fun v hv => by
      obtain ⟨b, _, e⟩ := List.mem_map.mp (pm.mem_iff.mp hv)
      exact ⟨b, e.symm⟩
    refine ⟨bs, rfl, ?_⟩
    have := pm.map fun v : Value => match v with | .bool b => b | _ => false
    rw [List.map_map, List.map_map] at this
    have e : ((fun v : Value => match v with | .bool b => b | _ => false) ∘ Value.bool) = id := rfl
    rw [e, List.map_id, List.map_id] at this
    exact this
  obtain ⟨bs, rfl, pb⟩ := ord
  have hnd : bs.Nodup := pb.nodup_iff.mpr nd
  have hmm : ∀ k, S k = true ↔ k ∈ bs := fun k => (hm k).trans pb.mem_iff.symm
  have hbl : bs.length ≤ 1000000 := by
    have h2 : bs.length = es.size := by rw [pb.length_eq, List.length_map, Array.length_toList]
    have : es.size < scanBound := hb
    have h3 : scanBound ≤ 1000000 := by decide
    omega
  refine wpAny_bind (wpAny_newList ?_ (by rw [List.length_map, sizeLine_eq]; omega))
  have hoL : (s1.heap.push (seqObj "list" (bs.map Value.bool).toArray 0)).get? s1.heap.objs.size = some (seqObj "list" (bs.map Value.bool).toArray 0) := Heap.get?_push_size _ rfl
  refine wpAny_bind (wpAny_holding (PySem.W.list_sort_data (s := { s1 with heap := s1.heap.push (seqObj "list" (bs.map Value.bool).toArray 0) }) (bs := bs) (enc := fun b : Bool => PyData.bool b) (R := fun v b => v = .bool b) hoL (each_bools (h := s1.heap) _ (fun _ => rfl) bs) (each_bools (h := s1.heap) _ (fun b => ⟨[], .bool b, by simp⟩) bs) (PySem.W.AllAlike.of fun a b => by simp [PySem.W.alike]) (PySem.W.Sortable.others fun b => ⟨by simp, by simp⟩) (by rw [sizeLine_eq]; omega) (fun b _ => ?_) fun out h1 h2 => ?_))
  · show A.in1.units + 1 + (PyData.bool b).depth < cLine
    rw [PyData.depth]
    have : A.in1.units ≤ A.units + 1 := Nat.le_refl _
    omega
  · rw [dataLe_bool, boolsOf_eq hnd hmm] at h2
    have eo := of_each_bools h2
    subst eo
    obtain ⟨c, hc⟩ := sortedHeap_at (vs := bs.map Value.bool) (out := ((boolsOf S).map Value.bool).toArray) hoL
    refine wpAny_pure ⟨_, rfl, hQ _ s1.heap.objs.size c (fun b u e => ?_) g1 o1 hz hc⟩
    have q := k1 b u e
    have hlt := Heap.lt_size q
    show (sortedHeap (s1.heap.push (seqObj "list" (bs.map Value.bool).toArray 0)) s1.heap.objs.size (bs.map Value.bool) ((boolsOf S).map Value.bool).toArray).get? b = some u
    rw [sortedHeap_old (Nat.ne_of_lt hlt) (by rw [size_push']; exact Nat.lt_succ_of_lt hlt)]
    exact Heap.get?_push_of_some _ q
end
section
variable {X : Cx}
def rSetBs (K : PySem.W.Frag) (w : World) : List V → Hp → VK → Prop := fun xs H Q => ∃ (l : Addr) (ns : List Bool), xs = [.ref l] ∧ SqL K H l (ns.map V.bl) ∧ ns.length ≤ 1000 ∧ ∀ p, H p = none → Q (.ref p) (upd H p (SetBO w p (fun k => hasL (uniq ns) k) (uniq ns).length))
theorem cr_setBs (hc : X.calm = true) : CallR X (.type "set") (rSetBs X.K X.w) := by
  intro pins s σ H xs us Q I r h
  obtain ⟨l, ns, rfl, hq, hb, q⟩ := h
  rw [Vals.ref1 r]
  obtain ⟨its, rv, pl, hz⟩ := I.list hq
  have hsz : its.toArray.size = ns.length := by rw [List.size_toArray, ← rv.length, List.length_map]
  refine set_of_list (I.ok.hd hc) pl.isList (J := fun i h => SetB X.w h s.heap.objs.size (fun k => hasL (uniq (ns.take i)) k) (uniq (ns.take i)).length) (setJ_bool (P := X.prog) rv (Nat.lt_of_le_of_lt (Nat.add_le_add_right hb 1) (by decide))) (fun h hn => by rw [List.take_zero]; exact setB_new_at hn) fun h' tk j k => ?_
  rw [hsz, List.take_length] at j
  have I2 : Inv X pins σ (upd H s.heap.objs.size (SetBO X.w s.heap.objs.size (fun k => hasL (uniq ns) k) (uniq ns).length)) { s with heap := h', toks := tk } := I.laid k (Nat.le_refl _) (setBO_new j)
  exact ⟨.ref _, _, I2, rfl, q _ (I.hok.fresh (Nat.le_refl _))⟩
def rSortedSetB (w : World) : List V → Hp → VK → Prop := fun vs H Q => ∃ (a : Addr) (S : Bool → Bool) (n : Nat), vs = [V.ref a] ∧ H a = some (SetBO w a S n) ∧ ∀ p : Addr, H p = none → Q (.ref p) (upd H p (.lst ((boolsOf S).map V.bl)))
theorem vals_bools : ∀ bs : List Bool, Vals (bs.map V.bl) (bs.map Value.bool)
  | [] => .nil
  | b :: bs => .cons rfl (vals_bools bs)
theorem cr_sortedSetB (hc : X.calm = true) (hu : X.A.units + 64 < cLine) : CallR X (.builtin "sorted") (rSortedSetB X.w) := by
  intro pins s σ H vs us Q I r h
  obtain ⟨a, S, n, rfl, ha, q⟩ := h
  have R := setBO_get I ha
  rw [Vals.ref1 r]
  refine sorted_setB R (I.ok.hd hc) hu fun s' p c k g o hp hg => ?_
  have hlen : ((boolsOf S).map V.bl).length ≤ sizeLine := by
    rw [List.length_map]
    unfold boolsOf
    exact Nat.le_trans (List.length_filter_le _ _) (by decide)
  have hn : H p = none := I.hok.fresh hp
  have J : Inv X pins σ (upd H p (.lst ((boolsOf S).map V.bl))) { s with heap := s'.heap, gens := s'.gens, drawn := s'.drawn, toks := s'.toks } :=
    I.call (ch := []) (Un.laid k hp hn) (I.hok.laid k hp ⟨hlen, (boolsOf S).map Value.bool, c, vals_bools _, hg⟩) (by rw [g]; exact I.bare) (fun _ z => nomatch z)
  have e : s' = { s with heap := s'.heap, gens := s'.gens, drawn := s'.drawn, toks := s'.toks } := by
    cases s'
    cases s
    cases o
    rfl
  rw [e]
  exact ⟨.ref p, _, J, rfl, q p hn⟩
end
theorem dt_bls {K : PySem.W.Frag} {S : Hp} : ∀ ns : List Bool, DtAll K S (ns.map V.bl) (ns.map PyData.bool)
  | [] => .nil
  | n :: ns => .cons (.bl n) (dt_bls ns)
theorem evs_sortSetB {F : Fx} {w : World} {te : TE} {Γ : List Sl} {x : Sl} {bs : List Bool} (h : EvS F te Γ x) (hx : x.asL = some (bs.map PyData.bool)) (hl : bs.length ≤ 1000) : EvS F (tCB (rSortedSetB w) (tCons (tCB (rSetBs F.K w) (tCons te tNil)) tNil)) Γ (.lst ((boolsOf fun k => hasL (uniq bs) k).map PyData.bool)) := fun z σ Q hz hs c =>
  h z σ _ hz hs fun v z1 a1 hz1 hv _ => by
    obtain ⟨a, xs, rfl, g1, g2⟩ := hv.asL hz1 hx
    have eb := g2.bls
    subst eb
    refine ⟨a, bs, rfl, SqL.of g1, hl, fun p hp => ?_⟩
    refine ⟨p, _, _, rfl, upd_same, fun p2 hp2 => ?_⟩
    have hz2 : ZOk F (z1.tmp p (SetBO w p (fun k => hasL (uniq bs) k) (uniq bs).length)) := hz1.tmp hp
    have a2 : Add z1 (z1.tmp p (SetBO w p (fun k => hasL (uniq bs) k) (uniq bs).length)) := Add.tmp hp
    refine c _ ((z1.tmp p (SetBO w p (fun k => hasL (uniq bs) k) (uniq bs).length)).tmp p2 (.lst ((boolsOf fun k => hasL (uniq bs) k).map V.bl))) (a1.trans (a2.trans (Add.tmp hp2))) (hz2.tmp hp2) (VOk.tmp_lst hz2 hp2 (dt_bls _)) ⟨p2, rfl, ?_⟩
    exact a1.dom p2 (a2.dom p2 hp2)
end GL
/-! GLo: what runs while an exception is handled: a comprehension over zip of lists, a def whose argument is the handled exception. -/
namespace GL
open PySem PySem.Spec PyProof.Rows L2 HotX

/-! ### an iterator's end while an exception is handled -/
theorem hot_same {A : Around} {x1 : Addr} {h h' : Heap} (c : HotAt A x1 h) (e : h'.get? x1 = h.get? x1) : HotAt A x1 h' := by
  obtain ⟨hh, o, vs, p, q, r⟩ := c
  exact ⟨hh, o, vs, e.trans p, q, r⟩
theorem hot_apart {A : Around} {x1 it : Addr} {h : Heap} {o : Obj} {vs : Array Value} (c : HotAt A x1 h) (e : h.get? it = some o) (d : o.data = .fields vs) (n : vs[2]? ≠ some .none) : x1 ≠ it := by
  rintro rfl
  obtain ⟨_, o', vs', p, q, r⟩ := c
  rw [e] at p
  cases p
  rw [d] at q
  cases q
  exact n r
section
variable {prog : Program} {w : World} {A : Around} {E : Value → Shared → Prop} {s : Shared}
theorem listEnd_hot {it l x1 : Addr} {i : Nat} {items : Array Value} {Q : Value → Shared → Prop} (hot : HotAt A x1 s.heap) (hit : s.heap.IsListIter it l i) (hl : s.heap.IsList l items) (hx : items[i]? = none)
    (hE : ∀ h' e, Heap.ExtBut it s.heap h' → h'.get? x1 = s.heap.get? x1 → (∃ o, h'.get? e = some o ∧ o.cls = .type "StopIteration") → E (.ref e) { s with heap := h' }) :
    wpAny (model prog w) A (Builtin.SmallTypes.nextOf (.ref it)) Q E s := by
  obtain ⟨oi, gi, ci, di⟩ := id hit
  obtain ⟨ow, gw, _, nw, dw⟩ := hl
  have ne : x1 ≠ it := hot_apart hot gi di (by simp)
  unfold Builtin.SmallTypes.nextOf
  refine wpAny_bind (wpAny_callSpecial?_slot (name := Str.ofString "__next__") hit.typeIs slot_listiter_next (wpAny_call_entry slot_listiter_next hit.typeIs entry_listiter_next ?_ (args_listiter_next _)))
  show wpAny (model prog w) _ (field (.ref it) 0 >>= _) _ _ s
  refine wpAny_bind (wpAny_field gi di (x := .ref l) rfl ?_)
  show wpAny (model prog w) _ (if (Value.ref l == Value.none) = true then _ else _) _ _ s
  rw [if_neg (show ¬ (Value.ref l == Value.none) = true from Bool.false_ne_true)]
  show wpAny (model prog w) _ (field (.ref it) 1 >>= _) _ _ s
  refine wpAny_bind (wpAny_field gi di (x := .int i 0) rfl ?_)
  show wpAny (model prog w) _ (seqItems? (.ref l) >>= _) _ _ s
  refine wpAny_bind (wpAny_seqItems gw dw ?_)
  simp only [hx, Int.toNat_natCast]
  refine wpAny_bind (wpAny_rule (wpAny_bind (wpAny_setField gi di (by simp) ?_)))
  show wpAny (model prog w) _ (newExc (.type "StopIteration") [] >>= _) _ _ _
  refine wpAny_bind (m := newExc _ _) ?_
  simp only [newTuple, newExc]
  refine wpAny_bind (m := newObj _ _) (wpAny_newObj_type ?_ (by size_fits))
  refine wpAny_bind (m := firstArgMember _ _) (wpAny_of_eq (by first | rfl | (simp only [firstArgMember]; rfl)) (a := Value.none) ?_)
  refine wpAny_newObj_type (A := A.in1) ?_ (by size_fits)
  have up : ∀ b o, b ≠ it → s.heap.get? b = some o → (s.heap.update it (Obj.mapFields (·.setIfInBounds 0 .none))).get? b = some o := fun b o nb e => by
    rw [Heap.get?_update_other _ _ (Ne.symm nb)]; exact e
  obtain ⟨hh, o1, v1, g1, d1, c1⟩ := hot
  refine raiseNew_hot (x1 := x1) ⟨hh, o1, v1, Heap.get?_push_of_some _ (Heap.get?_push_of_some _ (up _ _ ne g1)), d1, c1⟩ (Nat.ne_of_lt (Heap.lt_size (Heap.get?_push_of_some _ (up _ _ ne g1)))) (Heap.get?_push_size _ rfl) rfl (by first | (simp; done) | (simp; omega) | (simp only [Array.size_append]; simp; omega)) ?_
  have far : ∀ b o, b ≠ it → s.heap.get? b = some o → _ := fun b o nb e => Heap.get?_push_of_some { cls := .type "tuple", data := .seq ([] : List Value).toArray } (up b o nb e)
  refine hE _ _ (fun b o nb e => ?_) ?_ ⟨_, Heap.get?_update_self _ (Heap.get?_push_size _ rfl) rfl, rfl⟩
  · rw [Heap.get?_update_other _ _ (Nat.ne_of_gt (Heap.lt_size (Heap.get?_push_of_some _ (up b o nb e))))]
    exact Heap.get?_push_of_some _ (Heap.get?_push_of_some _ (up b o nb e))
  · rw [g1, Heap.get?_update_other _ _ (Nat.ne_of_gt (Heap.lt_size (Heap.get?_push_of_some _ (up _ _ ne g1))))]
    exact Heap.get?_push_of_some _ (Heap.get?_push_of_some _ (up _ _ ne g1))
theorem zipEnd_hot {z TI TO i1 i2 l1 l2 x1 : Addr} {k1 : Nat} {xs : Array Value} {a b : Value} {Q : Option Value → Shared → Prop} (hot : HotAt A x1 s.heap) (D : ZipApart z TI TO i1 i2 l1 l2)
    (hz : IsZip s.heap z TI TO .none) (tI : IsPair s.heap TI (.ref i1) (.ref i2)) (tO : IsPair s.heap TO a b) (h1 : s.heap.IsListIter i1 l1 k1) (hl1 : s.heap.IsList l1 xs) (hend : xs[k1]? = none)
    (hQ : ∀ h', (∀ c o, c ≠ z → c ≠ i1 → s.heap.get? c = some o → h'.get? c = some o) → Q none { s with heap := h' }) : wpAny (model prog w) A (pyNext (.ref z)) Q E s := by
  have ty : s.TypeIs (.ref z) "zip" := ⟨_, hz, rfl⟩
  have nez : x1 ≠ z := hot_apart hot hz rfl (by simp)
  unfold pyNext
  refine wpAny_bind (wpAny_attempt (wpAny_callSpecial?_slot (name := Str.ofString "__next__") ty F.slot_zip_next (wpAny_call_entry F.slot_zip_next ty F.entry_zip_next ?_ (F.args_zip_next_1 _))))
  show wpAny (model prog w) _ (field (.ref z) 2 >>= _) _ _ s
  refine wpAny_bind (wpAny_field (x := .bool false) hz rfl rfl ?_)
  show wpAny (model prog w) _ (field (.ref z) 3 >>= _) _ _ s
  refine wpAny_bind (wpAny_field (x := .ref TI) hz rfl rfl ?_)
  refine wpAny_bind (m := seqItems? _) (wpAny_seqItems tI rfl ?_)
  show wpAny (model prog w) _ (Builtin.SmallTypes.ownedTupleIsFree (.ref z) >>= _) _ _ s
  refine wpAny_bind (m := Builtin.SmallTypes.ownedTupleIsFree _) ?_
  unfold Builtin.SmallTypes.ownedTupleIsFree
  refine wpAny_bind (wpAny_field (x := .none) hz rfl rfl (wpAny_pure ?_))
  simp only [if_true]
  refine wpAny_bind (wpAny_rule ?_)
  refine wpAny_bind (wpAny_field (x := .ref TO) hz rfl rfl ?_)
  refine wpAny_bind (wpAny_setField_rec hz (by simp) fun g1 zz1 sb1 => ?_)
  replace zz1 : IsZip g1 z TI TO .ellipsis := zz1
  refine wpAny_bind ?_
  simp only [List.zipIdx_cons, List.zipIdx_nil, List.forIn_cons, List.forIn_nil]
  refine wpAny_bind (wpAny_bind (wpAny_onRaise ?_))
  show wpAny (model prog w) _ (Builtin.SmallTypes.nextOf (.ref i1) >>= _) _ _ _
  have hot1 : HotAt A.in1 x1 g1 := hot_same (A := A.in1) ⟨hot.1, hot.2⟩ (sb1.2 x1 nez)
  refine wpAny_bind (listEnd_hot hot1 (h1.extBut sb1.extBut D.i1z) (hl1.extBut sb1.extBut D.l1z) hend fun g2 e sb2 _ he => ?_)
  obtain ⟨oe, ge, ce⟩ := he
  have zz2 : IsZip g2 z TI TO .ellipsis := sb2 _ _ D.i1z.symm zz1
  have ez : e ≠ z := fun q => by
    subst q
    rw [zz2] at ge
    cases ge
    simp at ce
  refine wpAny_setField_rec zz2 (by simp) fun g3 _ sb3 => ?_
  refine wpAny_bind (wpAny_isInstance (T := "StopIteration") (b := true) ⟨oe, sb3.extBut _ _ ez ge, ce⟩ isSubtype_stop ?_)
  exact wpAny_pure (hQ g3 fun c o n1 n2 q => sb3.extBut _ _ n1 (sb2 _ _ n2 (sb1.extBut _ _ n1 q)))
theorem tupEnd_hot {it t x1 : Addr} {i : Nat} {items : Array Value} {Q : Option Value → Shared → Prop} (hot : HotAt A x1 s.heap) (hit : IsTupIter s.heap it t i) (ht : IsTup s.heap t items) (hx : items[i]? = none)
    (hQ : ∀ h', Heap.ExtBut it s.heap h' → Q none { s with heap := h' }) : wpAny (model prog w) A (pyNext (.ref it)) Q E s := by
  obtain ⟨oi, gi, ci, di⟩ := id hit
  obtain ⟨ow, gw, _, nw, dw⟩ := ht
  have ne : x1 ≠ it := hot_apart hot gi di (by simp)
  unfold pyNext
  refine wpAny_bind (wpAny_attempt (wpAny_callSpecial?_slot (name := Str.ofString "__next__") hit.typeIs slot_tupleiter_next (wpAny_call_entry slot_tupleiter_next hit.typeIs entry_tupleiter_next ?_ (args_tupleiter_next _))))
  show wpAny (model prog w) _ (field (.ref it) 0 >>= _) _ _ s
  refine wpAny_bind (wpAny_field gi di (x := .ref t) rfl ?_)
  show wpAny (model prog w) _ (if (Value.ref t == Value.none) = true then _ else _) _ _ s
  rw [if_neg (show ¬ (Value.ref t == Value.none) = true from Bool.false_ne_true)]
  show wpAny (model prog w) _ (field (.ref it) 1 >>= _) _ _ s
  refine wpAny_bind (wpAny_field gi di (x := .int i 0) rfl ?_)
  show wpAny (model prog w) _ (seqItems? (.ref t) >>= _) _ _ s
  refine wpAny_bind (wpAny_seqItems gw dw ?_)
  simp only [hx, Int.toNat_natCast]
  refine wpAny_bind (wpAny_rule (wpAny_bind (wpAny_setField gi di (by simp) ?_)))
  show wpAny (model prog w) _ (newExc (.type "StopIteration") [] >>= _) _ _ _
  refine wpAny_bind (m := newExc _ _) ?_
  simp only [newTuple, newExc]
  refine wpAny_bind (m := newObj _ _) (wpAny_newObj_type ?_ (by size_fits))
  refine wpAny_bind (m := firstArgMember _ _) (wpAny_of_eq (by first | rfl | (simp only [firstArgMember]; rfl)) (a := Value.none) ?_)
  refine wpAny_newObj_type (A := A.in1) ?_ (by size_fits)
  have up : ∀ b o, b ≠ it → s.heap.get? b = some o → (s.heap.update it (Obj.mapFields (·.setIfInBounds 0 .none))).get? b = some o := fun b o nb e => by
    rw [Heap.get?_update_other _ _ (Ne.symm nb)]; exact e
  obtain ⟨hh, o1, v1, g1, d1, c1⟩ := hot
  refine raiseNew_hot (x1 := x1) ⟨hh, o1, v1, Heap.get?_push_of_some _ (Heap.get?_push_of_some _ (up _ _ ne g1)), d1, c1⟩ (Nat.ne_of_lt (Heap.lt_size (Heap.get?_push_of_some _ (up _ _ ne g1)))) (Heap.get?_push_size _ rfl) rfl (by first | (simp; done) | (simp; omega) | (simp only [Array.size_append]; simp; omega)) ?_
  refine wpAny_bind (m := isInstance _ _) (wpAny_isInstance (T := "StopIteration") (b := true) ⟨_, Heap.get?_update_self _ (Heap.get?_push_size _ rfl) rfl, rfl⟩ isSubtype_stop ?_)
  refine wpAny_pure (hQ _ fun b o nb e => ?_)
  rw [Heap.get?_update_other _ _ (Nat.ne_of_gt (Heap.lt_size (Heap.get?_push_of_some _ (up b o nb e))))]
  exact Heap.get?_push_of_some _ (Heap.get?_push_of_some _ (up b o nb e))
theorem unpack_hot {t x1 : Addr} {items : Array Value} {targets : List (Bool × (Value → Sem Unit))} {Q : Unit → Shared → Prop} (hot : HotAt A x1 s.heap) (ht : IsTup s.heap t items) (hn : targets.length = items.size) (hst : targets.findIdx? (·.1) = none)
    (h : ∀ h', Heap.ExtBut s.heap.objs.size s.heap h' → wpAny (model prog w) A (assignInOrder (targets.map (·.2)) items.toList) Q E { s with heap := h' }) : wpAny (model prog w) A (unpack (.ref t) targets) Q E s := by
  have nt : t ≠ s.heap.objs.size := ht.elim fun o z => Nat.ne_of_lt (Heap.lt_size z.1)
  obtain ⟨hh, o1, v1, g1, d1, c1⟩ := hot
  have n1 : x1 ≠ s.heap.objs.size := Nat.ne_of_lt (Heap.lt_size g1)
  unfold unpack
  rw [hst, hn]
  refine wpAny_bind (wpAny_holding (m := unpackItems _ _ _) ?_)
  unfold unpackItems
  refine wpAny_bind (m := notIterableAtAll _) ?_
  unfold notIterableAtAll
  refine wpAny_bind (wpAny_specialOf ht.typeIs slot_tuple_iter.lookup (wpAny_pure ?_))
  simp only [Bool.false_eq_true, if_false]
  refine wpAny_bind (wpAny_holding (iter_tuple ht ?_))
  refine wpAny_bind (wpAny_holding (draw_tuple nt items.size 0 _ _ ⟨_, Heap.get?_push_size _ rfl, rfl, rfl⟩ (ht.push _) (by omega) fun ha hita sba => ?_))
  have all : List.take items.size (List.drop 0 items.toList) = items.toList := by rw [List.drop_zero]; exact List.take_of_length_le (by simp)
  rw [all, if_neg (by simp)]
  have hta : IsTup ha t items := (ht.push _).extBut sba.extBut nt
  refine wpAny_bind (wpAny_holding (tupEnd_hot (x1 := x1) ⟨hh, o1, v1, sba.extBut _ _ n1 (Heap.get?_push_of_some _ g1), d1, c1⟩ hita hta (by simp) fun hb ebb => ?_))
  simp only [Option.isSome_none, Bool.false_eq_true, if_false]
  exact wpAny_pure (h hb fun b o nb e => ebb b o nb (sba.extBut b o nb (Heap.get?_push_of_some _ e)))
end
theorem pgTupE {X : Cx} {es : List Expr} {k : Nat} {pos : Pos} {t : TGs} {n : Nat} (hc : L2H.HotC X) (h : PGs X es t)
    (hn : (assignEach es X.env).length = n := by rfl) (hst : (assignEach es X.env).findIdx? (·.1) = none := by rfl) : PG X (.Tuple es k pos) (gTup X.K n t) := by
  constructor
  intro pins s σ H v u Q I r hw
  obtain ⟨a, xs, rfl, hq, hl, hw⟩ := hw
  cases r
  obtain ⟨its, rv, ht, hz⟩ := I.tuple hq
  obtain ⟨x1, hot⟩ := hc.at I
  rw [assign_Tuple]
  refine wpAny_bind (wpAny_standAt (unpack_hot hot ht (by simp [hn, ← hl, rv.length]) hst fun g hx => ?_))
  have I1 : Inv X pins σ H { s with heap := g } := I.kept (t' := s.toks) fun b o e => hx b o (Nat.ne_of_lt (Heap.lt_size e)) e
  exact h.run pins _ σ H xs _ Q I1 (by simpa using rv) hw
/-- a block's context, the handled exception pinned -/
abbrev blkE (X : Cx) (p : Addr × Obj) (s : Shared) (H : Hp) (scope : Scope) (cenv : Env) (fp : List Addr) : Cx := { X.blk s H scope cenv fp with pn := [p] }
theorem hotC_blk {X : Cx} {p : Addr × Obj} {s : Shared} {H : Hp} {scope : Scope} {cenv : Env} {fp : List Addr} (h : L2H.Hot1 X.A p) : L2H.HotC (blkE X p s H scope cenv fp) := ⟨p, h, List.mem_cons_self ..⟩

/-! ### turns of an iterator while p's object is the handled exception -/
structure TurnE (P : Program) (w : World) (K : PySem.W.Frag) (tg : Expr) (J : It) (fp : List Addr) (it : Addr) (tn : Nat → Heap → Prop) : Prop where
  obj : ∀ i h, tn i h → ∀ b ∈ fp, ∃ o, h.get? b = some o ∧ ∀ v, o.data ≠ .cell v
  keep : ∀ i h h', tn i h → (∀ b ∈ fp, ∀ o, h.get? b = some o → h'.get? b = some o) → tn i h'
  item : ∀ (Y : Cx), Y.prog = P → Y.w = w → Y.K = K → ∀ (i : Nat) (pl : List (Addr × Obj)) (s : Shared) (σ : L2.St) (H : Hp) (E : Value → Shared → Prop), Inv Y pl σ H s → (∀ b ∈ fp, FpOk Y pl H b) → tn i s.heap → J.go i H →
    wpAny (model P w) Y.A (pyNext (.ref it)) (fun r t1 => ∃ u, r = some u ∧
      wpAny (model P w) Y.A (letOwnedTupleGo tg (.ref it) u) (fun _ t2 => ∃ x H', Inv Y pl σ H' t2 ∧ RelV x u ∧ J.yld i H x H' ∧ tn (i + 1) t2.heap ∧ ∀ b ∈ fp, H' b = none) E t1) E s
  done : ∀ (Y : Cx), Y.prog = P → Y.w = w → Y.K = K → ∀ (i : Nat) (pl : List (Addr × Obj)) (s : Shared) (σ : L2.St) (H : Hp) (E : Value → Shared → Prop) (x1 : Addr), HotAt Y.A x1 s.heap → Inv Y pl σ H s → (∀ b ∈ fp, FpOk Y pl H b) → tn i s.heap → J.stop i H →
    wpAny (model P w) Y.A (pyNext (.ref it)) (fun r t1 => r = none ∧ Inv Y pl σ H t1) E s
  self : ∀ (A : Around) (i : Nat) (s : Shared) (Q : Value → Shared → Prop) (E : Value → Shared → Prop), tn i s.heap → Q (.ref it) s → wpAny (model P w) A (pyIter (.ref it)) Q E s
/-- two lists side by side, the first no longer than the second -/
def ItzE (K : PySem.W.Frag) (a b : Addr) : It :=
  ⟨(Itz K a b).go, (Itz K a b).yld, fun i H => ∃ xs : List V, SqL K H a xs ∧ xs.length ≤ i⟩
theorem turnE_zip {P : Program} {w : World} {K : PySem.W.Frag} {elts : List Expr} {kk : Nat} {tpos : Pos} {a b z TI TO i1 i2 : Addr} (D : ZipApart z TI TO i1 i2 a b) :
    TurnE P w K (.Tuple elts kk tpos) (ItzE K a b) [z, TI, TO, i1, i2] z (fun i h => IsZip h z TI TO .none ∧ IsPair h TI (.ref i1) (.ref i2) ∧ (∃ x y, IsPair h TO x y) ∧ h.IsListIter i1 a i ∧ h.IsListIter i2 b i) where
  obj i h st c hc := (turn_zip (P := P) (w := w) (K := K) (elts := elts) (kk := kk) (tpos := tpos) D).obj i h st c hc
  keep i h h' st k := (turn_zip (P := P) (w := w) (K := K) (elts := elts) (kk := kk) (tpos := tpos) D).keep i h h' st k
  self A i s Q E st q := (turn_zip (P := P) (w := w) (K := K) (elts := elts) (kk := kk) (tpos := tpos) D).self A i s Q E st q
  item := by
    intro Y eP ew eK i pl s σ H E I hf st hg
    subst eP ew eK
    obtain ⟨zz, tI, ⟨x0, y0, tO⟩, h1, h2⟩ := st
    obtain ⟨xs, ys, x, y, qx, qy, gx, gy⟩ := hg
    obtain ⟨us, ra, pa, _⟩ := I.list qx
    obtain ⟨us2, rb, pb, _⟩ := I.list qy
    obtain ⟨u, gu, ru⟩ := ra.get gx
    obtain ⟨u2, gu2, ru2⟩ := rb.get gy
    have zlt : z < s.heap.objs.size := Heap.lt_size zz
    refine wpAny_pyNext_zip_item (x := u) (y := u2) D zz tI tO h1 h2 pa.isList pb.isList (by simpa using gu) (by simpa using gu2) fun g1 z1 tO1 a1 a2 hT hsz hk => ?_
    refine ⟨_, rfl, wpAny_letOwnedTupleGo_zip (s := { s with heap := g1 }) z1 fun g2 z2 sb => ?_⟩
    have far : ∀ c o, c ∉ [z, TI, TO, i1, i2] → s.heap.get? c = some o → g2.get? c = some o := fun c o hb q => by
      simp only [List.mem_cons, List.not_mem_nil, or_false, not_or] at hb
      exact (sb.2 c hb.1).trans (hk c o hb.1 hb.2.2.1 hb.2.2.2.1 hb.2.2.2.2 q)
    have tup : g2.get? s.heap.objs.size = some { cls := .type "tuple", data := .seq #[u, u2] } := (sb.2 _ (Nat.ne_of_gt zlt)).trans hT
    have pair : ObjOk Y.prog Y.w (upd H s.heap.objs.size (.tup [x, y])) g2 s.heap.objs.size (.tup [x, y]) := ⟨by show 2 ≤ sizeLine; decide, [u, u2], .cons ru (.cons ru2 .nil), ⟨_, tup, rfl, _, rfl⟩⟩
    refine ⟨.ref s.heap.objs.size, _, I.turnedNew (t' := s.toks) (ch := [z, TI, TO, i1, i2]) far hf (Nat.le_refl _) pair, rfl,
      ⟨_, x, y, rfl, I.hok.fresh (Nat.le_refl _), rfl, fun l hl => by rw [I.list_inj hl qx]; exact gx, fun l hl => by rw [I.list_inj hl qy]; exact gy⟩, ⟨z2, ?_, ⟨u, u2, ?_⟩, ?_, ?_⟩, fun c hcm => ?_⟩
    · exact (sb.2 TI D.TIz).trans (hk TI _ D.TIz D.TITO D.TIi1 D.TIi2 tI)
    · exact (sb.2 TO D.TOz).trans tO1
    · exact a1.at fun o q => (sb.2 i1 D.i1z).trans q
    · exact a2.at fun o q => (sb.2 i2 D.i2z).trans q
    · obtain ⟨o, go, _⟩ := (turn_zip (P := Y.prog) (w := Y.w) (K := Y.K) (elts := elts) (kk := kk) (tpos := tpos) D).obj i s.heap ⟨zz, tI, ⟨x0, y0, tO⟩, h1, h2⟩ c hcm
      rw [upd_ne (Nat.ne_of_lt (Heap.lt_size go))]
      exact (hf c hcm).1
  done := by
    intro Y eP ew eK i pl s σ H E x1 hot I hf st hg
    subst eP ew eK
    obtain ⟨zz, tI, ⟨x0, y0, tO⟩, h1, h2⟩ := st
    obtain ⟨xs, qx, le⟩ := hg
    obtain ⟨us, ra, pa, _⟩ := I.list qx
    have el := ra.length
    refine zipEnd_hot hot D zz tI tO h1 pa.isList (by simp; omega) fun g1 hk => ⟨rfl, I.turnedL (t' := s.toks) (ch := [z, TI, TO, i1, i2]) (fun c o hb q => ?_) hf⟩
    simp only [List.mem_cons, List.not_mem_nil, or_false, not_or] at hb
    exact hk c o hb.1 hb.2.2.2.1 q
def PIEE (X : Cx) (pins : List (Addr × Obj)) (σ : L2.St) (tg : Expr) (R : It → Hp → Prop) (v : Value) (t : Shared) : Prop :=
  ∃ (it : Addr) (fp : List Addr) (tn : Nat → Heap → Prop) (J : It) (H' : Hp), v = .ref it ∧ Inv X pins σ H' t ∧ TurnE X.prog X.w X.K tg J fp it tn ∧ tn 0 t.heap ∧ (∀ b ∈ fp, FpOk X pins H' b) ∧ R J H'
structure PIE' (X : Cx) (tg iter : Expr) (wi : TI) : Prop where
  run : ∀ (pins : List (Addr × Obj)) (s : Shared) (σ : L2.St) (H : Hp) (R : It → Hp → Prop), Inv X pins σ H s → wi σ H R →
    wpAny (model X.prog X.w) X.A (eval iter X.env) (fun v t => wpAny (model X.prog X.w) X.A (pyIter v) (PIEE X pins σ tg R) X.xe t) X.xe s
def iZipE (K : PySem.W.Frag) (ta : TA) : TI := fun σ H R => ta σ H fun vs H1 => ∃ a b xs ys, vs = [.ref a, .ref b] ∧ SqL K H1 a xs ∧ SqL K H1 b ys ∧ R (ItzE K a b) H1
theorem piE_zip {X : Cx} {e e2 : Expr} {ta : TA} {p pos tpos : Pos} {elts : List Expr} {kk : Nat} (hg : Gl X "zip") (hm : X.mg "zip" = none) (ha : PA X [e, e2] ta)
    (hs : starEach [e, e2] X.env = (false, eval e X.env) :: starEach [e2] X.env := by rfl) (hpl : (backTo pos (starEach [e2] X.env)).any (·.1) = false := by rfl) :
    PIE' X (.Tuple elts kk tpos) (.Call (.Name "zip" p) [e, e2] [] pos) (iZipE X.K ta) := by
  constructor
  intro pins s σ H R I h
  refine Call_ (ld_blt I hg hm PyProof.Rows.boot_zip (PyProof.Rows.callWith_type1 (thn (ha.run pos pins s σ H _ I h) fun us t1 w1 => ?_) hs hpl))
  obtain ⟨vs, H1, I1, rr, a, b, xs, ys, rfl, qx, qy, q⟩ := w1
  cases rr with
  | cons r1 rr =>
    cases rr with
    | cons r2 rr =>
      cases rr
      cases r1
      cases r2
      obtain ⟨us1, ra, pa, _⟩ := I1.list qx
      obtain ⟨us2, rb, pb, _⟩ := I1.list qy
      refine call_zip_2 pa.isList pb.isList fun g zz tI tO h1 h2 hsz hk => wpAny_pyIter_zip zz ?_
      refine ⟨t1.heap.objs.size + 4, [t1.heap.objs.size + 4, t1.heap.objs.size + 2, t1.heap.objs.size + 3, t1.heap.objs.size, t1.heap.objs.size + 1], _, _, H1, rfl, I1.kept (t' := t1.toks) hk, turnE_zip (PySem.W.ktu_apart t1.heap.objs.size a b pa.lt pb.lt), ⟨zz, tI, ⟨_, _, tO⟩, h1, h2⟩, fun c hc => ?_, q⟩
      have le : t1.heap.objs.size ≤ c := by
        simp only [List.mem_cons, List.not_mem_nil, or_false] at hc
        rcases hc with q | q | q | q | q <;> rw [q] <;> first | exact Nat.le_refl _ | exact Nat.le_add_right _ _
      exact I1.fpOk le (I1.hok.fresh le)

/-! ### a list comprehension while p's object is the handled exception -/
section
variable {X : Cx} {p : Addr × Obj}
theorem hot_of {pl : List (Addr × Obj)} {σ : L2.St} {H : Hp} {s : Shared} (h1 : L2H.Hot1 X.A p) (I : Inv X pl σ H s) (hp : p ∈ X.pn ++ pl) : HotAt X.A p.1 s.heap := by
  obtain ⟨hh, vs, d, c⟩ := h1
  exact ⟨hh, p.2, vs, (I.pin p hp).1, d, c⟩
theorem lcE_core {pins : List (Addr × Obj)} {s : Shared} {σ : L2.St} {H : Hp} {Q : VK} {elt tg iter : Expr} {ifs : List Expr} {scope : Scope} {own : List (Str × Nat)} {pos pos' : Pos} {wi : TI} {g : TG} {tt : TT} {te : TE} {use : Option (Value → Sem Unit)} {Qf : Value → Shared → Prop}
    (hot : L2H.Hot1 X.A p) (hpn : p ∈ X.pn) (hN : X.N.Nodup) (I : Inv X pins σ H s) (hi : PIE' X tg iter wi) (ok : BlkOk X.N X.env.scope scope own)
    (hg : ∀ (s : Shared) (H : Hp) (C : Addr) (cl : List (Str × Addr)) (fp : List Addr), PG (blkE X p s H scope (compEnvC scope cl C X.env) fp) tg g)
    (ht : ∀ (s : Shared) (H : Hp) (C : Addr) (cl : List (Str × Addr)) (fp : List Addr), PTs (blkE X p s H scope (compEnvC scope cl C X.env) fp) ifs tt)
    (he : ∀ (s : Shared) (H : Hp) (C : Addr) (cl : List (Str × Addr)) (fp : List Addr), PE (blkE X p s H scope (compEnvC scope cl C X.env) fp) elt te)
    (hs : ∀ x, foldedSetIterable iter X.env x = pure x) (h : tLc wi g tt te (own.map (·.2)) σ H Q)
    (hR : ∀ D C t m H', Inv X pins σ H' t → Q (.ref D) H' → t.heap.Ns C m → FpOk X pins H' C → compPost (model X.prog X.w) X.A X.xe use Qf (.ref D) C (.ok .next) t) :
    wpAny (model X.prog X.w) X.A (comprehension (.ListComp elt [⟨tg, iter, ifs, 0⟩] scope pos) scope X.env pos' (newList []) false (eval iter X.env) use) Qf X.xe s := by
  have cells : ∀ y ∈ scope.names, y.2 = .free → ∃ c, X.env.cells.lookup y.1 = some c := fun y hy e => I.ok.has _ (ok.free y hy e)
  refine wpAny_comprehension_free rfl hs (closure_ok cells) ok.kind (use := use) (fun y hy e => by rw [ok.uniq y hy, e]) (thn (hi.run pins s σ H _ I h) fun xv t1 w1 => thn w1 fun itv t2 w2 => ?_)
  obtain ⟨it, fp, tn, J, H2, rfl, I2, T, st2, f2, q⟩ := w2
  refine wpAny_newObj_type (newEnv_comp ?_) (by show 0 ≤ sizeLine; decide)
  generalize eD : t2.heap.objs.size = D
  obtain ⟨W, ⟨m0, w0⟩, turn⟩ := q D (I2.hok.fresh (Nat.le_of_eq eD))
  generalize e3 : ({ t2 with heap := t2.heap.push { cls := .type "list", data := .seq ([] : List Value).toArray } } : Shared) = t3
  have hp3 : t3.heap = t2.heap.push { cls := .type "list", data := .seq ([] : List Value).toArray } := by rw [← e3]
  have up3 : ∀ b o, t2.heap.get? b = some o → t3.heap.get? b = some o := fun b o e => by rw [hp3]; exact Heap.get?_push_of_some _ e
  have I3 : Inv X pins σ (upd H2 D (.lst [])) t3 := by
    rw [← e3]
    refine I2.laid (t' := t2.toks) (fun b o e => Heap.get?_push_of_some _ e) (Nat.le_of_eq eD) ⟨Nat.zero_le _, [], 0, .nil, ?_⟩
    rw [← eD]
    exact Heap.get?_push_size _ rfl
  have lt2 : ∀ b ∈ fp, b < t2.heap.objs.size := fun b hb => (T.obj _ _ st2 b hb).elim fun o z => Heap.lt_size z.1
  have f3 : ∀ b ∈ fp, FpOk X pins (upd H2 D (.lst [])) b ∧ b < t3.heap.objs.size := fun b hb => by
    refine ⟨⟨?_, (f2 b hb).2⟩, by rw [hp3, Heap.size_push]; exact Nat.lt_succ_of_lt (lt2 b hb)⟩
    rw [upd_ne (by rw [← eD]; exact Nat.ne_of_lt (lt2 b hb))]
    exact (f2 b hb).1
  have st3 : tn 0 t3.heap := T.keep _ _ _ st2 fun b _ o e => up3 b o e
  have I4 := block_start I3 ok hN f3
  have P3 := I3.pin p (List.mem_append_left _ hpn)
  have pg := hg t3 (upd H2 D (.lst [])) t3.heap.objs.size (cellsFrom (t3.heap.objs.size + 1) scope.names (cloFrom X.env.cells scope.names [])) fp
  have pt := ht t3 (upd H2 D (.lst [])) t3.heap.objs.size (cellsFrom (t3.heap.objs.size + 1) scope.names (cloFrom X.env.cells scope.names [])) fp
  have pe := he t3 (upd H2 D (.lst [])) t3.heap.objs.size (cellsFrom (t3.heap.objs.size + 1) scope.names (cloFrom X.env.cells scope.names [])) fp
  show codeAny _ _ (.compStart _ 0 (.ref it) (.ref D) (compEnvC scope (cellsFrom (t3.heap.objs.size + 1) scope.names (cloFrom X.env.cells scope.names [])) t3.heap.objs.size X.env)) (compPost (model X.prog X.w) X.A X.xe use Qf (.ref D) t3.heap.objs.size) { t3 with heap := pushCells (t3.heap.push { cls := .type "dict", data := .dict #[] }) scope.names }
  generalize ece : compEnvC scope (cellsFrom (t3.heap.objs.size + 1) scope.names (cloFrom X.env.cells scope.names [])) t3.heap.objs.size X.env = ce at I4 pg pt pe ⊢
  have lce : ce.locals = t3.heap.objs.size := by rw [← ece]; rfl
  generalize upd H2 D (.lst []) = H3 at I3 I4 pg pt pe w0 f3 P3
  generalize e4 : ({ t3 with heap := pushCells (t3.heap.push { cls := .type "dict", data := .dict #[] }) scope.names } : Shared) = t4 at I4 ⊢
  have up4 : ∀ b o, t3.heap.get? b = some o → t4.heap.get? b = some o := fun b o e => by rw [← e4]; exact pushCells_keeps _ _ _ _ (Heap.get?_push_of_some _ e)
  have st4 : tn 0 t4.heap := T.keep _ _ _ st3 fun b _ o e => up4 b o e
  -- the handled exception stays pinned in the block
  have I4q : Inv (X.blk t3 H3 scope ce fp) [p] (wipe σ (own.map (·.2))) H3 t4 := I4.pins_of fun q hq => by
    have eq : q = p := by simpa using hq
    subst eq
    refine ⟨up4 _ _ P3.1, P3.2.1, ?_, fun hm => ?_, P3.2.2.2.2⟩
    · show q.1 ≠ ce.locals
      rw [lce]
      exact Nat.ne_of_lt (Heap.lt_size P3.1)
    · exact (List.mem_cons.mp (I3.stkSub q.1 hm)).elim P3.2.2.1 P3.2.2.2.1
  have I4p : Inv (blkE X p t3 H3 scope ce fp) [] (wipe σ (own.map (·.2))) H3 t4 :=
    ⟨⟨I4q.ok.mod, I4q.ok.kind, I4q.ok.glob, I4q.ok.blt, I4q.ok.above, I4q.ok.inj, I4q.ok.has, I4q.ok.cab, I4q.ok.hd, I4q.ok.frames, I4q.ok.stk, I4q.ok.exf, I4q.ok.bs, I4q.ok.bsz, I4q.ok.noex, I4q.ok.exfs, I4q.ok.funs, I4q.ok.frf⟩,
      I4q.os, I4q.bare, I4q.base, I4q.loc, I4q.cell, I4q.free, I4q.freeC, fun q hq => I4q.pin q (by simpa using hq), I4q.hok, I4q.len⟩
  have stat : ∀ {σ' : L2.St} {H' : Hp} {s' : Shared}, Inv (blkE X p t3 H3 scope ce fp) [] σ' H' s' → (∀ b ∈ fp, H' b = none) → ∀ b ∈ fp, FpOk (blkE X p t3 H3 scope ce fp) [] H' b := fun {σ' H' s'} J' hn b hb =>
    ⟨hn b hb, (J'.ok.exf b hb).1, J'.ok.exfs b hb, .inl hb, fun x c e => (J'.ok.exf b hb).2 x c e, fun q hq => by
      have eq : q = p := by simpa using (show q ∈ [p] ++ ([] : List (Addr × Obj)) from hq)
      rw [eq]
      exact (f2 b hb).2.2.2.2.2 p (List.mem_append_left _ hpn)⟩
  have loop : codeAny (model X.prog X.w) X.A (.compLoop (.ListComp elt [⟨tg, iter, ifs, 0⟩] scope pos) 0 (.ref it) (.ref D) ce) (compPost (model X.prog X.w) X.A X.xe use Qf (.ref D) t3.heap.objs.size) t4 := by
    refine compLoop_any (fun n t => ∃ i H', Inv (blkE X p t3 H3 scope ce fp) [] (wipe σ (own.map (·.2))) H' t ∧ tn i t.heap ∧ (∀ b ∈ fp, H' b = none) ∧ W i n H') ?_ m0 ⟨0, H3, I4p, st4, fun b hb => (f3 b hb).1.1, w0⟩
    rintro n t5 ⟨i, H5, I5, st5, n5, w5⟩
    rcases turn i n H5 w5 with ⟨stop, qq⟩ | ⟨go, Nx, hNx, step⟩
    · have hot5 : HotAt (blkE X p t3 H3 scope ce fp).A p.1 t5.heap := hot_of (X := blkE X p t3 H3 scope ce fp) hot I5 (List.mem_append_left _ (List.mem_cons_self ..))
      refine thnF (T.done (blkE X p t3 H3 scope ce fp) rfl rfl rfl i [] t5 _ H5 (fun _ _ => False) p.1 hot5 I5 (stat I5 n5) st5 stop) fun r t6 ⟨er, I6⟩ => ?_
      subst er
      have I7 : Inv X pins σ H5 t6 := I3.call' (ch := fp) I6.os I6.base I6.hok I6.bare fun b hb => ⟨(f3 b hb).1.2.2.2.1, (f3 b hb).1.2.1, (f3 b hb).1.2.2.2.2.1, (f3 b hb).1.2.2.2.2.2⟩
      have nL : H5 t3.heap.objs.size = none := by
        have z : H5 ce.locals = none := I6.free
        rwa [lce] at z
      obtain ⟨m, hn, _⟩ := I6.loc
      have hn : t6.heap.Ns ce.locals m := hn
      rw [lce] at hn
      exact hR D t3.heap.objs.size t6 m H5 I7 qq hn (I3.fpOk (Nat.le_refl _) nL)
    · refine thnF (T.item (blkE X p t3 H3 scope ce fp) rfl rfl rfl i [] t5 _ H5 (fun _ _ => False) I5 (stat I5 n5) st5 go) fun r t6 ⟨u, er, w6⟩ => ?_
      subst er
      refine thnF w6 fun _ t7 ⟨x, H7, I7, r7, y7, st7, n7⟩ => ?_
      have J7 := I7.pinned (stat I7 n7) (T.obj _ _ st7)
      refine thnF (pg.run _ t7 _ H7 x u _ J7 r7 (step x H7 y7)) fun _ t8 ⟨σ8, H8, I8, ws8, q8⟩ => ?_
      refine thnF (pt.run _ t8 σ8 H8 _ I8 q8) fun b t9 ⟨H9, I9, q9⟩ => ?_
      have next : ∀ {t' : Shared} {H' : Hp}, Inv (blkE X p t3 H3 scope ce fp) ([] ++ pinsAt fp t7.heap) σ8 H' t' → Nx H' → ∃ m, m < n ∧ ∃ i H', Inv (blkE X p t3 H3 scope ce fp) [] (wipe σ (own.map (·.2))) H' t' ∧ tn i t'.heap ∧ (∀ b ∈ fp, H' b = none) ∧ W i m H' := fun {t' H'} J' nx => by
        obtain ⟨m', lt, w'⟩ := hNx H' nx
        have kept : ∀ b ∈ fp, ∀ o, t7.heap.get? b = some o → t'.heap.get? b = some o ∧ H' b = none := fun b hb o e =>
          have z := J'.pin (b, o) (List.mem_append_right _ (List.mem_append_right _ (mem_pinsAt hb e)))
          ⟨z.1, z.2.1⟩
        refine ⟨m', lt, i + 1, H', (J'.unpinned (pins := [])).weak (by rw [← ws8, wipe_length]) (fun j v e => ?_), T.keep _ _ _ st7 fun b hb o e => (kept b hb o e).1, fun b hb => ?_, w'⟩
        · rw [← ws8] at e
          exact (wipe_some e).1
        · obtain ⟨o, e, _⟩ := T.obj _ _ st7 b hb
          exact (kept b hb o e).2
      cases b with
      | false =>
        rw [if_neg Bool.false_ne_true] at q9
        show (if false = true then _ else _)
        rw [if_neg Bool.false_ne_true]
        exact next I9 q9
      | true =>
        rw [if_pos rfl] at q9
        show (if true = true then _ else _)
        rw [if_pos rfl]
        refine thnF (pe.run _ t9 σ8 H9 _ I9 q9) fun z t10 ⟨yv, H10, I10, r10, acc, hD, hz, nx⟩ => ?_
        exact app_ok (X := blkE X p t3 H3 scope ce fp) I10 hD hz r10 fun t11 I11 => next I11 nx
  exact codeAny_compStart_list loop (T.self X.A 0 _ _ _ st4 loop)
theorem ps_setLcE {i : Nat} {y : Str} {py : Pos} {elt tg iter : Expr} {ifs : List Expr} {scope : Scope} {own : List (Str × Nat)} {pos spos : Pos} {wi : TI} {g : TG} {tt : TT} {te : TE}
    (hot : L2H.Hot1 X.A p) (hpn : p ∈ X.pn) (hN : X.N.Nodup) (hy : X.N[i]? = some y) (hyl : X.env.scope.names.lookup y = some .local)
    (hsw : swapsWith (.ListComp elt [⟨tg, iter, ifs, 0⟩] scope pos) (some (.Name y py)) spos.line X.env = pure true) (hi : PIE' X tg iter wi) (ok : BlkOk X.N X.env.scope scope own)
    (hg : ∀ (s : Shared) (H : Hp) (C : Addr) (cl : List (Str × Addr)) (fp : List Addr), PG (blkE X p s H scope (compEnvC scope cl C X.env) fp) tg g)
    (ht : ∀ (s : Shared) (H : Hp) (C : Addr) (cl : List (Str × Addr)) (fp : List Addr), PTs (blkE X p s H scope (compEnvC scope cl C X.env) fp) ifs tt)
    (he : ∀ (s : Shared) (H : Hp) (C : Addr) (cl : List (Str × Addr)) (fp : List Addr), PE (blkE X p s H scope (compEnvC scope cl C X.env) fp) elt te)
    (hs : ∀ x, foldedSetIterable iter X.env x = pure x := by intro _; rfl) :
    PS X (.Assign [.Name y py] (.ListComp elt [⟨tg, iter, ifs, 0⟩] scope pos) spos) (tAsg (tLc wi g tt te (own.map (·.2))) (gName i)) := by
  constructor
  intro pins s σ H D I h
  rw [exec_Assign_Name_used _ _ _ _ hsw]
  refine wpAny_bind (wpAny_standAt (wpAny_bind (m := comprehension _ _ _ _ _ _ _ _ >>= _) ?_))
  show wpAny _ X.A (do let _ ← comprehension (.ListComp elt [⟨tg, iter, ifs, 0⟩] scope pos) scope X.env (firstIterPos [⟨tg, iter, ifs, 0⟩] pos) (newList []) false (eval iter X.env) (some (assign (.Name y py) X.env))) _ _ s
  have h : tLc wi g tt te (own.map (·.2)) σ H (fun x H1 => gName i x σ H1 D.nx) := h
  refine wpAny_bind (thn (lcE_core (Qf := fun _ t => SP X pins D .next t) hot hpn hN I hi ok hg ht he hs h fun L C t m H' J q hn f => ?_) fun _ t q => wpAny_pure (wpAny_pure q))
  show wpAny _ _ (assign (.Name y py) X.env (.ref L)) _ _ _
  refine wpAny_assign_Name (store_ok2 (v := V.ref L) J hN hy (.inl hyl) rfl (fun t2 J2 ⟨a, sb, ha⟩ => ?_) (.inr hyl))
  obtain ⟨f0, f1, f2, f3, f4, f5⟩ := f
  have ne : C ≠ a := ha.elim (fun z => by rw [z]; exact f1) fun z e => f4 y a z e.symm
  exact ⟨m, hn.sameBut sb ne, fun h3 sb3 => ⟨_, H', J2.turned (t' := t2.toks) (fun b o hb e => (sb3.2 b hb).trans e) f0 f1 f3 f4 f5, q⟩⟩
end
end GL
/-! GLp: raise, try .. except .. as e, what may be asked of e. -/
namespace GL
open PySem PySem.Spec PyProof.Rows L2
theorem bt_ValueError : bootBuiltins "ValueError" = some (.type "ValueError") := by decide +kernel

/-! ### isinstance of the handled exception -/
theorem cr_isH {X : Cx} {p : Addr × Obj} {D : Addr} (C : ExcC X.K D) (hp : p ∈ X.pn) (hz : Zc (.ref D) none p.2) (hf : ∃ vs, p.2.data = .fields vs) : CallR X (.builtin "isinstance") (rIsE X.K D p.1) := by
  intro pins s σ H xs us Q I r h
  obtain ⟨c, cv, b, rfl, hcv, e, q⟩ := h
  cases r with
  | cons r1 rr =>
    cases rr with
    | cons r2 rr =>
      cases rr
      cases r1
      cases hcv _ r2
      obtain ⟨fs, hfs⟩ := hf
      have J : PySem.W.InstAt s.heap p.1 p.2 D none := by
        have g := (I.pin p (List.mem_append_left _ hp)).1
        obtain ⟨a, oc, od, oda, osl⟩ := p
        obtain ⟨z1, z2⟩ := hz
        dsimp only at z1 z2 hfs
        subst z1 z2 hfs
        exact ⟨g, rfl, rfl, trivial⟩
      exact PySem.W.kia_one (PySem.W.handS_kitx_exc C.hg C.hk C.hs C.hd C.ha C.hn C.ht C.hm) I.kIn J e (fun z => nomatch z) fun tk => ⟨.bl b, H, I.kept (t' := tk) fun _ _ z => z, rfl, q⟩
/-- what is asked of a class of errors -/
structure ErrOk (K : PySem.W.Frag) (all : List Str) (x : Str) : Prop where
  ex : PySem.W.excIn K (He.ga K x) He.veBase "ValueError.__new__" = true
  kp : PySem.W.keepIn K (.ref (He.ga K x)) = true
  sb : PySem.W.subIn K (.ref (He.ga K x)) (.type "BaseException") = some true
  ty : PySem.W.typeIn K (.ref (He.ga K x)) = some (.type "type")
  cc : ExcC K (He.ga K x)
  is_ : ∀ y ∈ all, PySem.W.kitOne K (.ref (He.ga K x)) (.ref (He.ga K y)) = some (decide (x = y))
  rk : PySem.W.kitOne K (.ref (He.ga K x)) (.ref (He.ga K "RankError")) = some true
  ve : PySem.W.kitOne K (.ref (He.ga K x)) (.type "ValueError") = some true
  em : PySem.W.exmOne K (.ref (He.ga K x)) (.ref (He.ga K "RankError")) = some true
def errB (K : PySem.W.Frag) (all : List Str) (x : Str) : Bool :=
  (He.Fa.exc x).ok K && ((decide (PySem.W.findIn K (.ref (He.ga K x)) "__getattribute__" = some (some (.builtin "BaseException.__getattribute__"))) && (decide (PySem.W.findIn K (.ref (He.ga K x)) "__getattr__" = some none) && (PySem.W.hasDictIn K (He.ga K x) &&
    (decide (PySem.W.findIn K (.ref (He.ga K x)) "__class__" = some (some (.builtin "object.__class__"))) && (decide (PySem.W.specialIn K (.builtin "object.__class__") "__get__" = some (some (.builtin "getset_descriptor.__get__"))) &&
      (decide (PySem.W.takesIn K (.builtin "object.__class__") = some true) && decide (PySem.W.mroIn K (He.ga K x) (.type "object") = some true))))))) &&
    (all.all (fun y => decide (PySem.W.kitOne K (.ref (He.ga K x)) (.ref (He.ga K y)) = some (decide (x = y)))) && (decide (PySem.W.kitOne K (.ref (He.ga K x)) (.ref (He.ga K "RankError")) = some true) &&
      (decide (PySem.W.kitOne K (.ref (He.ga K x)) (.type "ValueError") = some true) && decide (PySem.W.exmOne K (.ref (He.ga K x)) (.ref (He.ga K "RankError")) = some true)))))
theorem errB_ok {K : PySem.W.Frag} {all : List Str} {x : Str} (h : errB K all x = true) : ErrOk K all x := by
  unfold errB at h
  obtain ⟨h1, h⟩ := He.ba h
  obtain ⟨h2, h⟩ := He.ba h
  obtain ⟨g1, h2⟩ := He.ba h2
  obtain ⟨g2, h2⟩ := He.ba h2
  obtain ⟨g3, h2⟩ := He.ba h2
  obtain ⟨g4, h2⟩ := He.ba h2
  obtain ⟨g5, h2⟩ := He.ba h2
  obtain ⟨g6, g7⟩ := He.ba h2
  obtain ⟨k1, h⟩ := He.ba h
  obtain ⟨k2, h⟩ := He.ba h
  obtain ⟨k3, k4⟩ := He.ba h
  obtain ⟨e1, e2, e3, e4⟩ := He.exc_ok h1
  exact ⟨e1, e2, e3, e4, ⟨of_decide_eq_true g1, of_decide_eq_true g2, e3, g3, of_decide_eq_true g4, of_decide_eq_true g5, of_decide_eq_true g6, of_decide_eq_true g7⟩, fun y hy => of_decide_eq_true (List.all_eq_true.mp k1 y hy), of_decide_eq_true k2, of_decide_eq_true k3, of_decide_eq_true k4⟩
theorem ErrOk.raises {X : Cx} {all : List Str} {x : Str} (E : ErrOk X.K all x) : Raises X (.ref (He.ga X.K x)) := fun M h k => ⟨PySem.W.looks_subIn k E.sb, PySem.W.looks_typeIn k E.ty⟩
section
variable {F : Fx} {a D : Addr}
theorem isE_ref {C : Addr} {b : Bool} (h : PySem.W.kitOne F.K (.ref D) (.ref C) = some b) : CallS F (rIsE F.K D a) [.raw (.ref a), .raw (.ref C)] (.d (.bool b)) := fun z vs Q hz ha c => by
  obtain ⟨v, w, rfl, hv, hw⟩ := VAll.two ha
  cases hv
  cases hw
  exact ⟨_, _, b, rfl, fun u r => r, h, c _ z (Add.refl z) hz (.bl b) trivial⟩
theorem isE_ty {T : String} {b : Bool} (h : PySem.W.kitOne F.K (.ref D) (.type T) = some b) : CallS F (rIsE F.K D a) [.raw (.ref a), .raw (.ty T)] (.d (.bool b)) := fun z vs Q hz ha c => by
  obtain ⟨v, w, rfl, hv, hw⟩ := VAll.two ha
  cases hv
  cases hw
  exact ⟨_, _, b, rfl, fun u r => r, h, c _ z (Add.refl z) hz (.bl b) trivial⟩
end

/-! ### x.split(sep); zip of two lists, the first no longer -/
abbrev rSpl : V → List V → Hp → VK → Prop := fun x xs H Q => ∃ a b, x = .str a ∧ xs = [.str b] ∧ (b.length == 0) = false ∧ a.length + 2 ≤ sizeLine ∧ rNewStrs (Txt.split a b) H Q
section
variable {F : Fx} {to te : TE} {ta : TA} {Γ : List Sl} {ds es : List PyData}
theorem evs_split {a b : Str} {ws : List Str} (h1 : EvS F to Γ (.d (.str a))) (h2 : EvS F te Γ (.d (.str b))) (hb : (b.length == 0) = false) (hl : a.length + 2 ≤ sizeLine) (e : Txt.split a b = ws) : EvS F (tM1 rSpl to te) Γ (.lst (ws.map PyData.str)) := fun z σ Q hz hs c =>
  h1 z σ _ hz hs fun v z1 a1 hz1 hv _ => ⟨⟨a, hv.d_str⟩, h2 z1 σ _ hz1 (hs.add a1) fun u z2 a2 hz2 hu _ => ⟨a, b, hv.d_str, by rw [hu.d_str], hb, hl, fun p hp => by
    rw [e]
    exact c _ (z2.tmp p _) (a1.trans (a2.trans (Add.tmp hp))) (hz2.tmp hp) (VOk.tmp_lst hz2 hp (DtAll.of_strs ws)) ⟨p, rfl, (a1.trans a2).dom p hp⟩⟩⟩
theorem evi_zipE (h : EvA F ta Γ [.d (.list ds), .d (.list es)]) (hl : ds.length ≤ es.length) : EvI F (iZipE F.K ta) Γ (zipD ds es) := fun z σ R hz hs c =>
  h z σ _ hz hs fun vs z' a' hz' ha => by
    obtain ⟨v, w, rfl, hv, hw⟩ := VAll.two ha
    cases hv with
    | lst g1 g2 =>
      cases hw with
      | lst k1 k2 =>
        refine ⟨_, _, _, _, rfl, SqL.of (hz'.sub _ _ g1), SqL.of (hz'.sub _ _ k1), c _ z' a' hz' fun z2 e hz2 i => ?_⟩
        obtain ⟨y1, y2⟩ := yields_zipL g1 g2 k1 k2 z2 e hz2 i
        refine ⟨y1, fun q => ⟨_, SqL.of (hz2.sub _ _ (e _ _ g1)), ?_⟩⟩
        rw [zipD_len] at q
        rw [g2.len]
        omega
end

/-! ### a def whose one argument is the handled exception -/
structure FnE (P : Program) (w : World) (K : PySem.W.Frag) (mg : Str → Option Value) (base : Heap) (k : Nat) (f : Addr) (fd : FuncData) (y : Str) (ans : Addr → Str → Prop) : Prop where
  run : ∀ (A : Around) (outer : List Env) (s : Shared) (H : Hp) (p : Addr × Obj) (D : Addr) (x : Str) (Q : VK) (E : XK), L2H.RoomH k A → L2H.Hot1 A p → L2H.PinOk outer H s p → Zc (.ref D) none p.2 → ans D x → Env0 P w K mg base A outer s H →
    BindsTo s fd ⟨[.ref p.1], []⟩ ([y].zip [.ref p.1]) → (∀ H', Ex H H' → Q (.str x) H') → codeAny (model P w) A (.call (.ref f) ⟨[.ref p.1], []⟩) (CR CX0 outer P w H s Q E) s
section
variable {P : Program} {w : World} {K : PySem.W.Frag} {mg : Str → Option Value} {base : Heap}
theorem fn_okE {x y qual : Str} {st : Stmt} {f : Addr} {fd : FuncData} {N : List Str} {k : Nat} {ans : Addr → Str → Prop} (F0 : Fun K x qual st f fd) (Sc : FnScope N [y] (defScope st)) (hN : 1 ≤ N.length)
    (hb : ∀ (cdv : Value) (A : Around) (outer : List Env) (s : Shared) (H : Hp) (E : XK) (p : Addr × Obj) (D : Addr) (ex : Str), L2H.Hot1 (A.deeper (envOfC qual (defScope st) s.heap.objs.size f cdv)) p → L2H.RoomH k (A.deeper (envOfC qual (defScope st) s.heap.objs.size f cdv)) → Zc (.ref D) none p.2 → (∃ vs, p.2.data = .fields vs) → ans D ex →
      ∃ t, PSs (L2H.cxH CX0 P w K mg base N qual (defScope st) f cdv A outer s H E p) (defBody st) t ∧ ∀ (B S0 : Hp) (E : XK) (px : Addr → Prop), Wp ⟨K, B, S0, E, px⟩ t (entry N [.raw (.ref p.1)]) (fun _ => False) (fun r _ => r = .d (.str ex)) (fun _ => False) (fun _ => False)) :
    FnE P w K mg base (k + 1) f fd y ans := by
  obtain ⟨oc, od, kV, doc, pm, an, cdv, ct, osl, rfl, lk, hcd⟩ := F0.ex
  constructor
  intro A outer s H p D ex Q E hr hot hpin hz ha e0 hbd hQ
  have kin : K.In s.heap := e0.mod.kin.keeps fun b o e => (e0.bs b o e).1
  have nol : s.heap.NoLimit := e0.mod.nolimit.keeps fun b o e => (e0.bs b o e).1
  have par : ∀ q ∈ [y].zip [Value.ref p.1], (defScope st).names.lookup q.1 = some .local ∨ ((defScope st).names.lookup q.1 = some .cell ∧ ((cellsFrom (s.heap.objs.size + 1) (defScope st).names []).lookup q.1).isSome = true) := fun ⟨n, v⟩ hq =>
    (Sc.par n (List.of_mem_zip hq).1).imp id fun z => ⟨z, PySem.W.cellsFrom_some _ _ _ (.inl z)⟩
  refine codeAny_call_function hr.depth (kin _ _ lk) rfl Sc.co Sc.gen rfl (PySem.W.codeRec_of kin hcd) (hbd _ _ _ _ ?_)
  refine wpAny_newFunctionEnv_cells Sc.kind par fun env he s1 hin => ?_
  subst he
  refine ⟨nol.keeps hin.toInCall.keep, codeAny_func ?_⟩
  obtain ⟨vs, d, c⟩ := hot.2
  obtain ⟨t, ht, hw⟩ := hb cdv A outer s H E p D ex ⟨hot.1, vs, d, c⟩ (hr.deeper _) hz ⟨vs, d⟩ ha
  have I := L2H.inv_startH (E := E) (CX := CX0) (cd := cdv) (f := f) (qual := qual) Sc hpin e0 (vs := [V.ref p.1]) rfl (.cons rfl .nil) hin
  let Fz : Fx := ⟨K, H, fun _ => none, E, fun _ => False⟩
  let z : Z := ⟨fun _ => none, H, fun _ => none⟩
  have hz0 : ZOk Fz z := ⟨fun _ _ e => (nomatch e), Ex.refl _, Ex.refl _, (fun _ _ e => nomatch e), fun _ _ _ => rfl⟩
  have hs0 : SOk Fz z (L2.start N [V.ref p.1]) (entry N [.raw (.ref p.1)]) := entry_ok (F := Fz) (z := z) (.cons rfl .nil) hN
  have run : t { nx := fun _ H' => Q .non H', rt := Q } (L2.start N [V.ref p.1]) H := hw H (fun _ => none) E (fun _ => False) z (L2.start N [V.ref p.1]) _ (fun _ _ _ e => e.elim) hz0 hs0 ⟨fun _ _ _ e => e.elim, fun v r Γ σ z' e _ hz' _ hv => by
    subst e
    rw [hv.d_str]
    exact hQ z'.H hz'.base, fun _ _ _ e => e.elim, fun _ _ _ e => e.elim⟩
  refine wpAny_mono (ht.run [] s1 (L2.start N [V.ref p.1]) H _ I run) (fun fl s' hs => ?_) fun _ _ e => e
  cases fl with
  | ret u =>
    obtain ⟨v, σ', H', J, rv, q⟩ := hs
    exact ⟨v, H', J.os, J.bare, J.base, J.hok, rv, q⟩
  | next =>
    obtain ⟨σ', H', J, q⟩ := hs
    exact ⟨V.non, H', J.os, J.bare, J.base, J.hok, rfl, q⟩
  | brk => exact hs.elim fun _ z => z.elim fun _ z => z.2.elim
  | cont => exact hs.elim fun _ z => z.elim fun _ z => z.2.elim
end
/-- a call of such a def, within the suite that handles a -/
def tErr (a : Addr) (cls : Value) (d : Option Addr) (ans : Addr → Str → Prop) (t : TA) : TE := fun σ H Q => t σ H fun vs H1 => vs = [.ref a] ∧ ∃ D x, cls = .ref D ∧ d = none ∧ ans D x ∧ ∀ H', Ex H1 H' → Q (.str x) H'
theorem pe_callE {X : Cx} {p : Addr × Obj} {k : Nat} {f : Addr} {fd : FuncData} {x y : Str} {ans : Addr → Str → Prop} {cls : Value} {d : Option Addr} {e : Expr} {q pos : Pos} {t : TA} (F : FnE X.prog X.w X.K X.mg X.base k f fd y ans) (hr : L2H.RoomH k X.A) (hot : L2H.Hot1 X.A p) (hp : p ∈ X.pn)
    (hg : Gl X x) (hm : X.mg x = some (.ref f)) (hk : PySem.W.keepIn X.K (.ref f) = true) (hb : Binds X.K fd [y] []) (hz : Zc cls d p.2) (ha : PA X [e] t)
    (hdb : (x == ("__debug__" : Str)) = false := by decide) (he : starEach [e] X.env = (false, eval e X.env) :: starEach [] X.env := by rfl) (hpl : (backTo pos (starEach [] X.env)).any (·.1) = false := by rfl) :
    PE X (.Call (.Name x q) [e] [] pos) (tErr p.1 cls d ans t) := by
  constructor
  intro pins s σ H Q I h
  refine wpAny_Call_Name_kw (ld_glob I hg hm ?_ hdb)
  refine PySem.W.callWith_K (h₀ := X.base) I.ok.mod.kin hk (thn (ha.run pos pins s σ H _ I h) fun us t1 w1 => ?_) he hpl
  obtain ⟨vs, H1, I1, r, rfl, D, ex, rfl, rfl, hans, hQ⟩ := w1
  refine ⟨I1.kIn, ?_⟩
  cases r with
  | cons r1 rr =>
    cases rr
    cases r1
    have P1 := I1.pin p (List.mem_append_left _ hp)
    have pin : L2H.PinOk X.stack H1 t1 p := ⟨P1.1, P1.2.1, fun hm => (List.mem_cons.mp (I1.stkSub p.1 hm)).elim P1.2.2.1 P1.2.2.2.1, P1.2.2.2.2⟩
    have b := hb t1 [.ref p.1] I1.kIn rfl
    rw [List.append_nil] at b
    refine wpAny_call (codeAny_mono (F.run X.A X.stack t1 H1 p D ex Q (fun _ _ _ => False) hr hot pin hz hans I1.env0 b hQ) fun r s' hq => ?_)
    cases r with
    | error e => exact hq.elim
    | ok fl =>
      cases fl with
      | ret u => exact I1.after hq
      | _ => exact hq.elim
theorem hot_suite {X : Cx} {a : Addr} {oe : Obj} {cls : Value} {d : Option Addr} {pn : List (Addr × Obj)} (hz : L2N.Zn cls d oe) (hv : ∃ vs, oe.data = .fields vs) : L2H.Hot1 (X.suite a ((a, oe) :: pn)).A (a, oe) := by
  obtain ⟨vs, e⟩ := hv
  exact ⟨rfl, vs, e, hz.2.2 vs e⟩
theorem takesF {X : Cx} : L2N.Takes X (fun _ _ _ _ => False) := fun u s' x => by
  obtain ⟨_, _, _, _, _, _, _, _, _, _, _, _, _, _, _, _, z⟩ := x
  exact z.elim
theorem passN {X : Cx} {E : XK} (tk : L2N.Takes X (fun cls d _ H => E cls d H)) : Passes (L2N.CX X.prog X.w) X E := L2N.passes_call tk fun _ _ _ _ h => h

/-! ### defs that raise where nothing is handled -/
section
variable {P : Program} {w : World} {K : PySem.W.Frag} {mg : Str → Option Value} {base : Heap}
theorem fn_okN {x qual : Str} {st : Stmt} {f : Addr} {fd : FuncData} {N ps : List Str} {k : Nat} (F0 : Fun K x qual st f fd) (Sc : FnScope N ps (defScope st)) (c : Con) (hl : ∀ a, c.pre a → (c.args a).length = ps.length) (hN : ps.length ≤ N.length)
    (hb : ∀ (cdv : Value) (A : Around) (outer : List Env) (s : Shared) (H : Hp) (E : XK), Room k (A.deeper (envOfC qual (defScope st) s.heap.objs.size f cdv)) →
      ∃ t, PSs (cxOf (L2N.CX P w) P w K mg base N qual (defScope st) f cdv A outer s H E) (defBody st) t ∧ ∀ (B S0 : Hp) (a : c.α), c.pre a → Wp ⟨K, B, S0, E, c.exc a⟩ t (entry N (c.args a)) (fun _ => c.post a (.d .none)) (fun r _ => r.back = true ∧ c.post a r) (fun _ => False) (fun _ => False)) :
    FnOk P w K mg base (L2N.CX P w) (k + 1) f fd ps (spP K c) := by
  obtain ⟨oc, od, kV, doc, pm, an, cdv, ct, osl, rfl, lk, hcd⟩ := F0.ex
  refine fn_of lk hcd Sc (fun vs H Q E ⟨S, a, _, h2, h3, _⟩ => by rw [h2.len]; exact hl a h3) fun A outer s H vs Q E hr ⟨S, a, h1, h2, h3, h4, h5⟩ => ?_
  obtain ⟨t, ht, hw⟩ := hb cdv A outer s H E hr
  refine ⟨t, ht, ?_⟩
  let Fz : Fx := ⟨K, H, S, E, c.exc a⟩
  let z : Z := ⟨S, H, fun _ => none⟩
  have hz : ZOk Fz z := ⟨h1, Ex.refl _, Ex.refl _, (fun _ _ e => nomatch e), fun _ _ _ => rfl⟩
  refine hw H S a h3 z (L2.start N vs) _ (fun z' C hz' hc => h5 C z'.H hc hz'.base) hz (entry_ok (F := Fz) (z := z) h2 (by rw [hl a h3]; exact hN)) ⟨fun Γ σ z' p e hz' hs' => ?_, fun v r Γ σ z' p e hz' hs' hv => ?_, fun _ _ _ e => e.elim, fun _ _ _ e => e.elim⟩
  · exact h4 .non (.d .none) z'.S z'.H p e hz'.sub hz'.base hz'.fresh Dt.non
  · exact h4 v r z'.S z'.H p.2 e hz'.sub hz'.base hz'.fresh (back_vn hz' hv p.1)
end
section
variable {F : Fx} {Γ : List Sl} {nx bk ct : List Sl → Prop} {rt : Sl → List Sl → Prop}
theorem wp_raise {C : Addr} (h : F.px C) : Wp F (fun _ _ H => F.E (.ref C) none H) Γ nx rt bk ct := fun z σ D hF hz _ _ => hF z C hz h
/-- try: f(..); except R as n: return g(n) -/
theorem wp_try {c : Con} {tA : TA} {R : Addr} {i : Nat} {ans : Addr → Str → Prop} {W0 : WX} (b : c.α) (hA : EvA F tA Γ (c.args b)) (hp : (c.args b).all Sl.pass = true) (hpre : c.pre b) (hi : i < Γ.length) (hk : ∀ r, c.post b r → nx Γ)
    (hx : ∀ C, c.exc b C → PySem.W.exmOne F.K (.ref C) (.ref R) = some true ∧ ∃ x, ans C x ∧ ∀ Γ', rt (.d (.str x)) Γ') :
    Wp F (fun D σ H => tDrop (tCallS (spP F.K c) (WE (wAs F.K (.ref R) i (fun a cls d => tRet (tErr a cls d ans (tCons (tVar i) tNil))) W0 D)) tA) D σ H) Γ nx rt bk ct := fun z σ D hF hz hs r =>
  hA z σ _ hz hs fun vs z1 a1 hz1 hv => by
    refine ⟨z1.S, b, hz1.sub, hv.pass hp, hpre, fun v s S' H' hr e1 e2 e3 e4 hn => ?_, fun C H' hc e => ?_⟩
    · obtain ⟨hz2, a2⟩ := call_after hz1 e1 e2 e3 e4
      exact r.nx Γ σ ⟨S', H', z1.own⟩ (hk s hr) (a1.trans a2).s hz2 ((hs.add a1).add a2)
    · obtain ⟨em, x, hans, hrt⟩ := hx C hc
      refine ⟨true, em, fun _ a _ => ?_, fun q => nomatch q⟩
      have hl : i < σ.length := by rw [← hs.len]; exact hi
      refine ⟨.ref a, List.getElem?_set_self hl, rfl, C, x, rfl, rfl, hans, fun H2 e2 => ?_⟩
      obtain ⟨hz2, a2⟩ := call_after (S' := z1.S) (H' := H2) hz1 (Ex.refl _) (hz1.sub.trans (e.trans e2)) (e.trans e2) fun _ _ _ => rfl
      exact r.rt (.str x) (.d (.str x)) Γ σ ⟨z1.S, H2, z1.own⟩ (hrt Γ) (a1.trans a2).s hz2 ((hs.add a1).add a2) (.str x)
end
theorem _root_.L2H.RoomH.units {k : Nat} {A : Around} (r : L2H.RoomH k A) : A.units + 64 < cLine := by have := r.un; omega
theorem roomE {k j : Nat} {A : PySem.Around} {v : Option Value} (r : Room j A) (h : k ≤ j) : L2H.RoomH k (A.mark v) := ⟨(r.mono h).dp, (r.mono h).un⟩
theorem pe_callA {X : Cx} {a : Addr} {oe : Obj} {k j : Nat} {f : Addr} {fd : FuncData} {x y : Str} {ans : Addr → Str → Prop} {cls : Value} {d : Option Addr} {e : Expr} {q pos : Pos} {t : TA} {pn : List (Addr × Obj)} (F : FnE X.prog X.w X.K X.mg X.base k f fd y ans) (hr : Room j X.A) (hkj : k ≤ j)
    (hz : L2N.Zn cls d oe) (hv : ∃ vs, oe.data = .fields vs) (hg : Gl (X.suite a ((a, oe) :: pn)) x) (hm : X.mg x = some (.ref f)) (hk : PySem.W.keepIn X.K (.ref f) = true) (hb : Binds X.K fd [y] []) (ha : PA (X.suite a ((a, oe) :: pn)) [e] t)
    (hdb : (x == ("__debug__" : Str)) = false := by decide) (he : starEach [e] X.env = (false, eval e X.env) :: starEach [] X.env := by rfl) (hpl : (backTo pos (starEach [] X.env)).any (·.1) = false := by rfl) :
    PE (X.suite a ((a, oe) :: pn)) (.Call (.Name x q) [e] [] pos) (tErr a cls d ans t) :=
  pe_callE (X := X.suite a ((a, oe) :: pn)) (p := (a, oe)) (cls := cls) (d := d) F (roomE hr hkj) (hot_suite hz hv) (List.mem_cons_self ..) hg hm hk hb hz.zc ha hdb he hpl
end GL
/-! GLq: comprehensions whose items change what slots own; append and other methods with such arguments; a call of a def that is picked out of a list -/
namespace GL
open PySem PySem.Spec PyProof.Rows L2
section
variable {F : Fx} {Γ Γ1 : List Sl} {te ti ta tb : TE} {tA : TA} {nx bk ct : List Sl → Prop} {rt : Sl → List Sl → Prop} {ds : List PyData} {x s s0 : Sl} {i : Nat} {d : PyData} {g : TG} {wi : TI}
theorem Acc.ext {D : Addr} {accD : List PyData} {z z2 : Z} (h : Acc F D accD z) (a : Ext z z2) (hz2 : ZOk F z2) : Acc F D accD z2 := by
  obtain ⟨_, h1, h2, h3, acc, h4, h5⟩ := h
  have w := a.h _ _ h4 h3
  exact ⟨hz2, w.2.2.trans h1, h2, w.2.1, acc, w.1, h5.mono a.s⟩
/-- from z to z2, but for what stands at D; slots' own may change -/
structure AdvX (D : Addr) (z z2 : Z) : Prop where
  s : Ex z.S z2.S
  h : ∀ a o, a ≠ D → z.H a = some o → z.own a = none → z2.H a = some o ∧ z2.own a = none ∧ z2.S a = z.S a
  dom : ∀ a, z2.H a = none → z.H a = none
theorem AdvX.refl {D : Addr} (z : Z) : AdvX D z z := ⟨Ex.refl _, fun a o _ h n => ⟨h, n, rfl⟩, fun _ h => h⟩
theorem AdvX.trans {D : Addr} {x y z : Z} (a : AdvX D x y) (b : AdvX D y z) : AdvX D x z :=
  ⟨a.s.trans b.s, fun c o q h n =>
    have u := a.h c o q h n
    have v := b.h c o q u.1 u.2.1
    ⟨v.1, v.2.1, v.2.2.trans u.2.2⟩, fun c h => a.dom c (b.dom c h)⟩
theorem AdvX.of {D : Addr} {z z2 : Z} (a : Ext z z2) : AdvX D z z2 := ⟨a.s, fun c o _ h n => a.h c o h n, a.dom⟩
theorem AdvX.push {D : Addr} {z : Z} {o o2 : HO} (h : z.H D = some o) : AdvX D z ⟨z.S, upd z.H D o2, z.own⟩ :=
  ⟨Ex.refl _, fun a u q e n => ⟨(upd_ne q).trans e, n, rfl⟩, fun a e => by
    by_cases q : a = D
    · subst q; exact nomatch (upd_same.symm.trans (show upd z.H a o2 a = none from e))
    · exact (upd_ne q).symm.trans e⟩
theorem AdvX.out {D : Addr} {z0 z2 : Z} (hD : z0.H D = none) (a : AdvX D (z0.tmp D (.lst [])) z2) : Ext z0 z2 := by
  refine ⟨a.s, fun p o e n => ?_, fun p e => ?_⟩
  · have ne : p ≠ D := ne_of_none e hD
    exact a.h p o ne ((upd_ne ne).trans e) n
  · have w := a.dom p e
    by_cases q : p = D
    · subst q; exact hD
    · exact (upd_ne q).symm.trans w
theorem SOk.unwipe {z : Z} {σ : L2.St} {vs : List Nat} (hs : SOk F z (wipe σ vs) Γ) : SOk F z σ Γ := by
  refine ⟨by rw [hs.len, wipe_length], fun i s e => (hs.at_ i s e).elim .inl fun ⟨v, h1, h2⟩ => .inr ⟨v, ?_, h2⟩⟩
  rw [wipe_get] at h1
  split at h1
  · split at h1 <;> simp at h1
  · exact h1
/-- [e for t in xs], e may change what slots own -/
theorem wpe_lc {k : Sl → List Sl → Prop} {vs : List Nat} (hg : Gvs vs g) (hm : ∀ v σ H Q Q', (∀ σ' H', Q σ' H' → Q' σ' H') → g v σ H Q → g v σ H Q') (h : WpI F wi Γ fun items Γ' => items.length < sizeLine ∧ ∃ I : Nat → List PyData → List Sl → Prop, I 0 [] Γ' ∧
    (∀ i d acc Γ1, items[i]? = some d → I i acc Γ1 → ∃ Γ2, GTo F g d (wipeS Γ1 vs) Γ2 ∧ WpE F te Γ2 fun s Γ3 => ∃ x, s = .d x ∧ I (i + 1) (acc ++ [x]) (wipeS Γ3 vs)) ∧ ∀ acc Γ1, acc.length = items.length → I items.length acc Γ1 → k (.lst acc) Γ1) :
    WpE F (tLc wi g tYes te vs) Γ k := fun z σ Q hF hz hs c =>
  h z σ _ hF hz hs fun J items Γ' z1 ⟨hl, I, i0, hst, hd⟩ a1 hz1 hs1 hy D hD => by
    refine ⟨fun i m H => ∃ z2 accD Γ2, H = z2.H ∧ AdvX D (z1.tmp D (.lst [])) z2 ∧ Acc F D accD z2 ∧ SOk F z2 σ Γ2 ∧ accD.length = i ∧ i ≤ items.length ∧ I i accD Γ2 ∧ m = items.length - i, ⟨items.length, z1.tmp D (.lst []), [], Γ', rfl, AdvX.refl _, Acc.new hz1 hD, hs1.add (Add.tmp hD), rfl, Nat.zero_le _, i0, rfl⟩, ?_⟩
    rintro i m H ⟨z2, accD, Γ2, rfl, ad, hA, s2, el, hle, hI, em⟩
    have hz2 := hA.1
    obtain ⟨yg, ys⟩ := hy z2 ad.s hz2 i
    cases q : items[i]? with
    | none =>
      have hlen := List.getElem?_eq_none_iff.mp q
      have ei : i = items.length := Nat.le_antisymm hle hlen
      subst ei
      obtain ⟨_, w1, w2, w3, acc, w4, w5⟩ := hA
      exact .inl ⟨ys hlen, c _ (.lst accD) Γ2 z2 (hd accD Γ2 el hI) (a1.trans (ad.out hD)) hz2 s2 ⟨D, acc, rfl, w4, w3, w1, w2, w5⟩ ⟨D, rfl, a1.dom D hD⟩⟩
    | some d =>
      have hlen := (List.getElem?_eq_some_iff.mp q).1
      obtain ⟨go, yl⟩ := yg d q
      obtain ⟨Γ3, hG1, hE⟩ := hst i d accD Γ2 q hI
      refine .inr ⟨go, fun H' => ∃ z2 accD Γ2, H' = z2.H ∧ AdvX D (z1.tmp D (.lst [])) z2 ∧ Acc F D accD z2 ∧ SOk F z2 σ Γ2 ∧ accD.length = i + 1 ∧ I (i + 1) accD Γ2, ?_, ?_⟩
      · rintro H' ⟨z3, accD3, Γ3, w1, w2, w3, w4, w5, w6⟩
        exact ⟨items.length - (i + 1), by omega, z3, accD3, Γ3, w1, w2, w3, w4, w5, hlen, w6, rfl⟩
      intro x H' hx
      obtain ⟨z3, rfl, a3, hz3, dx⟩ := yl x H' hx
      have hG := hg x (wipe σ vs) z3.H
      rw [wipe_wipe] at hG
      have key : g x (wipe σ vs) z3.H fun σ' H' => wipe σ' vs = wipe σ vs ∧ SOk F z3 σ' Γ3 ∧ H' = z3.H := by
        refine hG _ ?_
        refine hG1 z3 (wipe σ vs) x _ hz3 (wipeS_ok (s2.add a3) vs) dx fun σ4 hs4 => ⟨hs4, rfl⟩
      refine hm _ _ _ _ _ (fun σ4 H4 w => ?_) key
      obtain ⟨ew, hs4, rfl⟩ := w
      refine ⟨ew, ?_⟩
      show tYes σ4 z3.H _
      refine (show ∀ {P : Bool → Hp → Prop}, P true z3.H → tYes σ4 z3.H P from fun h => h) ?_
      rw [if_pos rfl]
      obtain ⟨acc0, hD0⟩ : ∃ acc, z2.H D = some (.lst acc) := let ⟨_, _, _, _, acc, w, _⟩ := hA; ⟨acc, w⟩
      have hA3 := hA.add a3 hz3
      refine hE z3 σ4 _ hF hz3 hs4 fun u s Γ5 z5 ⟨y, es, hI5⟩ e5 hz5 hs5 hu _ => ?_
      subst es
      have hA5 := hA3.ext e5 hz5
      obtain ⟨_, _, _, oD, acc, hD5, hd5⟩ := id hA5
      obtain ⟨hP, hQ⟩ := hA5.push hD5 hu
      have s5 : SOk F z5 σ (wipeS Γ5 vs) := by
        have := wipeS_ok hs5 vs
        rw [ew] at this
        exact this.unwipe
      refine ⟨acc, hD5, by rw [hd5.len, el]; omega, ⟨z5.S, upd z5.H D (.lst (acc ++ [u])), z5.own⟩, accD ++ [y], wipeS Γ5 vs, rfl, ((ad.trans (AdvX.of a3.ext)).trans (AdvX.of e5)).trans (AdvX.push hD5), hP, s5.adv hQ oD, by rw [List.length_append, el]; rfl, hI5⟩

/-! ### what a value on its way holds is changed no more -/
theorem SOk.shared {z : Z} {σ : L2.St} {p : Addr} {o : HO} (hs : SOk F z σ Γ) (h1 : z.own p = none) (h2 : z.S p = none) : SOk F ⟨upd z.S p o, z.H, z.own⟩ σ Γ := by
  have e1 : Ex z.S (upd z.S p o) := Ex.upd h2
  refine ⟨hs.len, fun j s' e => (hs.at_ j s' e).elim .inl fun ⟨w, w1, h2⟩ => .inr ⟨w, w1, ?_⟩⟩
  have ho : ∀ {a : Addr}, z.own a = some j → a ≠ p := fun {a} w q => by subst q; rw [h1] at w; cases w
  cases s' with
  | un => exact h2
  | d x => exact Dt.mono e1 h2
  | raw u => exact h2
  | lst ds => obtain ⟨a, xs, e, q1, q2, q3, q4, q5⟩ := h2; exact ⟨a, xs, e, q1, q2, (upd_ne (ho q2)).trans q3, q4, q5.mono e1⟩
  | bor ds => exact nomatch h2.1
  | bK ds => exact nomatch h2.1
  | bT ds => exact nomatch h2.1
  | src a ds => obtain ⟨xs, e, q1, q2, q3, q4, q5⟩ := h2; exact ⟨xs, e, q1, q2, (upd_ne (ho q2)).trans q3, q4, q5.mono e1⟩
  | dK ds => obtain ⟨a, xs, e, q1, q2, q3, q4, q5⟩ := h2; exact ⟨a, xs, e, q1, q2, (upd_ne (ho q2)).trans q3, q4, q5.mono e1⟩
  | dT ds => obtain ⟨a, xs, e, q1, q2, q3, q4, q5⟩ := h2; exact ⟨a, xs, e, q1, q2, (upd_ne (ho q2)).trans q3, q4, q5.mono e1⟩
  | sK ds => obtain ⟨a, xs, e, q1, q5⟩ := h2; exact ⟨a, xs, e, e1 _ _ q1, q5.mono e1⟩
  | sT ds => obtain ⟨a, xs, e, q1, q5⟩ := h2; exact ⟨a, xs, e, e1 _ _ q1, q5.mono e1⟩
  | sq ds => obtain ⟨a, xs, e, q1, q5⟩ := h2; exact ⟨a, xs, e, ex_l e1 q1, q5.mono e1⟩
theorem wpe_share {k : Sl → List Sl → Prop} (h : WpE F te Γ fun s Γ' => ∃ ds, s = .lst ds ∧ k (.d (.list ds)) Γ') : WpE F te Γ k := fun z σ Q hF hz hs c =>
  h z σ Q hF hz hs fun v s Γ' z' ⟨ds, es, hk⟩ e hz' hs' hv hn => by
    subst es
    obtain ⟨p, xs, e1, q1, q2, q3, q4, q5⟩ := hv
    obtain ⟨p', e', hp⟩ := hn
    obtain rfl : p = p' := V.ref.inj (e1.symm.trans e')
    have x1 : Ex z'.S (upd z'.S p (.lst xs)) := Ex.upd q3
    refine c v _ Γ' ⟨upd z'.S p (.lst xs), z'.H, z'.own⟩ hk ⟨e.s.trans x1, fun a o ha n => ?_, e.dom⟩ ⟨fun b u hb => ?_, hz'.base, hz'.s0.trans x1, fun b i hb => ?_, fun b u hb => ?_⟩ (hs'.shared q2 q3) ?_ trivial
    · have w := e.h a o ha n
      exact ⟨w.1, w.2.1, (upd_ne (ne_of_none ha hp)).trans w.2.2⟩
    · by_cases hq : b = p
      · subst hq; exact (q1.trans (upd_same.symm.trans hb))
      · exact hz'.sub _ _ (by rw [← hb]; exact (upd_ne hq).symm)
    · have hq : b ≠ p := fun q => by subst q; rw [show z'.own b = some i from hb] at q2; cases q2
      obtain ⟨w1, w2, w3⟩ := hz'.own b i hb
      exact ⟨(upd_ne hq).trans w1, w2, w3⟩
    · have hq : b ≠ p := fun q => by subst q; rw [q4] at hb; cases hb
      exact (upd_ne hq).trans (hz'.fresh b u hb)
    · subst e1; exact Dt.lst upd_same (q5.mono x1)
/-! ### methods and stores with such arguments -/
theorem wp_appendW (hi : Γ[i]? = some (.lst ds)) (h : WpE F te Γ fun s Γ' => ∃ (y : PyData) (es : List PyData), s = .d y ∧ Γ'[i]? = some (.lst es) ∧ es.length < sizeLine ∧ nx (Γ'.set i (.lst (es ++ [y])))) : Wp F (tDrop (tBM F.K "list" rAppend (tVar i) (tCons te tNil))) Γ nx rt bk ct := fun z σ D hF hz hs r => by
  obtain ⟨v, h1, p, xs, rfl, q1, q2, q3, q4, q5⟩ := (hs.at_ i _ hi).resolve_left (fun e => nomatch e)
  refine ⟨_, h1, .inl ⟨rfl, xs, SqL.of q1⟩, h z σ _ hF hz hs fun u s Γ' z1 ⟨y, es, e0, hi', hl, hk⟩ e1 hz1 hs1 hu _ => ?_⟩
  subst e0
  obtain ⟨v', h1', p', xs', rfl, r1, r2, r3, r4, r5⟩ := (hs1.at_ i _ hi').resolve_left (fun e => nomatch e)
  rw [h1] at h1'
  cases h1'
  obtain ⟨hz3, hs3, x3⟩ := mut_at hz1 hs1 hi' h1 r1 r2 r3 r4 z1 (Add.refl z1) hz1 (.lst (xs' ++ [u])) (s1 := .lst (es ++ [y])) fun z' e1 e2 e3 e4 => ⟨p, _, rfl, e1, e2, e3, r4, by rw [e4]; exact r5.app (.cons hu .nil)⟩
  exact ⟨p, xs', u, rfl, rfl, r1, by rw [r5.len]; exact hl, r.nx _ _ _ hk (e1.s.trans x3.s) hz3 hs3⟩
abbrev rIns : V → List V → Hp → VK → Prop := fun x vs H Q => ∃ (l : Addr) (xs : List V) (i : Int) (y : V), x = .ref l ∧ vs = [.int i, y] ∧ H l = some (.lst xs) ∧ xs.length < sizeLine ∧ 0 ≤ i ∧ i < 2 ^ 63 ∧ Q .non (upd H l (.lst (xs.take i.toNat ++ [y] ++ xs.drop i.toNat)))
theorem wp_insert {j : Int} (hi : Γ[i]? = some (.lst ds)) (h1 : EvS F ti Γ (.d (.int j))) (h : EvS F te Γ (.d d)) (h0 : 0 ≤ j) (hj : j < 2 ^ 63) (hl : ds.length < sizeLine) (q : nx (Γ.set i (.lst (ds.take j.toNat ++ [d] ++ ds.drop j.toNat)))) :
    Wp F (tDrop (tBM F.K "list" rIns (tVar i) (tCons ti (tCons te tNil)))) Γ nx rt bk ct := fun z σ D hF hz hs r => by
  obtain ⟨p, xs, g1, q1, q2, q3, q4, q5, mu⟩ := mut_own hz hs hi (show Sl.ownL (.lst ds) = some ds from rfl)
  refine ⟨_, g1, .inl ⟨rfl, xs, SqL.of q1⟩, h1 z σ _ hz hs fun w z0 a0 hz0 hw _ => h z0 σ _ hz0 (hs.add a0) fun v z1 a1 hz1 hv _ => ?_⟩
  have a := a0.trans a1
  have p1 := a.h p _ q1
  obtain ⟨hz3, hs3, x3⟩ := mu z1 a hz1 (xs.take j.toNat ++ [v] ++ xs.drop j.toNat) (ds.take j.toNat ++ [d] ++ ds.drop j.toNat) (DtAll.app (DtAll.app ((q5.mono a.s).take _) (.cons hv .nil)) ((q5.mono a.s).drop _))
  exact ⟨p, xs, j, v, rfl, by rw [hw.d_int], p1.1, by rw [q5.len]; exact hl, h0, hj, r.nx _ _ _ q x3.s hz3 hs3⟩
theorem wp_setLW (h : WpE F te Γ fun s Γ' => ∃ (y : PyData) (s0 : Sl) (es : List PyData) (j : Int) (n : Nat), s = .d y ∧ Γ'[i]? = some s0 ∧ s0.ownL = some es ∧ EvS F ti Γ' (.d (.int j)) ∧ ixN es.length j = some n ∧ nx (Γ'.set i (s0.withL (es.set n y)))) : Wp F (tAsg te (gSub (tVar i) ti rSetL)) Γ nx rt bk ct := fun z σ D hF hz hs r => by
  refine h z σ _ hF hz hs fun v s Γ' z1 ⟨y, s0, es, j, n, e0, hi, ho, hj, hn, q⟩ e1 hz1 hs1 hv _ => ?_
  subst e0
  obtain ⟨p, xs, g1, q1, q2, q3, q4, q5, mu⟩ := mut_own hz1 hs1 hi ho
  refine ⟨_, g1, hj z1 σ _ hz1 hs1 fun u z2 a2 hz2 hu _ => ?_⟩
  have p1 := a2.h p _ q1
  obtain ⟨hz3, hs3, x3⟩ := mu z2 a2 hz2 (xs.set n v) (es.set n y) ((q5.mono a2.s).set (hv.add a2) n)
  exact ⟨p, xs, j, n, rfl, hu.d_int, p1.1, by rw [q5.len]; exact hn, r.nx _ _ _ q (e1.s.trans x3.s) hz3 hs3⟩
theorem evs_revL (h : EvS F te Γ x) (hx : x.asL = some ds) : EvS F (tRevL F.K te) Γ (.lst ds.reverse) := fun z σ Q hz hs c =>
  h z σ _ hz hs fun v z1 a1 hz1 hv _ => by
    obtain ⟨a, xs, rfl, h1, h2⟩ := hv.asL hz1 hx
    exact ⟨a, xs, rfl, SqL.of h1, fun p hp => c _ (z1.tmp p _) (a1.trans (Add.tmp hp)) (hz1.tmp hp) (VOk.tmp_lst hz1 hp h2.rev) ⟨p, rfl, a1.dom p hp⟩⟩
end
/-! ### xs[a:b] = ys, b behind the end too -/
section
variable {prog : Program} {w : World} {A : Around} {E : Value → Shared → Prop} {s : Shared}
theorem bounds_cut {a c n : Nat} (ha : a ≤ n) (hac : a ≤ c) : sliceBounds (some (a : Int)) (some (c : Int)) none n = ((a : Int), ((min c n : Nat) : Int), 1) := by
  simp only [sliceBounds, Option.getD_none]
  have g1 : ¬ ((a : Int) < 0) := by omega
  have g2 : ¬ ((c : Int) < 0) := by omega
  simp only [g1, g2, if_false, show (1 : Int) > 0 by decide, if_true]
  congr 1
  · omega
  · congr 1; omega
theorem setItem_cut {l b sl : Addr} {its new : Array Value} {n n2 : Nat} {vl vu : Value} {a c : Nat} {Q : Unit → Shared → Prop}
    (e : s.heap.get? l = some { cls := .type "list", data := .seq its n }) (e2 : s.heap.get? b = some { cls := .type "list", data := .seq new n2 }) (hne : l ≠ b)
    (hs : s.heap.IsSliceOf sl vl vu .none) (pl : IsPart vl (some (a : Int))) (pu : IsPart vu (some (c : Int))) (ha : a ≤ its.size) (hac : a ≤ c) (hsz : its.size + new.size ≤ sizeLine)
    (h : Q () { s with heap := s.heap.update l (Obj.mapSeq fun xs => xs.extract 0 a ++ new ++ xs.extract (min c its.size) xs.size) }) :
    wpAny (model prog w) A (setItem (.ref l) (.ref sl) (.ref b)) Q E s := by
  have yl : s.heap.IsList l its := PySem.IsL.isList e
  have yb : s.heap.IsList b new := PySem.IsL.isList e2
  obtain ⟨os, hos, hcs, hds⟩ := id hs
  have yT : s.TypeIs (.ref sl) "slice" := ⟨os, hos, hcs⟩
  have same : Builtin.List.listSameRef (.ref l) (.ref b) = false := beq_eq_false_iff_ne.mpr hne
  have top : (max (a : Int) ((min c its.size : Nat) : Int)).toNat = min c its.size := by omega
  have room : ((fun xs : Array Value => xs.extract 0 a ++ new ++ xs.extract (min c its.size) xs.size) its).size ≤ sizeLine + 1 := by
    simp only [Array.size_append, Array.size_extract]; omega
  unfold setItem
  try with_reducible refine wpAny_holding ?_
  first | refine wpAny_bind (wpAny_pure ?_) | skip
  refine wpAny_bind (wpAny_sequenceKey yl.typeIs (by decide) ?_)
  refine wpAny_bind (wpAny_callSpecial?_slot (name := Str.ofString "__setitem__") yl.typeIs slot_list_setitem (wpAny_call_entry slot_list_setitem yl.typeIs entry_list_setitem ?_ (args_list_setitem _ _ _)))
  show wpAny _ _ (Builtin.List.listSubscript? (.ref sl) >>= _) _ _ s
  refine wpAny_bind ?_
  unfold Builtin.List.listSubscript?
  refine wpAny_bind (wpAny_specialOf yT slice_no_index ?_)
  simp only [Option.isNone_none, if_true]
  refine wpAny_pure ?_
  show wpAny _ _ (typeOf (.ref sl) >>= _) _ _ s
  refine wpAny_bind (wpAny_typeOf yT ?_)
  first | rw [if_neg (by decide)] | refine PySem.W.KFB.if_not (by decide) ?_
  rw [listSliceParts_eq]
  refine wpAny_bind (wpAny_bind (wpAny_field hos hds (x := .none) rfl (wpAny_bind (wpAny_listPart .none ?_))))
  rw [if_neg (show ¬ ((rawPart none == rawInt 0) = true) from Bool.false_ne_true)]
  refine wpAny_bind (wpAny_field hos hds (x := vl) rfl (wpAny_bind (wpAny_listPart pl ?_)))
  refine wpAny_bind (wpAny_field hos hds (x := vu) rfl (wpAny_bind (wpAny_listPart pu (wpAny_pure ?_))))
  first
    | simp only [same, Bool.false_eq_true, if_false]
    | refine PySem.W.KFB.if_not same ?_
    | (dsimp only; rw [if_neg (by rw [same]; exact Bool.false_ne_true)])
  refine wpAny_bind (m := Builtin.List.listAllItems (.ref b) "must assign iterable to extended slice") ?_
  unfold Builtin.List.listAllItems
  refine wpAny_bind (wpAny_typeOf yb.typeIs ?_)
  first | refine PySem.W.KFB.if_so (by decide) ?_ | rw [if_pos (by decide)]
  unfold Builtin.List.listItems
  refine wpAny_bind (wpAny_seqItems e2 rfl (wpAny_pure ?_))
  refine wpAny_bind (wpAny_bind (wpAny_seqItems e rfl (wpAny_pure ?_)))
  refine wpAny_bind (wpAny_of_eq ((sliceIndices_raw (some (a : Int)) (some (c : Int)) none its.size (by simp)).trans (congrArg (pure : Int × Int × Int → Sem (Int × Int × Int)) (bounds_cut ha hac))) ?_)
  show wpAny _ _ (if ((1 : Int) == 1) = true then _ else _) _ _ s
  rw [if_pos (by decide)]
  refine wpAny_bind (wpAny_rule ?_)
  first | simp only [notLongL hsz, Bool.false_eq_true, if_false] | refine PySem.W.KFB.if_not (notLongL hsz) ?_
  first | refine wpAny_bind (wpAny_pure ?_) | skip
  show wpAny _ _ (updateSeq l (fun xs => xs.extract 0 ((a : Int)).toNat ++ new ++ xs.extract (max (a : Int) ((min c its.size : Nat) : Int)).toNat xs.size) >>= _) _ _ s
  rw [top, Int.toNat_natCast]
  refine wpAny_bind (wpAny_updateSeq (hz := Nat.le_trans (Nat.le_add_right _ _) hsz) (_hz' := room) e rfl ?_)
  refine wpAny_bind (wpAny_letGo ?_)
  first | exact wpAny_bind (wpAny_pure (wpAny_pure ⟨.none, rfl, wpAny_pure h⟩)) | exact wpAny_pure ⟨.none, rfl, wpAny_pure h⟩
end
def gSl (to : TE) (ta tb : TO) : TG := fun v σ H Q => to σ H fun o H1 => ta σ H1 fun a H2 => tb σ H2 fun b H3 => ∃ (l m : Addr) (xs ys : List V) (i j : Nat), o = .ref l ∧ v = .ref m ∧ l ≠ m ∧ H3 l = some (.lst xs) ∧ H3 m = some (.lst ys) ∧ a = some (i : Int) ∧ b = some (j : Int) ∧ i ≤ xs.length ∧ i ≤ j ∧
  xs.length + ys.length ≤ sizeLine ∧ Q σ (upd H3 l (.lst (xs.take i ++ ys ++ xs.drop j)))
theorem pg_sl {X : Cx} {o lo hi : Expr} {to : TE} {ta tb : TO} {p pos : Pos} (ho : PE X o to) (hl : PO X (some lo) ta) (hh : PO X (some hi) tb)
    (ha : ∀ v, assign (.Subscript o (.Slice (some lo) (some hi) none p) pos) X.env v = (do
      let ov ← holding [v] (eval o X.env)
      let iv ← holding [v, ov] (eval (.Slice (some lo) (some hi) none p) X.env)
      standAt pos
      holding [v, ov, iv] (setItem ov iv v)
      release [iv, v, ov] []) := by intro _; rfl) : PG X (.Subscript o (.Slice (some lo) (some hi) none p) pos) (gSl to ta tb) := by
  refine ⟨fun pins s σ H v u Q I r h => ?_⟩
  rw [ha]
  refine wpAny_bind (wpAny_holding (thn (ho.run pins s σ H _ I h) fun ov s1 ⟨x, H1, I1, r1, q1⟩ => ?_))
  refine wpAny_bind (wpAny_holding (wpAny_Slice (thn (hl.run pins s1 σ H1 _ I1 q1) fun vl s2 ⟨a, H2, I2, pl, q2⟩ => thn (hh.run pins s2 σ H2 _ I2 q2) fun vu s3 ⟨b, H3, I3, pu, q3⟩ => ?_)))
  obtain ⟨l, m, xs, ys, i, j, rfl, rfl, hne, e1, e2, rfl, rfl, hi1, hij, hz, q⟩ := q3
  cases r1
  cases r
  refine wpAny_pure ?_
  have I4 : Inv X pins σ H3 { s3 with heap := s3.heap.push { cls := .type "slice", data := .fields #[vl, vu, .none] } } := I3.kept (t' := s3.toks) fun b ob q => Heap.get?_push_of_some _ q
  refine wpAny_bind (wpAny_standAt (wpAny_bind (wpAny_holding ?_)))
  obtain ⟨z1, i1, n1, v1, g1, w1⟩ := I4.lstM e1
  obtain ⟨z2, i2, n2, v2, g2, w2⟩ := I4.lstM e2
  have zl : i1.toArray.size = xs.length := by rw [List.size_toArray]; exact g1.symm
  refine setItem_cut w1 w2 hne ⟨_, Heap.get?_push_size _ rfl, rfl, rfl⟩ pl pu (by rw [zl]; exact hi1) hij (by rw [zl, List.size_toArray, ← g2]; exact hz) ?_
  have I5 : Inv X pins σ (upd H3 l (.lst (xs.take i ++ ys ++ xs.drop j))) _ := I4.lset (its' := i1.take i ++ i2 ++ i1.drop j) (t' := s3.toks) e1 w1 (f := fun xs => xs.extract 0 i ++ i2.toArray ++ xs.extract (min j i1.toArray.size) xs.size) ?_ (Vals.append (Vals.append (v1.take _) v2) (v1.drop _)) ?_
  · exact wpAny_release ⟨σ, _, I5, q⟩
  · have d : i1.drop (min j i1.length) = i1.drop j := by
      by_cases hq : j ≤ i1.length
      · rw [Nat.min_eq_left hq]
      · rw [Nat.min_eq_right (by omega), List.drop_eq_nil_of_le (Nat.le_refl _), List.drop_eq_nil_of_le (by omega)]
    have := splice_eq i1 i2 i (min j i1.length)
    rw [d] at this
    rw [← this, List.size_toArray]
  · rw [List.length_append, List.length_append, List.length_take, List.length_drop]
    omega
section
variable {F : Fx} {Γ : List Sl} {ta tb : TO} {k : List Sl → Prop} {ds es : List PyData} {i : Nat}
theorem wpg_sl {a b : Nat} (hi : Γ[i]? = some (.lst ds)) (ha : EvO F ta Γ (some (a : Int))) (hb : EvO F tb Γ (some (b : Int))) (h1 : a ≤ ds.length) (h2 : a ≤ b) (hz0 : ds.length + es.length ≤ sizeLine) (h : k (Γ.set i (.lst (ds.take a ++ es ++ ds.drop b)))) :
    WpG F (gSl (tVar i) ta tb) (.lst es) Γ k := fun z σ v Q hF hz hs hv c => by
  obtain ⟨p, xs, g1, q1, q2, q3, q4, q5, mu⟩ := mut_own hz hs hi (show Sl.ownL (.lst ds) = some ds from rfl)
  obtain ⟨m, ys, rfl, w1, w2, w3, w4, w5⟩ := hv
  have ne : p ≠ m := fun q => by subst q; rw [q3] at w2; cases w2
  refine ⟨_, g1, ha z σ _ hz hs fun z1 a1 hz1 => hb z1 σ _ hz1 (hs.add a1) fun z2 a2 hz2 => ?_⟩
  have aa := a1.trans a2
  have p1 := aa.h p _ q1
  obtain ⟨hz3, hs3, x3⟩ := mu z2 aa hz2 (xs.take a ++ ys ++ xs.drop b) (ds.take a ++ es ++ ds.drop b) (DtAll.app (DtAll.app ((q5.mono aa.s).take _) (w5.mono aa.s)) ((q5.mono aa.s).drop _))
  exact ⟨p, m, xs, ys, a, b, rfl, rfl, ne, p1.1, (aa.h m _ w1).1, rfl, rfl, by rw [q5.len]; exact h1, h2, by rw [q5.len, w5.len]; exact hz0, c _ _ _ h x3.s hz3 hs3⟩
end
end GL
/-! GLr: tuples times ints; a call of a def that is picked out of a list; try suites of several ways -/
namespace GL
open PySem PySem.Spec PyProof.Rows L2
/-! ### t * n -/
def rMulT (K : PySem.W.Frag) : R2 := fun x y H Q => rMulG x y H Q ∨ rRepT K x y H Q
theorem op_mulT {X : Cx} : OpR X (binaryOp .Mult) (rMulT X.K) := OpR.or op_mulG op_repT
section
variable {F : Fx} {x y s : Sl} {ds es : List PyData} {i j : Int}
theorem mulT_g (h : OpS F rMulG x y s) : OpS F (rMulT F.K) x y s := fun z v w Q hz hv hw c => .inl (h z v w Q hz hv hw c)
theorem mulT_tup (hne : ds ≠ []) (h1 : 2 ≤ i) (h2 : i ≤ 1000) (hl : ds.length ≤ 1000) : OpS F (rMulT F.K) (.d (.tuple ds)) (.d (.int i)) (.d (.tuple (List.replicate i.toNat ds).flatten)) := fun z v w Q hz hv hw c => by
  obtain ⟨a, xs, rfl, g1, _, g2⟩ := hv.asT hz rfl
  have e := g2.len
  exact .inr ⟨a, i, xs, rfl, hw.d_int, g1, fun q => hne (List.eq_nil_of_length_eq_zero (by rw [← e, q]; rfl)), h1, h2, by rw [e]; exact hl, fun p hp => c _ (z.sh p _) (Add.sh hz hp) (hz.sh hp) (VOk.sh_tup hz hp (g2.flat _)) trivial⟩
end
/-! ### a def picked out of a list -/
section
variable {F : Fx} {Γ : List Sl} {ti : TE} {tA : TA} {j : Int}
theorem vall_raw {z : Z} : ∀ {vs ws : List V}, VAll F z vs (ws.map Sl.raw) → vs = ws
  | _, [], .nil => rfl
  | _, w :: ws, .cons h t => by rw [vall_raw t, show _ = w from h]
theorem evs_pick {ws : List V} {w : V} (h : EvA F tA Γ (ws.map Sl.raw)) (hl : ws.length ≤ 100) (hi : EvS F ti Γ (.d (.int j))) (e : atI ws j = some w) : EvS F (tOp (rIx F.K) (tLst tA) ti) Γ (.raw w) := fun z σ Q hz hs c =>
  h z σ _ hz hs fun vs z1 a1 hz1 hv => by
    have ev := vall_raw hv
    subst ev
    refine ⟨by rw [sizeLine_eq]; omega, fun p hp => hi (z1.tmp p (.lst vs)) σ _ (hz1.tmp hp) ((hs.add a1).add (Add.tmp hp)) fun u z2 a2 hz2 hu _ => ?_⟩
    have e2 := a2.h p (.lst vs) upd_same
    exact .inl ⟨p, vs, j, w, rfl, hu.d_int, SqL.of e2.1, e, c w z2 (a1.trans ((Add.tmp hp).trans a2)) hz2 rfl trivial⟩
end
/-- a def that may be picked: its promise -/
def Cand (P : Program) (w : World) (K : PySem.W.Frag) (mg : Str → Option Value) (base : Heap) (CXx : CXT) (j : Nat) (f : Addr) (sp : Sp) : Prop := ∃ (fd : FuncData) (ps : List Str) (k : Nat), FnOk P w K mg base CXx k f fd ps sp ∧ k ≤ j ∧ PySem.W.keepIn K (.ref f) = true ∧ Binds K fd ps []
def tCallF (cs : List (Addr × Sp)) (E : L2.St → XK) (te : TE) (t : TA) : TE := fun σ H Q => te σ H fun x H1 => ∃ c ∈ cs, x = .ref c.1 ∧ t σ H1 fun vs H2 => c.2 vs H2 Q (E σ)
theorem pe_callF {X : Cx} {CXx : CXT} {j : Nat} {cs : List (Addr × Sp)} {E : L2.St → XK} {fe e : Expr} {es : List Expr} {pos : Pos} {te : TE} {t : TA} (hc : ∀ c ∈ cs, Cand X.prog X.w X.K X.mg X.base CXx j c.1 c.2) (hr : Room j X.A) (hx : ∀ σ, PassesAt CXx X σ (E σ)) (hf : PE X fe te) (ha : PA X (e :: es) t)
    (hcall : eval (.Call fe (e :: es) [] pos) X.env = (do callWith pos (← eval fe X.env) [] (backTo pos (starEach (e :: es) X.env)) (backToKw pos (keywordEach [] X.env))) := by rfl)
    (he : starEach (e :: es) X.env = (false, eval e X.env) :: starEach es X.env := by rfl) (hpl : (backTo pos (starEach es X.env)).any (·.1) = false := by rfl) :
    PE X (.Call fe (e :: es) [] pos) (tCallF cs E te t) := by
  refine ⟨fun pins s σ H Q I h => ?_⟩
  refine Call_ (thn (hf.run pins s σ H _ I h) fun u s1 ⟨x, H1, I1, r1, c, hm, ex, q⟩ => ?_) hcall
  subst ex
  cases r1
  obtain ⟨fd, ps, k, F, hk, kp, b⟩ := hc c hm
  refine PySem.W.callWith_K (h₀ := X.base) I1.ok.mod.kin kp (thn (ha.run pos pins s1 σ H1 _ I1 q) fun us s2 ⟨vs, H2, I2, r, q2⟩ => ⟨I2.kIn, ?_⟩) he hpl
  exact run_fnS F (hr.mono hk) b (hx σ) I2 r q2
def CandK (P : Program) (w : World) (K : PySem.W.Frag) (mg : Str → Option Value) (base : Heap) (CXx : CXT) (j n : Nat) (ks : List Str) (f : Addr) (sp : Sp) : Prop := ∃ (fd : FuncData) (ps : List Str) (k : Nat), FnOk P w K mg base CXx k f fd ps sp ∧ k ≤ j ∧ PySem.W.keepIn K (.ref f) = true ∧ KBn K fd ps n ks (· ++ ·) (· ++ ·)
/-- f(e, .., k = v) in a try suite -/
def tCallNS (n m : Nat) (sp : Sp) (E : L2.St → XK) (t tk : TA) : TE := fun σ H Q => t σ H fun vs H1 => tk σ H1 fun zs H2 => vs.length = n ∧ zs.length = m ∧ sp (vs ++ zs) H2 Q (E σ)
def tCallFK (n m : Nat) (cs : List (Addr × Sp)) (E : L2.St → XK) (te : TE) (t tk : TA) : TE := fun σ H Q => te σ H fun x H1 => ∃ c ∈ cs, x = .ref c.1 ∧ tCallNS n m c.2 E t tk σ H1 Q
section
variable {X : Cx} {CXx : CXT} {k j n : Nat} {f : Addr} {fd : FuncData} {ps ks : List Str} {sp : Sp} {E : L2.St → XK} {x : Str} {p pos : Pos} {e fe : Expr} {es : List Expr} {kws : List Keyword} {t tk : TA} {te : TE} {cs : List (Addr × Sp)}
theorem run_kS {pins : List (Addr × Obj)} {σ : L2.St} {H : Hp} {s : Shared} {Q : VK} {us ws : List Value} {vs zs : List V} (F : FnOk X.prog X.w X.K X.mg X.base CXx k f fd ps sp) (hr : Room k X.A) (hb : KBn X.K fd ps n ks (· ++ ·) (· ++ ·)) (hx : PassesAt CXx X σ (E σ))
    (I : Inv X pins σ H s) (r : Vals vs us) (rz : Vals zs ws) (l1 : vs.length = n) (l2 : zs.length = ks.length) (h : sp (vs ++ zs) H Q (E σ)) : wpAny (model X.prog X.w) X.A (call (.ref f) us (ks.zip ws)) (EP X pins σ Q) X.xe s := by
  have r2 := hb.rel r rz
  refine wpAny_call (codeAny_mono (F.run X.A X.stack s H ⟨us, ks.zip ws⟩ (us ++ ws) (vs ++ zs) Q (E σ) hr I.env0 (hb.to s us ws I.kIn (r.length.symm.trans l1) (rz.length.symm.trans l2)) r2 h) fun r s' hq => ?_)
  cases r with
  | error e => exact hx pins H s e s' I hq
  | ok fl =>
    cases fl with
    | ret u => exact I.after hq
    | _ => exact False.elim hq
theorem pe_callNS (F : FnOk X.prog X.w X.K X.mg X.base CXx k f fd ps sp) (hr : Room k X.A) (hg : Gl X x) (hm : X.mg x = some (.ref f)) (hk : PySem.W.keepIn X.K (.ref f) = true) (hb : KBn X.K fd ps n ks (· ++ ·) (· ++ ·)) (hx : ∀ σ, PassesAt CXx X σ (E σ))
    (ha : PA X (e :: es) t) (hkw : PK X kws tk) (hall : (backToKw pos (keywordEach kws X.env)).all (·.1.isSome) = true := by rfl) (hks : (backToKw pos (keywordEach kws X.env)).filterMap (·.1) = ks := by rfl)
    (hdb : (x == ("__debug__" : Str)) = false := by decide) (he : starEach (e :: es) X.env = (false, eval e X.env) :: starEach es X.env := by rfl)
    (hpl : ((backTo pos (starEach (e :: es) X.env)).any (·.1) || (backToKw pos (keywordEach kws X.env)).any (·.1.isNone)) = false := by rfl) :
    PE X (.Call (.Name x p) (e :: es) kws pos) (tCallNS n ks.length sp E t tk) := by
  refine ⟨fun pins s σ H Q I h => ?_⟩
  refine wpAny_Call_Name_kw (ld_glob I hg hm ?_ hdb)
  refine PySem.W.callWith_KW (h₀ := X.base) I.ok.mod.kin hk hall (thn (ha.run pos pins s σ H _ I h) fun us s1 ⟨vs, H1, I1, r, q⟩ => ?_) hpl he
  refine thn (hkw.run pos pins s1 σ H1 _ I1 q) fun ws s2 ⟨zs, H2, I2, rz, l1, l2, q2⟩ => ⟨I2.kIn, ?_⟩
  rw [hks]
  exact run_kS F hr hb (hx σ) I2 r rz l1 l2 q2
theorem pe_callFK (hc : ∀ c ∈ cs, CandK X.prog X.w X.K X.mg X.base CXx j n ks c.1 c.2) (hr : Room j X.A) (hx : ∀ σ, PassesAt CXx X σ (E σ)) (hf : PE X fe te) (ha : PA X (e :: es) t) (hkw : PK X kws tk)
    (hall : (backToKw pos (keywordEach kws X.env)).all (·.1.isSome) = true := by rfl) (hks : (backToKw pos (keywordEach kws X.env)).filterMap (·.1) = ks := by rfl)
    (hcall : eval (.Call fe (e :: es) kws pos) X.env = (do callWith pos (← eval fe X.env) [] (backTo pos (starEach (e :: es) X.env)) (backToKw pos (keywordEach kws X.env))) := by rfl)
    (he : starEach (e :: es) X.env = (false, eval e X.env) :: starEach es X.env := by rfl)
    (hpl : ((backTo pos (starEach (e :: es) X.env)).any (·.1) || (backToKw pos (keywordEach kws X.env)).any (·.1.isNone)) = false := by rfl) :
    PE X (.Call fe (e :: es) kws pos) (tCallFK n ks.length cs E te t tk) := by
  refine ⟨fun pins s σ H Q I h => ?_⟩
  rw [hcall]
  refine wpAny_bind (thn (hf.run pins s σ H _ I h) fun u s1 ⟨x, H1, I1, r1, c, hm, ex, q⟩ => ?_)
  subst ex
  cases r1
  obtain ⟨fd, ps, k, F, hk, kp, b⟩ := hc c hm
  refine PySem.W.callWith_KW (h₀ := X.base) I1.ok.mod.kin kp hall (thn (ha.run pos pins s1 σ H1 _ I1 q) fun us s2 ⟨vs, H2, I2, r, q2⟩ => ?_) hpl he
  refine thn (hkw.run pos pins s2 σ H2 _ I2 q2) fun ws s3 ⟨zs, H3, I3, rz, l1, l2, q3⟩ => ⟨I3.kIn, ?_⟩
  rw [hks]
  exact run_kS F (hr.mono hk) b (hx σ) I3 r rz l1 l2 q3
end
/-! ### try: .. of several ways, each a call; except R as n: return g(n) -/
section
variable {F : Fx} {Γ : List Sl} {nx bk ct : List Sl → Prop} {rt : Sl → List Sl → Prop} {k : Sl → List Sl → Prop} {tA : TA} {te : TE}
/-- what a suite lets out is what the try takes, at slots of this number -/
def Takes1 (F : Fx) (n : Nat) (W : WX) : Prop := ∀ (z : Z) (C : Addr) (σ : L2.St), ZOk F z → F.px C → σ.length = n → W (.ref C) none σ z.H
theorem wpe_callSX {c : Con} {W : WX} {n : Nat} (hW : Takes1 F n W) (hn : Γ.length = n) (h : WpA F tA Γ fun ss Γ' => ∃ a, ss = c.args a ∧ (c.args a).all Sl.pass = true ∧ c.pre a ∧ (∀ r, c.post a r → k r Γ') ∧ ∀ C, c.exc a C → F.px C) : WpE F (tCallS (spP F.K c) (WE W) tA) Γ k := fun z σ Q hF hz hs q =>
  h z σ _ hF hz hs fun vs ss Γ' z1 ⟨a, es, hp, hpre, hk, hx⟩ a1 hz1 hs1 hv => by
    subst es
    refine ⟨z1.S, a, hz1.sub, hv.pass hp, hpre, fun v r S' H' hr e1 e2 e3 e4 hn => ?_, fun C H' hc e => ?_⟩
    · obtain ⟨hz2, a2⟩ := call_after hz1 e1 e2 e3 e4
      obtain ⟨hv2, hn2⟩ := vn_vok hz1 hn
      exact q v r Γ' ⟨S', H', z1.own⟩ (hk r hr) (a1.trans a2.ext) hz2 (hs1.add a2) hv2 (hn2.back a1.dom)
    · exact hW ⟨z1.S, H', z1.own⟩ C σ (call_after hz1 (Ex.refl _) (hz1.sub.trans e) e fun _ _ _ => rfl).1 (hx C hc) (by rw [← hs.len]; exact hn)
theorem wpe_callFX {cs : List (Addr × Sp)} {f : Addr} {c : Con} {W : WX} {n : Nat} (hW : Takes1 F n W) (hn : Γ.length = n) (hm : (f, spP F.K c) ∈ cs) (hf : EvS F te Γ (.raw (.ref f)))
    (h : WpA F tA Γ fun ss Γ' => ∃ a, ss = c.args a ∧ (c.args a).all Sl.pass = true ∧ c.pre a ∧ (∀ r, c.post a r → k r Γ') ∧ ∀ C, c.exc a C → F.px C) : WpE F (tCallF cs (WE W) te tA) Γ k := fun z σ Q hF hz hs q =>
  hf z σ _ hz hs fun v z0 a0 hz0 hv0 _ => ⟨_, hm, hv0, wpe_callSX (F := F) hW hn h z0 σ Q hF hz0 (hs.add a0) fun v s Γ' z' hk e hz' hs' hv hn' => q v s Γ' z' hk (a0.ext.trans e) hz' hs' hv (hn'.back a0.dom)⟩
theorem wpe_callNX {c : Con} {W : WX} {n m l : Nat} {tB : TA} {ss1 ks1 : List Sl} (hW : Takes1 F n W) (hn : Γ.length = n) (h : EvA F tA Γ ss1) (h2 : EvA F tB Γ ks1) (l1 : ss1.length = m) (l2 : ks1.length = l) (a : c.α) (ea : ss1 ++ ks1 = c.args a) (hp : (c.args a).all Sl.pass = true) (hpre : c.pre a) (hk : ∀ r, c.post a r → k r Γ) (hx : ∀ C, c.exc a C → F.px C) :
    WpE F (tCallNS m l (spP F.K c) (WE W) tA tB) Γ k := fun z σ Q hF hz hs q =>
  h z σ _ hz hs fun vs z0 a0 hz0 hv0 => h2 z0 σ _ hz0 (hs.add a0) fun ws z1 a01 hz1 hw => by
    have a1 := a0.trans a01
    refine ⟨(Paired.length hv0).trans l1, (Paired.length hw).trans l2, z1.S, a, hz1.sub, (ea ▸ (hv0.add a01).app hw : VAll F z1 (vs ++ ws) (c.args a)).pass hp, hpre, fun v r S' H' hr e1 e2 e3 e4 hn => ?_, fun C H' hc e => ?_⟩
    · obtain ⟨hz2, a2⟩ := call_after hz1 e1 e2 e3 e4
      obtain ⟨hv2, hn2⟩ := vn_vok hz1 hn
      exact q v r Γ ⟨S', H', z1.own⟩ (hk r hr) (a1.trans a2).ext hz2 ((hs.add a1).add a2) hv2 (hn2.back a1.dom)
    · exact hW ⟨z1.S, H', z1.own⟩ C σ (call_after hz1 (Ex.refl _) (hz1.sub.trans e) e fun _ _ _ => rfl).1 (hx C hc) (by rw [← hs.len]; exact hn)
theorem wpe_callFKX {cs : List (Addr × Sp)} {f : Addr} {c : Con} {W : WX} {n m l : Nat} {tB : TA} {ss1 ks1 : List Sl} (hW : Takes1 F n W) (hn : Γ.length = n) (hm : (f, spP F.K c) ∈ cs) (hf : EvS F te Γ (.raw (.ref f))) (h : EvA F tA Γ ss1) (h2 : EvA F tB Γ ks1) (l1 : ss1.length = m) (l2 : ks1.length = l) (a : c.α) (ea : ss1 ++ ks1 = c.args a) (hp : (c.args a).all Sl.pass = true) (hpre : c.pre a) (hk : ∀ r, c.post a r → k r Γ) (hx : ∀ C, c.exc a C → F.px C) :
    WpE F (tCallFK m l cs (WE W) te tA tB) Γ k := fun z σ Q hF hz hs q =>
  hf z σ _ hz hs fun v z0 a0 hz0 hv0 _ => ⟨_, hm, hv0, wpe_callNX (F := F) hW hn h h2 l1 l2 a ea hp hpre hk hx z0 σ Q hF hz0 (hs.add a0) fun v s Γ' z' hk e hz' hs' hv hn' => q v s Γ' z' hk (a0.ext.trans e) hz' hs' hv (hn'.back a0.dom)⟩
/-- nothing is known of the slots -/
def blank (n : Nat) : List Sl := List.replicate n .un
theorem blank_ok {z : Z} {σ : L2.St} {n : Nat} (h : σ.length = n) : SOk F z σ (blank n) := ⟨by rw [blank, List.length_replicate, h], fun i s e => .inl (by
  unfold blank at e
  rw [List.getElem?_replicate] at e
  split at e
  · exact (Option.some.inj e).symm
  · cases e)⟩
theorem wp_tryG {tb : WX → TS} {R : Addr} {i n : Nat} {ans : Addr → Str → Prop} {W0 : WX} {px : Addr → Prop} (hn : Γ.length = n) (hi : i < n) (h : ∀ (S1 : Hp) (W : WX), Takes1 ⟨F.K, F.B, S1, fun _ _ _ => True, px⟩ n W → Wp ⟨F.K, F.B, S1, fun _ _ _ => True, px⟩ (tb W) Γ nx rt bk ct)
    (hx : ∀ C, px C → PySem.W.exmOne F.K (.ref C) (.ref R) = some true ∧ ∃ x, ans C x ∧ rt (.d (.str x)) (blank n)) :
    Wp F (fun D σ H => tb (wAs F.K (.ref R) i (fun a cls d => tRet (tErr a cls d ans (tCons (tVar i) tNil))) W0 D) D σ H) Γ nx rt bk ct := fun z σ D hF hz hs r => by
  have back : ∀ {z' : Z}, ZOk ⟨F.K, F.B, z.S, fun _ _ _ => True, px⟩ z' → ZOk F z' := fun {z'} h => ⟨h.sub, h.base, hz.s0.trans h.s0, h.own, fun a o e => (h.fresh a o e).trans (hz.fresh a o e)⟩
  have sback : ∀ {z' : Z} {σ' : L2.St} {Γ' : List Sl}, SOk ⟨F.K, F.B, z.S, fun _ _ _ => True, px⟩ z' σ' Γ' → SOk F z' σ' Γ' := fun h => ⟨h.len, fun i s e => (h.at_ i s e).imp id fun ⟨v, h1, h2⟩ => ⟨v, h1, h2⟩⟩
  have hz1 : ZOk ⟨F.K, F.B, z.S, fun _ _ _ => True, px⟩ z := ⟨hz.sub, hz.base, Ex.refl _, hz.own, fun _ _ _ => rfl⟩
  have hs1 : SOk ⟨F.K, F.B, z.S, fun _ _ _ => True, px⟩ z σ Γ := ⟨hs.len, fun i s e => (hs.at_ i s e).imp id fun ⟨v, h1, h2⟩ => ⟨v, h1, h2⟩⟩
  refine h z.S _ (fun z' C σ' hz' hC hl => ?_) z σ D (fun _ _ _ _ => trivial) hz1 hs1 ⟨fun Γ' σ' z' p e hz' hs' => r.nx Γ' σ' z' p e (back hz') (sback hs'), fun v s Γ' σ' z' p e hz' hs' hv => r.rt v s Γ' σ' z' p e (back hz') (sback hs') hv, fun Γ' σ' z' p e hz' hs' => r.bk Γ' σ' z' p e (back hz') (sback hs'), fun Γ' σ' z' p e hz' hs' => r.ct Γ' σ' z' p e (back hz') (sback hs')⟩
  obtain ⟨em, x, hans, hrt⟩ := hx C hC
  refine ⟨true, em, fun _ a _ => ?_, fun q => nomatch q⟩
  refine ⟨.ref a, List.getElem?_set_self (by rw [hl]; exact hi), rfl, C, x, rfl, rfl, hans, fun H2 e2 => ?_⟩
  have hz2 := back hz'
  obtain ⟨hz3, a3⟩ := call_after (S' := z'.S) (H' := H2) hz2 (Ex.refl _) (hz2.sub.trans e2) e2 fun _ _ _ => rfl
  exact r.rt (.str x) (.d (.str x)) (blank n) (σ'.set i (some (.ref a))) ⟨z'.S, H2, z'.own⟩ hrt hz'.s0 hz3 (blank_ok (by rw [List.length_set]; exact hl)) (.str x)
end
end GL
namespace GL
open PySem PySem.Spec PyProof.Rows L2
def topS (i : Nat) : Stmt := PySem.Challenge.pw_tiedranks_k01_groups_and_people.main.body.getD i (.Pass ⟨0, 0, 0, 0⟩)
abbrev s_is_integer : Stmt := topS 17
theorem sc_is_integer : FnScope ["value", "low", "high"] ["value", "low", "high"] (defScope s_is_integer) := ⟨rfl, rfl, rfl, by decide +kernel, rfl, by decide +kernel, by decide +kernel⟩
abbrev s_is_groups : Stmt := topS 18
theorem sc_is_groups : FnScope ["value", "size"] ["value"] (defScope s_is_groups) := ⟨rfl, rfl, rfl, by decide +kernel, rfl, by decide +kernel, by decide +kernel⟩
abbrev s_require_groups : Stmt := topS 19
theorem sc_require_groups : FnScope ["value"] ["value"] (defScope s_require_groups) := ⟨rfl, rfl, rfl, by decide +kernel, rfl, by decide +kernel, by decide +kernel⟩
abbrev s_require_system : Stmt := topS 20
theorem sc_require_system : FnScope ["value"] ["value"] (defScope s_require_system) := ⟨rfl, rfl, rfl, by decide +kernel, rfl, by decide +kernel, by decide +kernel⟩
abbrev s_ranks_of : Stmt := topS 21
theorem sc_ranks_of : FnScope ["sizes", "system", "found", "place", "at", "size", "rank"] ["sizes", "system"] (defScope s_ranks_of) := ⟨rfl, rfl, rfl, by decide +kernel, rfl, by decide +kernel, by decide +kernel⟩
abbrev s_ranks : Stmt := topS 22
theorem sc_ranks : FnScope ["groups", "system"] ["groups", "system"] (defScope s_ranks) := ⟨rfl, rfl, rfl, by decide +kernel, rfl, by decide +kernel, by decide +kernel⟩
abbrev s_left_by_one : Stmt := topS 23
theorem sc_left_by_one : FnScope ["sizes", "index"] ["sizes", "index"] (defScope s_left_by_one) := ⟨rfl, rfl, rfl, by decide +kernel, rfl, by decide +kernel, by decide +kernel⟩
abbrev s_without : Stmt := topS 24
theorem sc_without : FnScope ["groups", "index"] ["groups", "index"] (defScope s_without) := ⟨rfl, rfl, rfl, by decide +kernel, rfl, by decide +kernel, by decide +kernel⟩
abbrev s_changed_by : Stmt := topS 25
theorem sc_changed_by : FnScope ["before", "after", "index"] ["before", "after"] (defScope s_changed_by) := ⟨rfl, rfl, rfl, by decide +kernel, rfl, by decide +kernel, by decide +kernel⟩
abbrev s_is_name : Stmt := topS 30
theorem sc_is_name : FnScope ["value", "sign"] ["value"] (defScope s_is_name) := ⟨rfl, rfl, rfl, by decide +kernel, rfl, by decide +kernel, by decide +kernel⟩
abbrev s_is_person : Stmt := topS 31
theorem sc_is_person : FnScope ["value", "first", "last", "dense", "rank"] ["value"] (defScope s_is_person) := ⟨rfl, rfl, rfl, by decide +kernel, rfl, by decide +kernel, by decide +kernel⟩
abbrev s_is_seen : Stmt := topS 32
theorem sc_is_seen : FnScope ["value", "one"] ["value"] (defScope s_is_seen) := ⟨rfl, rfl, rfl, by decide +kernel, rfl, by decide +kernel, by decide +kernel⟩
abbrev s_require_size : Stmt := topS 33
theorem sc_require_size : FnScope ["value"] ["value"] (defScope s_require_size) := ⟨rfl, rfl, rfl, by decide +kernel, rfl, by decide +kernel, by decide +kernel⟩
abbrev s_require_seen : Stmt := topS 34
theorem sc_require_seen : FnScope ["value"] ["value"] (defScope s_require_seen) := ⟨rfl, rfl, rfl, by decide +kernel, rfl, by decide +kernel, by decide +kernel⟩
abbrev s_members : Stmt := topS 36
theorem sc_members : FnScope ["seen", "begin", "end", "number", "found", "person", "name", "first", "last", "dense"] ["seen", "begin", "end", "number"] (defScope s_members) := ⟨rfl, rfl, rfl, by decide +kernel, rfl, by decide +kernel, by decide +kernel⟩
abbrev s_ways_on : Stmt := topS 37
theorem sc_ways_on : FnScope ["size", "seen", "places", "most", "found", "number", "begin", "total", "end", "behind", "person", "rank"] ["size", "seen"] (defScope s_ways_on) := ⟨rfl, rfl, rfl, by decide +kernel, rfl, by decide +kernel, by decide +kernel⟩
abbrev s_steps : Stmt := topS 38
theorem sc_steps : FnScope ["size", "seen", "behind", "ahead", "found", "begin", "number", "up", "end", "rest", "people"] ["size", "seen"] (defScope s_steps) := ⟨rfl, rfl, rfl, by decide +kernel, rfl, by decide +kernel, by decide +kernel⟩
abbrev s_counted : Stmt := topS 39
theorem sc_counted : FnScope ["size", "seen"] ["size", "seen"] (defScope s_counted) := ⟨rfl, rfl, rfl, by decide +kernel, rfl, by decide +kernel, by decide +kernel⟩
abbrev s_fits : Stmt := topS 40
theorem sc_fits : FnScope ["size", "seen"] ["size", "seen"] (defScope s_fits) := ⟨rfl, rfl, rfl, by decide +kernel, rfl, by decide +kernel, by decide +kernel⟩
abbrev s_count_rankings : Stmt := topS 41
theorem sc_count_rankings : FnScope ["size", "seen"] ["size", "seen"] (defScope s_count_rankings) := ⟨rfl, rfl, rfl, by decide +kernel, rfl, by decide +kernel, by decide +kernel⟩
abbrev s_next_groups : Stmt := topS 42
theorem sc_next_groups : FnScope ["size", "seen", "behind", "prefix", "begin", "number", "found", "end", "rest"] ["size", "seen", "behind", "prefix"] (defScope s_next_groups) := ⟨rfl, rfl, rfl, by decide +kernel, rfl, by decide +kernel, by decide +kernel⟩
abbrev s_ranking_at : Stmt := topS 43
theorem sc_ranking_at : FnScope ["size", "seen", "number", "behind", "prefix", "many", "rest"] ["size", "seen", "number"] (defScope s_ranking_at) := ⟨rfl, rfl, rfl, by decide +kernel, rfl, by decide +kernel, by decide +kernel⟩
abbrev s_marks : Stmt := topS 45
theorem sc_marks : FnScope ["size", "seen", "total", "rows", "found", "place", "ways", "begin", "end", "number", "people", "up", "rest"] ["size", "seen"] (defScope s_marks) := ⟨rfl, rfl, rfl, by decide +kernel, rfl, by decide +kernel, by decide +kernel⟩
abbrev s_possible_sizes : Stmt := topS 48
theorem sc_possible_sizes : FnScope ["seen", "size"] ["seen"] (defScope s_possible_sizes) := ⟨rfl, rfl, rfl, by decide +kernel, rfl, by decide +kernel, by decide +kernel⟩
abbrev s_clash : Stmt := topS 49
theorem sc_clash : FnScope ["size", "seen", "parts", "person", "many", "part"] ["size", "seen"] (defScope s_clash) := ⟨rfl, rfl, rfl, by decide +kernel, rfl, by decide +kernel, by decide +kernel⟩
abbrev s_law_source : Stmt := topS 51
theorem sc_law_source : FnScope ["script", "k", "cell", "primes", "seed"] ["script", "k"] (defScope s_law_source) := ⟨rfl, rfl, rfl, by decide +kernel, rfl, by decide +kernel, by decide +kernel⟩
abbrev s_law_pick : Stmt := topS 52
theorem sc_law_pick : FnScope ["source", "size", "drawn"] ["source", "size"] (defScope s_law_pick) := ⟨rfl, rfl, rfl, by decide +kernel, rfl, by decide +kernel, by decide +kernel⟩
abbrev s_law_is_bool : Stmt := topS 53
theorem sc_law_is_bool : FnScope ["actual", "expected"] ["actual", "expected"] (defScope s_law_is_bool) := ⟨rfl, rfl, rfl, by decide +kernel, rfl, by decide +kernel, by decide +kernel⟩
abbrev s_law_any_value : Stmt := topS 54
theorem sc_law_any_value : FnScope ["source", "depth", "kind", "some", "items", "k"] ["source", "depth"] (defScope s_law_any_value) := ⟨rfl, rfl, rfl, by decide +kernel, rfl, by decide +kernel, by decide +kernel⟩
abbrev s_law_variant : Stmt := topS 55
theorem sc_law_variant : FnScope ["source", "value", "depth", "items", "at", "kind", "near"] ["source", "value", "depth"] (defScope s_law_variant) := ⟨rfl, rfl, rfl, by decide +kernel, rfl, by decide +kernel, by decide +kernel⟩
abbrev s_law_is_integer : Stmt := topS 56
theorem sc_law_is_integer : FnScope ["value", "low", "high"] ["value", "low", "high"] (defScope s_law_is_integer) := ⟨rfl, rfl, rfl, by decide +kernel, rfl, by decide +kernel, by decide +kernel⟩
abbrev s_law_error_name : Stmt := topS 57
theorem sc_law_error_name : FnScope ["e", "some", "words", "names", "word", "good"] ["e"] (defScope s_law_error_name) := ⟨rfl, rfl, rfl, by decide +kernel, rfl, by decide +kernel, by decide +kernel⟩
abbrev s_law_sizes : Stmt := topS 58
theorem sc_law_sizes : FnScope ["source", "top", "left", "found", "wide", "many"] ["source", "top"] (defScope s_law_sizes) := ⟨rfl, rfl, rfl, by decide +kernel, rfl, by decide +kernel, by decide +kernel⟩
abbrev s_law_rows : Stmt := topS 59
theorem sc_law_rows : FnScope ["sizes", "found", "place", "at", "many"] ["sizes"] (defScope s_law_rows) := ⟨rfl, rfl, rfl, by decide +kernel, rfl, by decide +kernel, by decide +kernel⟩
abbrev s_law_people : Stmt := topS 60
theorem sc_law_people : FnScope [] [] (defScope s_law_people) := ⟨rfl, rfl, rfl, by decide +kernel, rfl, by decide +kernel, by decide +kernel⟩
abbrev s_law_seen : Stmt := topS 61
theorem sc_law_seen : FnScope ["source", "sizes", "most", "kinds", "rows", "found", "spots", "name", "row", "kind", "at", "shift", "other", "rank"] ["source", "sizes", "most", "kinds"] (defScope s_law_seen) := ⟨rfl, rfl, rfl, by decide +kernel, rfl, by decide +kernel, by decide +kernel⟩
abbrev s_law_is_good_person : Stmt := topS 62
theorem sc_law_is_good_person : FnScope ["value", "first", "last", "dense", "sign", "rank"] ["value"] (defScope s_law_is_good_person) := ⟨rfl, rfl, rfl, by decide +kernel, rfl, by decide +kernel, by decide +kernel⟩
abbrev s_law_kinds : Stmt := topS 63
theorem sc_law_kinds : FnScope [] [] (defScope s_law_kinds) := ⟨rfl, rfl, rfl, by decide +kernel, rfl, by decide +kernel, by decide +kernel⟩
abbrev s_law_is_good_sizes : Stmt := topS 64
theorem sc_law_is_good_sizes : FnScope ["value", "many"] ["value"] (defScope s_law_is_good_sizes) := ⟨rfl, rfl, rfl, by decide +kernel, rfl, by decide +kernel, by decide +kernel⟩
abbrev s_law_is_good_seen : Stmt := topS 65
theorem sc_law_is_good_seen : FnScope ["value", "person"] ["value"] (defScope s_law_is_good_seen) := ⟨rfl, rfl, rfl, by decide +kernel, rfl, by decide +kernel, by decide +kernel⟩
abbrev s_law_outcome : Stmt := topS 66
theorem sc_law_outcome : FnScope ["call", "value", "odd", "e"] ["call", "value", "odd"] (defScope s_law_outcome) := ⟨rfl, rfl, rfl, by decide +kernel, rfl, by decide +kernel, by decide +kernel⟩
abbrev s_law : Stmt := topS 67
theorem sc_law : FnScope ["script", "k", "source", "sizes", "some", "value", "good", "seen", "odd", "turn", "call"] ["script"] (defScope s_law) := ⟨rfl, rfl, rfl, by decide +kernel, rfl, by decide +kernel, by decide +kernel⟩
def errAll : List Str := ["InvalidGroups", "InvalidSystem", "InvalidIndex", "InvalidSize", "InvalidSeen", "InvalidNumber", "InvalidName", "InvalidResult", "UnknownName", "KnownName", "TooMany", "NothingToUndo"]
/-- what the top has left -/
structure Tx (K : PySem.W.Frag) (mg : Str → Option Value) : Type where
  fd_is_integer : FuncData
  F_is_integer : Fun K "is_integer" "is_integer" s_is_integer (He.ga K "is_integer") fd_is_integer
  g_is_integer : mg "is_integer" = some (.ref (He.ga K "is_integer"))
  fd_is_groups : FuncData
  F_is_groups : Fun K "is_groups" "is_groups" s_is_groups (He.ga K "is_groups") fd_is_groups
  g_is_groups : mg "is_groups" = some (.ref (He.ga K "is_groups"))
  fd_require_groups : FuncData
  F_require_groups : Fun K "require_groups" "require_groups" s_require_groups (He.ga K "require_groups") fd_require_groups
  g_require_groups : mg "require_groups" = some (.ref (He.ga K "require_groups"))
  fd_require_system : FuncData
  F_require_system : Fun K "require_system" "require_system" s_require_system (He.ga K "require_system") fd_require_system
  g_require_system : mg "require_system" = some (.ref (He.ga K "require_system"))
  fd_ranks_of : FuncData
  F_ranks_of : Fun K "ranks_of" "ranks_of" s_ranks_of (He.ga K "ranks_of") fd_ranks_of
  g_ranks_of : mg "ranks_of" = some (.ref (He.ga K "ranks_of"))
  fd_ranks : FuncData
  F_ranks : Fun K "ranks" "ranks" s_ranks (He.ga K "ranks") fd_ranks
  g_ranks : mg "ranks" = some (.ref (He.ga K "ranks"))
  fd_left_by_one : FuncData
  F_left_by_one : Fun K "left_by_one" "left_by_one" s_left_by_one (He.ga K "left_by_one") fd_left_by_one
  g_left_by_one : mg "left_by_one" = some (.ref (He.ga K "left_by_one"))
  fd_without : FuncData
  F_without : Fun K "without" "without" s_without (He.ga K "without") fd_without
  g_without : mg "without" = some (.ref (He.ga K "without"))
  fd_changed_by : FuncData
  F_changed_by : Fun K "changed_by" "changed_by" s_changed_by (He.ga K "changed_by") fd_changed_by
  g_changed_by : mg "changed_by" = some (.ref (He.ga K "changed_by"))
  fd_is_name : FuncData
  F_is_name : Fun K "is_name" "is_name" s_is_name (He.ga K "is_name") fd_is_name
  g_is_name : mg "is_name" = some (.ref (He.ga K "is_name"))
  fd_is_person : FuncData
  F_is_person : Fun K "is_person" "is_person" s_is_person (He.ga K "is_person") fd_is_person
  g_is_person : mg "is_person" = some (.ref (He.ga K "is_person"))
  fd_is_seen : FuncData
  F_is_seen : Fun K "is_seen" "is_seen" s_is_seen (He.ga K "is_seen") fd_is_seen
  g_is_seen : mg "is_seen" = some (.ref (He.ga K "is_seen"))
  fd_require_size : FuncData
  F_require_size : Fun K "require_size" "require_size" s_require_size (He.ga K "require_size") fd_require_size
  g_require_size : mg "require_size" = some (.ref (He.ga K "require_size"))
  fd_require_seen : FuncData
  F_require_seen : Fun K "require_seen" "require_seen" s_require_seen (He.ga K "require_seen") fd_require_seen
  g_require_seen : mg "require_seen" = some (.ref (He.ga K "require_seen"))
  fd_members : FuncData
  F_members : Fun K "members" "members" s_members (He.ga K "members") fd_members
  g_members : mg "members" = some (.ref (He.ga K "members"))
  fd_ways_on : FuncData
  F_ways_on : Fun K "ways_on" "ways_on" s_ways_on (He.ga K "ways_on") fd_ways_on
  g_ways_on : mg "ways_on" = some (.ref (He.ga K "ways_on"))
  fd_steps : FuncData
  F_steps : Fun K "steps" "steps" s_steps (He.ga K "steps") fd_steps
  g_steps : mg "steps" = some (.ref (He.ga K "steps"))
  fd_counted : FuncData
  F_counted : Fun K "counted" "counted" s_counted (He.ga K "counted") fd_counted
  g_counted : mg "counted" = some (.ref (He.ga K "counted"))
  fd_fits : FuncData
  F_fits : Fun K "fits" "fits" s_fits (He.ga K "fits") fd_fits
  g_fits : mg "fits" = some (.ref (He.ga K "fits"))
  fd_count_rankings : FuncData
  F_count_rankings : Fun K "count_rankings" "count_rankings" s_count_rankings (He.ga K "count_rankings") fd_count_rankings
  g_count_rankings : mg "count_rankings" = some (.ref (He.ga K "count_rankings"))
  fd_next_groups : FuncData
  F_next_groups : Fun K "next_groups" "next_groups" s_next_groups (He.ga K "next_groups") fd_next_groups
  g_next_groups : mg "next_groups" = some (.ref (He.ga K "next_groups"))
  fd_ranking_at : FuncData
  F_ranking_at : Fun K "ranking_at" "ranking_at" s_ranking_at (He.ga K "ranking_at") fd_ranking_at
  g_ranking_at : mg "ranking_at" = some (.ref (He.ga K "ranking_at"))
  fd_marks : FuncData
  F_marks : Fun K "marks" "marks" s_marks (He.ga K "marks") fd_marks
  g_marks : mg "marks" = some (.ref (He.ga K "marks"))
  fd_possible_sizes : FuncData
  F_possible_sizes : Fun K "possible_sizes" "possible_sizes" s_possible_sizes (He.ga K "possible_sizes") fd_possible_sizes
  g_possible_sizes : mg "possible_sizes" = some (.ref (He.ga K "possible_sizes"))
  fd_clash : FuncData
  F_clash : Fun K "clash" "clash" s_clash (He.ga K "clash") fd_clash
  g_clash : mg "clash" = some (.ref (He.ga K "clash"))
  fd_law_source : FuncData
  F_law_source : Fun K "_law_source" "_law_source" s_law_source (He.ga K "_law_source") fd_law_source
  g_law_source : mg "_law_source" = some (.ref (He.ga K "_law_source"))
  fd_law_pick : FuncData
  F_law_pick : Fun K "_law_pick" "_law_pick" s_law_pick (He.ga K "_law_pick") fd_law_pick
  g_law_pick : mg "_law_pick" = some (.ref (He.ga K "_law_pick"))
  fd_law_is_bool : FuncData
  F_law_is_bool : Fun K "_law_is_bool" "_law_is_bool" s_law_is_bool (He.ga K "_law_is_bool") fd_law_is_bool
  g_law_is_bool : mg "_law_is_bool" = some (.ref (He.ga K "_law_is_bool"))
  fd_law_any_value : FuncData
  F_law_any_value : Fun K "_law_any_value" "_law_any_value" s_law_any_value (He.ga K "_law_any_value") fd_law_any_value
  g_law_any_value : mg "_law_any_value" = some (.ref (He.ga K "_law_any_value"))
  fd_law_variant : FuncData
  F_law_variant : Fun K "_law_variant" "_law_variant" s_law_variant (He.ga K "_law_variant") fd_law_variant
  g_law_variant : mg "_law_variant" = some (.ref (He.ga K "_law_variant"))
  fd_law_is_integer : FuncData
  F_law_is_integer : Fun K "_law_is_integer" "_law_is_integer" s_law_is_integer (He.ga K "_law_is_integer") fd_law_is_integer
  g_law_is_integer : mg "_law_is_integer" = some (.ref (He.ga K "_law_is_integer"))
  fd_law_error_name : FuncData
  F_law_error_name : Fun K "_law_error_name" "_law_error_name" s_law_error_name (He.ga K "_law_error_name") fd_law_error_name
  g_law_error_name : mg "_law_error_name" = some (.ref (He.ga K "_law_error_name"))
  fd_law_sizes : FuncData
  F_law_sizes : Fun K "_law_sizes" "_law_sizes" s_law_sizes (He.ga K "_law_sizes") fd_law_sizes
  g_law_sizes : mg "_law_sizes" = some (.ref (He.ga K "_law_sizes"))
  fd_law_rows : FuncData
  F_law_rows : Fun K "_law_rows" "_law_rows" s_law_rows (He.ga K "_law_rows") fd_law_rows
  g_law_rows : mg "_law_rows" = some (.ref (He.ga K "_law_rows"))
  fd_law_people : FuncData
  F_law_people : Fun K "_law_people" "_law_people" s_law_people (He.ga K "_law_people") fd_law_people
  g_law_people : mg "_law_people" = some (.ref (He.ga K "_law_people"))
  fd_law_seen : FuncData
  F_law_seen : Fun K "_law_seen" "_law_seen" s_law_seen (He.ga K "_law_seen") fd_law_seen
  g_law_seen : mg "_law_seen" = some (.ref (He.ga K "_law_seen"))
  fd_law_is_good_person : FuncData
  F_law_is_good_person : Fun K "_law_is_good_person" "_law_is_good_person" s_law_is_good_person (He.ga K "_law_is_good_person") fd_law_is_good_person
  g_law_is_good_person : mg "_law_is_good_person" = some (.ref (He.ga K "_law_is_good_person"))
  fd_law_kinds : FuncData
  F_law_kinds : Fun K "_law_kinds" "_law_kinds" s_law_kinds (He.ga K "_law_kinds") fd_law_kinds
  g_law_kinds : mg "_law_kinds" = some (.ref (He.ga K "_law_kinds"))
  fd_law_is_good_sizes : FuncData
  F_law_is_good_sizes : Fun K "_law_is_good_sizes" "_law_is_good_sizes" s_law_is_good_sizes (He.ga K "_law_is_good_sizes") fd_law_is_good_sizes
  g_law_is_good_sizes : mg "_law_is_good_sizes" = some (.ref (He.ga K "_law_is_good_sizes"))
  fd_law_is_good_seen : FuncData
  F_law_is_good_seen : Fun K "_law_is_good_seen" "_law_is_good_seen" s_law_is_good_seen (He.ga K "_law_is_good_seen") fd_law_is_good_seen
  g_law_is_good_seen : mg "_law_is_good_seen" = some (.ref (He.ga K "_law_is_good_seen"))
  fd_law_outcome : FuncData
  F_law_outcome : Fun K "_law_outcome" "_law_outcome" s_law_outcome (He.ga K "_law_outcome") fd_law_outcome
  g_law_outcome : mg "_law_outcome" = some (.ref (He.ga K "_law_outcome"))
  fd_law : FuncData
  F_law : Fun K "law" "law" s_law (He.ga K "law") fd_law
  g_law : mg "law" = some (.ref (He.ga K "law"))
  b_ValueError : mg "ValueError" = none
  b_all : mg "all" = none
  b_bool : mg "bool" = none
  b_enumerate : mg "enumerate" = none
  b_int : mg "int" = none
  b_isinstance : mg "isinstance" = none
  b_len : mg "len" = none
  b_list : mg "list" = none
  b_max : mg "max" = none
  b_min : mg "min" = none
  b_range : mg "range" = none
  b_set : mg "set" = none
  b_sorted : mg "sorted" = none
  b_str : mg "str" = none
  b_sum : mg "sum" = none
  b_tuple : mg "tuple" = none
  b_zip : mg "zip" = none
  c_MAX_SIZE : ∃ t, mg "MAX_SIZE" = some (.int 30 t)
  c_SYSTEMS : mg "SYSTEMS" = some (.ref (He.ga K "SYSTEMS"))
  q_SYSTEMS : ∀ H : Hp, SqT K H (He.ga K "SYSTEMS") [V.str "first", V.str "last", V.str "dense"]
  c_LETTERS : ∃ t, mg "LETTERS" = some (.str "abcdefghijklmnopqrstuvwxyz" t)
  c_MAX_SEEN : ∃ t, mg "MAX_SEEN" = some (.int 12 t)
  c_MAX_NAME : ∃ t, mg "MAX_NAME" = some (.int 8 t)
  c_MAX_CLASH : ∃ t, mg "MAX_CLASH" = some (.int 8 t)
  g_InvalidGroups : mg "InvalidGroups" = some (.ref (He.ga K "InvalidGroups"))
  g_InvalidSystem : mg "InvalidSystem" = some (.ref (He.ga K "InvalidSystem"))
  g_InvalidIndex : mg "InvalidIndex" = some (.ref (He.ga K "InvalidIndex"))
  g_InvalidSize : mg "InvalidSize" = some (.ref (He.ga K "InvalidSize"))
  g_InvalidSeen : mg "InvalidSeen" = some (.ref (He.ga K "InvalidSeen"))
  g_InvalidNumber : mg "InvalidNumber" = some (.ref (He.ga K "InvalidNumber"))
  g_TooMany : mg "TooMany" = some (.ref (He.ga K "TooMany"))
  g_InvalidName : mg "InvalidName" = some (.ref (He.ga K "InvalidName"))
  g_InvalidResult : mg "InvalidResult" = some (.ref (He.ga K "InvalidResult"))
  g_UnknownName : mg "UnknownName" = some (.ref (He.ga K "UnknownName"))
  g_KnownName : mg "KnownName" = some (.ref (He.ga K "KnownName"))
  g_NothingToUndo : mg "NothingToUndo" = some (.ref (He.ga K "NothingToUndo"))
  g_RankError : mg "RankError" = some (.ref (He.ga K "RankError"))
  er_InvalidGroups : ErrOk K errAll "InvalidGroups"
  er_InvalidSystem : ErrOk K errAll "InvalidSystem"
  er_InvalidIndex : ErrOk K errAll "InvalidIndex"
  er_InvalidSize : ErrOk K errAll "InvalidSize"
  er_InvalidSeen : ErrOk K errAll "InvalidSeen"
  er_InvalidNumber : ErrOk K errAll "InvalidNumber"
  er_TooMany : ErrOk K errAll "TooMany"
theorem bi_is_integer {K : PySem.W.Frag} {mg : Str → Option Value} (T : Tx K mg) : Binds K T.fd_is_integer ["value", "low", "high"] [] := T.F_is_integer.binds (ps := ["value", "low", "high"]) fun _ _ _ _ _ _ us hl => match us, hl with | [_, _, _], _ => rfl
theorem bi_is_groups {K : PySem.W.Frag} {mg : Str → Option Value} (T : Tx K mg) : Binds K T.fd_is_groups ["value"] [] := T.F_is_groups.binds (ps := ["value"]) fun _ _ _ _ _ _ us hl => match us, hl with | [_], _ => rfl
theorem bi_require_groups {K : PySem.W.Frag} {mg : Str → Option Value} (T : Tx K mg) : Binds K T.fd_require_groups ["value"] [] := T.F_require_groups.binds (ps := ["value"]) fun _ _ _ _ _ _ us hl => match us, hl with | [_], _ => rfl
theorem bi_require_system {K : PySem.W.Frag} {mg : Str → Option Value} (T : Tx K mg) : Binds K T.fd_require_system ["value"] [] := T.F_require_system.binds (ps := ["value"]) fun _ _ _ _ _ _ us hl => match us, hl with | [_], _ => rfl
theorem bi_ranks_of {K : PySem.W.Frag} {mg : Str → Option Value} (T : Tx K mg) : Binds K T.fd_ranks_of ["sizes", "system"] [] := T.F_ranks_of.binds (ps := ["sizes", "system"]) fun _ _ _ _ _ _ us hl => match us, hl with | [_, _], _ => rfl
theorem bi_ranks {K : PySem.W.Frag} {mg : Str → Option Value} (T : Tx K mg) : KBn K T.fd_ranks ["groups", "system"] 1 ["system"] (· ++ ·) (· ++ ·) := kbn_of T.F_ranks (fun kV doc pm an cdv ct us ws h1 h2 => match us, ws, h1, h2 with | [_], [_], _, _ => rfl)
theorem bi_left_by_one {K : PySem.W.Frag} {mg : Str → Option Value} (T : Tx K mg) : Binds K T.fd_left_by_one ["sizes", "index"] [] := T.F_left_by_one.binds (ps := ["sizes", "index"]) fun _ _ _ _ _ _ us hl => match us, hl with | [_, _], _ => rfl
theorem bi_without {K : PySem.W.Frag} {mg : Str → Option Value} (T : Tx K mg) : Binds K T.fd_without ["groups", "index"] [] := T.F_without.binds (ps := ["groups", "index"]) fun _ _ _ _ _ _ us hl => match us, hl with | [_, _], _ => rfl
theorem bi_changed_by {K : PySem.W.Frag} {mg : Str → Option Value} (T : Tx K mg) : Binds K T.fd_changed_by ["before", "after"] [] := T.F_changed_by.binds (ps := ["before", "after"]) fun _ _ _ _ _ _ us hl => match us, hl with | [_, _], _ => rfl
theorem bi_is_name {K : PySem.W.Frag} {mg : Str → Option Value} (T : Tx K mg) : Binds K T.fd_is_name ["value"] [] := T.F_is_name.binds (ps := ["value"]) fun _ _ _ _ _ _ us hl => match us, hl with | [_], _ => rfl
theorem bi_is_person {K : PySem.W.Frag} {mg : Str → Option Value} (T : Tx K mg) : Binds K T.fd_is_person ["value"] [] := T.F_is_person.binds (ps := ["value"]) fun _ _ _ _ _ _ us hl => match us, hl with | [_], _ => rfl
theorem bi_is_seen {K : PySem.W.Frag} {mg : Str → Option Value} (T : Tx K mg) : Binds K T.fd_is_seen ["value"] [] := T.F_is_seen.binds (ps := ["value"]) fun _ _ _ _ _ _ us hl => match us, hl with | [_], _ => rfl
theorem bi_require_size {K : PySem.W.Frag} {mg : Str → Option Value} (T : Tx K mg) : Binds K T.fd_require_size ["value"] [] := T.F_require_size.binds (ps := ["value"]) fun _ _ _ _ _ _ us hl => match us, hl with | [_], _ => rfl
theorem bi_require_seen {K : PySem.W.Frag} {mg : Str → Option Value} (T : Tx K mg) : Binds K T.fd_require_seen ["value"] [] := T.F_require_seen.binds (ps := ["value"]) fun _ _ _ _ _ _ us hl => match us, hl with | [_], _ => rfl
theorem bi_members {K : PySem.W.Frag} {mg : Str → Option Value} (T : Tx K mg) : Binds K T.fd_members ["seen", "begin", "end", "number"] [] := T.F_members.binds (ps := ["seen", "begin", "end", "number"]) fun _ _ _ _ _ _ us hl => match us, hl with | [_, _, _, _], _ => rfl
theorem bi_ways_on {K : PySem.W.Frag} {mg : Str → Option Value} (T : Tx K mg) : Binds K T.fd_ways_on ["size", "seen"] [] := T.F_ways_on.binds (ps := ["size", "seen"]) fun _ _ _ _ _ _ us hl => match us, hl with | [_, _], _ => rfl
theorem bi_steps {K : PySem.W.Frag} {mg : Str → Option Value} (T : Tx K mg) : Binds K T.fd_steps ["size", "seen"] [] := T.F_steps.binds (ps := ["size", "seen"]) fun _ _ _ _ _ _ us hl => match us, hl with | [_, _], _ => rfl
theorem bi_counted {K : PySem.W.Frag} {mg : Str → Option Value} (T : Tx K mg) : Binds K T.fd_counted ["size", "seen"] [] := T.F_counted.binds (ps := ["size", "seen"]) fun _ _ _ _ _ _ us hl => match us, hl with | [_, _], _ => rfl
theorem bi_fits {K : PySem.W.Frag} {mg : Str → Option Value} (T : Tx K mg) : Binds K T.fd_fits ["size", "seen"] [] := T.F_fits.binds (ps := ["size", "seen"]) fun _ _ _ _ _ _ us hl => match us, hl with | [_, _], _ => rfl
theorem bi_count_rankings {K : PySem.W.Frag} {mg : Str → Option Value} (T : Tx K mg) : Binds K T.fd_count_rankings ["size", "seen"] [] := T.F_count_rankings.binds (ps := ["size", "seen"]) fun _ _ _ _ _ _ us hl => match us, hl with | [_, _], _ => rfl
theorem bi_next_groups {K : PySem.W.Frag} {mg : Str → Option Value} (T : Tx K mg) : Binds K T.fd_next_groups ["size", "seen", "behind", "prefix"] [] := T.F_next_groups.binds (ps := ["size", "seen", "behind", "prefix"]) fun _ _ _ _ _ _ us hl => match us, hl with | [_, _, _, _], _ => rfl
theorem bi_ranking_at {K : PySem.W.Frag} {mg : Str → Option Value} (T : Tx K mg) : Binds K T.fd_ranking_at ["size", "seen", "number"] [] := T.F_ranking_at.binds (ps := ["size", "seen", "number"]) fun _ _ _ _ _ _ us hl => match us, hl with | [_, _, _], _ => rfl
theorem bi_marks {K : PySem.W.Frag} {mg : Str → Option Value} (T : Tx K mg) : Binds K T.fd_marks ["size", "seen"] [] := T.F_marks.binds (ps := ["size", "seen"]) fun _ _ _ _ _ _ us hl => match us, hl with | [_, _], _ => rfl
theorem bi_possible_sizes {K : PySem.W.Frag} {mg : Str → Option Value} (T : Tx K mg) : Binds K T.fd_possible_sizes ["seen"] [] := T.F_possible_sizes.binds (ps := ["seen"]) fun _ _ _ _ _ _ us hl => match us, hl with | [_], _ => rfl
theorem bi_clash {K : PySem.W.Frag} {mg : Str → Option Value} (T : Tx K mg) : Binds K T.fd_clash ["size", "seen"] [] := T.F_clash.binds (ps := ["size", "seen"]) fun _ _ _ _ _ _ us hl => match us, hl with | [_, _], _ => rfl
theorem bi_law_source {K : PySem.W.Frag} {mg : Str → Option Value} (T : Tx K mg) : Binds K T.fd_law_source ["script", "k"] [] := T.F_law_source.binds (ps := ["script", "k"]) fun _ _ _ _ _ _ us hl => match us, hl with | [_, _], _ => rfl
theorem bi_law_pick {K : PySem.W.Frag} {mg : Str → Option Value} (T : Tx K mg) : Binds K T.fd_law_pick ["source", "size"] [] := T.F_law_pick.binds (ps := ["source", "size"]) fun _ _ _ _ _ _ us hl => match us, hl with | [_, _], _ => rfl
theorem bi_law_is_bool {K : PySem.W.Frag} {mg : Str → Option Value} (T : Tx K mg) : Binds K T.fd_law_is_bool ["actual", "expected"] [] := T.F_law_is_bool.binds (ps := ["actual", "expected"]) fun _ _ _ _ _ _ us hl => match us, hl with | [_, _], _ => rfl
theorem bi_law_any_value {K : PySem.W.Frag} {mg : Str → Option Value} (T : Tx K mg) : Binds K T.fd_law_any_value ["source", "depth"] [] := T.F_law_any_value.binds (ps := ["source", "depth"]) fun _ _ _ _ _ _ us hl => match us, hl with | [_, _], _ => rfl
theorem bi_law_variant {K : PySem.W.Frag} {mg : Str → Option Value} (T : Tx K mg) : Binds K T.fd_law_variant ["source", "value", "depth"] [] := T.F_law_variant.binds (ps := ["source", "value", "depth"]) fun _ _ _ _ _ _ us hl => match us, hl with | [_, _, _], _ => rfl
theorem bi_law_is_integer {K : PySem.W.Frag} {mg : Str → Option Value} (T : Tx K mg) : Binds K T.fd_law_is_integer ["value", "low", "high"] [] := T.F_law_is_integer.binds (ps := ["value", "low", "high"]) fun _ _ _ _ _ _ us hl => match us, hl with | [_, _, _], _ => rfl
theorem bi_law_error_name {K : PySem.W.Frag} {mg : Str → Option Value} (T : Tx K mg) : Binds K T.fd_law_error_name ["e"] [] := T.F_law_error_name.binds (ps := ["e"]) fun _ _ _ _ _ _ us hl => match us, hl with | [_], _ => rfl
theorem bi_law_sizes {K : PySem.W.Frag} {mg : Str → Option Value} (T : Tx K mg) : Binds K T.fd_law_sizes ["source", "top"] [] := T.F_law_sizes.binds (ps := ["source", "top"]) fun _ _ _ _ _ _ us hl => match us, hl with | [_, _], _ => rfl
theorem bi_law_rows {K : PySem.W.Frag} {mg : Str → Option Value} (T : Tx K mg) : Binds K T.fd_law_rows ["sizes"] [] := T.F_law_rows.binds (ps := ["sizes"]) fun _ _ _ _ _ _ us hl => match us, hl with | [_], _ => rfl
theorem bi_law_people {K : PySem.W.Frag} {mg : Str → Option Value} (T : Tx K mg) : Binds K T.fd_law_people [] [] := T.F_law_people.binds (ps := []) fun _ _ _ _ _ _ us hl => match us, hl with | [], _ => rfl
theorem bi_law_seen {K : PySem.W.Frag} {mg : Str → Option Value} (T : Tx K mg) : Binds K T.fd_law_seen ["source", "sizes", "most", "kinds"] [] := T.F_law_seen.binds (ps := ["source", "sizes", "most", "kinds"]) fun _ _ _ _ _ _ us hl => match us, hl with | [_, _, _, _], _ => rfl
theorem bi_law_is_good_person {K : PySem.W.Frag} {mg : Str → Option Value} (T : Tx K mg) : Binds K T.fd_law_is_good_person ["value"] [] := T.F_law_is_good_person.binds (ps := ["value"]) fun _ _ _ _ _ _ us hl => match us, hl with | [_], _ => rfl
theorem bi_law_kinds {K : PySem.W.Frag} {mg : Str → Option Value} (T : Tx K mg) : Binds K T.fd_law_kinds [] [] := T.F_law_kinds.binds (ps := []) fun _ _ _ _ _ _ us hl => match us, hl with | [], _ => rfl
theorem bi_law_is_good_sizes {K : PySem.W.Frag} {mg : Str → Option Value} (T : Tx K mg) : Binds K T.fd_law_is_good_sizes ["value"] [] := T.F_law_is_good_sizes.binds (ps := ["value"]) fun _ _ _ _ _ _ us hl => match us, hl with | [_], _ => rfl
theorem bi_law_is_good_seen {K : PySem.W.Frag} {mg : Str → Option Value} (T : Tx K mg) : Binds K T.fd_law_is_good_seen ["value"] [] := T.F_law_is_good_seen.binds (ps := ["value"]) fun _ _ _ _ _ _ us hl => match us, hl with | [_], _ => rfl
theorem bi_law_outcome {K : PySem.W.Frag} {mg : Str → Option Value} (T : Tx K mg) : Binds K T.fd_law_outcome ["call", "value", "odd"] [] := T.F_law_outcome.binds (ps := ["call", "value", "odd"]) fun _ _ _ _ _ _ us hl => match us, hl with | [_, _, _], _ => rfl
theorem bi_law {K : PySem.W.Frag} {mg : Str → Option Value} (T : Tx K mg) : Binds K T.fd_law ["script"] [] := T.F_law.binds (ps := ["script"]) fun _ _ _ _ _ _ us hl => match us, hl with | [_], _ => rfl
/-! the readings' own lines -/
local macro_rules
  | `(tactic| wtm_at "sz") => `(tactic| first | exact Nat.le_of_ble_eq_true rfl | exact sz (by simp only [List.length_cons, List.length_nil]; omega) | exact sz' (by simp only [List.length_cons, List.length_nil]; omega) | assumption)
local macro_rules
  | `(tactic| wtm_at "call") => `(tactic| fail)
local macro_rules
  | `(tactic| wtm_at "side") => `(tactic| first | assumption | omega | (dsimp only; omega) | exact ⟨by omega, by omega⟩ | exact Or.inr ⟨by omega, by omega⟩ | exact Or.inl ⟨by omega, by omega⟩ | exact ⟨by omega, by omega, by decide⟩)
local macro_rules
  | `(tactic| wtm_at "in") => `(tactic| first | (exact notin_K (by assumption) rfl) | exact in_seq rfl rfl rfl | exact notin_seq rfl rfl rfl)
local macro_rules
  | `(tactic| wtm_at "ix") => `(tactic| first | rfl | assumption)
local macro_rules
  | `(tactic| wtm_at "shaped") => `(tactic| first | rfl | assumption)
local macro_rules
  | `(tactic| wtm_at "un") => `(tactic| exact un_negI)
local macro_rules
  | `(tactic| wtm_at "op") => `(tactic| first
    | exact add_int | exact ops_I0 | exact ops_B0
    | ((with_reducible apply ops_eqD); rfl; rfl; wtm_at "shaped"; wtm_at "shaped") | ((with_reducible apply ops_neD); rfl; rfl; wtm_at "shaped"; wtm_at "shaped")
    | exact ops_isN | exact ops_notN
    | (apply add_tup; wtm_at "sz") | (apply add_lst; rfl; rfl; wtm_at "sz") | (apply OpS.shareL; apply add_lst; rfl; rfl; wtm_at "sz") | (apply add_str; wtm_at "sz")
    | (apply mul_int; wtm_at "side")
    | (apply ops_I; wtm_at "side")
    | ((with_reducible apply ix_at); rfl; wtm_at "ix")
    | ((with_reducible apply in_G); wtm_at "in") | ((with_reducible apply notin_G); wtm_at "in"))
local macro_rules
  | `(tactic| wtm_at "cb") => `(tactic| first
    | exact isi_int | exact isi_bool | exact isi_str | exact isi_tuple | exact isi_list
    | exact len_seq rfl | (apply len_str; wtm_at "sz") | exact sum_ints rfl | exact all_bls rfl | exact max2 | exact min2 | exact int_bool
    | exact tup_lst rfl | exact lst_seq rfl | exact CallS.shareL (lst_seq rfl))
local macro_rules
  | `(tactic| wtm_at "ev") => `(tactic| first
    | ((with_reducible apply evs_var); rfl; rfl)
    | (with_reducible exact evs_int) | (with_reducible exact evs_bl) | (with_reducible exact evs_str) | (with_reducible exact evs_non) | (with_reducible exact evs_raw)
    | (with_reducible exact eva_nil) | (with_reducible exact evd_nil) | (with_reducible exact evo_no)
    | ((with_reducible apply eva_cons); wtm_at "ev"; wtm_at "ev") | ((with_reducible apply evd_cons); wtm_at "ev"; wtm_at "ev")
    | ((with_reducible apply evo_some); wtm_at "ev")
    | ((with_reducible apply evs_op); wtm_at "ev"; wtm_at "ev"; wtm_at "op")
    | ((with_reducible apply evs_un); wtm_at "ev"; wtm_at "un")
    | ((with_reducible apply evs_cb); wtm_at "ev"; wtm_at "cb")
    | ((with_reducible apply evs_tup); wtm_at "ev"; wtm_at "sz")
    | ((with_reducible apply evs_lst); wtm_at "ev"; wtm_at "sz") | ((with_reducible apply evs_share); (with_reducible apply evs_lst); wtm_at "ev"; wtm_at "sz")
    | ((with_reducible apply evs_slT); wtm_at "ev"; rfl; wtm_at "ev"; wtm_at "ev") | ((with_reducible apply evs_slL); wtm_at "ev"; rfl; wtm_at "ev"; wtm_at "ev") | ((with_reducible apply evs_share); (with_reducible apply evs_slL); wtm_at "ev"; rfl; wtm_at "ev"; wtm_at "ev")
    | ((with_reducible apply evt_B); wtm_at "ev") | ((with_reducible apply evt_test); wtm_at "ev")
    | (with_reducible exact evt_yes)
    | ((with_reducible apply evt_not); wtm_at "ev")
    | ((with_reducible apply evs_notV); wtm_at "ev")
    | ((with_reducible apply evt_and0); wtm_at "ev"; rfl) | ((with_reducible apply evt_and); wtm_at "ev"; intro _; wtm_at "ev")
    | ((with_reducible apply evt_or1); wtm_at "ev"; rfl) | ((with_reducible apply evt_or); wtm_at "ev"; intro _; wtm_at "ev")
    | ((with_reducible apply evs_andV0); wtm_at "ev"; rfl) | ((with_reducible apply evs_andV); wtm_at "ev"; intro _; wtm_at "ev")
    | ((with_reducible apply evs_orV1); wtm_at "ev"; rfl) | ((with_reducible apply evs_orV); wtm_at "ev"; intro _; wtm_at "ev")
    | ((with_reducible apply evs_chain); wtm_at "ev"; wtm_at "ev"; wtm_at "op"; intro _; wtm_at "ev"; intro _; wtm_at "op")
    | ((with_reducible apply evs_ifT); wtm_at "ev"; intro _; wtm_at "ev"; intro _; wtm_at "ev")
    | ((with_reducible apply evs_ifD); wtm_at "ev"; intro _; wtm_at "ev"; intro _; wtm_at "ev")
    | wtm_at "call")
local macro_rules
  | `(tactic| wtm_at "evis") => `(tactic| (apply evs_is; wtm_at "ev"; rfl))
local macro_rules
  | `(tactic| wtm_at "evtis") => `(tactic| (apply evt_is; wtm_at "ev"; rfl))

variable {P : Program} {w : World} {K : PySem.W.Frag} {mg : Str → Option Value} {base : Heap}
/-! ### is_integer -/
def isIntB (d : PyData) (lo hi : Int) : Bool := match d with
  | .int i => decide (lo ≤ i) && decide (i ≤ hi)
  | _ => false
abbrev con_is_integer : Con := { α := PyData × Int × Int, args := fun a => [.d a.1, .d (.int a.2.1), .d (.int a.2.2)], pre := fun _ => True, post := fun a r => r = .d (.bool (isIntB a.1 a.2.1 a.2.2)) }
theorem ok_is_integer (T : Tx K mg) : FnOk P w K mg base CX0 (0 + 1) (He.ga K "is_integer") T.fd_is_integer ["value", "low", "high"] (spP K con_is_integer) := by
  refine fn_ok T.F_is_integer sc_is_integer con_is_integer (fun _ _ => rfl) (by decide) (fun _ _ h => h) fun cdv A outer s H E hr => ⟨_, (pss_one (ps_ret (pe_and (pe_callB call_isi (by rfl) T.b_isinstance bt_isinstance (pa_cons (pv 0) (pa_cons (pe_bltn (v := .ty "int") (by rfl) T.b_int bt_int rfl) pa_nil))) (pe_and (pe_not (pe_callB call_isi (by rfl) T.b_isinstance bt_isinstance (pa_cons (pv 0) (pa_cons (pe_bltn (v := .ty "bool") (by rfl) T.b_bool bt_bool rfl) pa_nil)))) (pe_one (pe_chain op_le op_le (pv 1) (pv 0) (pv 2))))))), ?_⟩
  rintro B S0 E px ⟨d, lo, hi⟩ -
  dsimp only [L2.cxOf, L2.Cx.nox, L2.Cx.wish]
  refine wp_ret ?_
  cases d with
  | int i =>
    apply EvS.wp
    · wtm_at "ev"
    · exact ⟨rfl, rfl⟩
  | _ =>
    apply EvS.wp
    · wtm_at "ev"
    · exact ⟨rfl, rfl⟩
theorem cl_is_integer {F : Fx} {Γ : List Sl} {t : TA} {E : XK} {d : PyData} {lo hi : Int} (h : EvA F t Γ [.d d, .d (.int lo), .d (.int hi)]) : EvS F (tCall (spP F.K con_is_integer) [] E t) Γ (.d (.bool (isIntB d lo hi))) :=
  evs_call (c := con_is_integer) (d, lo, hi) h rfl trivial (fun _ h => h) fun _ h => h
local macro_rules
  | `(tactic| wtm_at "call") => `(tactic| ((with_reducible apply cl_is_integer); wtm_at "ev"))

/-! ### mathematics of groups -/
def enumAt : Nat → List PyData → List PyData
  | _, [] => []
  | i, d :: ds => .tuple [.int (i : Int), d] :: enumAt (i + 1) ds
theorem enumD_at (ds : List PyData) : enumD ds = enumAt 0 ds := by
  have h : ∀ (ds : List PyData) (i : Nat), (ds.zipIdx i).map (fun p => PyData.tuple [.int (p.2 : Int), p.1]) = enumAt i ds := by
    intro ds
    induction ds with
    | nil => intro i; rfl
    | cons d ds ih => intro i; rw [List.zipIdx_cons, List.map_cons, ih]; rfl
  exact h ds 0
/-- the ints of data -/
def intsOf : List PyData → List Int
  | [] => []
  | .int i :: ds => i :: intsOf ds
  | _ :: ds => intsOf ds
theorem intsOf_map (ns : List Int) : intsOf (ns.map PyData.int) = ns := by
  induction ns with
  | nil => rfl
  | cons n ns ih => show n :: intsOf (ns.map PyData.int) = n :: ns; rw [ih]
theorem ints_all {lo hi : Int} : ∀ {ds : List PyData}, (ds.all fun d => isIntB d lo hi) = true → ∃ ns : List Int, ds = ns.map PyData.int ∧ ∀ n ∈ ns, lo ≤ n ∧ n ≤ hi
  | [], _ => ⟨[], rfl, by simp⟩
  | d :: ds, h => by
    rw [List.all_cons, Bool.and_eq_true] at h
    obtain ⟨ns, rfl, hn⟩ := ints_all h.2
    cases d with
    | int i =>
      have h1 := h.1
      simp [isIntB] at h1
      exact ⟨i :: ns, rfl, by simpa using ⟨h1, hn⟩⟩
    | _ => exact nomatch h.1
def isGroupsB (d : PyData) : Bool := match d with
  | .tuple ds => (decide (1 ≤ (ds.length : Int)) && decide ((ds.length : Int) ≤ 30)) && ((ds.all fun d => isIntB d 1 30) && decide ((intsOf ds).sum ≤ 30))
  | _ => false
theorem isGroups_of {ns : List Int} (h1 : ns ≠ []) (h2 : ∀ n ∈ ns, 1 ≤ n) (h3 : ns.sum ≤ 30) : isGroupsB (.tuple (ns.map PyData.int)) = true := by
  have hl : ∀ (ns : List Int), (∀ n ∈ ns, 1 ≤ n) → (ns.length : Int) ≤ ns.sum ∧ ∀ n ∈ ns, n ≤ ns.sum := by
    intro ns
    induction ns with
    | nil => intro _; exact ⟨by simp, by simp⟩
    | cons n ns ih =>
      intro h
      obtain ⟨i1, i2⟩ := ih fun m hm => h m (by simp [hm])
      have h0 := h n (by simp)
      refine ⟨by rw [List.length_cons, List.sum_cons]; omega, fun m hm => ?_⟩
      rw [List.sum_cons]
      rcases List.mem_cons.mp hm with rfl | hm
      · omega
      · have := i2 m hm; omega
  obtain ⟨l1, l2⟩ := hl ns h2
  have l0 : 1 ≤ ns.length := by cases ns with | nil => exact absurd rfl h1 | cons n r => simp
  simp only [isGroupsB, List.length_map, intsOf_map, Bool.and_eq_true, decide_eq_true_eq, List.all_eq_true]
  refine ⟨⟨by omega, by omega⟩, fun d hd => ?_, h3⟩
  obtain ⟨n, hn, rfl⟩ := List.mem_map.mp hd
  have := l2 n hn
  have := h2 n hn
  simp [isIntB]; omega
theorem of_isGroups {d : PyData} (h : isGroupsB d = true) : ∃ ns : List Int, d = .tuple (ns.map PyData.int) ∧ ns ≠ [] ∧ (∀ n ∈ ns, 1 ≤ n) ∧ ns.sum ≤ 30 ∧ ns.length ≤ 30 := by
  cases d with
  | tuple ds =>
    simp only [isGroupsB, Bool.and_eq_true, decide_eq_true_eq] at h
    obtain ⟨⟨a, b⟩, c, e⟩ := h
    obtain ⟨ns, rfl, hn⟩ := ints_all c
    rw [intsOf_map] at e
    rw [List.length_map] at a b
    exact ⟨ns, rfl, by intro q; subst q; simp at a, fun n h => (hn n h).1, e, by omega⟩
  | _ => cases h
inductive Sys where
  | first | last | dense
  deriving DecidableEq
def Sys.str : Sys → Str
  | .first => "first"
  | .last => "last"
  | .dense => "dense"
def Sys.rk (sy : Sys) (a b c : PyData) : PyData := match sy with
  | .first => a
  | .last => b
  | .dense => c
theorem disp3 {a b c : PyData} (sy : Sys) : valD (mergeD [] [((.inr "first" : Key), a), (.inr "last", b), (.inr "dense", c)]) (.inr sy.str) = some (sy.rk a b c) := by
  have n1 : ¬ (("first" : Str) = "last") := by decide +kernel
  have n2 : ¬ (("first" : Str) = "dense") := by decide +kernel
  have n3 : ¬ (("last" : Str) = "dense") := by decide +kernel
  cases sy <;> simp [mergeD, putD, valD, Sys.str, Sys.rk, n1, n2, n3, Ne.symm n1, Ne.symm n2, Ne.symm n3]
def rankI (sy : Sys) (place : Int) (at' : Nat) (n : Int) : Int := match sy with
  | .first => place + 1
  | .last => place + n
  | .dense => (at' : Int) + 1
/-- the ranks at all places, from a place and an index on -/
def ranksFrom (sy : Sys) : Int → Nat → List Int → List Int
  | _, _, [] => []
  | p, a, n :: ns => List.replicate n.toNat (rankI sy p a n) ++ ranksFrom sy (p + n) (a + 1) ns
theorem ranksFrom_len (sy : Sys) : ∀ (ns : List Int) (p : Int) (a : Nat), (∀ n ∈ ns, 1 ≤ n) → ((ranksFrom sy p a ns).length : Int) = ns.sum
  | [], _, _, _ => rfl
  | n :: ns, p, a, h => by
    have ih := ranksFrom_len sy ns (p + n) (a + 1) fun m hm => h m (by simp [hm])
    have h1 := h n (by simp)
    rw [ranksFrom, List.length_append, List.length_replicate, List.sum_cons]
    omega
def encI (ns : List Int) : PyData := .tuple (ns.map PyData.int)
theorem depth_ints' (ns : List Int) : PyData.depthAll (ns.map PyData.int) = 0 := by
  induction ns with
  | nil => simp [PyData.depthAll]
  | cons n r ih => rw [List.map_cons, PyData.depthAll, ih]; simp [PyData.depth]
theorem lay_ints (ns : List Int) : PyData.canLayAll0 (ns.map PyData.int) = true := by
  induction ns with
  | nil => simp [PyData.canLayAll0]
  | cons n r ih => rw [List.map_cons, PyData.canLayAll0, ih]; simp [PyData.canLay0]
theorem sh_encI (ns : List Int) : SeqAt.shaped (.tuple (ns.map PyData.int)) = true := by
  simp [SeqAt.shaped, PyData.canLay0, PyData.depth, lay_ints, depth_ints']
theorem sh_listI (ns : List Int) : SeqAt.shaped (.list (ns.map PyData.int)) = true := by
  simp [SeqAt.shaped, PyData.canLay0, PyData.depth, lay_ints, depth_ints']
theorem sh_int (i : Int) : SeqAt.shaped (.int i) = true := by simp [SeqAt.shaped, PyData.canLay0, PyData.depth]
theorem sh_non : SeqAt.shaped .none = true := by simp [SeqAt.shaped, PyData.canLay0, PyData.depth]
theorem sh_bool (b : Bool) : SeqAt.shaped (.bool b) = true := by simp [SeqAt.shaped, PyData.canLay0, PyData.depth]
theorem sh_str {b : Str} (h : PyData.strOk b = true) : SeqAt.shaped (.str b) = true := by simp [SeqAt.shaped, PyData.canLay0, PyData.depth, h]
theorem eqv_int (i j : Int) : PyData.eqv (.int i) (.int j) = decide (i = j) := by
  rw [PyData.eqv]; by_cases h : i = j <;> simp [h]
theorem eqvAll_ints : ∀ ns ms : List Int, PyData.eqvAll (ns.map PyData.int) (ms.map PyData.int) = decide (ns = ms)
  | [], [] => by simp [PyData.eqvAll]
  | [], m :: ms => by simp [PyData.eqvAll]
  | n :: ns, [] => by simp [PyData.eqvAll]
  | n :: ns, m :: ms => by
    rw [List.map_cons, List.map_cons, PyData.eqvAll, eqvAll_ints ns ms, eqv_int]
    by_cases h1 : n = m <;> by_cases h2 : ns = ms <;> simp [h1, h2]
theorem eqv_encI (ns ms : List Int) : PyData.eqv (.tuple (ns.map PyData.int)) (.tuple (ms.map PyData.int)) = decide (ns = ms) := by
  rw [PyData.eqv]; exact eqvAll_ints ns ms
theorem sum_nonneg' : ∀ {ns : List Int}, (∀ n ∈ ns, 1 ≤ n) → (ns.length : Int) ≤ ns.sum
  | [], _ => by simp
  | n :: ns, h => by
    have := sum_nonneg' (ns := ns) fun m hm => h m (by simp [hm])
    have := h n (by simp)
    rw [List.length_cons, List.sum_cons]; omega
theorem mem_le_sum : ∀ {ns : List Int}, (∀ n ∈ ns, 1 ≤ n) → ∀ n ∈ ns, n ≤ ns.sum
  | [], _, n, hn => by simp at hn
  | m :: ns, h, n, hn => by
    have h1 := sum_nonneg' (ns := ns) fun m hm => h m (by simp [hm])
    rw [List.sum_cons]
    rcases List.mem_cons.mp hn with rfl | hn
    · omega
    · have := mem_le_sum (ns := ns) (fun m hm => h m (by simp [hm])) n hn
      have := h m (by simp)
      omega

/-! ### people -/
def letters : Str := "abcdefghijklmnopqrstuvwxyz"
def signIn : PyData → Bool
  | .str s => !(Builtin.Str.occurrences letters s 0 letters.length 1).isEmpty
  | _ => false
def isNameS (a : Str) : Bool := (decide (1 ≤ (a.length : Int)) && decide ((a.length : Int) ≤ 8)) && (signs a).all signIn
def isNameB : PyData → Bool
  | .str a => isNameS a
  | _ => false
def shortS : PyData → Prop
  | .str a => a.length ≤ 100000
  | _ => True
def oI : Option Int → PyData
  | none => .none
  | some i => .int i
def rankO : Option Int → Bool
  | none => true
  | some i => decide (1 ≤ i) && decide (i ≤ 30)
def leO : Option Int → Option Int → Bool
  | some i, some j => decide (i ≤ j)
  | _, _ => true
def okR (d : PyData) : Bool := PyData.isN d || isIntB d 1 30
theorem okR_of {d : PyData} (h : okR d = true) : ∃ o, d = oI o ∧ rankO o = true := by
  cases d with
  | none => exact ⟨none, rfl, rfl⟩
  | int i => exact ⟨some i, rfl, h⟩
  | _ => cases h
theorem okR_oI (o : Option Int) : okR (oI o) = rankO o := by cases o <;> rfl
structure Per where
  name : Str
  first : Option Int
  last : Option Int
  dense : Option Int
/-- what the checks ask of the ranks -/
def ranksOk (f l d : Option Int) : Bool := rankO f && rankO l && rankO d && !(f.isNone && l.isNone && d.isNone) && leO f l && leO d f && leO d l
def Per.ok (p : Per) : Bool := isNameS p.name && ranksOk p.first p.last p.dense
def Per.ranks (p : Per) : List PyData := [oI p.first, oI p.last, oI p.dense]
def Per.enc (p : Per) : PyData := .tuple [.str p.name, oI p.first, oI p.last, oI p.dense]
def optI : PyData → Option Int
  | .int i => some i
  | _ => none
theorem optI_oI (o : Option Int) : optI (oI o) = o := by cases o <;> rfl
def isPersonB : PyData → Bool
  | .tuple [n, a, b, c] => isNameB n && (okR a && (okR b && okR c)) && ranksOk (optI a) (optI b) (optI c)
  | _ => false
theorem isPerson_enc (p : Per) : isPersonB p.enc = p.ok := by
  show (isNameB (.str p.name) && (okR (oI p.first) && (okR (oI p.last) && okR (oI p.dense))) && ranksOk (optI (oI p.first)) (optI (oI p.last)) (optI (oI p.dense))) = _
  simp only [okR_oI, optI_oI, isNameB, Per.ok, ranksOk]
  cases isNameS p.name <;> cases rankO p.first <;> cases rankO p.last <;> cases rankO p.dense <;> rfl
theorem of_isPerson {d : PyData} (h : isPersonB d = true) : ∃ p : Per, d = p.enc ∧ p.ok = true := by
  unfold isPersonB at h
  split at h
  · rename_i n a b c
    simp only [Bool.and_eq_true] at h
    obtain ⟨⟨h1, h2, h3, h4⟩, h5⟩ := h
    obtain ⟨fa, rfl, _⟩ := okR_of h2
    obtain ⟨fb, rfl, _⟩ := okR_of h3
    obtain ⟨fc, rfl, _⟩ := okR_of h4
    cases n with
    | str nm =>
      refine ⟨⟨nm, fa, fb, fc⟩, rfl, ?_⟩
      simp only [optI_oI] at h5
      simp only [Per.ok, Bool.and_eq_true]
      exact ⟨h1, h5⟩
    | _ => cases h1
  · cases h
theorem name_short {a : Str} (h : isNameS a = true) : 1 ≤ a.length ∧ a.length ≤ 8 := by
  simp only [isNameS, Bool.and_eq_true, decide_eq_true_eq] at h
  omega
def shortP : PyData → Prop
  | .tuple (n :: _) => shortS n
  | _ => True
theorem shortP_enc {p : Per} (h : p.ok = true) : shortP p.enc := by
  simp only [Per.ok, Bool.and_eq_true] at h
  have := name_short h.1
  show p.name.length ≤ 100000
  omega
def name0 : PyData → PyData
  | .tuple (n :: _) => n
  | _ => .none
/-- the names of people -/
def namesOf : List PyData → List Str
  | [] => []
  | .tuple (.str a :: _) :: ds => a :: namesOf ds
  | _ :: ds => namesOf ds
theorem namesOf_enc (ps : List Per) : namesOf (ps.map Per.enc) = ps.map Per.name := by
  induction ps with
  | nil => rfl
  | cons p ps ih => show p.name :: namesOf _ = _; rw [ih]; rfl
def isSeenB : PyData → Bool
  | .tuple ds => decide (ds.length ≤ 12) && ds.all isPersonB && decide ((uniq ((namesOf ds).map (Sum.inr : Str → Key))).length = ds.length)
  | _ => false
def encSeen (ps : List Per) : PyData := .tuple (ps.map Per.enc)
structure SeenOk (ps : List Per) : Prop where
  few : ps.length ≤ 12
  ok : ∀ p ∈ ps, p.ok = true
  nodup : (ps.map Per.name).Nodup
theorem nodup_inr {xs : List Str} : (xs.map (Sum.inr : Str → Key)).Nodup ↔ xs.Nodup := by
  constructor
  · intro h
    induction xs with
    | nil => exact .nil
    | cons x xs ih =>
      rw [List.map_cons, List.nodup_cons] at h
      exact List.nodup_cons.mpr ⟨fun q => h.1 (List.mem_map.mpr ⟨x, q, rfl⟩), ih h.2⟩
  · intro h
    induction xs with
    | nil => exact .nil
    | cons x xs ih =>
      rw [List.nodup_cons] at h
      rw [List.map_cons, List.nodup_cons]
      refine ⟨fun q => ?_, ih h.2⟩
      obtain ⟨y, hy, e⟩ := List.mem_map.mp q
      exact h.1 (Sum.inr.inj e ▸ hy)
theorem isSeen_enc {ps : List Per} : isSeenB (encSeen ps) = true ↔ SeenOk ps := by
  simp only [encSeen, isSeenB, Bool.and_eq_true, decide_eq_true_eq, List.length_map, List.all_map, namesOf_enc, List.all_eq_true]
  have e : (uniq ((ps.map Per.name).map (Sum.inr : Str → Key))).length = ps.length ↔ (ps.map Per.name).Nodup := by
    have := uniq_len_iff ((ps.map Per.name).map (Sum.inr : Str → Key))
    rw [List.length_map, List.length_map] at this
    rw [this, nodup_inr]
  rw [e]
  exact ⟨fun ⟨⟨h1, h2⟩, h3⟩ => ⟨h1, fun p hp => (isPerson_enc p).symm.trans (h2 p hp), h3⟩, fun h => ⟨⟨h.few, fun p hp => (isPerson_enc p).trans (h.ok p hp)⟩, h.nodup⟩⟩
theorem pers_of : ∀ {ds : List PyData}, ds.all isPersonB = true → ∃ ps : List Per, ds = ps.map Per.enc ∧ ∀ p ∈ ps, p.ok = true
  | [], _ => ⟨[], rfl, by simp⟩
  | d :: ds, h => by
    rw [List.all_cons, Bool.and_eq_true] at h
    obtain ⟨ps, rfl, hp⟩ := pers_of h.2
    obtain ⟨p, rfl, h1⟩ := of_isPerson h.1
    exact ⟨p :: ps, rfl, by simpa using ⟨h1, hp⟩⟩
theorem of_isSeen {d : PyData} (h : isSeenB d = true) : ∃ ps, d = encSeen ps ∧ SeenOk ps := by
  cases d with
  | tuple ds =>
    have h' := h
    simp only [isSeenB, Bool.and_eq_true] at h'
    obtain ⟨ps, rfl, _⟩ := pers_of h'.1.2
    exact ⟨ps, rfl, isSeen_enc.mp h⟩
  | _ => cases h
theorem sh_oI (o : Option Int) : SeqAt.shaped (oI o) = true := by cases o <;> rfl
theorem eqv_oI : ∀ (a b : Option Int), PyData.eqv (oI a) (oI b) = decide (a = b)
  | none, none => rfl
  | none, some i => by simp [oI, PyData.eqv]
  | some i, none => by simp [oI, PyData.eqv]
  | some i, some j => by
    show PyData.eqv (.int i) (.int j) = _
    rw [eqv_int]
    by_cases h : i = j <;> simp [h]
theorem isN_oI (o : Option Int) : PyData.isN (oI o) = o.isNone := by cases o <;> rfl
theorem flat_oI (o : Option Int) : flatD (oI o) = true := by cases o <;> rfl

/-! ### is_name -/
abbrev con_is_name : Con := { α := PyData, args := fun a => [.d a], pre := fun a => shortS a, post := fun a r => r = .d (.bool (isNameB a)) }
theorem ok_is_name (T : Tx K mg) : FnOk P w K mg base CX0 (0 + 1) (He.ga K "is_name") T.fd_is_name ["value"] (spP K con_is_name) := by
  refine fn_ok T.F_is_name sc_is_name con_is_name (fun _ _ => rfl) (by decide) (fun _ _ h => h) fun cdv A outer s H E hr => ⟨_, (pss_one (ps_ret (pe_and (pe_callB call_isi (by rfl) T.b_isinstance bt_isinstance (pa_cons (pv 0) (pa_cons (pe_bltn (v := .ty "str") (by rfl) T.b_str bt_str rfl) pa_nil))) (pe_and (pe_chain op_le op_le pe_int (pe_callB call_lenG (by rfl) T.b_len bt_len (pa_cons (pv 0) pa_nil)) (pe_glob (v := .int 8) (by rfl) T.c_MAX_NAME.choose_spec ⟨_, rfl⟩)) (pe_one (pe_callB (cr_all rfl) (by rfl) T.b_all bt_all (pa_cons (pe_lc (own := [("sign", 1)]) rfl sc_is_name.nd (pi_seq (pv 0)) (blkOk_by (own := [("sign", 1)]) (N := ["value", "sign"]) (sc := defScope s_is_name) (by decide +kernel)) (fun _ _ _ _ _ => (pg_name (i := 1) sc_is_name.nd rfl (.inl rfl))) (fun _ _ _ _ _ => pts_nil) (fun _ _ _ _ _ => (pe_cmpR (opK rInG K op_in_G) (pv 1) (pe_glob (v := .str "abcdefghijklmnopqrstuvwxyz") (by rfl) T.c_LETTERS.choose_spec ⟨_, rfl⟩) (by with_unfolding_all rfl)))) pa_nil))))))), ?_⟩
  rintro B S0 E px d hd
  dsimp only [L2.cxOf, L2.Cx.nox, L2.Cx.wish] at hd ⊢
  refine wp_ret ?_
  cases d with
  | str a =>
    have hs : a.length ≤ 100000 := hd
    refine EvS.wp (s := .d (.bool (isNameS a))) ?_ ?_
    · have e : isNameS a = (true && isNameS a) := (Bool.true_and _).symm
      rw [e]
      apply evs_andV
      · wtm_at "ev"
      · intro _
        apply evs_andV
        · apply evs_chain
          · wtm_at "ev"
          · apply evs_cb
            · wtm_at "ev"
            · exact len_str (sz hs)
          · exact ops_B0
          · intro _; wtm_at "ev"
          · intro _; exact ops_B0
        · intro h
          rw [Bool.and_eq_true, decide_eq_true_eq, decide_eq_true_eq] at h
          have hl : (signs a).length ≤ 100000 := by simp only [signs, List.length_map, Array.length_toList]; exact hs
          refine evs_is (evs_cb (ss := [.lst (((signs a).map signIn).map PyData.bool)]) (eva_cons ?_ eva_nil) (all_bls rfl)) (by rw [List.all_map]; rfl)
          rw [List.map_map]
          refine evs_lc (items := signs a) (evi_seqS (by wtm_at "ev")) (gvs_name (by decide)) (sz' hl) ?_
          refine lcp_ds fun d hd => ?_
          obtain ⟨c, hc, rfl⟩ := List.mem_map.mp hd
          refine ⟨_, gto_name (lt_ble rfl), ?_⟩
          apply evs_op
          · wtm_at "ev"
          · wtm_at "ev"
          · exact in_strG
    · exact ⟨rfl, rfl⟩
  | _ =>
    apply EvS.wp
    · wtm_at "ev"
    · exact ⟨rfl, rfl⟩
theorem cl_is_name {F : Fx} {Γ : List Sl} {t : TA} {E : XK} {d : PyData} (h : EvA F t Γ [.d d]) (h1 : shortS d) : EvS F (tCall (spP F.K con_is_name) [] E t) Γ (.d (.bool (isNameB d))) :=
  evs_call (c := con_is_name) d h rfl h1 (fun _ h => h) fun _ h => h
local macro_rules
  | `(tactic| wtm_at "call") => `(tactic| ((with_reducible apply cl_is_name); wtm_at "ev"; first | assumption | exact trivial))

/-! ### is_groups -/
abbrev con_is_groups : Con := { α := PyData, args := fun a => [.d a], pre := fun _ => True, post := fun a r => r = .d (.bool (isGroupsB a)) }
theorem ok_is_groups (T : Tx K mg) : FnOk P w K mg base CX0 (1 + 1) (He.ga K "is_groups") T.fd_is_groups ["value"] (spP K con_is_groups) := by
  refine fn_ok T.F_is_groups sc_is_groups con_is_groups (fun _ _ => rfl) (by decide) (fun _ _ h => h) fun cdv A outer s H E hr => ⟨_, (pss_cons (ps_if (PW.pt (pw_or (pt_not (pt_val (pe_callB call_isi (by rfl) T.b_isinstance bt_isinstance (pa_cons (pv 0) (pa_cons (pe_bltn (v := .ty "tuple") (by rfl) T.b_tuple bt_tuple rfl) pa_nil))))) (pw_or1 (pt_not (pt_chain op_le op_le pe_int (pe_callB call_lenG (by rfl) T.b_len bt_len (pa_cons (pv 0) pa_nil)) (pe_glob (v := .int 30) (by rfl) T.c_MAX_SIZE.choose_spec ⟨_, rfl⟩))))))
        (pss_one (ps_ret pe_bl))
        pss_nil)
      (pss_one (ps_ret (pe_and (pe_callB (cr_all rfl) (by rfl) T.b_all bt_all (pa_cons (pe_lc (own := [("size", 1)]) rfl sc_is_groups.nd (pi_seq (pv 0)) (blkOk_by (own := [("size", 1)]) (N := ["value", "size"]) (sc := defScope s_is_groups) (by decide +kernel)) (fun _ _ _ _ _ => (pg_name (i := 1) sc_is_groups.nd rfl (.inl rfl))) (fun _ _ _ _ _ => pts_nil) (fun _ _ _ _ _ => (pe_call (ok_is_integer T) (hr.mono (by decide)) (by rfl) T.g_is_integer T.F_is_integer.kp (bi_is_integer T) .nil pass0 (pa_cons (pv 1) (pa_cons pe_int (pa_cons (pe_glob (v := .int 30) (by rfl) T.c_MAX_SIZE.choose_spec ⟨_, rfl⟩) pa_nil)))))) pa_nil)) (pe_one (pe_cmpR op_le (pe_callB (call_sumG rfl) (by rfl) T.b_sum bt_sum (pa_cons (pv 0) pa_nil)) (pe_glob (v := .int 30) (by rfl) T.c_MAX_SIZE.choose_spec ⟨_, rfl⟩) (nomark _))))))), ?_⟩
  rintro B S0 E px d -
  dsimp only [L2.cxOf, L2.Cx.nox, L2.Cx.wish]
  apply wp_seq
  cases d with
  | tuple ds =>
    apply wp_if
    · wtm_at "ev"
    · intro h
      apply wp_ret
      apply EvS.wp
      · wtm_at "ev"
      · refine ⟨rfl, ?_⟩
        simp only [isT, Bool.not_true, Bool.false_or, Bool.not_eq_true'] at h
        show Sl.d (.bool false) = Sl.d (.bool (isGroupsB (.tuple ds)))
        simp only [isGroupsB, h, Bool.false_and]
    · intro h
      apply wp_next
      simp only [isT, Bool.not_true, Bool.false_or, Bool.not_eq_false'] at h
      have hb := h
      rw [Bool.and_eq_true, decide_eq_true_eq, decide_eq_true_eq] at h
      apply wp_ret
      apply EvS.wp
      · refine evs_andV (a := ds.all fun d => isIntB d 1 30) (b := decide ((intsOf ds).sum ≤ 30)) ?_ fun ha => ?_
        · refine evs_is (evs_cb (ss := [.lst ((ds.map fun d => isIntB d 1 30).map PyData.bool)]) (eva_cons ?_ eva_nil) (all_bls rfl)) (by rw [List.all_map]; rfl)
          rw [List.map_map]
          refine evs_lc (items := ds) (evi_seqT (by wtm_at "ev")) (gvs_name (by decide)) (sz' (by omega)) ?_
          refine lcp_ds fun d hd => ?_
          refine ⟨_, gto_name (lt_ble rfl), ?_⟩
          wtm_at "evis"
        · obtain ⟨ns, rfl, hn⟩ := ints_all ha
          rw [intsOf_map]
          wtm_at "ev"
      · refine ⟨rfl, ?_⟩
        show Sl.d (.bool _) = Sl.d (.bool (isGroupsB (.tuple ds)))
        simp only [isGroupsB, hb, Bool.true_and]
  | _ =>
    apply wp_if
    · wtm_at "ev"
    · intro h
      apply wp_ret
      apply EvS.wp
      · wtm_at "ev"
      · exact ⟨rfl, rfl⟩
    · intro h
      cases h
theorem cl_is_groups {F : Fx} {Γ : List Sl} {t : TA} {E : XK} {d : PyData} (h : EvA F t Γ [.d d]) : EvS F (tCall (spP F.K con_is_groups) [] E t) Γ (.d (.bool (isGroupsB d))) :=
  evs_call (c := con_is_groups) d h rfl trivial (fun _ h => h) fun _ h => h
local macro_rules
  | `(tactic| wtm_at "call") => `(tactic| ((with_reducible apply cl_is_groups); wtm_at "ev"))

/-! ### is_person -/
theorem ranks_all {a b c : PyData} : ([a, b, c].all okR) = (okR a && (okR b && okR c)) := by simp
abbrev con_is_person : Con := { α := PyData, args := fun a => [.d a], pre := fun a => shortP a, post := fun a r => r = .d (.bool (isPersonB a)) }
theorem isPerson4 {n a b c : PyData} : isPersonB (.tuple [n, a, b, c]) = (isNameB n && (okR a && (okR b && okR c)) && ranksOk (optI a) (optI b) (optI c)) := rfl
theorem isPerson_len {ds : List PyData} (h : ds.length ≠ 4) : isPersonB (.tuple ds) = false := by
  unfold isPersonB
  split
  · rename_i e; cases e; exact absurd rfl h
  · rfl
theorem ok_is_person (T : Tx K mg) : FnOk P w K mg base CX0 (1 + 1) (He.ga K "is_person") T.fd_is_person ["value"] (spP K con_is_person) := by
  refine fn_ok T.F_is_person sc_is_person con_is_person (fun _ _ => rfl) (by decide) (fun _ _ h => h) fun cdv A outer s H E hr => ⟨_, (pss_cons (ps_if (PW.pt (pw_or (pt_not (pt_val (pe_callB call_isi (by rfl) T.b_isinstance bt_isinstance (pa_cons (pv 0) (pa_cons (pe_bltn (v := .ty "tuple") (by rfl) T.b_tuple bt_tuple rfl) pa_nil))))) (pw_or (pt_cmpR (op_neD hr.units) (pe_callB call_lenG (by rfl) T.b_len bt_len (pa_cons (pv 0) pa_nil)) pe_int (nomark _)) (pw_or1 (pt_not (pt_val (pe_call (ok_is_name T) (hr.mono (by decide)) (by rfl) T.g_is_name T.F_is_name.kp (bi_is_name T) .nil pass0 (pa_cons (pe_ix ix_seq (pv 0) pe_int (fun _ _ => rfl)) pa_nil))))))))
        (pss_one (ps_ret pe_bl))
        pss_nil)
      (pss_cons (ps_if (pt_not (pt_val (pe_callB (cr_all rfl) (by rfl) T.b_all bt_all (pa_cons (pe_lc (own := [("rank", 4)]) rfl sc_is_person.nd (pi_seq (pe_slice sl_G (pv 0) (po_some pe_int) po_none)) (blkOk_by (own := [("rank", 4)]) (N := ["value", "first", "last", "dense", "rank"]) (sc := defScope s_is_person) (by decide +kernel)) (fun _ _ _ _ _ => (pg_name (i := 4) sc_is_person.nd rfl (.inl rfl))) (fun _ _ _ _ _ => pts_nil) (fun _ _ _ _ _ => (pe_or (pe_cmpR op_isN (pv 4) pe_non (nomark _)) (pe_one (pe_call (ok_is_integer T) (hr.mono (by decide)) (by rfl) T.g_is_integer T.F_is_integer.kp (bi_is_integer T) .nil pass0 (pa_cons (pv 4) (pa_cons pe_int (pa_cons (pe_glob (v := .int 30) (by rfl) T.c_MAX_SIZE.choose_spec ⟨_, rfl⟩) pa_nil)))))))) pa_nil))))
        (pss_one (ps_ret pe_bl))
        pss_nil)
      (pss_cons (ps_if (pt_cmpR (op_eqD hr.units) (pe_slice sl_G (pv 0) (po_some pe_int) po_none) (pe_tup (pa_cons pe_non (pa_cons pe_non (pa_cons pe_non pa_nil)))) (nomark _))
        (pss_one (ps_ret pe_bl))
        pss_nil)
      (pss_cons (ps_asg (pe_slice sl_G (pv 0) (po_some pe_int) po_none) (pg_tup (by rfl) (pgs_cons (pg_name (i := 1) sc_is_person.nd rfl (.inl rfl)) (pgs_cons (pg_name (i := 2) sc_is_person.nd rfl (.inl rfl)) (pgs_cons (pg_name (i := 3) sc_is_person.nd rfl (.inr rfl)) pgs_nil)))))
      (pss_cons (ps_if (PW.pt (pw_and (pt_cmpR op_notN (pv 1) pe_non (nomark _)) (pw_and (pt_cmpR op_notN (pv 2) pe_non (nomark _)) (pw_and1 (pt_cmpR op_lt (pv 2) (pv 1) (nomark _))))))
        (pss_one (ps_ret pe_bl))
        pss_nil)
      (pss_one (ps_ret (pe_or (pe_cmpR op_isN (pv 3) pe_non (nomark _)) (pe_one (pe_callB (cr_all rfl) (by rfl) T.b_all bt_all (pa_cons (pe_lc (own := [("rank", 4)]) rfl sc_is_person.nd (pi_seq (pe_tup (pa_cons (pv 1) (pa_cons (pv 2) pa_nil)))) (blkOk_by (own := [("rank", 4)]) (N := ["value", "first", "last", "dense", "rank"]) (sc := defScope s_is_person) (by decide +kernel)) (fun _ _ _ _ _ => (pg_name (i := 4) sc_is_person.nd rfl (.inl rfl))) (fun _ _ _ _ _ => pts_nil) (fun _ _ _ _ _ => (pe_or (pe_cmpR op_isN (pv 4) pe_non (nomark _)) (pe_one (pe_cmpR op_ge (pv 4) (pv 3) (nomark _)))))) pa_nil))))))))))), ?_⟩
  rintro B S0 E px d hd
  dsimp only [L2.cxOf, L2.Cx.nox, L2.Cx.wish] at hd ⊢
  apply wp_seq
  cases d with
  | tuple ds =>
    by_cases h4 : ds.length = 4
    · obtain ⟨n, a, b, c, rfl⟩ : ∃ n a b c, ds = [n, a, b, c] := by
        match ds, h4 with
        | [n, a, b, c], _ => exact ⟨n, a, b, c, rfl⟩
      have hn : shortS n := hd
      apply wp_if (b := !isNameB n)
      · have e : (!isNameB n) = (false || (false || !isNameB n)) := by simp
        rw [e]
        apply evt_or
        · wtm_at "evtis"
        · intro _
          apply evt_or
          · apply evt_test
            refine evs_is (x := .d (.bool (!PyData.eqv (.int ([n, a, b, c] : List PyData).length) (.int 4)))) ?_ ?_
            · apply evs_op
              · wtm_at "ev"
              · wtm_at "ev"
              · exact ops_neD rfl rfl (sh_int _) (sh_int _)
            · rw [eqv_int]; rfl
          · intro _
            wtm_at "evtis"
      · intro h
        apply wp_ret
        apply EvS.wp
        · wtm_at "ev"
        · refine ⟨rfl, ?_⟩
          rw [isPerson4]
          simp only [Bool.not_eq_true'] at h
          rw [h]; rfl
      · intro hname
        simp only [Bool.not_eq_false'] at hname
        apply wp_next
        apply wp_seq
        apply wp_if (b := !(okR a && (okR b && okR c)))
        · apply evt_not
          apply evt_B
          refine evs_is (evs_cb (ss := [.lst (([a, b, c].map okR).map PyData.bool)]) (eva_cons ?_ eva_nil) (all_bls rfl)) (by rw [← ranks_all, List.all_map]; rfl)
          rw [List.map_map]
          refine evs_lc (items := [a, b, c]) (evi_seqT (by wtm_at "evis")) (gvs_name (by decide)) (sz' (Nat.le_of_ble_eq_true rfl)) ?_
          refine lcp_ds fun d hd => ?_
          refine ⟨_, gto_name (lt_ble rfl), ?_⟩
          apply evs_orV
          · wtm_at "ev"
          · intro _; wtm_at "ev"
        · intro h
          apply wp_ret
          apply EvS.wp
          · wtm_at "ev"
          · refine ⟨rfl, ?_⟩
            rw [isPerson4]
            simp only [Bool.not_eq_true'] at h
            rw [h, Bool.and_false]; rfl
        · intro hok
          simp only [Bool.not_eq_false'] at hok
          apply wp_next
          have hok' := hok
          rw [Bool.and_eq_true, Bool.and_eq_true] at hok'
          obtain ⟨fa, rfl, ra⟩ := okR_of hok'.1
          obtain ⟨fb, rfl, rb⟩ := okR_of hok'.2.1
          obtain ⟨fc, rfl, rc⟩ := okR_of hok'.2.2
          have goal : isPersonB (.tuple [n, oI fa, oI fb, oI fc]) = (!(fa.isNone && fb.isNone && fc.isNone) && leO fa fb && leO fc fa && leO fc fb) := by
            rw [isPerson4, hname, hok]
            simp only [optI_oI, ranksOk, ra, rb, rc, Bool.true_and]
          rw [goal]
          have s1 := sh_oI fa
          have s2 := sh_oI fb
          have s3 := sh_oI fc
          have sh3 : SeqAt.shaped (.tuple [oI fa, oI fb, oI fc]) = true := by
            cases fa <;> cases fb <;> cases fc <;> simp [SeqAt.shaped, oI, PyData.canLay0, PyData.canLayAll0, PyData.depth, PyData.depthAll]
          have e3 : PyData.eqv (.tuple [oI fa, oI fb, oI fc]) (.tuple [.none, .none, .none]) = (fa.isNone && fb.isNone && fc.isNone) := by
            cases fa <;> cases fb <;> cases fc <;> simp [oI, PyData.eqv, PyData.eqvAll]
          apply wp_seq
          apply wp_if (b := fa.isNone && fb.isNone && fc.isNone)
          · rw [← e3]
            apply evt_test
            apply evs_op
            · wtm_at "ev"
            · wtm_at "ev"
            · exact ops_eqD rfl rfl sh3 rfl
          · intro h
            apply wp_ret
            apply EvS.wp
            · wtm_at "ev"
            · refine ⟨rfl, ?_⟩
              rw [h]; rfl
          · intro h0
            rw [h0]
            apply wp_next
            apply wp_seq
            apply wp_asgG
            refine EvS.wp (s := .d (.tuple [oI fa, oI fb, oI fc])) (by wtm_at "evis") ?_
            refine GTo.wp (gto_tup rfl (gtos_cons (gto_name (lt_ble rfl)) (gtos_cons (gto_name (lt_ble rfl)) (gtos_cons (gto_name (lt_ble rfl)) gtos_nil)))) ?_
            apply wp_seq
            apply wp_if (b := !leO fa fb)
            · cases fa with
              | none =>
                apply evt_and0
                · wtm_at "ev"
                · rfl
              | some i =>
                cases fb with
                | none =>
                  have e : (!leO (some i) none) = (true && (false && true)) := rfl
                  rw [e]
                  apply evt_and
                  · wtm_at "ev"
                  · intro _
                    apply evt_and
                    · wtm_at "ev"
                    · intro q; cases q
                | some j =>
                  have e : (!leO (some i) (some j)) = (true && (true && decide (j < i))) := by
                    simp only [leO, Bool.true_and]
                    by_cases q : i ≤ j
                    · rw [decide_eq_true q, decide_eq_false (by omega)]; rfl
                    · rw [decide_eq_false q, decide_eq_true (by omega)]; rfl
                  rw [e]
                  wtm_at "ev"
            · intro h
              apply wp_ret
              apply EvS.wp
              · wtm_at "ev"
              · refine ⟨rfl, ?_⟩
                simp only [Bool.not_eq_true'] at h
                rw [h]; rfl
            · intro h
              simp only [Bool.not_eq_false'] at h
              rw [h]
              apply wp_next
              apply wp_ret
              refine EvS.wp (s := .d (.bool (leO fc fa && leO fc fb))) ?_ ⟨rfl, rfl⟩
              cases fc with
              | none =>
                apply evs_orV1
                · wtm_at "ev"
                · rfl
              | some k =>
                have e : (leO (some k) fa && leO (some k) fb) = (false || (leO (some k) fa && leO (some k) fb)) := (Bool.false_or _).symm
                rw [e]
                apply evs_orV
                · wtm_at "ev"
                · intro _
                  refine evs_is (evs_cb (ss := [.lst ((([fa, fb] : List (Option Int)).map (leO (some k))).map PyData.bool)]) (eva_cons ?_ eva_nil) (all_bls rfl)) (by rw [List.all_map]; simp)
                  rw [List.map_map]
                  refine evs_lc (items := [oI fa, oI fb]) (evi_seqT (by wtm_at "evis")) (gvs_name (by decide)) (sz' (Nat.le_of_ble_eq_true rfl)) ?_
                  refine lcp_all (enc := oI) (xs := [fa, fb]) (f := fun o => PyData.bool (leO (some k) o)) fun o ho => ⟨_, gto_name (lt_ble rfl), ?_⟩
                  cases o with
                  | none =>
                    apply evs_orV1
                    · wtm_at "ev"
                    · rfl
                  | some i =>
                    have e : leO (some k) (some i) = (false || decide (i ≥ k)) := (Bool.false_or _).symm
                    rw [e]
                    apply evs_orV
                    · wtm_at "ev"
                    · intro _; wtm_at "ev"
    · rw [isPerson_len h4]
      apply wp_if (b := true)
      · have e : true = (false || (true || true)) := rfl
        rw [e]
        apply evt_or
        · wtm_at "evtis"
        · intro _
          apply evt_or
          · apply evt_test
            refine evs_is (x := .d (.bool (!PyData.eqv (.int ds.length) (.int 4)))) ?_ (congrArg (fun q => Sl.d (.bool (!q))) ((eqv_int _ _).trans (decide_eq_false (by omega))))
            apply evs_op
            · wtm_at "ev"
            · wtm_at "ev"
            · exact ops_neD rfl rfl (sh_int _) (sh_int _)
          · intro q; cases q
      · intro h
        apply wp_ret
        apply EvS.wp
        · wtm_at "ev"
        · exact ⟨rfl, rfl⟩
      · intro h; cases h
  | _ =>
    apply wp_if (b := true)
    · apply evt_or1
      · wtm_at "ev"
      · rfl
    · intro h
      apply wp_ret
      apply EvS.wp
      · wtm_at "ev"
      · exact ⟨rfl, rfl⟩
    · intro h
      cases h
theorem cl_is_person {F : Fx} {Γ : List Sl} {t : TA} {E : XK} {d : PyData} (h : EvA F t Γ [.d d]) (h1 : shortP d) : EvS F (tCall (spP F.K con_is_person) [] E t) Γ (.d (.bool (isPersonB d))) :=
  evs_call (c := con_is_person) d h rfl h1 (fun _ h => h) fun _ h => h
local macro_rules
  | `(tactic| wtm_at "call") => `(tactic| ((with_reducible apply cl_is_person); wtm_at "ev"; first | assumption | exact trivial))

/-! ### is_seen -/
def shortSeen : PyData → Prop
  | .tuple ds => ∀ e ∈ ds, shortP e
  | _ => True
theorem shortSeen_enc {ps : List Per} (h : ∀ p ∈ ps, p.ok = true) : shortSeen (encSeen ps) := fun e he => by
  obtain ⟨p, hp, rfl⟩ := List.mem_map.mp he
  exact shortP_enc (h p hp)
abbrev con_is_seen : Con := { α := PyData, args := fun a => [.d a], pre := fun a => shortSeen a, post := fun a r => r = .d (.bool (isSeenB a)) }
theorem ok_is_seen (T : Tx K mg) : FnOk P w K mg base CX0 (2 + 1) (He.ga K "is_seen") T.fd_is_seen ["value"] (spP K con_is_seen) := by
  refine fn_ok T.F_is_seen sc_is_seen con_is_seen (fun _ _ => rfl) (by decide) (fun _ _ h => h) fun cdv A outer s H E hr => ⟨_, (pss_cons (ps_if (PW.pt (pw_or (pt_not (pt_val (pe_callB call_isi (by rfl) T.b_isinstance bt_isinstance (pa_cons (pv 0) (pa_cons (pe_bltn (v := .ty "tuple") (by rfl) T.b_tuple bt_tuple rfl) pa_nil))))) (pw_or (pt_cmpR op_gt (pe_callB call_lenG (by rfl) T.b_len bt_len (pa_cons (pv 0) pa_nil)) (pe_glob (v := .int 12) (by rfl) T.c_MAX_SEEN.choose_spec ⟨_, rfl⟩) (nomark _)) (pw_or1 (pt_not (pt_val (pe_callB (cr_all rfl) (by rfl) T.b_all bt_all (pa_cons (pe_lc (own := [("one", 1)]) rfl sc_is_seen.nd (pi_seq (pv 0)) (blkOk_by (own := [("one", 1)]) (N := ["value", "one"]) (sc := defScope s_is_seen) (by decide +kernel)) (fun _ _ _ _ _ => (pg_name (i := 1) sc_is_seen.nd rfl (.inl rfl))) (fun _ _ _ _ _ => pts_nil) (fun _ _ _ _ _ => (pe_call (ok_is_person T) (hr.mono (by decide)) (by rfl) T.g_is_person T.F_is_person.kp (bi_is_person T) .nil pass0 (pa_cons (pv 1) pa_nil)))) pa_nil))))))))
        (pss_one (ps_ret pe_bl))
        pss_nil)
      (pss_one (ps_ret (pe_cmpR (op_eqD hr.units) (pe_callB cr_lenK (by rfl) T.b_len bt_len (pa_cons (pe_callTy (cr_setKs rfl) (by rfl) T.b_set bt_set (pa_cons (pe_lc (own := [("one", 1)]) rfl sc_is_seen.nd (pi_seq (pv 0)) (blkOk_by (own := [("one", 1)]) (N := ["value", "one"]) (sc := defScope s_is_seen) (by decide +kernel)) (fun _ _ _ _ _ => (pg_name (i := 1) sc_is_seen.nd rfl (.inl rfl))) (fun _ _ _ _ _ => pts_nil) (fun _ _ _ _ _ => (pe_ix (ixK rIx K ix_seq) (pv 1) pe_int (fun _ _ => rfl)))) pa_nil)) pa_nil)) (pe_callB call_lenG (by rfl) T.b_len bt_len (pa_cons (pv 0) pa_nil)) (nomark _))))), ?_⟩
  rintro B S0 E px d hd
  dsimp only [L2.cxOf, L2.Cx.nox, L2.Cx.wish] at hd ⊢
  apply wp_seq
  cases d with
  | tuple ds =>
    apply wp_if (b := (decide ((ds.length : Int) > 12) || !ds.all isPersonB))
    · have e : (decide ((ds.length : Int) > 12) || !ds.all isPersonB) = (false || (decide ((ds.length : Int) > 12) || !ds.all isPersonB)) := (Bool.false_or _).symm
      rw [e]
      apply evt_or
      · wtm_at "evtis"
      · intro _
        apply evt_or
        · wtm_at "ev"
        · intro h
          rw [decide_eq_false_iff_not] at h
          apply evt_not
          apply evt_B
          refine evs_is (evs_cb (ss := [.lst ((ds.map isPersonB).map PyData.bool)]) (eva_cons ?_ eva_nil) (all_bls rfl)) (by rw [List.all_map]; rfl)
          rw [List.map_map]
          refine evs_lc (items := ds) (evi_seqT (by wtm_at "ev")) (gvs_name (by decide)) (sz' (by omega)) ?_
          refine lcp_ds fun d hd' => ?_
          have hs := hd d hd'
          refine ⟨_, gto_name (lt_ble rfl), ?_⟩
          wtm_at "evis"
    · intro h
      apply wp_ret
      apply EvS.wp
      · wtm_at "ev"
      · refine ⟨rfl, ?_⟩
        have : isSeenB (.tuple ds) = false := by
          rw [Bool.or_eq_true, decide_eq_true_eq] at h
          simp only [isSeenB]
          rcases h with h | h
          · rw [decide_eq_false (by omega)]; rfl
          · simp only [Bool.not_eq_true'] at h
            rw [h, Bool.and_false]; rfl
        rw [this]
    · intro h
      rw [Bool.or_eq_false_iff, decide_eq_false_iff_not, Bool.not_eq_false'] at h
      apply wp_next
      obtain ⟨ps, rfl, hp⟩ := pers_of h.2
      have hl : ps.length ≤ 12 := by have := h.1; rw [List.length_map] at this; omega
      apply wp_ret
      apply EvS.wp
      · apply evs_op
        · refine evs_lenSetS (x := .lst ((ps.map Per.name).map PyData.str)) ?_ rfl (by rw [List.length_map]; omega)
          rw [List.map_map]
          refine evs_lc (items := ps.map Per.enc) (evi_seqT (by wtm_at "ev")) (gvs_name (by decide)) (sz' (by rw [List.length_map]; omega)) ?_
          refine lcp_all (f := fun p : Per => PyData.str p.name) fun p _ => ⟨_, gto_name (lt_ble rfl), ?_⟩
          apply evs_op
          · wtm_at "ev"
          · wtm_at "ev"
          · exact ix_at rfl rfl
        · wtm_at "ev"
        · exact ops_eqD rfl rfl (sh_int _) (sh_int _)
      · refine ⟨rfl, ?_⟩
        rw [eqv_int]
        show Sl.d _ = Sl.d (.bool (isSeenB (.tuple (ps.map Per.enc))))
        simp only [isSeenB, h.2, List.length_map, namesOf_enc]
        rw [decide_eq_true hl]
        simp only [Bool.true_and, Int.natCast_inj]
  | _ =>
    apply wp_if (b := true)
    · apply evt_or1
      · wtm_at "ev"
      · rfl
    · intro h
      apply wp_ret
      apply EvS.wp
      · wtm_at "ev"
      · exact ⟨rfl, rfl⟩
    · intro h
      cases h
theorem cl_is_seen {F : Fx} {Γ : List Sl} {t : TA} {E : XK} {d : PyData} (h : EvA F t Γ [.d d]) (h1 : shortSeen d) : EvS F (tCall (spP F.K con_is_seen) [] E t) Γ (.d (.bool (isSeenB d))) :=
  evs_call (c := con_is_seen) d h rfl h1 (fun _ h => h) fun _ h => h
local macro_rules
  | `(tactic| wtm_at "call") => `(tactic| ((with_reducible apply cl_is_seen); wtm_at "ev"; first | assumption | exact trivial))

/-! ### _law_source, _law_pick -/
def srcD (a : Int × Int × Int) : List PyData := [.int a.1, .int a.2.1, .int a.2.2]
def SrcOk (a : Int × Int × Int) : Prop := 0 < a.2.2 ∧ a.2.2 ≤ 2147483647
abbrev con_law_source : Con := { α := List Int × Nat, args := fun a => [.sq (a.1.map PyData.int), .d (.int (a.2 : Int))], pre := fun a => a.2 ≤ 1000, post := fun a r => ∃ b, r = .lst (srcD b) ∧ SrcOk b }
theorem ok_law_source (T : Tx K mg) : FnOk P w K mg base CX0 (0 + 1) (He.ga K "_law_source") T.fd_law_source ["script", "k"] (spP K con_law_source) := by
  refine fn_ok T.F_law_source sc_law_source con_law_source (fun _ _ => rfl) (by decide) (fun _ _ h => h) fun cdv A outer s H E hr => ⟨_, (pss_cons (ps_set (i := 2) sc_law_source.nd rfl (.inl rfl) pe_int)
      (pss_cons (ps_if (pt_cmpR op_lt (pv 1) (pe_callB call_lenG (by rfl) T.b_len bt_len (pa_cons (pv 0) pa_nil)) (nomark _))
        (pss_one (ps_set (i := 2) sc_law_source.nd rfl (.inl rfl) (pe_ix ix_seq (pv 0) (pv 1) (fun _ _ => rfl))))
        pss_nil)
      (pss_cons (ps_set (i := 3) sc_law_source.nd rfl (.inl rfl) (pe_lst (pa_cons pe_int (pa_cons pe_int (pa_cons pe_int (pa_cons pe_int (pa_cons pe_int (pa_cons pe_int (pa_cons pe_int (pa_cons pe_int pa_nil))))))))))
      (pss_cons (ps_set (i := 4) sc_law_source.nd rfl (.inl rfl) (pe_op op_mod (pe_op op_mulG (pe_op op_addG (pe_op op_mod (pv 2) pe_int) pe_int) (pe_op op_addG pe_int (pe_op op_mulG pe_int (pv 1)))) pe_int))
      (pss_cons (ps_set (i := 4) sc_law_source.nd rfl (.inl rfl) (pe_op op_addG (pe_op op_addG (pe_op op_mod (pe_op op_mulG (pv 4) (pv 4)) pe_int) (pv 1)) pe_int))
      (pss_cons (ps_if (pt_cmpR op_ge (pv 2) (pe_op op_pow pe_int pe_int) (nomark _))
        (pss_one (ps_ret (pe_lst (pa_cons (pv 2) (pa_cons (pv 4) (pa_cons (pe_ix ix_seq (pv 3) (pe_op op_mod (pv 1) pe_int) (fun _ _ => rfl)) pa_nil))))))
        pss_nil)
      (pss_one (ps_ret (pe_lst (pa_cons pe_int (pa_cons (pv 4) (pa_cons (pe_ix ix_seq (pv 3) (pe_op op_mod (pv 1) pe_int) (fun _ _ => rfl)) pa_nil)))))))))))), ?_⟩
  rintro B S0 E px ⟨ns, k⟩ hk
  dsimp only [L2.cxOf, L2.Cx.nox, L2.Cx.wish] at hk ⊢
  apply wp_seq
  apply wp_asg (by wtm_at "ev") (lt_ble rfl) rfl
  apply wp_seqI (fun Γ => ∃ cell : Int, Γ = [.sq (ns.map PyData.int), .d (.int (k : Int)), .d (.int cell), .un, .un])
  · apply wp_if
    · wtm_at "ev"
    · intro h
      rw [decide_eq_true_eq, List.length_map] at h
      have hi : k < ns.length := by omega
      have hx : atI (ns.map PyData.int) (k : Int) = some (.int ns[k]) := atI_nat' (by rw [List.getElem?_map, List.getElem?_eq_getElem hi]; rfl)
      apply wp_asg
      · wtm_at "ev"
      · exact lt_ble rfl
      · rfl
      exact ⟨_, rfl⟩
    · intro _
      exact wp_next ⟨0, rfl⟩
  rintro Γ ⟨cell, rfl⟩
  apply wp_seq
  apply wp_asg
  · wtm_at "ev"
  · exact lt_ble rfl
  · rfl
  apply wp_seq
  apply wp_asg
  · wtm_at "ev"
  · exact lt_ble rfl
  · rfl
  have a1 := Int.emod_nonneg ((cell % 2147483489 + 1) * (48271 + 2 * (k : Int))) (show (2147483489 : Int) ≠ 0 by decide)
  have a2 := Int.emod_lt_of_pos ((cell % 2147483489 + 1) * (48271 + 2 * (k : Int))) (show (0 : Int) < 2147483489 by decide)
  generalize (cell % 2147483489 + 1) * (48271 + 2 * (k : Int)) % 2147483489 = seed at *
  apply wp_seq
  apply wp_asg
  · wtm_at "ev"
  · exact lt_ble rfl
  · rfl
  have hx : ∃ p : Int, atI [PyData.int 2147483647, .int 2147483629, .int 2147483587, .int 2147483579, .int 2147483563, .int 2147483549, .int 2147483543, .int 2147483497] ((k : Int) % 8) = some (.int p) ∧ 0 < p ∧ p ≤ 2147483647 := by
    have e : (k : Int) % 8 = ((k % 8 : Nat) : Int) := by omega
    have hk8 : k % 8 < 8 := Nat.mod_lt _ (by decide)
    rw [e]
    generalize k % 8 = j at hk8
    match j, hk8 with
    | 0, _ => exact ⟨_, rfl, by decide, by decide⟩
    | 1, _ => exact ⟨_, rfl, by decide, by decide⟩
    | 2, _ => exact ⟨_, rfl, by decide, by decide⟩
    | 3, _ => exact ⟨_, rfl, by decide, by decide⟩
    | 4, _ => exact ⟨_, rfl, by decide, by decide⟩
    | 5, _ => exact ⟨_, rfl, by decide, by decide⟩
    | 6, _ => exact ⟨_, rfl, by decide, by decide⟩
    | 7, _ => exact ⟨_, rfl, by decide, by decide⟩
  obtain ⟨p, hx, p1, p2⟩ := hx
  apply wp_seq
  apply wp_if
  · wtm_at "ev"
  · intro _
    apply wp_ret
    apply EvS.wp
    · wtm_at "ev"
    · exact ⟨rfl, (_, _, p), rfl, p1, p2⟩
  · intro _
    apply wp_next
    apply wp_ret
    apply EvS.wp
    · wtm_at "ev"
    · exact ⟨rfl, (_, _, p), rfl, p1, p2⟩
theorem cw_law_source {F : Fx} {Γ : List Sl} {t : TA} {E : XK} {k : Sl → List Sl → Prop} {ns : List Int} {n : Nat} (h : EvA F t Γ [.sq (ns.map PyData.int), .d (.int (n : Int))]) (h1 : n ≤ 1000) (hk : ∀ b, SrcOk b → k (.lst (srcD b)) Γ) : WpE F (tCall (spP F.K con_law_source) [] E t) Γ k :=
  wpe_call (c := con_law_source) (h.wp ⟨(ns, n), rfl, rfl, h1, fun r ⟨b, e, hb⟩ => by subst e; exact hk b hb, fun _ h => h⟩)

abbrev con_law_pick : ConS := { α := (Int × Int × Int) × Int, src := fun a => srcD a.1, args := fun a => [.d (.int a.2)], pre := fun a => SrcOk a.1 ∧ 0 < a.2 ∧ a.2 < 1000000, post := fun a r ds => ∃ x b, r = .d (.int x) ∧ 0 ≤ x ∧ x < a.2 ∧ ds = srcD b ∧ SrcOk b }
theorem ok_law_pick (T : Tx K mg) : FnOk P w K mg base CX0 (0 + 1) (He.ga K "_law_pick") T.fd_law_pick ["source", "size"] (spS K con_law_pick) := by
  refine fn_okS T.F_law_pick sc_law_pick con_law_pick (fun _ _ => rfl) (by decide) fun cdv A outer s H E hr => ⟨_, (pss_cons (ps_if (pt_cmpR op_gt (pe_ix ix_seq (pv 0) pe_int (fun _ _ => rfl)) pe_int (nomark _))
        (pss_cons (ps_set (i := 2) sc_law_pick.nd rfl (.inl rfl) (pe_op op_mod (pe_ix ix_seq (pv 0) pe_int (fun _ _ => rfl)) (pv 1)))
        (pss_cons (ps_asg (pe_op op_fdiv (pe_ix ix_seq (pv 0) pe_int (fun _ _ => rfl)) (pv 1)) (pg_sub (pv 0) pe_int set_list))
        (pss_one (ps_ret (pv 2)))))
        pss_nil)
      (pss_cons (ps_asg (pe_op op_addG (pe_op op_mod (pe_op op_mulG (pe_ix ix_seq (pv 0) pe_int (fun _ _ => rfl)) pe_int) (pe_ix ix_seq (pv 0) pe_int (fun _ _ => rfl))) pe_int) (pg_sub (pv 0) pe_int set_list))
      (pss_one (ps_ret (pe_op op_mod (pe_op op_fdiv (pe_op op_mod (pe_op op_mulG (pe_ix ix_seq (pv 0) pe_int (fun _ _ => rfl)) (pe_ix ix_seq (pv 0) pe_int (fun _ _ => rfl))) pe_int) pe_int) (pv 1)))))), ?_⟩
  rintro B S0 E px a ⟨⟨c, s, p⟩, n⟩ ⟨⟨h1, h2⟩, h3, h4⟩
  dsimp only [L2.cxOf, L2.Cx.nox, L2.Cx.wish] at h1 h2 h3 h4 ⊢
  apply wp_seq
  apply wp_if
  · wtm_at "ev"
  · intro _
    apply wp_seq
    apply wp_asg
    · wtm_at "ev"
    · exact lt_ble rfl
    · rfl
    apply wp_seq
    apply wp_setL (s0 := .src a (srcD (c, s, p))) (ds := srcD (c, s, p)) rfl rfl
    · wtm_at "ev"
    · wtm_at "ev"
    · rfl
    apply wp_ret
    apply EvS.wp
    · wtm_at "ev"
    · exact ⟨rfl, _, rfl, _, (c / n, s, p), rfl, Int.emod_nonneg _ (by omega), Int.emod_lt_of_pos _ h3, rfl, h1, h2⟩
  · intro _
    apply wp_next
    apply wp_seq
    apply wp_setL (s0 := .src a (srcD (c, s, p))) (ds := srcD (c, s, p)) rfl rfl
    · wtm_at "ev"
    · wtm_at "ev"
    · rfl
    have q1 := Int.emod_nonneg (s * 48271) (show p ≠ 0 by omega)
    have q2 := Int.emod_lt_of_pos (s * 48271) h1
    generalize hs' : s * 48271 % p = s' at *
    apply wp_ret
    apply EvS.wp
    · wtm_at "ev"
    · exact ⟨rfl, _, rfl, _, (c, s' + 1, p), rfl, Int.emod_nonneg _ (by omega), Int.emod_lt_of_pos _ h3, rfl, h1, h2⟩
theorem cw_law_pick {F : Fx} {Γ : List Sl} {t : TA} {E : XK} {k : Sl → List Sl → Prop} {i : Nat} {s0 : Sl} {b : Int × Int × Int} {n : Int} (hi : Γ[i]? = some s0) (ho : s0.ownL = some (srcD b)) (hb : SrcOk b) (h : EvA F t Γ [.d (.int n)]) (h1 : 0 < n) (h2 : n < 1000000)
    (hk : ∀ x b', 0 ≤ x → x < n → SrcOk b' → k (.d (.int x)) (Γ.set i (s0.withL (srcD b')))) : WpE F (tCall (spS F.K con_law_pick) [] E (tCons (tVar i) t)) Γ k :=
  wpe_callS (c := con_law_pick) (b, n) hi ho h rfl ⟨hb, h1, h2⟩ fun r ds' ⟨x, b', e1, q1, q2, e2, q3⟩ => by subst e1 e2; exact hk x b' q1 q2 q3

/-! ### _law_sizes -/
def GoodNs (ns : List Int) (top : Int) : Prop := ns ≠ [] ∧ (∀ n ∈ ns, 1 ≤ n) ∧ ns.sum ≤ top
abbrev con_law_sizes : ConS := { α := (Int × Int × Int) × Int, src := fun a => srcD a.1, args := fun a => [.d (.int a.2)], pre := fun a => SrcOk a.1 ∧ 1 ≤ a.2 ∧ a.2 ≤ 30, post := fun a r ds => ∃ ns b, r = .d (.tuple (ns.map PyData.int)) ∧ GoodNs ns a.2 ∧ ds = srcD b ∧ SrcOk b }
theorem ok_law_sizes (T : Tx K mg) : FnOk P w K mg base CX0 (1 + 1) (He.ga K "_law_sizes") T.fd_law_sizes ["source", "top"] (spS K con_law_sizes) := by
  refine fn_okS T.F_law_sizes sc_law_sizes con_law_sizes (fun _ _ => rfl) (by decide) fun cdv A outer s H E hr => ⟨_, (pss_cons (ps_par (i := 2) (j := 3) (by rfl) sc_law_sizes.nd rfl rfl (by decide) rfl rfl (pa_cons (pe_op op_addG pe_int (pe_call (ok_law_pick T) (hr.mono (by decide)) (by rfl) T.g_law_pick T.F_law_pick.kp (bi_law_pick T) .nil pass0 (pa_cons (pv 0) (pa_cons (pv 1) pa_nil)))) (pa_cons (pe_tup pa_nil) pa_nil)) (by rfl))
      (pss_cons (ps_set (i := 4) sc_law_sizes.nd rfl (.inl rfl) (pe_ix ix_seq (pe_lst (pa_cons pe_int (pa_cons pe_int (pa_cons pe_int (pa_cons pe_int pa_nil))))) (pe_call (ok_law_pick T) (hr.mono (by decide)) (by rfl) T.g_law_pick T.F_law_pick.kp (bi_law_pick T) .nil pass0 (pa_cons (pv 0) (pa_cons pe_int pa_nil))) (fun _ _ => rfl)))
      (pss_cons (ps_while PassesOwn.never (pt_cmpR op_gt (pv 2) pe_int (nomark _))
        (pss_cons (ps_set (i := 5) sc_law_sizes.nd rfl (.inl rfl) (pe_op op_addG pe_int (pe_call (ok_law_pick T) (hr.mono (by decide)) (by rfl) T.g_law_pick T.F_law_pick.kp (bi_law_pick T) .nil pass0 (pa_cons (pv 0) (pa_cons (pe_callB (call_min2 rfl) (by rfl) T.b_min bt_min (pa_cons (pv 4) (pa_cons (pv 2) pa_nil))) pa_nil)))))
        (pss_one (ps_par (i := 3) (j := 2) (by rfl) sc_law_sizes.nd rfl rfl (by decide) rfl rfl (pa_cons (pe_op op_addG (pv 3) (pe_tup (pa_cons (pv 5) pa_nil))) (pa_cons (pe_op op_sub (pv 2) (pv 5)) pa_nil)) (by rfl)))))
      (pss_one (ps_ret (pv 3)))))), ?_⟩
  rintro B S0 E px a ⟨b, top⟩ ⟨hb, h3, h4⟩
  dsimp only [L2.cxOf, L2.Cx.nox, L2.Cx.wish] at hb h3 h4 ⊢
  apply wp_seq
  apply wp_parW (by decide)
  apply wpa_consW
  apply wpe_opR evs_int rfl
  apply cw_law_pick (s0 := .src a (srcD b)) (b := b) (n := top) rfl rfl hb (by wtm_at "ev") (by omega) (by omega)
  intro x b1 x1 x2 hb1
  refine ⟨_, add_int, rfl, ?_⟩
  apply wpa_one
  apply EvS.wp
  · wtm_at "ev"
  refine ⟨_, _, rfl, rfl, rfl, lt_ble rfl, lt_ble rfl, ?_⟩
  apply wp_seq
  apply wp_asgW
  apply wpe_opR (by wtm_at "ev") rfl
  apply cw_law_pick (s0 := .src a (srcD b1)) (b := b1) (n := 4) rfl rfl hb1 (by wtm_at "ev") (by omega) (by omega)
  intro y b2 y1 y2 hb2
  have hw : ∃ wd : Int, atI [PyData.int 1, .int 2, .int 4, .int 30] y = some (.int wd) ∧ 1 ≤ wd ∧ wd ≤ 30 := by
    have e : y = ((y.toNat : Nat) : Int) := by omega
    have hk8 : y.toNat < 4 := by omega
    rw [e]
    generalize y.toNat = j at hk8
    match j, hk8 with
    | 0, _ => exact ⟨_, rfl, by decide, by decide⟩
    | 1, _ => exact ⟨_, rfl, by decide, by decide⟩
    | 2, _ => exact ⟨_, rfl, by decide, by decide⟩
    | 3, _ => exact ⟨_, rfl, by decide, by decide⟩
  obtain ⟨wd, hx, w1, w2⟩ := hw
  refine ⟨_, ix_at rfl hx, rfl, lt_ble rfl, ?_⟩
  apply wp_seq
  apply wp_while (n := (1 + x).toNat) (fun n Γ => ∃ (b : Int × Int × Int) (left : Int) (ns : List Int) (g : Sl), Γ = [.src a (srcD b), .d (.int top), .d (.int left), .d (.tuple (ns.map PyData.int)), .d (.int wd), g] ∧ n = left.toNat ∧ 0 ≤ left ∧ SrcOk b ∧ (∀ n ∈ ns, 1 ≤ n) ∧ ns.sum + left = 1 + x)
  · exact ⟨b2, 1 + x, [], .un, rfl, rfl, by omega, hb2, by simp, by simp⟩
  rintro n Γ ⟨b3, left, ns, g, rfl, rfl, hl, hb3, hn, hs⟩
  apply EvT.wp
  · wtm_at "ev"
  have hlen := sum_nonneg' hn
  constructor
  · intro h
    rw [decide_eq_true_eq] at h
    apply wp_seq
    apply wp_asgW
    apply wpe_opR evs_int rfl
    apply cw_law_pick (s0 := .src a (srcD b3)) (b := b3) (n := if left < wd then left else wd) rfl rfl hb3 (by wtm_at "ev") (by split <;> omega) (by split <;> omega)
    intro m b4 m1 m2 hb4
    refine ⟨_, add_int, rfl, lt_ble rfl, ?_⟩
    apply wp_parW (by decide)
    refine EvA.wp (ss := [.d (.tuple ((ns ++ [1 + m]).map PyData.int)), .d (.int (left - (1 + m)))]) ?_ ?_
    · rw [List.map_append]
      apply eva_cons
      · apply evs_op
        · wtm_at "ev"
        · wtm_at "ev"
        · apply add_tup
          refine sz ?_
          simp; omega
      · wtm_at "ev"
    refine ⟨_, _, rfl, rfl, rfl, lt_ble rfl, lt_ble rfl, (left - (1 + m)).toNat, ?_, b4, left - (1 + m), ns ++ [1 + m], _, rfl, rfl, ?_, hb4, ?_, ?_⟩
    · split at m2 <;> omega
    · split at m2 <;> omega
    · intro k hk
      rcases List.mem_append.mp hk with h | h
      · exact hn k h
      · simp at h; omega
    · rw [List.sum_append]; simp; omega
  · intro h
    rw [decide_eq_false_iff_not] at h
    apply wp_ret
    apply EvS.wp
    · wtm_at "ev"
    · refine ⟨rfl, _, rfl, ns, b3, rfl, ⟨?_, hn, by omega⟩, rfl, hb3⟩
      intro q
      subst q
      simp at hs; omega
theorem cw_law_sizes {F : Fx} {Γ : List Sl} {t : TA} {E : XK} {k : Sl → List Sl → Prop} {i : Nat} {s0 : Sl} {b : Int × Int × Int} {n : Int} (hi : Γ[i]? = some s0) (ho : s0.ownL = some (srcD b)) (hb : SrcOk b) (h : EvA F t Γ [.d (.int n)]) (h1 : 1 ≤ n) (h2 : n ≤ 30)
    (hk : ∀ ns b', GoodNs ns n → SrcOk b' → k (.d (.tuple (ns.map PyData.int))) (Γ.set i (s0.withL (srcD b')))) : WpE F (tCall (spS F.K con_law_sizes) [] E (tCons (tVar i) t)) Γ k :=
  wpe_callS (c := con_law_sizes) (b, n) hi ho h rfl ⟨hb, h1, h2⟩ fun r ds' ⟨ns, b', e1, q1, e2, q3⟩ => by subst e1 e2; exact hk ns b' q1 q3

/-! ### _law_rows -/
/-- each place's first, last and dense rank -/
def rowsF : Int → Nat → List Int → List (Int × Int × Int)
  | _, _, [] => []
  | p, a, m :: ms => List.replicate m.toNat (p + 1, p + m, (a : Int) + 1) ++ rowsF (p + m) (a + 1) ms
def encRow (r : Int × Int × Int) : PyData := .tuple [.int r.1, .int r.2.1, .int r.2.2]
theorem rowsF_len : ∀ (ns : List Int) (p : Int) (a : Nat), (∀ n ∈ ns, 1 ≤ n) → ((rowsF p a ns).length : Int) = ns.sum
  | [], _, _, _ => rfl
  | m :: ms, p, a, h => by
    have ih := rowsF_len ms (p + m) (a + 1) fun n hn => h n (by simp [hn])
    have := h m (by simp)
    rw [rowsF, List.length_append, List.length_replicate, List.sum_cons]
    omega
theorem rowsF_ok : ∀ (ns : List Int) (p : Int) (a : Nat), (∀ n ∈ ns, 1 ≤ n) → (a : Int) ≤ p → ∀ r ∈ rowsF p a ns, 1 ≤ r.2.2 ∧ r.2.2 ≤ r.1 ∧ r.1 ≤ r.2.1 ∧ r.2.1 ≤ p + ns.sum
  | [], _, _, _, _, r, hr => by simp [rowsF] at hr
  | m :: ms, p, a, h, ha, r, hr => by
    have h1 := h m (by simp)
    have h2 : 0 ≤ ms.sum := by have := sum_nonneg' (ns := ms) fun n hn => h n (by simp [hn]); omega
    rw [rowsF] at hr
    rw [List.sum_cons]
    rcases List.mem_append.mp hr with hr | hr
    · have e := (List.mem_replicate.mp hr).2
      subst e
      dsimp only
      omega
    · have := rowsF_ok ms (p + m) (a + 1) (fun n hn => h n (by simp [hn])) (by omega) r hr
      omega
abbrev con_law_rows : Con := { α := List Int, args := fun a => [.d (.tuple (a.map PyData.int))], pre := fun a => (∀ n ∈ a, 1 ≤ n) ∧ a.sum ≤ 30, post := fun a r => r = .lst ((rowsF 0 0 a).map encRow) }
theorem ok_law_rows (T : Tx K mg) : FnOk P w K mg base CX0 (0 + 1) (He.ga K "_law_rows") T.fd_law_rows ["sizes"] (spP K con_law_rows) := by
  refine fn_ok T.F_law_rows sc_law_rows con_law_rows (fun _ _ => rfl) (by decide) (fun _ _ h => h) fun cdv A outer s H E hr => ⟨_, (pss_cons (ps_par (i := 1) (j := 2) (by rfl) sc_law_rows.nd rfl rfl (by decide) rfl rfl (pa_cons (pe_lst pa_nil) (pa_cons pe_int pa_nil)) (by rfl))
      (pss_cons (ps_for PassesOwn.never rfl (pi_enumG (by rfl) T.b_enumerate (pa_cons (pv 0) pa_nil)) (pg_tup (by rfl) (pgs_cons (pg_name (i := 3) sc_law_rows.nd rfl (.inl rfl)) (pgs_cons (pg_name (i := 4) sc_law_rows.nd rfl (.inl rfl)) pgs_nil)))
        (pss_cons (ps_set (i := 1) sc_law_rows.nd rfl (.inl rfl) (pe_op op_addG (pv 1) (pe_op op_mulG (pe_lst (pa_cons (pe_tup (pa_cons (pe_op op_addG (pv 2) pe_int) (pa_cons (pe_op op_addG (pv 2) (pv 4)) (pa_cons (pe_op op_addG (pv 3) pe_int) pa_nil)))) pa_nil)) (pv 4))))
        (pss_one (ps_set (i := 2) sc_law_rows.nd rfl (.inl rfl) (pe_op op_addG (pv 2) (pv 4))))))
      (pss_one (ps_ret (pv 1))))), ?_⟩
  rintro B S0 E px ns ⟨h1, h2⟩
  dsimp only [L2.cxOf, L2.Cx.nox, L2.Cx.wish] at h1 h2 ⊢
  apply wp_seq
  apply wp_parE (s1 := .lst []) (s2 := .d (.int 0)) (by wtm_at "ev") (by wtm_at "ev") rfl rfl (by decide) (lt_ble rfl) (lt_ble rfl)
  apply wp_seq
  apply wp_forI
  · apply evi_enumT
    wtm_at "ev"
  refine forW_enum (enc := PyData.int) (xs := ns) (fun i rest Γ => ∃ (acc : List (Int × Int × Int)) (place : Int) (g3 g4 : Sl), Γ = [.d (.tuple (ns.map PyData.int)), .lst (acc.map encRow), .d (.int place), g3, g4] ∧ rowsF 0 0 ns = acc ++ rowsF place i rest ∧ (acc.length : Int) + rest.sum ≤ 30 ∧ ∀ n ∈ rest, 1 ≤ n) ⟨[], 0, _, _, rfl, rfl, by simpa using h2, h1⟩ ?_ ?_
  · rintro i n rest Γ ⟨acc, place, g3, g4, rfl, e1, e2, e3⟩
    have hn1 := e3 n (by simp)
    rw [List.sum_cons] at e2
    have hs2 := sum_nonneg' (ns := rest) fun m h => e3 m (by simp [h])
    refine GTo.wp (gto_tup rfl (gtos_cons (gto_name (lt_ble rfl)) (gtos_cons (gto_name (lt_ble rfl)) gtos_nil))) ?_
    apply wp_seq
    apply wp_asg (s := .lst (acc.map encRow ++ (List.replicate n.toNat ((place + 1, place + n, (i : Int) + 1) : Int × Int × Int)).map encRow))
    · apply evs_op
      · wtm_at "ev"
      · refine evs_is (evs_op (evs_lst (evd_cons (by wtm_at "ev") evd_nil) (Nat.le_of_ble_eq_true rfl)) (by wtm_at "ev") (mul_lst rfl (by omega) (by omega) (sz (by simp; omega)))) rfl
      · rw [flat1, List.map_replicate]
        exact add_lst (ds := acc.map encRow) (es := List.replicate n.toNat (encRow (place + 1, place + n, (i : Int) + 1))) rfl rfl (sz (by simp only [List.length_map, List.length_replicate]; omega))
    · exact lt_ble rfl
    · rfl
    apply wp_asg
    · wtm_at "ev"
    · exact lt_ble rfl
    · rfl
    refine ⟨acc ++ List.replicate n.toNat (place + 1, place + n, (i : Int) + 1), place + n, _, _, by rw [List.map_append]; rfl, by rw [e1, rowsF, List.append_assoc], ?_, fun m h => e3 m (by simp [h])⟩
    rw [List.length_append, List.length_replicate]; omega
  · rintro i Γ ⟨acc, place, g3, g4, rfl, e1, e2, e3⟩
    rw [rowsF, List.append_nil] at e1
    subst e1
    exact wp_retO rfl rfl ⟨rfl, rfl⟩
theorem cl_law_rows {F : Fx} {Γ : List Sl} {t : TA} {E : XK} {ns : List Int} (h : EvA F t Γ [.d (.tuple (ns.map PyData.int))]) (h1 : ∀ n ∈ ns, 1 ≤ n) (h2 : ns.sum ≤ 30) : EvS F (tCall (spP F.K con_law_rows) [] E t) Γ (.lst ((rowsF 0 0 ns).map encRow)) :=
  evs_call (c := con_law_rows) ns h rfl ⟨h1, h2⟩ (fun _ h => h) fun _ h => h

/-! ### _law_people -/
def manyNames : List Str := ["ann", "ben", "cem", "dan", "eva", "fay", "gus", "ida", "jo", "kim", "leo", "mia"]
theorem manyNames_ok : ∀ a ∈ manyNames, isNameS a = true := by decide +kernel
theorem manyNames_nodup : manyNames.Nodup := by decide +kernel
abbrev con_law_people : Con := { α := Unit, args := fun _ => [], pre := fun _ => True, post := fun _ r => r = .lst (manyNames.map PyData.str) }
theorem ok_law_people (T : Tx K mg) : FnOk P w K mg base CX0 (0 + 1) (He.ga K "_law_people") T.fd_law_people [] (spP K con_law_people) := by
  refine fn_ok T.F_law_people sc_law_people con_law_people (fun _ _ => rfl) (by decide) (fun _ _ h => h) fun cdv A outer s H E hr => ⟨_, (pss_one (ps_ret (pe_lst (pa_cons pe_str (pa_cons pe_str (pa_cons pe_str (pa_cons pe_str (pa_cons pe_str (pa_cons pe_str (pa_cons pe_str (pa_cons pe_str (pa_cons pe_str (pa_cons pe_str (pa_cons pe_str (pa_cons pe_str pa_nil))))))))))))))), ?_⟩
  rintro B S0 E px ⟨⟩ -
  dsimp only [L2.cxOf, L2.Cx.nox, L2.Cx.wish]
  apply wp_ret
  apply EvS.wp
  · wtm_at "ev"
  · exact ⟨rfl, rfl⟩
theorem cl_law_people {F : Fx} {Γ : List Sl} {E : XK} : EvS F (tCall (spP F.K con_law_people) [] E tNil) Γ (.lst (manyNames.map PyData.str)) :=
  evs_call (c := con_law_people) () eva_nil rfl trivial (fun _ h => h) fun _ h => h

/-! ### _law_is_integer -/
abbrev con_law_is_integer : Con := { α := PyData × Int × Int, args := fun a => [.d a.1, .d (.int a.2.1), .d (.int a.2.2)], pre := fun _ => True, post := fun a r => r = .d (.bool (isIntB a.1 a.2.1 a.2.2)) }
theorem ok_law_is_integer (T : Tx K mg) : FnOk P w K mg base CX0 (0 + 1) (He.ga K "_law_is_integer") T.fd_law_is_integer ["value", "low", "high"] (spP K con_law_is_integer) := by
  refine fn_ok T.F_law_is_integer sc_law_is_integer con_law_is_integer (fun _ _ => rfl) (by decide) (fun _ _ h => h) fun cdv A outer s H E hr => ⟨_, (pss_one (ps_ret (pe_and (pe_callB call_isi (by rfl) T.b_isinstance bt_isinstance (pa_cons (pv 0) (pa_cons (pe_bltn (v := .ty "int") (by rfl) T.b_int bt_int rfl) pa_nil))) (pe_and (pe_not (pe_callB call_isi (by rfl) T.b_isinstance bt_isinstance (pa_cons (pv 0) (pa_cons (pe_bltn (v := .ty "bool") (by rfl) T.b_bool bt_bool rfl) pa_nil)))) (pe_and (pe_cmpR op_le (pv 1) (pv 0) (nomark _)) (pe_one (pe_cmpR op_le (pv 0) (pv 2) (nomark _)))))))), ?_⟩
  rintro B S0 E px ⟨d, lo, hi⟩ -
  dsimp only [L2.cxOf, L2.Cx.nox, L2.Cx.wish]
  refine wp_ret ?_
  cases d with
  | int i =>
    apply EvS.wp
    · wtm_at "ev"
    · exact ⟨rfl, rfl⟩
  | _ =>
    apply EvS.wp
    · wtm_at "ev"
    · exact ⟨rfl, rfl⟩
theorem cl_law_is_integer {F : Fx} {Γ : List Sl} {t : TA} {E : XK} {d : PyData} {lo hi : Int} (h : EvA F t Γ [.d d, .d (.int lo), .d (.int hi)]) : EvS F (tCall (spP F.K con_law_is_integer) [] E t) Γ (.d (.bool (isIntB d lo hi))) :=
  evs_call (c := con_law_is_integer) (d, lo, hi) h rfl trivial (fun _ h => h) fun _ h => h
local macro_rules
  | `(tactic| wtm_at "call") => `(tactic| ((with_reducible apply cl_law_is_integer); wtm_at "ev"))

/-! ### data of few, short parts: texts of at most t signs, at most l items, at most k levels -/
def okD (t l : Nat) : Nat → PyData → Bool
  | _, .none => true
  | _, .bool _ => true
  | _, .int _ => true
  | _, .str a => decide (a.length ≤ t) && PyData.strOk a
  | k + 1, .list ds => decide (ds.length ≤ l) && ds.all (okD t l k)
  | k + 1, .tuple ds => decide (ds.length ≤ l) && ds.all (okD t l k)
  | _, _ => false
theorem okD_mono {t l t' l' : Nat} (ht : t ≤ t') (hl : l ≤ l') : ∀ {k k' : Nat} {d : PyData}, k ≤ k' → okD t l k d = true → okD t' l' k' d = true
  | k, k', .none, _, _ => by cases k' <;> rfl
  | k, k', .bool _, _, _ => by cases k' <;> rfl
  | k, k', .int _, _, _ => by cases k' <;> rfl
  | k, k', .str a, _, h => by
    have h : (decide (a.length ≤ t) && PyData.strOk a) = true := by cases k <;> exact h
    rw [Bool.and_eq_true, decide_eq_true_eq] at h
    have : (decide (a.length ≤ t') && PyData.strOk a) = true := by rw [Bool.and_eq_true, decide_eq_true_eq]; exact ⟨by omega, h.2⟩
    cases k' <;> exact this
  | 0, _, .list _, _, h => by cases h
  | 0, _, .tuple _, _, h => by cases h
  | _ + 1, 0, .list _, e, _ => by omega
  | _ + 1, 0, .tuple _, e, _ => by omega
  | k + 1, k' + 1, .list ds, e, h => by
    simp only [okD, Bool.and_eq_true, decide_eq_true_eq, List.all_eq_true] at h ⊢
    exact ⟨by omega, fun d hd => okD_mono ht hl (by omega) (h.2 d hd)⟩
  | k + 1, k' + 1, .tuple ds, e, h => by
    simp only [okD, Bool.and_eq_true, decide_eq_true_eq, List.all_eq_true] at h ⊢
    exact ⟨by omega, fun d hd => okD_mono ht hl (by omega) (h.2 d hd)⟩
  | 0, _, .dict _, _, h => by cases h
  | _ + 1, _, .dict _, _, h => by cases h
theorem okD_lay {t l : Nat} : ∀ {k : Nat} {d : PyData}, okD t l k d = true → d.canLay0 = true ∧ d.depth ≤ k
  | k, .none, _ => ⟨rfl, by simp [PyData.depth]⟩
  | k, .bool _, _ => ⟨rfl, by simp [PyData.depth]⟩
  | k, .int _, _ => ⟨rfl, by simp [PyData.depth]⟩
  | k, .str a, h => by
    have h : (decide (a.length ≤ t) && PyData.strOk a) = true := by cases k <;> exact h
    rw [Bool.and_eq_true] at h
    exact ⟨h.2, by simp [PyData.depth]⟩
  | 0, .list _, h => by cases h
  | 0, .tuple _, h => by cases h
  | k + 1, .list ds, h => by
    simp only [okD, Bool.and_eq_true, decide_eq_true_eq, List.all_eq_true] at h
    have all : ∀ es : List PyData, (∀ d ∈ es, okD t l k d = true) → PyData.canLayAll0 es = true ∧ PyData.depthAll es ≤ k := fun es => by
      induction es with
      | nil => intro _; exact ⟨rfl, by simp [PyData.depthAll]⟩
      | cons e es ih =>
        intro q
        have a := okD_lay (q e (by simp))
        have b := ih fun d hd => q d (by simp [hd])
        exact ⟨by rw [PyData.canLayAll0, a.1, b.1]; rfl, by rw [PyData.depthAll]; omega⟩
    have w := all ds h.2
    exact ⟨w.1, by rw [PyData.depth]; omega⟩
  | k + 1, .tuple ds, h => by
    simp only [okD, Bool.and_eq_true, decide_eq_true_eq, List.all_eq_true] at h
    have all : ∀ es : List PyData, (∀ d ∈ es, okD t l k d = true) → PyData.canLayAll0 es = true ∧ PyData.depthAll es ≤ k := fun es => by
      induction es with
      | nil => intro _; exact ⟨rfl, by simp [PyData.depthAll]⟩
      | cons e es ih =>
        intro q
        have a := okD_lay (q e (by simp))
        have b := ih fun d hd => q d (by simp [hd])
        exact ⟨by rw [PyData.canLayAll0, a.1, b.1]; rfl, by rw [PyData.depthAll]; omega⟩
    have w := all ds h.2
    exact ⟨w.1, by rw [PyData.depth]; omega⟩
  | 0, .dict _, h => by cases h
  | _ + 1, .dict _, h => by cases h
theorem okD_sh {t l k : Nat} {d : PyData} (h : okD t l k d = true) (hk : k ≤ 64) : SeqAt.shaped d = true := by
  have w := okD_lay h
  unfold SeqAt.shaped
  rw [w.1, Bool.true_and, decide_eq_true_eq]
  omega
theorem okD_tup {t l k : Nat} {ds : List PyData} (h : okD t l (k + 1) (.tuple ds) = true) : ds.length ≤ l ∧ ∀ d ∈ ds, okD t l k d = true := by
  simpa only [okD, Bool.and_eq_true, decide_eq_true_eq, List.all_eq_true] using h
theorem okD_lst {t l k : Nat} {ds : List PyData} (h : okD t l (k + 1) (.list ds) = true) : ds.length ≤ l ∧ ∀ d ∈ ds, okD t l k d = true := by
  simpa only [okD, Bool.and_eq_true, decide_eq_true_eq, List.all_eq_true] using h
theorem okD_mkT {t l k : Nat} {ds : List PyData} (h1 : ds.length ≤ l) (h2 : ∀ d ∈ ds, okD t l k d = true) : okD t l (k + 1) (.tuple ds) = true := by
  simpa only [okD, Bool.and_eq_true, decide_eq_true_eq, List.all_eq_true] using ⟨h1, h2⟩
theorem okD_mkL {t l k : Nat} {ds : List PyData} (h1 : ds.length ≤ l) (h2 : ∀ d ∈ ds, okD t l k d = true) : okD t l (k + 1) (.list ds) = true := by
  simpa only [okD, Bool.and_eq_true, decide_eq_true_eq, List.all_eq_true] using ⟨h1, h2⟩
theorem okD_str {t l k : Nat} {a : Str} (h : okD t l k (.str a) = true) : a.length ≤ t ∧ PyData.strOk a = true := by
  have h : (decide (a.length ≤ t) && PyData.strOk a) = true := by cases k <;> exact h
  simpa only [Bool.and_eq_true, decide_eq_true_eq] using h
theorem okD_mkS {t l k : Nat} {a : Str} (h1 : a.length ≤ t) (h2 : PyData.strOk a = true) : okD t l k (.str a) = true := by
  have h : (decide (a.length ≤ t) && PyData.strOk a) = true := by simpa only [Bool.and_eq_true, decide_eq_true_eq] using ⟨h1, h2⟩
  cases k <;> exact h
theorem okD_int {t l k : Nat} (i : Int) : okD t l k (.int i) = true := by cases k <;> rfl
theorem strOk_app {a b : Str} (h1 : PyData.strOk a = true) (h2 : PyData.strOk b = true) : PyData.strOk (a ++ b) = true := by
  unfold PyData.strOk at *
  show (a.cps ++ b.cps).all _ = true
  rw [Array.all_append, h1, h2]; rfl
/-- an item drawn out of a written list -/
theorem atI_some {ds : List PyData} {i : Int} (h0 : 0 ≤ i) (h1 : i < (ds.length : Nat)) : ∃ d, atI ds i = some d ∧ d ∈ ds := by
  have hk : i.toNat < ds.length := by omega
  have e : i = ((i.toNat : Nat) : Int) := by omega
  have q : atI ds ((i.toNat : Nat) : Int) = some ds[i.toNat] := atI_nat' (List.getElem?_eq_getElem hk)
  rw [← e] at q
  exact ⟨ds[i.toNat], q, List.getElem_mem hk⟩

/-! ### a promise that nobody may ask for -/
theorem fn_voidS {P : Program} {w : World} {K : PySem.W.Frag} {mg : Str → Option Value} {base : Heap} {CXx : CXT} {k : Nat} {f : Addr} {fd : FuncData} {ps : List Str} {c : ConS} (h : ∀ a, ¬ c.pre a) : FnOk P w K mg base CXx k f fd ps (spS K c) :=
  ⟨fun vs H Q E ⟨_, _, _, _, b, _, _, _, _, _, _, hp, _⟩ => absurd hp (h b), fun A outer s H args us vs Q E _ _ _ _ ⟨_, _, _, _, b, _, _, _, _, _, _, hp, _⟩ => absurd hp (h b)⟩
section
variable {F : Fx} {Γ : List Sl} {tA : TA} {k : Sl → List Sl → Prop}
theorem VAll.data' {z : Z} {vs : List V} {ds : List PyData} (h : VAll F z vs (ds.map Sl.d)) : DtAll F.K z.S vs ds := VAll.data h
theorem wpe_tup (h : WpA F tA Γ fun ss Γ' => ∃ ds : List PyData, ss = ds.map Sl.d ∧ ds.length ≤ sizeLine ∧ k (.d (.tuple ds)) Γ') : WpE F (tTup tA) Γ k := fun z σ Q hF hz hs c =>
  h z σ _ hF hz hs fun vs ss Γ' z1 ⟨ds, e, hl, hk⟩ a1 hz1 hs1 hv => by
    subst e
    exact ⟨by rw [(VAll.data hv).len]; exact hl, fun p hp => c _ _ Γ' (z1.sh p _) hk (a1.trans (Add.sh hz1 hp).ext) (hz1.sh hp) (hs1.add (Add.sh hz1 hp)) (VOk.sh_tup hz1 hp (VAll.data hv)) trivial⟩
theorem wpe_lst (h : WpA F tA Γ fun ss Γ' => ∃ ds : List PyData, ss = ds.map Sl.d ∧ ds.length ≤ sizeLine ∧ k (.lst ds) Γ') : WpE F (tLst tA) Γ k := fun z σ Q hF hz hs c =>
  h z σ _ hF hz hs fun vs ss Γ' z1 ⟨ds, e, hl, hk⟩ a1 hz1 hs1 hv => by
    subst e
    exact ⟨by rw [(VAll.data hv).len]; exact hl, fun p hp => c _ _ Γ' (z1.tmp p _) hk (a1.trans (Add.tmp hp).ext) (hz1.tmp hp) (hs1.add (Add.tmp hp)) (VOk.tmp_lst hz1 hp (VAll.data hv)) ⟨p, rfl, a1.dom p hp⟩⟩
end

/-! ### _law_any_value -/
abbrev con_any (n : Nat) : ConS := { α := Int × Int × Int, src := fun b => srcD b, args := fun _ => [.d (.int (n : Int))], pre := fun b => SrcOk b, post := fun _ r ds => ∃ x b, r = .d x ∧ okD 9 5 (n + 1) x = true ∧ ds = srcD b ∧ SrcOk b }
def anyFlat : List PyData := [.int 0, .int (-1), .int 1, .bool true, .bool false, .none, .str "", .str "a", .str "ab", .str "A", .str "a b", .str "abcdefghi", .int 2, .int 3, .int (-7), .str "a", .int (10 ^ (11 : Int).toNat), .int 8]
def anyMore : List PyData := [.tuple [], .list [], .tuple [.int 0, .int 1]]
theorem any_ok : ∀ d ∈ anyFlat ++ anyMore, okD 9 5 1 d = true := by decide +kernel
theorem any_draw {i : Int} (h0 : 0 ≤ i) (h1 : i < 21) : ∃ d, atI (anyFlat ++ anyMore) i = some d ∧ okD 9 5 1 d = true := by
  obtain ⟨d, h, m⟩ := atI_some (ds := anyFlat ++ anyMore) h0 (by show i < ((21 : Nat) : Int); omega)
  exact ⟨d, h, any_ok d m⟩
theorem ok_law_any0 (T : Tx K mg) : FnOk P w K mg base CX0 (4 - 3 + 1) (He.ga K "_law_any_value") T.fd_law_any_value ["source", "depth"] (spS K (con_any 0)) := by
  refine fn_okS T.F_law_any_value sc_law_any_value (con_any 0) (fun _ _ => rfl) (by decide) fun cdv A outer s H E hr => ⟨_, (pss_cons (ps_set (i := 2) sc_law_any_value.nd rfl (.inl rfl) (pe_call (ok_law_pick T) (hr.mono (by decide)) (by rfl) T.g_law_pick T.F_law_pick.kp (bi_law_pick T) .nil pass0 (pa_cons (pv 0) (pa_cons pe_int pa_nil))))
      (pss_cons (ps_if (PW.pt (pw_or (pt_cmpR op_lt (pv 2) pe_int (nomark _)) (pw_or1 (pt_cmpR (op_eqD hr.units) (pv 1) pe_int (nomark _)))))
        (pss_cons (ps_set (i := 3) sc_law_any_value.nd rfl (.inl rfl) (pe_lst (pa_cons pe_int (pa_cons (pe_un un_neg pe_int) (pa_cons pe_int (pa_cons pe_bl (pa_cons pe_bl (pa_cons pe_non (pa_cons pe_str (pa_cons pe_str (pa_cons pe_str (pa_cons pe_str (pa_cons pe_str (pa_cons pe_str (pa_cons pe_int (pa_cons pe_int (pa_cons (pe_un un_neg pe_int) (pa_cons pe_str (pa_cons (pe_op op_pow pe_int pe_int) (pa_cons pe_int pa_nil))))))))))))))))))))
        (pss_one (ps_ret (pe_ix ix_seq (pe_op op_addG (pv 3) (pe_lst (pa_cons (pe_tup pa_nil) (pa_cons (pe_lst pa_nil) (pa_cons (pe_tup (pa_cons pe_int (pa_cons pe_int pa_nil))) pa_nil))))) (pe_call (ok_law_pick T) (hr.mono (by decide)) (by rfl) T.g_law_pick T.F_law_pick.kp (bi_law_pick T) .nil pass0 (pa_cons (pv 0) (pa_cons pe_int pa_nil))) (fun _ _ => rfl)))))
        pss_nil)
      (pss_cons ps_never
      (pss_one ps_never)))), ?_⟩
  rintro B S0 E px a b hb
  dsimp only [L2.cxOf, L2.Cx.nox, L2.Cx.wish] at hb ⊢
  apply wp_seq
  apply wp_asgW
  apply cw_law_pick (s0 := .src a (srcD b)) (b := b) (n := 9) rfl rfl hb (by wtm_at "ev") (by decide) (by decide)
  intro kd b1 _ _ hb1
  refine ⟨rfl, lt_ble rfl, ?_⟩
  apply wp_seq
  apply wp_if1
  · refine evt_is (b := decide (kd < 6) || PyData.eqv (.int ((0 : Nat) : Int)) (.int 0)) ?_ ?_
    · have s1 : SeqAt.shaped (.int ((0 : Nat) : Int)) = true := sh_int _
      have s2 : SeqAt.shaped (.int 0) = true := sh_int _
      wtm_at "ev"
    · rw [eqv_int]; simp
  apply wp_seq
  refine wp_asg (s := .lst anyFlat) (by wtm_at "evis") (lt_ble rfl) rfl ?_
  apply wp_ret
  apply wpe_op
  refine EvS.wp (s := .lst (anyFlat ++ anyMore)) ?_ ?_
  · wtm_at "evis"
  refine ⟨rfl, ?_⟩
  apply cw_law_pick (s0 := .src a (srcD b1)) (b := b1) (n := 21) rfl rfl hb1 (by wtm_at "ev") (by decide) (by decide)
  intro i b2 i0 i1 hb2
  obtain ⟨x, hx, ox⟩ := any_draw i0 i1
  exact ⟨.d x, ix_at rfl hx, rfl, _, rfl, x, b2, rfl, ox, rfl, hb2⟩
theorem ok_law_anyS (T : Tx K mg) (n : Nat) (ih : FnOk P w K mg base CX0 (4 - 3 + n + 1) (He.ga K "_law_any_value") T.fd_law_any_value ["source", "depth"] (spS K (con_any n))) :
    FnOk P w K mg base CX0 (4 - 3 + (n + 1) + 1) (He.ga K "_law_any_value") T.fd_law_any_value ["source", "depth"] (spS K (con_any (n + 1))) := by
  refine fn_okS T.F_law_any_value sc_law_any_value (con_any (n + 1)) (fun _ _ => rfl) (by decide) fun cdv A outer s H E hr => ⟨_, (pss_cons (ps_set (i := 2) sc_law_any_value.nd rfl (.inl rfl) (pe_call (ok_law_pick T) (hr.mono (by omega)) (by rfl) T.g_law_pick T.F_law_pick.kp (bi_law_pick T) .nil pass0 (pa_cons (pv 0) (pa_cons pe_int pa_nil))))
      (pss_cons (ps_if (PW.pt (pw_or (pt_cmpR op_lt (pv 2) pe_int (nomark _)) (pw_or1 (pt_cmpR (op_eqD hr.units) (pv 1) pe_int (nomark _)))))
        (pss_cons (ps_set (i := 3) sc_law_any_value.nd rfl (.inl rfl) (pe_lst (pa_cons pe_int (pa_cons (pe_un un_neg pe_int) (pa_cons pe_int (pa_cons pe_bl (pa_cons pe_bl (pa_cons pe_non (pa_cons pe_str (pa_cons pe_str (pa_cons pe_str (pa_cons pe_str (pa_cons pe_str (pa_cons pe_str (pa_cons pe_int (pa_cons pe_int (pa_cons (pe_un un_neg pe_int) (pa_cons pe_str (pa_cons (pe_op op_pow pe_int pe_int) (pa_cons pe_int pa_nil))))))))))))))))))))
        (pss_one (ps_ret (pe_ix ix_seq (pe_op op_addG (pv 3) (pe_lst (pa_cons (pe_tup pa_nil) (pa_cons (pe_lst pa_nil) (pa_cons (pe_tup (pa_cons pe_int (pa_cons pe_int pa_nil))) pa_nil))))) (pe_call (ok_law_pick T) (hr.mono (by omega)) (by rfl) T.g_law_pick T.F_law_pick.kp (bi_law_pick T) .nil pass0 (pa_cons (pv 0) (pa_cons pe_int pa_nil))) (fun _ _ => rfl)))))
        pss_nil)
      (pss_cons (ps_setLc (i := 4) (own := [("k", 5)]) rfl sc_law_any_value.nd rfl rfl (sw_true rfl rfl rfl (by decide +kernel)) (pi_range1 (by rfl) T.b_range (pa_cons (pe_call (ok_law_pick T) (hr.mono (by omega)) (by rfl) T.g_law_pick T.F_law_pick.kp (bi_law_pick T) .nil pass0 (pa_cons (pv 0) (pa_cons pe_int pa_nil))) pa_nil)) (blkOk_by (own := [("k", 5)]) (N := ["source", "depth", "kind", "some", "items", "k"]) (sc := defScope s_law_any_value) (by decide +kernel)) (fun _ _ _ _ _ => (pg_name (i := 5) sc_law_any_value.nd rfl (.inl rfl))) (fun _ _ _ _ _ => pts_nil) (fun _ _ _ _ _ => (pe_call ih (hr.mono (by omega)) (by rfl) T.g_law_any_value T.F_law_any_value.kp (bi_law_any_value T) .nil pass0 (pa_cons (pv 0) (pa_cons (pe_op op_sub (pv 1) pe_int) pa_nil)))))
      (pss_one (ps_ret (pe_ix ix_seq (pe_lst (pa_cons (pv 4) (pa_cons (pe_callTy call_tuple_of (by rfl) T.b_tuple bt_tuple (pa_cons (pv 4) pa_nil)) (pa_cons (pe_callTy call_tuple_of (by rfl) T.b_tuple bt_tuple (pa_cons (pv 4) pa_nil)) pa_nil)))) (pe_op op_sub (pv 2) pe_int) (fun _ _ => rfl))))))), ?_⟩
  rintro B S0 E px a b hb
  dsimp only [L2.cxOf, L2.Cx.nox, L2.Cx.wish] at hb ⊢
  apply wp_seq
  apply wp_asgW
  apply cw_law_pick (s0 := .src a (srcD b)) (b := b) (n := 9) rfl rfl hb (by wtm_at "ev") (by decide) (by decide)
  intro kd b1 k0 k1 hb1
  refine ⟨rfl, lt_ble rfl, ?_⟩
  apply wp_seq
  apply wp_if (b := decide (kd < 6) || PyData.eqv (.int ((n + 1 : Nat) : Int)) (.int 0))
  · have s1 : SeqAt.shaped (.int ((n + 1 : Nat) : Int)) = true := sh_int _
    have s2 : SeqAt.shaped (.int 0) = true := sh_int _
    wtm_at "ev"
  · intro _
    apply wp_seq
    refine wp_asg (s := .lst anyFlat) (by wtm_at "evis") (lt_ble rfl) rfl ?_
    apply wp_ret
    apply wpe_op
    refine EvS.wp (s := .lst (anyFlat ++ anyMore)) ?_ ?_
    · wtm_at "evis"
    refine ⟨rfl, ?_⟩
    apply cw_law_pick (s0 := .src a (srcD b1)) (b := b1) (n := 21) rfl rfl hb1 (by wtm_at "ev") (by decide) (by decide)
    intro i b2 i0 i1 hb2
    obtain ⟨x, hx, ox⟩ := any_draw i0 i1
    exact ⟨.d x, ix_at rfl hx, rfl, _, rfl, x, b2, rfl, okD_mono (Nat.le_refl _) (Nat.le_refl _) (by omega) ox, rfl, hb2⟩
  · intro hk
    rw [Bool.or_eq_false_iff, decide_eq_false_iff_not] at hk
    have k6 : 6 ≤ kd := by omega
    apply wp_next
    apply wp_seq
    apply wp_asgW
    apply wpe_lc (gvs_name (by decide)) (fun v σ H Q Q' => mono_name v σ H Q Q')
    apply wpi_range1
    apply wpa_one
    apply cw_law_pick (s0 := .src a (srcD b1)) (b := b1) (n := 6) rfl rfl hb1 (by wtm_at "ev") (by decide) (by decide)
    intro m b2 m0 m1 hb2
    refine ⟨m, rfl, by omega, by omega, by rw [rangeD_len, sizeLine_eq]; omega, fun i acc Γ => ∃ (b : Int × Int × Int) (g3 g4 g5 : Sl), Γ = [.src a (srcD b), .d (.int ((n + 1 : Nat) : Int)), .d (.int kd), g3, g4, g5] ∧ SrcOk b ∧ ∀ x ∈ acc, okD 9 5 (n + 1) x = true, ⟨b2, _, _, _, rfl, hb2, by simp⟩, ?_, ?_⟩
    · rintro i d acc Γ1 hd ⟨b3, g3, g4, g5, rfl, hb3, hacc⟩
      refine ⟨_, gto_name (lt_ble rfl), ?_⟩
      refine wpe_callS (c := con_any n) (i := 0) (s0 := .src a (srcD b3)) b3 rfl rfl (eva_cons ?_ eva_nil) rfl hb3 ?_
      · refine evs_is (x := .d (.int (((n + 1 : Nat) : Int) - 1))) (by wtm_at "ev") ?_
        rw [show ((n + 1 : Nat) : Int) - 1 = (n : Int) by omega]
      · rintro r ds' ⟨x, b4, rfl, hx, rfl, hb4⟩
        refine ⟨x, rfl, b4, _, _, _, rfl, hb4, fun y hy => ?_⟩
        rcases List.mem_append.mp hy with q | q
        · exact hacc y q
        · rw [List.mem_singleton] at q; rw [q]; exact hx
    · rintro acc Γ1 hl ⟨b3, g3, g4, g5, rfl, hb3, hacc⟩
      rw [rangeD_len] at hl
      refine ⟨rfl, lt_ble rfl, ?_⟩
      refine wp_share (i := 4) (ds := acc) rfl ?_
      have oL : okD 9 5 (n + 2) (.list acc) = true := okD_mkL (by omega) hacc
      have oT : okD 9 5 (n + 2) (.tuple acc) = true := okD_mkT (by omega) hacc
      obtain ⟨x, hx, hm⟩ := atI_some (ds := [PyData.list acc, .tuple acc, .tuple acc]) (i := kd - 6) (by omega) (by show kd - 6 < ((3 : Nat) : Int); omega)
      apply wp_ret
      refine EvS.wp (s := .d x) ?_ ?_
      · refine evs_op (x := .lst [PyData.list acc, .tuple acc, .tuple acc]) (y := .d (.int (kd - 6))) (by wtm_at "ev") (by wtm_at "ev") (ix_at rfl hx)
      · refine ⟨rfl, _, rfl, x, b3, rfl, ?_, rfl, hb3⟩
        simp only [List.mem_cons, List.not_mem_nil, or_false] at hm
        rcases hm with rfl | rfl | rfl
        · exact oL
        · exact oT
        · exact oT
theorem ok_law_any (T : Tx K mg) : ∀ n : Nat, FnOk P w K mg base CX0 (4 - 3 + n + 1) (He.ga K "_law_any_value") T.fd_law_any_value ["source", "depth"] (spS K (con_any n))
  | 0 => ok_law_any0 T
  | n + 1 => ok_law_anyS T n (ok_law_any T n)
abbrev con_law_any : ConS := { α := (Int × Int × Int) × Nat, src := fun a => srcD a.1, args := fun a => [.d (.int (a.2 : Int))], pre := fun a => SrcOk a.1 ∧ a.2 ≤ 3, post := fun a r ds => ∃ x b, r = .d x ∧ okD 9 5 (a.2 + 1) x = true ∧ ds = srcD b ∧ SrcOk b }
theorem ok_law_any_value (T : Tx K mg) : FnOk P w K mg base CX0 (4 + 1) (He.ga K "_law_any_value") T.fd_law_any_value ["source", "depth"] (spS K con_law_any) :=
  ⟨fun vs H Q E ⟨_, _, _, _, b, ev, _, _, _, _, hv, _, _⟩ => by subst ev; have := VPs.len hv; simpa using this,
    fun A outer s H args us vs Q E hr he hb hv ⟨S, a, xs, vs', ⟨b, n⟩, h1, h2, h3, h4, h5, h6, ⟨h7, h8⟩, h9⟩ => ((ok_law_any (P := P) (w := w) (base := base) T n).mono (by have h8 : n ≤ 3 := h8; omega)).run A outer s H args us vs Q E hr he hb hv ⟨S, a, xs, vs', b, h1, h2, h3, h4, h5, h6, h7, h9⟩⟩
theorem cw_law_any {F : Fx} {Γ : List Sl} {t : TA} {E : XK} {k : Sl → List Sl → Prop} {i : Nat} {s0 : Sl} {b : Int × Int × Int} {n : Nat} (hi : Γ[i]? = some s0) (ho : s0.ownL = some (srcD b)) (hb : SrcOk b) (h : EvA F t Γ [.d (.int (n : Int))]) (hn : n ≤ 3)
    (hk : ∀ x b', okD 9 5 (n + 1) x = true → SrcOk b' → k (.d x) (Γ.set i (s0.withL (srcD b')))) : WpE F (tCall (spS F.K con_law_any) [] E (tCons (tVar i) t)) Γ k :=
  wpe_callS (c := con_law_any) (b, n) hi ho h rfl ⟨hb, hn⟩ fun r ds' ⟨x, b', e1, q1, e2, q3⟩ => by subst e1 e2; exact hk x b' q1 q3

/-! ### _law_is_good_person -/
theorem eqv_nil (L : List PyData) : PyData.eqv (.list L) (.list []) = L.isEmpty := by cases L <;> simp [PyData.eqv, PyData.eqvAll]
theorem sh_nil : SeqAt.shaped (.list []) = true := rfl
theorem lay_os (os : List (Option Int)) : PyData.canLayAll0 (os.map oI) = true := by
  induction os with
  | nil => simp [PyData.canLayAll0]
  | cons n r ih => rw [List.map_cons, PyData.canLayAll0, ih]; cases n <;> simp [oI, PyData.canLay0]
theorem depth_os (os : List (Option Int)) : PyData.depthAll (os.map oI) = 0 := by
  induction os with
  | nil => simp [PyData.depthAll]
  | cons n r ih => rw [List.map_cons, PyData.depthAll, ih]; cases n <;> simp [oI, PyData.depth]
theorem sh_listO (os : List (Option Int)) : SeqAt.shaped (.list (os.map oI)) = true := by
  simp [SeqAt.shaped, PyData.canLay0, PyData.depth, lay_os, depth_os]
theorem sh_tup3 (fa fb fc : Option Int) : SeqAt.shaped (.tuple [oI fa, oI fb, oI fc]) = true := by
  cases fa <;> cases fb <;> cases fc <;> simp [SeqAt.shaped, oI, PyData.canLay0, PyData.canLayAll0, PyData.depth, PyData.depthAll]
theorem eqv_tup3 (fa fb fc : Option Int) : PyData.eqv (.tuple [oI fa, oI fb, oI fc]) (.tuple [.none, .none, .none]) = (fa.isNone && fb.isNone && fc.isNone) := by
  cases fa <;> cases fb <;> cases fc <;> simp [oI, PyData.eqv, PyData.eqvAll]
abbrev con_law_is_good_person : Con := { α := Per, args := fun a => [.d a.enc], pre := fun a => isNameS a.name = true, post := fun a r => r = .d (.bool (ranksOk a.first a.last a.dense)) }
theorem ok_law_is_good_person (T : Tx K mg) : FnOk P w K mg base CX0 (1 + 1) (He.ga K "_law_is_good_person") T.fd_law_is_good_person ["value"] (spP K con_law_is_good_person) := by
  refine fn_ok T.F_law_is_good_person sc_law_is_good_person con_law_is_good_person (fun _ _ => rfl) (by decide) (fun _ _ h => h) fun cdv A outer s H E hr => ⟨_, (pss_cons (ps_if (PW.pt (pw_or (pt_not (pt_val (pe_callB call_isi (by rfl) T.b_isinstance bt_isinstance (pa_cons (pv 0) (pa_cons (pe_bltn (v := .ty "tuple") (by rfl) T.b_tuple bt_tuple rfl) pa_nil))))) (pw_or (pt_cmpR (op_neD hr.units) (pe_callB call_lenG (by rfl) T.b_len bt_len (pa_cons (pv 0) pa_nil)) pe_int (nomark _)) (pw_or (pt_not (pt_val (pe_callB call_isi (by rfl) T.b_isinstance bt_isinstance (pa_cons (pe_ix ix_seq (pv 0) pe_int (fun _ _ => rfl)) (pa_cons (pe_bltn (v := .ty "str") (by rfl) T.b_str bt_str rfl) pa_nil))))) (pw_or1 (pt_not (pt_chain op_le op_le pe_int (pe_callB call_lenG (by rfl) T.b_len bt_len (pa_cons (pe_ix ix_seq (pv 0) pe_int (fun _ _ => rfl)) pa_nil)) pe_int)))))))
        (pss_one (ps_ret pe_bl))
        pss_nil)
      (pss_cons (ps_if (PW.pt (pw_or (pt_cmpR (op_neD hr.units) (pe_lc (own := [("sign", 4)]) rfl sc_law_is_good_person.nd (pi_seq (pe_ix ix_seq (pv 0) pe_int (fun _ _ => rfl))) (blkOk_by (own := [("sign", 4)]) (N := ["value", "first", "last", "dense", "sign", "rank"]) (sc := defScope s_law_is_good_person) (by decide +kernel)) (fun _ _ _ _ _ => (pg_name (i := 4) sc_law_is_good_person.nd rfl (.inl rfl))) (fun _ _ _ _ _ => (pts_one (pt_cmpR (opK rNotInG K op_notin_G) (pv 4) pe_str (by with_unfolding_all rfl)))) (fun _ _ _ _ _ => (pv 4))) (pe_lst pa_nil) (nomark _)) (pw_or1 (pt_cmpR (op_eqD hr.units) (pe_slice sl_G (pv 0) (po_some pe_int) po_none) (pe_tup (pa_cons pe_non (pa_cons pe_non (pa_cons pe_non pa_nil)))) (nomark _)))))
        (pss_one (ps_ret pe_bl))
        pss_nil)
      (pss_cons (ps_if (pt_cmpR (op_neD hr.units) (pe_lc (own := [("rank", 5)]) rfl sc_law_is_good_person.nd (pi_seq (pe_slice sl_G (pv 0) (po_some pe_int) po_none)) (blkOk_by (own := [("rank", 5)]) (N := ["value", "first", "last", "dense", "sign", "rank"]) (sc := defScope s_law_is_good_person) (by decide +kernel)) (fun _ _ _ _ _ => (pg_name (i := 5) sc_law_is_good_person.nd rfl (.inl rfl))) (fun _ _ _ _ _ => (pts_one (PW.pt (pw_and (pt_cmpR op_notN (pv 5) pe_non (nomark _)) (pw_and1 (pt_not (pt_val (pe_call (ok_law_is_integer T) (hr.mono (by decide)) (by rfl) T.g_law_is_integer T.F_law_is_integer.kp (bi_law_is_integer T) .nil pass0 (pa_cons (pv 5) (pa_cons pe_int (pa_cons pe_int pa_nil))))))))))) (fun _ _ _ _ _ => (pv 5))) (pe_lst pa_nil) (nomark _))
        (pss_one (ps_ret pe_bl))
        pss_nil)
      (pss_cons (ps_asg (pe_slice sl_G (pv 0) (po_some pe_int) po_none) (pg_tup (by rfl) (pgs_cons (pg_name (i := 1) sc_law_is_good_person.nd rfl (.inl rfl)) (pgs_cons (pg_name (i := 2) sc_law_is_good_person.nd rfl (.inl rfl)) (pgs_cons (pg_name (i := 3) sc_law_is_good_person.nd rfl (.inr rfl)) pgs_nil)))))
      (pss_cons (ps_if (PW.pt (pw_and (pt_cmpR op_notN (pv 1) pe_non (nomark _)) (pw_and (pt_cmpR op_notN (pv 2) pe_non (nomark _)) (pw_and1 (pt_cmpR op_lt (pv 2) (pv 1) (nomark _))))))
        (pss_one (ps_ret pe_bl))
        pss_nil)
      (pss_cons (ps_if (pt_cmpR op_isN (pv 3) pe_non (nomark _))
        (pss_one (ps_ret pe_bl))
        pss_nil)
      (pss_one (ps_ret (pe_cmpR (op_eqD hr.units) (pe_lc (own := [("rank", 5)]) rfl sc_law_is_good_person.nd (pi_seq (pe_tup (pa_cons (pv 1) (pa_cons (pv 2) pa_nil)))) (blkOk_by (own := [("rank", 5)]) (N := ["value", "first", "last", "dense", "sign", "rank"]) (sc := defScope s_law_is_good_person) (by decide +kernel)) (fun _ _ _ _ _ => (pg_name (i := 5) sc_law_is_good_person.nd rfl (.inl rfl))) (fun _ _ _ _ _ => (pts_one (PW.pt (pw_and (pt_cmpR op_notN (pv 5) pe_non (nomark _)) (pw_and1 (pt_cmpR op_lt (pv 5) (pv 3) (nomark _))))))) (fun _ _ _ _ _ => (pv 5))) (pe_lst pa_nil) (nomark _)))))))))), ?_⟩
  rintro B S0 E px ⟨nm, f, l, d⟩ hn
  dsimp only [L2.cxOf, L2.Cx.nox, L2.Cx.wish] at hn ⊢
  have hlen := name_short hn
  show Wp _ _ (entry _ [.d (.tuple [.str nm, oI f, oI l, oI d])]) _ _ _ _
  -- the form of the value
  apply wp_seq
  apply wp_if (b := false)
  · refine evt_is (b := false || (false || (false || false))) ?_ rfl
    apply evt_or
    · wtm_at "evtis"
    · intro _
      apply evt_or
      · apply evt_test
        refine evs_is (x := .d (.bool (!PyData.eqv (.int ([PyData.str nm, oI f, oI l, oI d] : List PyData).length) (.int 4)))) ?_ (by rw [eqv_int]; rfl)
        apply evs_op
        · wtm_at "ev"
        · wtm_at "ev"
        · exact ops_neD rfl rfl (sh_int _) (sh_int _)
      · intro _
        apply evt_or
        · refine evt_is (b := !isS (.str nm)) ?_ rfl
          apply evt_not
          apply evt_B
          apply evs_cb
          · apply eva_cons
            · apply evs_op
              · wtm_at "ev"
              · wtm_at "ev"
              · exact ix_at rfl rfl
            · wtm_at "ev"
          · exact isi_str
        · intro _
          refine evt_is (b := !(decide (1 ≤ (nm.length : Int)) && decide ((nm.length : Int) ≤ 8))) ?_ (by rw [decide_eq_true (by omega), decide_eq_true (by omega)]; rfl)
          apply evt_not
          apply evt_test
          apply evs_chain
          · wtm_at "ev"
          · apply evs_cb
            · apply eva_cons
              · apply evs_op
                · wtm_at "ev"
                · wtm_at "ev"
                · exact ix_at rfl rfl
              · exact eva_nil
            · exact len_str (sz (by omega))
          · exact ops_B0
          · intro _; wtm_at "ev"
          · intro _; exact ops_B0
  · intro h; cases h
  intro _
  apply wp_next
  -- its name, no ranks at all
  have hsig : (signs nm).filter (fun d => !signIn d) = [] := by
    rw [List.filter_eq_nil_iff]
    intro a ha
    simp only [isNameS, Bool.and_eq_true, List.all_eq_true] at hn
    simp [hn.2 a ha]
  apply wp_seq
  apply wp_if (b := f.isNone && l.isNone && d.isNone)
  · refine evt_is (b := false || (f.isNone && l.isNone && d.isNone)) ?_ (Bool.false_or _)
    apply evt_or
    · apply evt_test
      refine evs_is (x := .d (.bool (!PyData.eqv (.list []) (.list [])))) ?_ (by rw [eqv_nil]; rfl)
      apply evs_op (x := .lst [])
      · refine evs_is (x := .lst (((signs nm).filter (fun d => !signIn d)).map id)) ?_ (by rw [hsig]; rfl)
        refine evs_lc (items := signs nm) (evi_seqS ?_) (gvs_name (by decide)) (sz' (by simp only [signs, List.length_map, Array.length_toList]; show nm.length ≤ 100000; omega)) ?_
        · apply evs_op
          · wtm_at "ev"
          · wtm_at "ev"
          · exact ix_at rfl rfl
        · refine lcp_dsF (p := fun d => !signIn d) (f := id) fun d hd => ?_
          obtain ⟨c, hc, rfl⟩ := List.mem_map.mp hd
          refine ⟨_, gto_name (lt_ble rfl), ?_, fun _ => by wtm_at "ev"⟩
          apply evt_test
          apply evs_op
          · wtm_at "ev"
          · wtm_at "ev"
          · exact notin_strG
      · wtm_at "ev"
      · exact ops_neD rfl rfl sh_nil sh_nil
    · intro _
      rw [← eqv_tup3]
      apply evt_test
      apply evs_op (x := .d (.tuple [oI f, oI l, oI d]))
      · wtm_at "evis"
      · wtm_at "ev"
      · exact ops_eqD rfl rfl (sh_tup3 _ _ _) rfl
  · intro h
    apply wp_ret
    apply EvS.wp
    · wtm_at "ev"
    · refine ⟨rfl, ?_⟩
      show _ = Sl.d (.bool (ranksOk f l d))
      unfold ranksOk
      rw [h]; simp
  intro h0
  apply wp_next
  -- ranks out of bounds
  have hemp : (([f, l, d].filter fun o => o.isSome && !rankO o).map oI).isEmpty = (rankO f && rankO l && rankO d) := by
    have q : ∀ o : Option Int, (o.isSome && !rankO o) = !rankO o := fun o => by cases o <;> rfl
    simp only [q]
    cases hf : rankO f <;> cases hl : rankO l <;> cases hd : rankO d <;> simp [hf, hl, hd]
  apply wp_seq
  apply wp_if (b := !(rankO f && rankO l && rankO d))
  · rw [← hemp, ← eqv_nil]
    apply evt_test
    apply evs_op (x := .lst (([f, l, d].filter fun o => o.isSome && !rankO o).map oI))
    · refine evs_lc (items := [oI f, oI l, oI d]) (evi_seqT (by wtm_at "evis")) (gvs_name (by decide)) (sz' (Nat.le_of_ble_eq_true rfl)) ?_
      refine lcp_map (enc := oI) (xs := [f, l, d]) (p := fun o => o.isSome && !rankO o) (f := oI) fun o _ => ⟨_, gto_name (lt_ble rfl), ?_, fun _ => by wtm_at "ev"⟩
      cases o with
      | none =>
        apply evt_and0
        · wtm_at "ev"
        · rfl
      | some i =>
        refine evt_is (b := true && !isIntB (.int i) 1 30) ?_ rfl
        apply evt_and
        · wtm_at "evtis"
        · intro _; wtm_at "ev"
    · wtm_at "ev"
    · exact ops_neD rfl rfl (sh_listO _) sh_nil
  · intro h
    rw [Bool.not_eq_true'] at h
    apply wp_ret
    apply EvS.wp
    · wtm_at "ev"
    · refine ⟨rfl, ?_⟩
      show _ = Sl.d (.bool (ranksOk f l d))
      unfold ranksOk
      rw [h]; rfl
  intro h1
  rw [Bool.not_eq_false'] at h1
  apply wp_next
  have goal : ranksOk f l d = (leO f l && leO d f && leO d l) := by
    unfold ranksOk
    rw [h1, h0]; simp
  rw [goal]
  apply wp_seq
  apply wp_asgG
  refine EvS.wp (s := .d (.tuple [oI f, oI l, oI d])) (by wtm_at "evis") ?_
  refine GTo.wp (gto_tup rfl (gtos_cons (gto_name (lt_ble rfl)) (gtos_cons (gto_name (lt_ble rfl)) (gtos_cons (gto_name (lt_ble rfl)) gtos_nil)))) ?_
  apply wp_seq
  apply wp_if (b := !leO f l)
  · cases f with
    | none =>
      apply evt_and0
      · wtm_at "ev"
      · rfl
    | some i =>
      cases l with
      | none =>
        have e : (!leO (some i) none) = (true && (false && true)) := rfl
        rw [e]
        apply evt_and
        · wtm_at "ev"
        · intro _
          apply evt_and
          · wtm_at "ev"
          · intro q; cases q
      | some j =>
        have e : (!leO (some i) (some j)) = (true && (true && decide (j < i))) := by
          simp only [leO, Bool.true_and]
          by_cases q : i ≤ j
          · rw [decide_eq_true q, decide_eq_false (by omega)]; rfl
          · rw [decide_eq_false q, decide_eq_true (by omega)]; rfl
        rw [e]
        wtm_at "ev"
  · intro h
    apply wp_ret
    apply EvS.wp
    · wtm_at "ev"
    · refine ⟨rfl, ?_⟩
      simp only [Bool.not_eq_true'] at h
      rw [h]; rfl
  intro h2
  simp only [Bool.not_eq_false'] at h2
  rw [h2]
  apply wp_next
  apply wp_seq
  cases d with
  | none =>
    apply wp_if (b := true)
    · wtm_at "evtis"
    · intro _
      apply wp_ret
      apply EvS.wp
      · wtm_at "ev"
      · exact ⟨rfl, rfl⟩
    · intro h; cases h
  | some k =>
    apply wp_if (b := false)
    · wtm_at "evtis"
    · intro h; cases h
    intro _
    apply wp_next
    apply wp_ret
    have hemp2 : (([f, l].filter fun o => o.isSome && !leO (some k) o).map oI).isEmpty = (leO (some k) f && leO (some k) l) := by
      have q : ∀ o : Option Int, (o.isSome && !leO (some k) o) = !leO (some k) o := fun o => by cases o <;> rfl
      simp only [q]
      cases hf : leO (some k) f <;> cases hl : leO (some k) l <;> simp [hf, hl]
    refine EvS.wp (s := .d (.bool (leO (some k) f && leO (some k) l))) ?_ ⟨rfl, by rw [Bool.true_and]⟩
    rw [← hemp2, ← eqv_nil]
    apply evs_op (x := .lst (([f, l].filter fun o => o.isSome && !leO (some k) o).map oI))
    · refine evs_lc (items := [oI f, oI l]) (evi_seqT (by wtm_at "evis")) (gvs_name (by decide)) (sz' (Nat.le_of_ble_eq_true rfl)) ?_
      refine lcp_map (enc := oI) (xs := [f, l]) (p := fun o => o.isSome && !leO (some k) o) (f := oI) fun o _ => ⟨_, gto_name (lt_ble rfl), ?_, fun _ => by wtm_at "ev"⟩
      cases o with
      | none =>
        apply evt_and0
        · wtm_at "ev"
        · rfl
      | some i =>
        have e : ((some i : Option Int).isSome && !leO (some k) (some i)) = (true && decide (i < k)) := by
          simp only [leO, Option.isSome_some, Bool.true_and]
          by_cases q : k ≤ i
          · rw [decide_eq_true q, decide_eq_false (by omega)]; rfl
          · rw [decide_eq_false q, decide_eq_true (by omega)]; rfl
        show EvT _ _ _ ((some i : Option Int).isSome && !leO (some k) (some i))
        rw [e]
        apply evt_and
        · wtm_at "evtis"
        · intro _; wtm_at "ev"
    · wtm_at "ev"
    · exact ops_eqD rfl rfl (sh_listO _) sh_nil
theorem cl_law_is_good_person {F : Fx} {Γ : List Sl} {t : TA} {E : XK} {p : Per} (h : EvA F t Γ [.d p.enc]) (h1 : isNameS p.name = true) : EvS F (tCall (spP F.K con_law_is_good_person) [] E t) Γ (.d (.bool (ranksOk p.first p.last p.dense))) :=
  evs_call (c := con_law_is_good_person) p h rfl h1 (fun _ h => h) fun _ h => h

/-! ### _law_variant -/
structure VarOk (t l k n : Nat) (ds : List PyData) : Prop where
  t9 : 9 ≤ t
  t1 : t ≤ 1000
  l5 : 5 ≤ l
  l1 : l ≤ 1000
  kn : 4 + n ≤ k
  k2 : k ≤ 50
  ok : okD t l (k + 1) (.tuple ds) = true
abbrev con_var (n : Nat) : ConS := { α := (Int × Int × Int) × List PyData × Nat × Nat × Nat, src := fun a => srcD a.1, args := fun a => [.d (.tuple a.2.1), .d (.int (n : Int))], pre := fun a => SrcOk a.1 ∧ VarOk a.2.2.1 a.2.2.2.1 a.2.2.2.2 n a.2.1, post := fun a r ds => ∃ x b, r = .d x ∧ okD (a.2.2.1 + 8) (a.2.2.2.1 + 1) (a.2.2.2.2 + 1) x = true ∧ ds = srcD b ∧ SrcOk b }
def nearA : List PyData := [.int 0, .int 1, .int (-1), .int 2, .int 9, .int 10, .str "b", .none, .bool true, .bool false]
def nearB : List PyData := [.str "a", .tuple [], .tuple [.int 1, .str "a"], .str "ann", .tuple [.tuple [.int 1, .str "zz"]], .int 61, .str "", .str "Ann", .str "abcdefg"]
theorem near_ok : ∀ d ∈ nearA ++ nearB, okD 9 5 2 d = true := by decide +kernel
theorem text_ok : ∀ d ∈ [PyData.str "a", .str "A", .str " ", .str "bbbbbbbb"], ∃ x : Str, d = .str x ∧ x.length ≤ 8 ∧ PyData.strOk x = true := by
  intro d hd
  simp only [List.mem_cons, List.not_mem_nil, or_false] at hd
  rcases hd with rfl | rfl | rfl | rfl
  · exact ⟨_, rfl, by decide +kernel, by decide +kernel⟩
  · exact ⟨_, rfl, by decide +kernel, by decide +kernel⟩
  · exact ⟨_, rfl, by decide +kernel, by decide +kernel⟩
  · exact ⟨_, rfl, by decide +kernel, by decide +kernel⟩
theorem ixN_of {n : Nat} {i : Int} (h0 : 0 ≤ i) (h1 : i < (n : Nat)) : ixN n i = some i.toNat := by
  unfold ixN
  rw [if_pos h0, if_pos (by omega)]
theorem eqv_nilL (ds : List PyData) : PyData.eqv (.list ds) (.list []) = decide (ds = []) := by
  cases ds with
  | nil => simp [PyData.eqv, PyData.eqvAll]
  | cons h t => simp [PyData.eqv, PyData.eqvAll]
theorem ok_law_varG (T : Tx K mg) (n : Nat) (c : ConS) (hc : ∀ m, n = m + 1 → c = con_var m) (ih : FnOk P w K mg base CX0 (6 - 1 + n) (He.ga K "_law_variant") T.fd_law_variant ["source", "value", "depth"] (spS K c)) :
    FnOk P w K mg base CX0 (6 - 1 + n + 1) (He.ga K "_law_variant") T.fd_law_variant ["source", "value", "depth"] (spS K (con_var n)) := by
  refine fn_okS T.F_law_variant sc_law_variant (con_var n) (fun _ _ => rfl) (by decide) fun cdv A outer s H E hr => ⟨_, (pss_cons (ps_set (i := 3) sc_law_variant.nd rfl (.inl rfl) (pe_callTy call_list_of (by rfl) T.b_list bt_list (pa_cons (pv 1) pa_nil)))
      (pss_cons (ps_if (pt_cmpR (op_eqD hr.units) (pv 3) (pe_lst pa_nil) (nomark _))
        (pss_one (ps_ret (pe_tup (pa_cons (pe_call (ok_law_any_value T) (hr.mono (by omega)) (by rfl) T.g_law_any_value T.F_law_any_value.kp (bi_law_any_value T) .nil pass0 (pa_cons (pv 0) (pa_cons pe_int pa_nil))) pa_nil))))
        pss_nil)
      (pss_cons (ps_set (i := 4) sc_law_variant.nd rfl (.inl rfl) (pe_call (ok_law_pick T) (hr.mono (by omega)) (by rfl) T.g_law_pick T.F_law_pick.kp (bi_law_pick T) .nil pass0 (pa_cons (pv 0) (pa_cons (pe_callB call_lenG (by rfl) T.b_len bt_len (pa_cons (pv 3) pa_nil)) pa_nil))))
      (pss_cons (ps_if (PW.pt (pw_and (pt_val (pe_callB call_isi (by rfl) T.b_isinstance bt_isinstance (pa_cons (pe_ix ix_seq (pv 3) (pv 4) (fun _ _ => rfl)) (pa_cons (pe_bltn (v := .ty "tuple") (by rfl) T.b_tuple bt_tuple rfl) pa_nil)))) (pw_and (pt_cmpR op_gt (pv 2) pe_int (nomark _)) (pw_and1 (pt_cmpR op_gt (pe_call (ok_law_pick T) (hr.mono (by omega)) (by rfl) T.g_law_pick T.F_law_pick.kp (bi_law_pick T) .nil pass0 (pa_cons (pv 0) (pa_cons pe_int pa_nil))) pe_int (nomark _))))))
        (pss_cons (ps_asg (pe_call ih (hr.mono (by omega)) (by rfl) T.g_law_variant T.F_law_variant.kp (bi_law_variant T) .nil pass0 (pa_cons (pv 0) (pa_cons (pe_ix ix_seq (pv 3) (pv 4) (fun _ _ => rfl)) (pa_cons (pe_op op_sub (pv 2) pe_int) pa_nil)))) (pg_sub (pv 3) (pv 4) set_list))
        (pss_one (ps_ret (pe_callTy call_tuple_of (by rfl) T.b_tuple bt_tuple (pa_cons (pv 3) pa_nil)))))
        pss_nil)
      (pss_cons (ps_set (i := 5) sc_law_variant.nd rfl (.inl rfl) (pe_call (ok_law_pick T) (hr.mono (by omega)) (by rfl) T.g_law_pick T.F_law_pick.kp (bi_law_pick T) .nil pass0 (pa_cons (pv 0) (pa_cons pe_int pa_nil))))
      (pss_cons (ps_if (pt_cmpR (op_eqD hr.units) (pv 5) pe_int (nomark _))
        (pss_one (ps_expr (pe_bm PySem.F.plainAttrs_list PySem.F.slot_list_pop PySem.F.type_list_pop mt_popAt (pv 3) (pa_cons (pv 4) pa_nil))))
        (pss_one (ps_if (pt_cmpR (op_eqD hr.units) (pv 5) pe_int (nomark _))
          (pss_one (ps_expr (pe_bm PySem.F.plainAttrs_list PySem.F.slot_list_insert PySem.F.type_list_insert mt_insert (pv 3) (pa_cons (pv 4) (pa_cons (pe_ix ix_seq (pv 3) (pv 4) (fun _ _ => rfl)) pa_nil)))))
          (pss_one (ps_if (pt_cmpR (op_eqD hr.units) (pv 5) pe_int (nomark _))
            (pss_one (ps_asg (pe_revL (pe_slice sl_G (pv 3) (po_some (pv 4)) (po_some (pe_op op_addG (pv 4) pe_int)))) (pg_sl (pv 3) (po_some (pv 4)) (po_some (pe_op op_addG (pv 4) pe_int)))))
            (pss_one (ps_if (pt_cmpR (op_eqD hr.units) (pv 5) pe_int (nomark _))
              (pss_one (ps_asg (pe_call (ok_law_any_value T) (hr.mono (by omega)) (by rfl) T.g_law_any_value T.F_law_any_value.kp (bi_law_any_value T) .nil pass0 (pa_cons (pv 0) (pa_cons pe_int pa_nil))) (pg_sub (pv 3) (pv 4) set_list)))
              (pss_one (ps_if (PW.pt (pw_or (pt_cmpR (op_eqD hr.units) (pv 5) pe_int (nomark _)) (pw_or1 (pt_cmpR (op_eqD hr.units) (pv 5) pe_int (nomark _)))))
                (pss_cons (ps_set (i := 6) sc_law_variant.nd rfl (.inl rfl) (pe_lst (pa_cons pe_int (pa_cons pe_int (pa_cons (pe_un un_neg pe_int) (pa_cons pe_int (pa_cons pe_int (pa_cons pe_int (pa_cons pe_str (pa_cons pe_non (pa_cons pe_bl (pa_cons pe_bl pa_nil))))))))))))
                (pss_cons (ps_set (i := 6) sc_law_variant.nd rfl (.inl rfl) (pe_op op_addG (pv 6) (pe_lst (pa_cons pe_str (pa_cons (pe_tup pa_nil) (pa_cons (pe_tup (pa_cons pe_int (pa_cons pe_str pa_nil))) (pa_cons pe_str (pa_cons (pe_tup (pa_cons (pe_tup (pa_cons pe_int (pa_cons pe_str pa_nil))) pa_nil)) (pa_cons pe_int (pa_cons pe_str (pa_cons pe_str (pa_cons pe_str pa_nil))))))))))))
                (pss_one (ps_asg (pe_ix ix_seq (pv 6) (pe_call (ok_law_pick T) (hr.mono (by omega)) (by rfl) T.g_law_pick T.F_law_pick.kp (bi_law_pick T) .nil pass0 (pa_cons (pv 0) (pa_cons pe_int pa_nil))) (fun _ _ => rfl)) (pg_sub (pv 3) (pv 4) set_list)))))
                (pss_one (ps_if (PW.pt (pw_and (pt_cmpR (op_eqD hr.units) (pv 5) pe_int (nomark _)) (pw_and (pt_val (pe_callB call_isi (by rfl) T.b_isinstance bt_isinstance (pa_cons (pe_ix ix_seq (pv 3) (pv 4) (fun _ _ => rfl)) (pa_cons (pe_bltn (v := .ty "int") (by rfl) T.b_int bt_int rfl) pa_nil)))) (pw_and1 (pt_not (pt_val (pe_callB call_isi (by rfl) T.b_isinstance bt_isinstance (pa_cons (pe_ix ix_seq (pv 3) (pv 4) (fun _ _ => rfl)) (pa_cons (pe_bltn (v := .ty "bool") (by rfl) T.b_bool bt_bool rfl) pa_nil)))))))))
                  (pss_one (ps_asg (pe_op op_addG (pe_ix ix_seq (pv 3) (pv 4) (fun _ _ => rfl)) (pe_ix ix_seq (pe_lst (pa_cons pe_int (pa_cons (pe_un un_neg pe_int) (pa_cons pe_int (pa_cons (pe_un un_neg pe_int) pa_nil))))) (pe_call (ok_law_pick T) (hr.mono (by omega)) (by rfl) T.g_law_pick T.F_law_pick.kp (bi_law_pick T) .nil pass0 (pa_cons (pv 0) (pa_cons pe_int pa_nil))) (fun _ _ => rfl))) (pg_sub (pv 3) (pv 4) set_list)))
                  (pss_one (ps_if (PW.pt (pw_and (pt_cmpR (op_eqD hr.units) (pv 5) pe_int (nomark _)) (pw_and1 (pt_val (pe_callB call_isi (by rfl) T.b_isinstance bt_isinstance (pa_cons (pe_ix ix_seq (pv 3) (pv 4) (fun _ _ => rfl)) (pa_cons (pe_bltn (v := .ty "tuple") (by rfl) T.b_tuple bt_tuple rfl) pa_nil)))))))
                    (pss_one (ps_asg (pe_callTy call_list_of (by rfl) T.b_list bt_list (pa_cons (pe_ix ix_seq (pv 3) (pv 4) (fun _ _ => rfl)) pa_nil)) (pg_sub (pv 3) (pv 4) set_list)))
                    (pss_one (ps_if (PW.pt (pw_and (pt_cmpR (op_eqD hr.units) (pv 5) pe_int (nomark _)) (pw_and1 (pt_val (pe_callB call_isi (by rfl) T.b_isinstance bt_isinstance (pa_cons (pe_ix ix_seq (pv 3) (pv 4) (fun _ _ => rfl)) (pa_cons (pe_bltn (v := .ty "str") (by rfl) T.b_str bt_str rfl) pa_nil)))))))
                      (pss_one (ps_asg (pe_op op_addG (pe_ix ix_seq (pv 3) (pv 4) (fun _ _ => rfl)) (pe_ix ix_seq (pe_lst (pa_cons pe_str (pa_cons pe_str (pa_cons pe_str (pa_cons pe_str pa_nil))))) (pe_call (ok_law_pick T) (hr.mono (by omega)) (by rfl) T.g_law_pick T.F_law_pick.kp (bi_law_pick T) .nil pass0 (pa_cons (pv 0) (pa_cons pe_int pa_nil))) (fun _ _ => rfl))) (pg_sub (pv 3) (pv 4) set_list)))
                      (pss_one (ps_ret (pv 3))))))))))))))))))
      (pss_one (ps_ret (pe_callTy call_tuple_of (by rfl) T.b_tuple bt_tuple (pa_cons (pv 3) pa_nil)))))))))), ?_⟩
  rintro B S0 E px a ⟨b, ds, t, l, k⟩ ⟨hb, hv⟩
  dsimp only [L2.cxOf, L2.Cx.nox, L2.Cx.wish] at hb hv ⊢
  obtain ⟨t9, t1, l5, l1, kn, k2, ok⟩ := hv
  obtain ⟨hl, hd⟩ := okD_tup ok
  -- what the items are behind each way
  have upt : ∀ {d : PyData}, okD t l k d = true → okD (t + 8) (l + 1) k d = true := fun h => okD_mono (by omega) (by omega) (Nat.le_refl _) h
  have shD : SeqAt.shaped (.list ds) = true := by
    have w := okD_lay ok
    unfold SeqAt.shaped
    have e1 : (PyData.list ds).canLay0 = true := w.1
    have e2 : (PyData.list ds).depth = (PyData.tuple ds).depth := rfl
    rw [e1, e2, Bool.true_and, decide_eq_true_eq]
    exact Nat.le_trans w.2 (by omega)
  let G : List PyData → Prop := fun es => es.length ≤ l + 1 ∧ ∀ e ∈ es, okD (t + 8) (l + 1) k e = true
  apply wp_seq
  refine wp_asg (s := .lst ds) (by wtm_at "ev") (lt_ble rfl) rfl ?_
  apply wp_seq
  apply wp_if (b := decide (ds = []))
  · refine evt_is (b := PyData.eqv (.list ds) (.list [])) ?_ (eqv_nilL ds)
    apply evt_test
    exact evs_op (x := .bor ds) (y := .lst []) (evs_var rfl rfl) (evs_lst evd_nil (Nat.zero_le _)) (ops_eqD rfl rfl shD sh_nil)
  · intro _
    apply wp_ret
    apply wpe_tup
    apply wpa_one
    apply cw_law_any (s0 := .src a (srcD b)) (b := b) (n := 1) rfl rfl hb (show EvA _ _ _ [Sl.d (.int 1)] by wtm_at "ev") (by decide)
    intro x b1 hx hb1
    refine ⟨[x], rfl, by rw [sizeLine_eq]; simp, rfl, _, rfl, .tuple [x], b1, rfl, okD_mkT (by simp) (fun d hd => ?_), rfl, hb1⟩
    rw [List.mem_singleton] at hd
    rw [hd]
    exact okD_mono (by omega) (by omega) (by omega) hx
  intro hne
  rw [decide_eq_false_iff_not] at hne
  have hl1 : 1 ≤ ds.length := by cases ds with | nil => exact absurd rfl hne | cons _ _ => simp
  apply wp_next
  apply wp_seq
  apply wp_asgW
  apply cw_law_pick (s0 := .src a (srcD b)) (b := b) (n := (ds.length : Nat)) rfl rfl hb (by wtm_at "ev") (by omega) (by omega)
  intro x b1 x0 x1 hb1
  refine ⟨rfl, lt_ble rfl, ?_⟩
  obtain ⟨d, hx, hm⟩ := atI_some (ds := ds) x0 x1
  have od := hd d hm
  have hix : ixN ds.length x = some x.toNat := ixN_of x0 x1
  have hxn : x.toNat < ds.length := by omega
  -- the end: tuple(items)
  have fin : ∀ {b' : Int × Int × Int} {es : List PyData} {g4 g5 g6 : Sl} {nx : List Sl → Prop}, SrcOk b' → G es → Wp ⟨K, B, S0, E, px⟩ (tRet (tCB (rTupG K) (tCons (tVar 3) tNil))) [.src a (srcD b'), .d (.tuple ds), .d (.int (n : Int)), .lst es, g4, g5, g6] nx
      (fun r Γ => r.back = true ∧ ∃ ds', Γ[0]? = some (.src a ds') ∧ ∃ x b, r = .d x ∧ okD (t + 8) (l + 1) (k + 1) x = true ∧ ds' = srcD b ∧ SrcOk b) (fun _ => False) (fun _ => False) := by
    intro b' es g4 g5 g6 nx hb' hG
    apply wp_ret
    refine EvS.wp (s := .d (.tuple es)) ?_ ⟨rfl, _, rfl, _, b', rfl, okD_mkT hG.1 hG.2, rfl, hb'⟩
    wtm_at "ev"
  have setG : ∀ y, okD (t + 8) (l + 1) k y = true → G (ds.set x.toNat y) := fun y hy => ⟨by rw [List.length_set]; omega, fun e he => by
    rcases List.mem_or_eq_of_mem_set he with q | q
    · exact upt (hd e q)
    · rw [q]; exact hy⟩
  apply wp_seq
  refine Wp.mono (nx := fun Γ => ∃ b', Γ = [.src a (srcD b'), .d (.tuple ds), .d (.int (n : Int)), .lst ds, .d (.int x), .un, .un] ∧ SrcOk b') ?_ ?_ (fun _ _ h => h) (fun _ h => h) fun _ h => h
  apply wp_ifW
  apply wpt_and
  refine EvT.wp (b := isT d) ?_ ?_
  · apply evt_B
    apply evs_cb
    · apply eva_cons
      · apply evs_op
        · wtm_at "ev"
        · wtm_at "ev"
        · exact ix_at rfl hx
      · wtm_at "ev"
    · exact isi_tuple
  refine ⟨fun hT => ?_, fun _ => ⟨fun q => (nomatch q), fun _ => wp_next ?_⟩⟩
  · apply wpt_and
    refine EvT.wp (b := decide ((n : Int) > 0)) (by wtm_at "ev") ?_
    refine ⟨fun hn => ?_, fun _ => ⟨fun q => (nomatch q), fun _ => wp_next ?_⟩⟩
    · rw [decide_eq_true_eq] at hn
      obtain ⟨m, rfl⟩ : ∃ m, n = m + 1 := ⟨n - 1, by omega⟩
      have ec := hc m rfl
      subst ec
      obtain ⟨es, rfl⟩ : ∃ es, d = .tuple es := by cases d <;> first | exact ⟨_, rfl⟩ | cases hT
      apply wpt_test
      apply wpe_op
      apply cw_law_pick (s0 := .src a (srcD b1)) (b := b1) (n := 4) rfl rfl hb1 (by wtm_at "ev") (by decide) (by decide)
      intro u b2 _ _ hb2
      refine ⟨rfl, ?_⟩
      refine EvS.wp (s := .d (.int 0)) (by wtm_at "ev") ⟨_, ops_B0, _, rfl, fun _ => ?_, fun _ => wp_next ?_⟩
      · apply wp_seq
        apply wp_setLW
        refine wpe_callS (c := con_var m) (i := 0) (s0 := .src a (srcD b2)) (b2, es, t, l, k - 1) rfl rfl (eva_cons ?_ (eva_cons ?_ eva_nil)) rfl ⟨hb2, t9, t1, l5, l1, by show 4 + m ≤ k - 1; omega, by show k - 1 ≤ 50; omega, ?_⟩ ?_
        · apply evs_op
          · wtm_at "ev"
          · wtm_at "ev"
          · exact ix_at rfl hx
        · refine evs_is (x := .d (.int (((m + 1 : Nat) : Int) - 1))) (by wtm_at "ev") ?_
          rw [show ((m + 1 : Nat) : Int) - 1 = (m : Int) by omega]
        · show okD t l (k - 1 + 1) (.tuple es) = true
          rw [show k - 1 + 1 = k by omega]; exact od
        · rintro r ds' ⟨y, b3, rfl, hy, rfl, hb3⟩
          have hy : okD (t + 8) (l + 1) (k - 1 + 1) y = true := hy
          rw [show k - 1 + 1 = k by omega] at hy
          exact ⟨y, .lst ds, ds, x, x.toNat, rfl, rfl, rfl, by wtm_at "ev", hix, fin hb3 (setG y hy)⟩
      · exact ⟨b2, rfl, hb2⟩
    · exact ⟨b1, rfl, hb1⟩
  · exact ⟨b1, rfl, hb1⟩
  rintro Γ ⟨b2, rfl, hb2⟩
  apply wp_seq
  apply wp_asgW
  apply cw_law_pick (s0 := .src a (srcD b2)) (b := b2) (n := 9) rfl rfl hb2 (by wtm_at "ev") (by decide) (by decide)
  intro kd b3 _ _ hb3
  refine ⟨rfl, lt_ble rfl, ?_⟩
  have sk : SeqAt.shaped (.int kd) = true := sh_int _
  have s0 : SeqAt.shaped (.int 0) = true := sh_int _
  have s1 : SeqAt.shaped (.int 1) = true := sh_int _
  have s2 : SeqAt.shaped (.int 2) = true := sh_int _
  have s3 : SeqAt.shaped (.int 3) = true := sh_int _
  have s4 : SeqAt.shaped (.int 4) = true := sh_int _
  have s5 : SeqAt.shaped (.int 5) = true := sh_int _
  have s6 : SeqAt.shaped (.int 6) = true := sh_int _
  have s7 : SeqAt.shaped (.int 7) = true := sh_int _
  have s8 : SeqAt.shaped (.int 8) = true := sh_int _
  apply wp_seq
  refine Wp.mono (nx := fun Γ => ∃ (b' : Int × Int × Int) (es : List PyData) (g4 g5 g6 : Sl), Γ = [.src a (srcD b'), .d (.tuple ds), .d (.int (n : Int)), .lst es, g4, g5, g6] ∧ SrcOk b' ∧ G es) ?_ ?_ (fun _ _ h => h) (fun _ h => h) fun _ h => h
  rotate_left
  · rintro Γ ⟨b4, es, g4, g5, g6, rfl, hb4, hG⟩
    exact fin hb4 hG
  apply wp_if
  · wtm_at "ev"
  · -- pop
    intro _
    apply wp_drop
    refine wpe_popAt (ds := ds) rfl (EvS.wp (s := .d (.int x)) (by wtm_at "ev") ?_)
    refine ⟨x.toNat, d, by rw [Int.toNat_of_nonneg x0], rfl, ?_, by omega, b3, _, _, _, _, rfl, hb3, ?_, fun e he => upt (hd e (List.mem_of_mem_eraseIdx he))⟩
    · unfold atI at hx; rw [hix] at hx; exact hx
    · have := List.length_eraseIdx_le ds x.toNat; omega
  intro _
  apply wp_if
  · wtm_at "ev"
  · -- insert
    intro _
    refine wp_insert (i := 3) (ds := ds) (j := x) (d := d) rfl (by wtm_at "ev") ?_ x0 (by omega) (by rw [sizeLine_eq]; omega) ?_
    · apply evs_op
      · wtm_at "ev"
      · wtm_at "ev"
      · exact ix_at rfl hx
    · refine ⟨b3, _, _, _, _, rfl, hb3, ?_, fun e he => ?_⟩
      · simp only [List.length_append, List.length_take, List.length_drop, List.length_cons, List.length_nil]; omega
      · simp only [List.mem_append, List.mem_singleton] at he
        rcases he with (he | he) | he
        · exact upt (hd e (List.mem_of_mem_take he))
        · rw [he]; exact upt od
        · exact upt (hd e (List.mem_of_mem_drop he))
  intro _
  apply wp_if
  · wtm_at "ev"
  · -- two turned round
    intro _
    apply wp_asgG
    refine EvS.wp (s := .lst (cutD ds (some x) (some (x + 2))).reverse) ?_ ?_
    · apply evs_revL
      · wtm_at "ev"
      · rfl
    · have ec : cutD ds (some x) (some (x + 2)) = (ds.drop x.toNat).take 2 := by
        rw [cutD_mid ds x0 (by omega)]; congr 1; omega
      rw [ec]
      refine wpg_sl (i := 3) (ds := ds) (a := x.toNat) (b := x.toNat + 2) rfl ?_ ?_ (by omega) (by omega) ?_ ?_
      · rw [Int.toNat_of_nonneg x0]; wtm_at "ev"
      · rw [show ((x.toNat + 2 : Nat) : Int) = x + 2 by omega]; wtm_at "ev"
      · rw [sizeLine_eq, List.length_reverse, List.length_take, List.length_drop]; omega
      · refine ⟨b3, _, _, _, _, rfl, hb3, ?_, fun e he => ?_⟩
        · simp only [List.length_append, List.length_take, List.length_drop, List.length_reverse]; omega
        · simp only [List.mem_append, List.mem_reverse] at he
          rcases he with (he | he) | he
          · exact upt (hd e (List.mem_of_mem_take he))
          · exact upt (hd e (List.mem_of_mem_drop (List.mem_of_mem_take he)))
          · exact upt (hd e (List.mem_of_mem_drop he))
  intro _
  apply wp_if
  · wtm_at "ev"
  · -- any value
    intro _
    apply wp_setLW
    apply cw_law_any (s0 := .src a (srcD b3)) (b := b3) (n := 2) rfl rfl hb3 (show EvA _ _ _ [Sl.d (.int 2)] by wtm_at "ev") (by decide)
    intro y b4 hy hb4
    exact ⟨y, .lst ds, ds, x, x.toNat, rfl, rfl, rfl, by wtm_at "ev", hix, b4, _, _, _, _, rfl, hb4, setG y (okD_mono (by omega) (by omega) (by omega) hy)⟩
  intro _
  apply wp_if
  · wtm_at "ev"
  · -- near
    intro _
    apply wp_seq
    refine wp_asg (s := .lst nearA) (by wtm_at "evis") (lt_ble rfl) rfl ?_
    apply wp_seq
    refine wp_asg (s := .lst (nearA ++ nearB)) (by wtm_at "evis") (lt_ble rfl) rfl ?_
    refine wp_share (i := 6) (ds := nearA ++ nearB) rfl ?_
    apply wp_setLW
    refine wpe_opR (x := .d (.list (nearA ++ nearB))) (by wtm_at "ev") rfl ?_
    apply cw_law_pick (s0 := .src a (srcD b3)) (b := b3) (n := 18) rfl rfl hb3 (by wtm_at "ev") (by decide) (by decide)
    intro u b4 u0 u1 hb4
    obtain ⟨y, hy, my⟩ := atI_some (ds := nearA ++ nearB) (i := u) u0 (by show u < ((19 : Nat) : Int); omega)
    exact ⟨.d y, ix_at rfl hy, y, .lst ds, ds, x, x.toNat, rfl, rfl, rfl, by wtm_at "ev", hix, b4, _, _, _, _, rfl, hb4, setG y (okD_mono (by omega) (by omega) (by omega) (near_ok y my))⟩
  intro _
  have ixd : ∀ {Γ : List Sl}, Γ[3]? = some (.lst ds) → Γ[4]? = some (.d (.int x)) → EvS ⟨K, B, S0, E, px⟩ (tOp (rIx K) (tVar 3) (tVar 4)) Γ (.d d) := fun h3 h4 => evs_op (evs_var h3 rfl) (evs_var h4 rfl) (ix_at rfl hx)
  apply wp_if (b := PyData.eqv (.int kd) (.int 6) && (isI d && !isB d))
  · apply evt_and
    · wtm_at "ev"
    · intro _
      apply evt_and
      · apply evt_B
        exact evs_cb (eva_cons (ixd rfl rfl) (eva_cons (by wtm_at "ev") eva_nil)) isi_int
      · intro _
        apply evt_not
        apply evt_B
        exact evs_cb (eva_cons (ixd rfl rfl) (eva_cons (by wtm_at "ev") eva_nil)) isi_bool
  · -- an int changed
    intro h
    simp only [Bool.and_eq_true] at h
    obtain ⟨v, rfl⟩ : ∃ v, d = .int v := by
      cases d with
      | int v => exact ⟨v, rfl⟩
      | bool _ => exact nomatch h.2.2
      | _ => exact nomatch h.2.1
    apply wp_setLW
    refine wpe_opR (x := .d (.int v)) (ixd rfl rfl) rfl ?_
    refine wpe_opR (x := .lst [.int 1, .int (-1), .int 8, .int (-12)]) (by wtm_at "ev") rfl ?_
    apply cw_law_pick (s0 := .src a (srcD b3)) (b := b3) (n := 4) rfl rfl hb3 (by wtm_at "ev") (by decide) (by decide)
    intro u b4 u0 u1 hb4
    obtain ⟨y, hy, my⟩ := atI_some (ds := [PyData.int 1, .int (-1), .int 8, .int (-12)]) (i := u) u0 (by show u < ((4 : Nat) : Int); omega)
    obtain ⟨q, rfl⟩ : ∃ q, y = .int q := by
      simp only [List.mem_cons, List.not_mem_nil, or_false] at my
      rcases my with rfl | rfl | rfl | rfl <;> exact ⟨_, rfl⟩
    exact ⟨.d (.int q), ix_at rfl hy, .d (.int (v + q)), add_int, .int (v + q), .lst ds, ds, x, x.toNat, rfl, rfl, rfl, by wtm_at "ev", hix, b4, _, _, _, _, rfl, hb4, setG _ (okD_int _)⟩
  intro _
  apply wp_if (b := PyData.eqv (.int kd) (.int 7) && isT d)
  · apply evt_and
    · wtm_at "ev"
    · intro _
      apply evt_B
      exact evs_cb (eva_cons (ixd rfl rfl) (eva_cons (by wtm_at "ev") eva_nil)) isi_tuple
  · -- a tuple made a list
    intro h
    simp only [Bool.and_eq_true] at h
    obtain ⟨es, rfl⟩ : ∃ es, d = .tuple es := by cases d <;> first | exact ⟨_, rfl⟩ | exact nomatch h.2
    apply wp_setLW
    refine EvS.wp (s := .d (.list es)) ?_ ?_
    · apply evs_share
      exact evs_cb (eva_cons (ixd rfl rfl) eva_nil) (lst_seq rfl)
    · obtain ⟨k', rfl⟩ : ∃ k', k = k' + 1 := ⟨k - 1, by omega⟩
      obtain ⟨w1, w2⟩ := okD_tup od
      exact ⟨.list es, .lst ds, ds, x, x.toNat, rfl, rfl, rfl, by wtm_at "ev", hix, b3, _, _, _, _, rfl, hb3, setG _ (upt (okD_mkL w1 w2))⟩
  intro _
  apply wp_if (b := PyData.eqv (.int kd) (.int 8) && isS d)
  · apply evt_and
    · wtm_at "ev"
    · intro _
      apply evt_B
      exact evs_cb (eva_cons (ixd rfl rfl) (eva_cons (by wtm_at "ev") eva_nil)) isi_str
  · -- a text made longer
    intro h
    simp only [Bool.and_eq_true] at h
    obtain ⟨v, rfl⟩ : ∃ v, d = .str v := by cases d <;> first | exact ⟨_, rfl⟩ | exact nomatch h.2
    obtain ⟨v1, v2⟩ := okD_str od
    apply wp_setLW
    refine wpe_opR (x := .d (.str v)) (ixd rfl rfl) rfl ?_
    refine wpe_opR (x := .lst [.str "a", .str "A", .str " ", .str "bbbbbbbb"]) (by wtm_at "ev") rfl ?_
    apply cw_law_pick (s0 := .src a (srcD b3)) (b := b3) (n := 4) rfl rfl hb3 (by wtm_at "ev") (by decide) (by decide)
    intro u b4 u0 u1 hb4
    obtain ⟨y, hy, my⟩ := atI_some (ds := [PyData.str "a", .str "A", .str " ", .str "bbbbbbbb"]) (i := u) u0 (by show u < ((4 : Nat) : Int); omega)
    obtain ⟨q, rfl, q1, q2⟩ := text_ok y my
    have e : (v ++ q).length = v.length + q.length := by show (v.cps ++ q.cps).size = _; rw [Array.size_append]; rfl
    exact ⟨.d (.str q), ix_at rfl hy, .d (.str (v ++ q)), add_str (sz (by omega)), .str (v ++ q), .lst ds, ds, x, x.toNat, rfl, rfl, rfl, by wtm_at "ev", hix, b4, _, _, _, _, rfl, hb4, setG _ (okD_mkS (by rw [e]; omega) (strOk_app v2 q2))⟩
  intro _
  refine wp_share (i := 3) (ds := ds) rfl ?_
  apply wp_ret
  refine EvS.wp (s := .d (.list ds)) (by wtm_at "ev") ⟨rfl, _, rfl, _, b3, rfl, okD_mkL (by omega) fun e he => upt (hd e he), rfl, hb3⟩
theorem ok_law_var0 (T : Tx K mg) : FnOk P w K mg base CX0 (6 - 1 + 0 + 1) (He.ga K "_law_variant") T.fd_law_variant ["source", "value", "depth"] (spS K (con_var 0)) :=
  ok_law_varG T 0 { con_var 0 with pre := fun _ => False } (fun m h => nomatch h) (fn_voidS fun _ h => h)
theorem ok_law_variant (T : Tx K mg) : FnOk P w K mg base CX0 (6 - 1 + 1 + 1) (He.ga K "_law_variant") T.fd_law_variant ["source", "value", "depth"] (spS K (con_var 1)) :=
  ok_law_varG T 1 (con_var 0) (fun m h => by cases h; rfl) (ok_law_var0 T)
theorem cw_law_variant {F : Fx} {Γ : List Sl} {tA : TA} {E : XK} {kk : Sl → List Sl → Prop} {i : Nat} {s0 : Sl} {b : Int × Int × Int} {ds : List PyData} {t l k : Nat} (hi : Γ[i]? = some s0) (ho : s0.ownL = some (srcD b)) (hb : SrcOk b) (h : EvA F tA Γ [.d (.tuple ds), .d (.int 1)]) (hv : VarOk t l k 1 ds)
    (hk : ∀ x b', okD (t + 8) (l + 1) (k + 1) x = true → SrcOk b' → kk (.d x) (Γ.set i (s0.withL (srcD b')))) : WpE F (tCall (spS F.K (con_var 1)) [] E (tCons (tVar i) tA)) Γ kk :=
  wpe_callS (c := con_var 1) (b, ds, t, l, k) hi ho h rfl ⟨hb, hv⟩ fun r ds' ⟨x, b', e1, q1, e2, q3⟩ => by subst e1 e2; exact hk x b' q1 q3

/-! ### _law_is_good_person, of any data -/
def shortD (a : PyData) : Prop := ∃ t l k, t ≤ 100000 ∧ l ≤ 100000 ∧ k ≤ 60 ∧ okD t l k a = true
def PerForm (a : PyData) : Prop := ∃ p : Per, a = p.enc ∧ isNameS p.name = true
theorem perForm_of {nm : Str} {a b c : PyData} (h1 : isNameS nm = true) (h2 : okR a = true) (h3 : okR b = true) (h4 : okR c = true) : PerForm (.tuple [.str nm, a, b, c]) := by
  obtain ⟨fa, rfl, _⟩ := okR_of h2
  obtain ⟨fb, rfl, _⟩ := okR_of h3
  obtain ⟨fc, rfl, _⟩ := okR_of h4
  exact ⟨⟨nm, fa, fb, fc⟩, rfl, h1⟩
theorem bad_person {a : PyData} (h : ¬ PerForm a) : isPersonB a = false := by
  cases e : isPersonB a with
  | false => rfl
  | true =>
    obtain ⟨p, rfl, hp⟩ := of_isPerson e
    simp only [Per.ok, Bool.and_eq_true] at hp
    exact absurd ⟨p, rfl, hp.1⟩ h
theorem lay_all {ds : List PyData} : PyData.canLayAll0 ds = true ↔ ∀ d ∈ ds, d.canLay0 = true := by
  induction ds with
  | nil => simp [PyData.canLayAll0]
  | cons d ds ih => rw [PyData.canLayAll0, Bool.and_eq_true, ih]; simp
theorem depth_all {ds : List PyData} {k : Nat} : PyData.depthAll ds ≤ k ↔ ∀ d ∈ ds, d.depth ≤ k := by
  induction ds with
  | nil => simp [PyData.depthAll]
  | cons d ds ih => rw [PyData.depthAll, Nat.max_le, ih]; simp
theorem sh_sub {ds es : List PyData} {t l k : Nat} (h : ∀ d ∈ ds, okD t l k d = true) (hk : k ≤ 60) (hs : ∀ e ∈ es, e ∈ ds) : SeqAt.shaped (.tuple es) = true ∧ SeqAt.shaped (.list es) = true := by
  have a : ∀ e ∈ es, e.canLay0 = true ∧ e.depth ≤ k := fun e he => okD_lay (h e (hs e he))
  have b1 : PyData.canLayAll0 es = true := lay_all.mpr fun e he => (a e he).1
  have b2 : PyData.depthAll es ≤ k := depth_all.mpr fun e he => (a e he).2
  constructor
  · unfold SeqAt.shaped
    rw [PyData.canLay0, b1, PyData.depth, Bool.true_and, decide_eq_true_eq]; omega
  · unfold SeqAt.shaped
    rw [PyData.canLay0, b1, PyData.depth, Bool.true_and, decide_eq_true_eq]; omega
abbrev con_good_bad : Con := { α := PyData, args := fun a => [.d a], pre := fun a => shortD a ∧ ¬ PerForm a, post := fun a r => r = .d (.bool false) }
theorem ok_good_bad (T : Tx K mg) : FnOk P w K mg base CX0 (1 + 1) (He.ga K "_law_is_good_person") T.fd_law_is_good_person ["value"] (spP K con_good_bad) := by
  refine fn_ok T.F_law_is_good_person sc_law_is_good_person con_good_bad (fun _ _ => rfl) (by decide) (fun _ _ h => h) fun cdv A outer s H E hr => ⟨_, (pss_cons (ps_if (PW.pt (pw_or (pt_not (pt_val (pe_callB call_isi (by rfl) T.b_isinstance bt_isinstance (pa_cons (pv 0) (pa_cons (pe_bltn (v := .ty "tuple") (by rfl) T.b_tuple bt_tuple rfl) pa_nil))))) (pw_or (pt_cmpR (op_neD hr.units) (pe_callB call_lenG (by rfl) T.b_len bt_len (pa_cons (pv 0) pa_nil)) pe_int (nomark _)) (pw_or (pt_not (pt_val (pe_callB call_isi (by rfl) T.b_isinstance bt_isinstance (pa_cons (pe_ix ix_seq (pv 0) pe_int (fun _ _ => rfl)) (pa_cons (pe_bltn (v := .ty "str") (by rfl) T.b_str bt_str rfl) pa_nil))))) (pw_or1 (pt_not (pt_chain op_le op_le pe_int (pe_callB call_lenG (by rfl) T.b_len bt_len (pa_cons (pe_ix ix_seq (pv 0) pe_int (fun _ _ => rfl)) pa_nil)) pe_int)))))))
        (pss_one (ps_ret pe_bl))
        pss_nil)
      (pss_cons (ps_if (PW.pt (pw_or (pt_cmpR (op_neD hr.units) (pe_lc (own := [("sign", 4)]) rfl sc_law_is_good_person.nd (pi_seq (pe_ix ix_seq (pv 0) pe_int (fun _ _ => rfl))) (blkOk_by (own := [("sign", 4)]) (N := ["value", "first", "last", "dense", "sign", "rank"]) (sc := defScope s_law_is_good_person) (by decide +kernel)) (fun _ _ _ _ _ => (pg_name (i := 4) sc_law_is_good_person.nd rfl (.inl rfl))) (fun _ _ _ _ _ => (pts_one (pt_cmpR (opK rNotInG K op_notin_G) (pv 4) pe_str (by with_unfolding_all rfl)))) (fun _ _ _ _ _ => (pv 4))) (pe_lst pa_nil) (nomark _)) (pw_or1 (pt_cmpR (op_eqD hr.units) (pe_slice sl_G (pv 0) (po_some pe_int) po_none) (pe_tup (pa_cons pe_non (pa_cons pe_non (pa_cons pe_non pa_nil)))) (nomark _)))))
        (pss_one (ps_ret pe_bl))
        pss_nil)
      (pss_cons (ps_if (pt_cmpR (op_neD hr.units) (pe_lc (own := [("rank", 5)]) rfl sc_law_is_good_person.nd (pi_seq (pe_slice sl_G (pv 0) (po_some pe_int) po_none)) (blkOk_by (own := [("rank", 5)]) (N := ["value", "first", "last", "dense", "sign", "rank"]) (sc := defScope s_law_is_good_person) (by decide +kernel)) (fun _ _ _ _ _ => (pg_name (i := 5) sc_law_is_good_person.nd rfl (.inl rfl))) (fun _ _ _ _ _ => (pts_one (PW.pt (pw_and (pt_cmpR op_notN (pv 5) pe_non (nomark _)) (pw_and1 (pt_not (pt_val (pe_call (ok_law_is_integer T) (hr.mono (by decide)) (by rfl) T.g_law_is_integer T.F_law_is_integer.kp (bi_law_is_integer T) .nil pass0 (pa_cons (pv 5) (pa_cons pe_int (pa_cons pe_int pa_nil))))))))))) (fun _ _ _ _ _ => (pv 5))) (pe_lst pa_nil) (nomark _))
        (pss_one (ps_ret pe_bl))
        pss_nil)
      (pss_cons (ps_asg (pe_slice sl_G (pv 0) (po_some pe_int) po_none) (pg_tup (by rfl) (pgs_cons (pg_name (i := 1) sc_law_is_good_person.nd rfl (.inl rfl)) (pgs_cons (pg_name (i := 2) sc_law_is_good_person.nd rfl (.inl rfl)) (pgs_cons (pg_name (i := 3) sc_law_is_good_person.nd rfl (.inr rfl)) pgs_nil)))))
      (pss_cons (ps_if (PW.pt (pw_and (pt_cmpR op_notN (pv 1) pe_non (nomark _)) (pw_and (pt_cmpR op_notN (pv 2) pe_non (nomark _)) (pw_and1 (pt_cmpR op_lt (pv 2) (pv 1) (nomark _))))))
        (pss_one (ps_ret pe_bl))
        pss_nil)
      (pss_cons (ps_if (pt_cmpR op_isN (pv 3) pe_non (nomark _))
        (pss_one (ps_ret pe_bl))
        pss_nil)
      (pss_one (ps_ret (pe_cmpR (op_eqD hr.units) (pe_lc (own := [("rank", 5)]) rfl sc_law_is_good_person.nd (pi_seq (pe_tup (pa_cons (pv 1) (pa_cons (pv 2) pa_nil)))) (blkOk_by (own := [("rank", 5)]) (N := ["value", "first", "last", "dense", "sign", "rank"]) (sc := defScope s_law_is_good_person) (by decide +kernel)) (fun _ _ _ _ _ => (pg_name (i := 5) sc_law_is_good_person.nd rfl (.inl rfl))) (fun _ _ _ _ _ => (pts_one (PW.pt (pw_and (pt_cmpR op_notN (pv 5) pe_non (nomark _)) (pw_and1 (pt_cmpR op_lt (pv 5) (pv 3) (nomark _))))))) (fun _ _ _ _ _ => (pv 5))) (pe_lst pa_nil) (nomark _)))))))))), ?_⟩
  rintro B S0 E px d ⟨⟨t, l, k, ht, hl, hk, ok⟩, hn⟩
  dsimp only [L2.cxOf, L2.Cx.nox, L2.Cx.wish] at ok hn ⊢
  have ret : ∀ {Γ : List Sl} {nx : List Sl → Prop}, Wp ⟨K, B, S0, E, px⟩ (tRet (tC (.bl false))) Γ nx (fun r _ => r.back = true ∧ r = .d (.bool false)) (fun _ => False) (fun _ => False) := fun {Γ nx} =>
    wp_ret (EvS.wp (s := .d (.bool false)) (by wtm_at "ev") ⟨rfl, rfl⟩)
  apply wp_seq
  cases d with
  | tuple ds =>
    obtain ⟨k', rfl⟩ : ∃ k', k = k' + 1 := by
      cases k with
      | zero => cases ok
      | succ k' => exact ⟨k', rfl⟩
    obtain ⟨okl, okd⟩ := okD_tup ok
    by_cases h4 : ds.length = 4
    · obtain ⟨n, a, b, c, rfl⟩ : ∃ n a b c, ds = [n, a, b, c] := by
        match ds, h4 with
        | [n, a, b, c], _ => exact ⟨n, a, b, c, rfl⟩
      have e4 : EvT ⟨K, B, S0, E, px⟩ (tTest (tOp (rNeD K) (tCB (rLenG K) (tCons (tVar 0) tNil)) (tC (.int 4)))) (entry ["value", "first", "last", "dense", "sign", "rank"] [.d (.tuple [n, a, b, c])]) false := by
        apply evt_test
        refine evs_is (x := .d (.bool (!PyData.eqv (.int ([n, a, b, c] : List PyData).length) (.int 4)))) ?_ (by rw [eqv_int]; rfl)
        apply evs_op
        · wtm_at "ev"
        · wtm_at "ev"
        · exact ops_neD rfl rfl (sh_int _) (sh_int _)
      have en : ∀ {x : Sl → Prop}, EvS ⟨K, B, S0, E, px⟩ (tOp (rIx K) (tVar 0) (tC (.int 0))) (entry ["value", "first", "last", "dense", "sign", "rank"] [.d (.tuple [n, a, b, c])]) (.d n) := fun {_} => by
        apply evs_op
        · wtm_at "ev"
        · wtm_at "ev"
        · exact ix_at rfl rfl
      by_cases hs : ∃ nm, n = .str nm ∧ 1 ≤ nm.length ∧ nm.length ≤ 8
      · obtain ⟨nm, rfl, g1, g2⟩ := hs
        apply wp_if (b := false)
        · refine evt_is (b := false || (false || (false || false))) ?_ rfl
          apply evt_or
          · wtm_at "evtis"
          · intro _
            apply evt_or
            · exact e4
            · intro _
              apply evt_or
              · refine evt_is (b := !isS (.str nm)) ?_ rfl
                apply evt_not
                apply evt_B
                apply evs_cb
                · apply eva_cons
                  · exact en (x := fun _ => True)
                  · wtm_at "ev"
                · exact isi_str
              · intro _
                refine evt_is (b := !(decide (1 ≤ (nm.length : Int)) && decide ((nm.length : Int) ≤ 8))) ?_ (by rw [decide_eq_true (by omega), decide_eq_true (by omega)]; rfl)
                apply evt_not
                apply evt_test
                apply evs_chain
                · wtm_at "ev"
                · apply evs_cb
                  · apply eva_cons
                    · exact en (x := fun _ => True)
                    · exact eva_nil
                  · exact len_str (sz (by omega))
                · exact ops_B0
                · intro _; wtm_at "ev"
                · intro _; exact ops_B0
        · intro h; cases h
        intro _
        apply wp_next
        apply wp_seq
        have hsL : SeqAt.shaped (.list ((signs nm).filter (fun d => !signIn d))) = true := by
          refine (sh_sub (ds := signs nm) (t := 1) (l := 1) (k := 1) (fun d hd => ?_) (by decide) fun e he => (List.mem_filter.mp he).1).2
          obtain ⟨q, hq, rfl⟩ := List.mem_map.mp hd
          refine okD_mkS (by show (#[q] : Array Nat).size ≤ 1; simp) ?_
          have w := (okD_str (okd (.str nm) (by simp))).2
          unfold PyData.strOk at w ⊢
          rw [Array.all_eq_true_iff_forall_mem] at w
          simpa using w q (by simpa using hq)
        apply wp_if (b := !((signs nm).filter (fun d => !signIn d)).isEmpty || PyData.eqv (.tuple [a, b, c]) (.tuple [.none, .none, .none]))
        · apply evt_or
          · rw [← eqv_nil]
            apply evt_test
            apply evs_op (x := .lst ((signs nm).filter (fun d => !signIn d)))
            · refine evs_is (x := .lst (((signs nm).filter (fun d => !signIn d)).map id)) ?_ (by rw [List.map_id])
              refine evs_lc (items := signs nm) (evi_seqS (en (x := fun _ => True))) (gvs_name (by decide)) (sz' (by simp only [signs, List.length_map, Array.length_toList]; show nm.length ≤ 100000; omega)) ?_
              refine lcp_dsF (p := fun d => !signIn d) (f := id) fun d hd => ?_
              obtain ⟨c, hc, rfl⟩ := List.mem_map.mp hd
              refine ⟨_, gto_name (lt_ble rfl), ?_, fun _ => by wtm_at "ev"⟩
              apply evt_test
              apply evs_op
              · wtm_at "ev"
              · wtm_at "ev"
              · exact notin_strG
            · wtm_at "ev"
            · exact ops_neD rfl rfl hsL sh_nil
          · intro _
            apply evt_test
            apply evs_op (x := .d (.tuple [a, b, c]))
            · wtm_at "evis"
            · wtm_at "ev"
            · exact ops_eqD rfl rfl (sh_sub (ds := [.str nm, a, b, c]) okd (by omega) (by simp)).1 rfl
        · intro _
          exact ret
        intro h
        rw [Bool.or_eq_false_iff, Bool.not_eq_false', List.isEmpty_iff, List.filter_eq_nil_iff] at h
        have hN : isNameS nm = true := by
          simp only [isNameS, Bool.and_eq_true, decide_eq_true_eq, List.all_eq_true]
          exact ⟨⟨by omega, by omega⟩, fun d hd => by have := h.1 d hd; simpa using this⟩
        apply wp_next
        apply wp_seq
        have hbad : ([a, b, c].filter fun r => !okR r) ≠ [] := fun q => by
          rw [List.filter_eq_nil_iff] at q
          have w : ∀ x ∈ [a, b, c], okR x = true := fun x hx => by have := q x hx; simpa using this
          exact hn (perForm_of hN (w a (by simp)) (w b (by simp)) (w c (by simp)))
        apply wp_if (b := true)
        · refine evt_is (b := !PyData.eqv (.list ([a, b, c].filter fun r => !okR r)) (.list [])) ?_ ?_
          · apply evt_test
            apply evs_op (x := .lst ([a, b, c].filter fun r => !okR r))
            · refine evs_is (x := .lst (([a, b, c].filter fun r => !okR r).map id)) ?_ (by rw [List.map_id])
              refine evs_lc (items := [a, b, c]) (evi_seqT (by wtm_at "evis")) (gvs_name (by decide)) (sz' (Nat.le_of_ble_eq_true rfl)) ?_
              refine lcp_dsF (p := fun r => !okR r) (f := id) fun d hd => ⟨_, gto_name (lt_ble rfl), ?_, fun _ => by wtm_at "ev"⟩
              refine evt_is (b := !PyData.isN d && !isIntB d 1 30) ?_ (by simp only [okR, Bool.not_or])
              wtm_at "ev"
            · wtm_at "ev"
            · exact ops_neD rfl rfl (sh_sub (ds := [.str nm, a, b, c]) okd (by omega) (fun e he => by have := (List.mem_filter.mp he).1; simp at this ⊢; exact .inr this)).2 sh_nil
          · rw [eqv_nil]
            cases q : [a, b, c].filter fun r => !okR r with
            | nil => exact absurd q hbad
            | cons _ _ => rfl
        · intro _
          exact ret
        · intro h; cases h
      · -- the name is none
        apply wp_if (b := true)
        · by_cases hS : ∃ nm, n = .str nm
          · obtain ⟨nm, rfl⟩ := hS
            have hlen : ¬ (1 ≤ nm.length ∧ nm.length ≤ 8) := fun q => hs ⟨nm, rfl, q.1, q.2⟩
            have sn := (okD_str (okd (.str nm) (by simp))).1
            refine evt_is (b := false || (false || (false || true))) ?_ rfl
            apply evt_or
            · wtm_at "evtis"
            · intro _
              apply evt_or
              · exact e4
              · intro _
                apply evt_or
                · refine evt_is (b := !isS (.str nm)) ?_ rfl
                  apply evt_not
                  apply evt_B
                  apply evs_cb
                  · apply eva_cons
                    · exact en (x := fun _ => True)
                    · wtm_at "ev"
                  · exact isi_str
                · intro _
                  refine evt_is (b := !(decide (1 ≤ (nm.length : Int)) && decide ((nm.length : Int) ≤ 8))) ?_ ?_
                  · apply evt_not
                    apply evt_test
                    apply evs_chain
                    · wtm_at "ev"
                    · apply evs_cb
                      · apply eva_cons
                        · exact en (x := fun _ => True)
                        · exact eva_nil
                      · exact len_str (sz (by omega))
                    · exact ops_B0
                    · intro _; wtm_at "ev"
                    · intro _; exact ops_B0
                  · rw [Bool.not_eq_true', Bool.and_eq_false_iff, decide_eq_false_iff_not, decide_eq_false_iff_not]; omega
          · refine evt_is (b := false || (false || (true || false))) ?_ rfl
            apply evt_or
            · wtm_at "evtis"
            · intro _
              apply evt_or
              · exact e4
              · intro _
                apply evt_or
                · refine evt_is (b := !isS n) ?_ ?_
                  · apply evt_not
                    apply evt_B
                    apply evs_cb
                    · apply eva_cons
                      · exact en (x := fun _ => True)
                      · wtm_at "ev"
                    · exact isi_str
                  · cases n with
                    | str nm => exact absurd ⟨nm, rfl⟩ hS
                    | _ => rfl
                · intro h; cases h
        · intro _
          exact ret
        · intro h; cases h
    · apply wp_if (b := true)
      · refine evt_is (b := false || (true || false)) ?_ rfl
        apply evt_or
        · wtm_at "evtis"
        · intro _
          apply evt_or
          · apply evt_test
            refine evs_is (x := .d (.bool (!PyData.eqv (.int (ds.length : Nat)) (.int 4)))) ?_ ?_
            · apply evs_op
              · wtm_at "ev"
              · wtm_at "ev"
              · exact ops_neD rfl rfl (sh_int _) (sh_int _)
            · rw [eqv_int]
              have : ¬ ((ds.length : Int) = 4) := by omega
              simp [this]
          · intro h; cases h
      · intro _
        exact ret
      · intro h; cases h
  | _ =>
    apply wp_if (b := true)
    · refine evt_is (b := true || false) ?_ rfl
      apply evt_or
      · wtm_at "evtis"
      · intro h; cases h
    · intro _
      exact ret
    · intro h; cases h
abbrev con_good : Con := { α := PyData, args := fun a => [.d a], pre := fun a => shortD a, post := fun a r => r = .d (.bool (isPersonB a)) }
theorem ok_good (T : Tx K mg) : FnOk P w K mg base CX0 (1 + 1) (He.ga K "_law_is_good_person") T.fd_law_is_good_person ["value"] (spP K con_good) :=
  ⟨fun vs H Q E ⟨_, a, _, hv, _⟩ => by have := VPs.len hv; simpa using this,
    fun A outer s H args us vs Q E hr he hb hv ⟨S, a, h1, h2, h3, h4, h5⟩ => by
      by_cases hf : PerForm a
      · obtain ⟨p, rfl, hn⟩ := hf
        have e : isPersonB p.enc = ranksOk p.first p.last p.dense := by rw [isPerson_enc]; simp only [Per.ok, hn, Bool.true_and]
        exact (ok_law_is_good_person T).run A outer s H args us vs Q E hr he hb hv ⟨S, p, h1, h2, hn, fun v r S' H' hr => h4 v r S' H' (by show r = _; rw [e]; exact hr), h5⟩
      · exact (ok_good_bad T).run A outer s H args us vs Q E hr he hb hv ⟨S, a, h1, h2, ⟨h3, hf⟩, fun v r S' H' hr => h4 v r S' H' (by show r = _; rw [bad_person hf]; exact hr), h5⟩⟩
theorem cl_good {F : Fx} {Γ : List Sl} {t : TA} {E : XK} {d : PyData} (h : EvA F t Γ [.d d]) (h1 : shortD d) : EvS F (tCall (spP F.K con_good) [] E t) Γ (.d (.bool (isPersonB d))) :=
  evs_call (c := con_good) d h rfl h1 (fun _ h => h) fun _ h => h

/-! ### _law_is_good_sizes, of any data -/
theorem lay_sub {ds : List PyData} {t l k : Nat} (h : okD t l k (.tuple ds) = true) (hk : k ≤ 60) {p : PyData → Bool} : SeqAt.shaped (.list (ds.filter p)) = true := by
  obtain ⟨k', rfl⟩ : ∃ k', k = k' + 1 := by
    cases k with
    | zero => cases h
    | succ k' => exact ⟨k', rfl⟩
  exact (sh_sub (okD_tup h).2 (by omega) fun e he => (List.mem_filter.mp he).1).2
abbrev con_good_sizes : Con := { α := PyData, args := fun a => [.d a], pre := fun a => shortD a, post := fun a r => r = .d (.bool (isGroupsB a)) }
theorem ok_law_is_good_sizes (T : Tx K mg) : FnOk P w K mg base CX0 (1 + 1) (He.ga K "_law_is_good_sizes") T.fd_law_is_good_sizes ["value"] (spP K con_good_sizes) := by
  refine fn_ok T.F_law_is_good_sizes sc_law_is_good_sizes con_good_sizes (fun _ _ => rfl) (by decide) (fun _ _ h => h) fun cdv A outer s H E hr => ⟨_, (pss_cons (ps_if (PW.pt (pw_or (pt_not (pt_val (pe_callB call_isi (by rfl) T.b_isinstance bt_isinstance (pa_cons (pv 0) (pa_cons (pe_bltn (v := .ty "tuple") (by rfl) T.b_tuple bt_tuple rfl) pa_nil))))) (pw_or1 (pt_not (pt_chain op_le op_le pe_int (pe_callB call_lenG (by rfl) T.b_len bt_len (pa_cons (pv 0) pa_nil)) pe_int)))))
        (pss_one (ps_ret pe_bl))
        pss_nil)
      (pss_one (ps_ret (pe_and (pe_cmpR (op_eqD hr.units) (pe_lc (own := [("many", 1)]) rfl sc_law_is_good_sizes.nd (pi_seq (pv 0)) (blkOk_by (own := [("many", 1)]) (N := ["value", "many"]) (sc := defScope s_law_is_good_sizes) (by decide +kernel)) (fun _ _ _ _ _ => (pg_name (i := 1) sc_law_is_good_sizes.nd rfl (.inl rfl))) (fun _ _ _ _ _ => (pts_one (pt_not (pt_val (pe_call (ok_law_is_integer T) (hr.mono (by decide)) (by rfl) T.g_law_is_integer T.F_law_is_integer.kp (bi_law_is_integer T) .nil pass0 (pa_cons (pv 1) (pa_cons pe_int (pa_cons pe_int pa_nil)))))))) (fun _ _ _ _ _ => (pv 1))) (pe_lst pa_nil) (nomark _)) (pe_one (pe_cmpR op_le (pe_callB (call_sumG rfl) (by rfl) T.b_sum bt_sum (pa_cons (pv 0) pa_nil)) pe_int (nomark _))))))), ?_⟩
  rintro B S0 E px d ⟨t, l, k, ht, hl, hk, ok⟩
  dsimp only [L2.cxOf, L2.Cx.nox, L2.Cx.wish] at ok ⊢
  apply wp_seq
  cases d with
  | tuple ds =>
    apply wp_if
    · wtm_at "ev"
    · intro h
      apply wp_ret
      apply EvS.wp
      · wtm_at "ev"
      · refine ⟨rfl, ?_⟩
        simp only [isT, Bool.not_true, Bool.false_or, Bool.not_eq_true'] at h
        show Sl.d (.bool false) = Sl.d (.bool (isGroupsB (.tuple ds)))
        simp only [isGroupsB, h, Bool.false_and]
    · intro h
      apply wp_next
      simp only [isT, Bool.not_true, Bool.false_or, Bool.not_eq_false'] at h
      have hb := h
      rw [Bool.and_eq_true, decide_eq_true_eq, decide_eq_true_eq] at h
      apply wp_ret
      have e1 : (ds.filter fun d => !isIntB d 1 30).isEmpty = ds.all fun d => isIntB d 1 30 := by
        rw [Bool.eq_iff_iff, List.isEmpty_iff, List.filter_eq_nil_iff, List.all_eq_true]
        exact ⟨fun q d hd => by have := q d hd; simpa using this, fun q d hd => by rw [q d hd]; simp⟩
      apply EvS.wp
      · refine evs_andV (a := ds.all fun d => isIntB d 1 30) (b := decide ((intsOf ds).sum ≤ 30)) ?_ fun ha => ?_
        · rw [← e1, ← eqv_nil]
          apply evs_op (x := .lst (ds.filter fun d => !isIntB d 1 30))
          · refine evs_is (x := .lst ((ds.filter fun d => !isIntB d 1 30).map id)) ?_ (by rw [List.map_id])
            refine evs_lc (items := ds) (evi_seqT (by wtm_at "ev")) (gvs_name (by decide)) (sz' (by omega)) ?_
            refine lcp_dsF (p := fun d => !isIntB d 1 30) (f := id) fun d hd => ⟨_, gto_name (lt_ble rfl), ?_, fun _ => by wtm_at "ev"⟩
            wtm_at "ev"
          · wtm_at "ev"
          · exact ops_eqD rfl rfl (lay_sub ok hk) sh_nil
        · obtain ⟨ns, rfl, hn⟩ := ints_all ha
          rw [intsOf_map]
          wtm_at "ev"
      · refine ⟨rfl, ?_⟩
        show Sl.d (.bool _) = Sl.d (.bool (isGroupsB (.tuple ds)))
        simp only [isGroupsB, hb, Bool.true_and]
  | _ =>
    apply wp_if
    · wtm_at "ev"
    · intro h
      apply wp_ret
      apply EvS.wp
      · wtm_at "ev"
      · exact ⟨rfl, rfl⟩
    · intro h
      cases h
theorem cl_good_sizes {F : Fx} {Γ : List Sl} {t : TA} {E : XK} {d : PyData} (h : EvA F t Γ [.d d]) (h1 : shortD d) : EvS F (tCall (spP F.K con_good_sizes) [] E t) Γ (.d (.bool (isGroupsB d))) :=
  evs_call (c := con_good_sizes) d h rfl h1 (fun _ h => h) fun _ h => h
/-! ### _law_is_good_seen, of any data -/
theorem shortD_sub {ds : List PyData} (h : shortD (.tuple ds)) : ∀ d ∈ ds, shortD d := fun d hd => by
  obtain ⟨t, l, k, ht, hl, hk, ok⟩ := h
  cases k with
  | zero => cases ok
  | succ k' => exact ⟨t, l, k', ht, hl, by omega, (okD_tup ok).2 d hd⟩
abbrev con_good_seen : Con := { α := PyData, args := fun a => [.d a], pre := fun a => shortD a, post := fun a r => r = .d (.bool (isSeenB a)) }
theorem ok_law_is_good_seen (T : Tx K mg) : FnOk P w K mg base CX0 (2 + 1) (He.ga K "_law_is_good_seen") T.fd_law_is_good_seen ["value"] (spP K con_good_seen) := by
  refine fn_ok T.F_law_is_good_seen sc_law_is_good_seen con_good_seen (fun _ _ => rfl) (by decide) (fun _ _ h => h) fun cdv A outer s H E hr => ⟨_, (pss_cons (ps_if (PW.pt (pw_or (pt_not (pt_val (pe_callB call_isi (by rfl) T.b_isinstance bt_isinstance (pa_cons (pv 0) (pa_cons (pe_bltn (v := .ty "tuple") (by rfl) T.b_tuple bt_tuple rfl) pa_nil))))) (pw_or1 (pt_cmpR op_gt (pe_callB call_lenG (by rfl) T.b_len bt_len (pa_cons (pv 0) pa_nil)) pe_int (nomark _)))))
        (pss_one (ps_ret pe_bl))
        pss_nil)
      (pss_cons (ps_if (pt_cmpR (op_neD hr.units) (pe_lc (own := [("person", 1)]) rfl sc_law_is_good_seen.nd (pi_seq (pv 0)) (blkOk_by (own := [("person", 1)]) (N := ["value", "person"]) (sc := defScope s_law_is_good_seen) (by decide +kernel)) (fun _ _ _ _ _ => (pg_name (i := 1) sc_law_is_good_seen.nd rfl (.inl rfl))) (fun _ _ _ _ _ => (pts_one (pt_not (pt_val (pe_call (ok_good T) (hr.mono (by decide)) (by rfl) T.g_law_is_good_person T.F_law_is_good_person.kp (bi_law_is_good_person T) .nil pass0 (pa_cons (pv 1) pa_nil)))))) (fun _ _ _ _ _ => (pv 1))) (pe_lst pa_nil) (nomark _))
        (pss_one (ps_ret pe_bl))
        pss_nil)
      (pss_one (ps_ret (pe_cmpR (op_eqD hr.units) (pe_callB cr_lenK (by rfl) T.b_len bt_len (pa_cons (pe_callTy (cr_setKs rfl) (by rfl) T.b_set bt_set (pa_cons (pe_lc (own := [("person", 1)]) rfl sc_law_is_good_seen.nd (pi_seq (pv 0)) (blkOk_by (own := [("person", 1)]) (N := ["value", "person"]) (sc := defScope s_law_is_good_seen) (by decide +kernel)) (fun _ _ _ _ _ => (pg_name (i := 1) sc_law_is_good_seen.nd rfl (.inl rfl))) (fun _ _ _ _ _ => pts_nil) (fun _ _ _ _ _ => (pe_ix (ixK rIx K ix_seq) (pv 1) pe_int (fun _ _ => rfl)))) pa_nil)) pa_nil)) (pe_callB call_lenG (by rfl) T.b_len bt_len (pa_cons (pv 0) pa_nil)) (nomark _)))))), ?_⟩
  rintro B S0 E px d hd0
  obtain ⟨t, l, k, ht, hl, hk, ok⟩ := id hd0
  dsimp only [L2.cxOf, L2.Cx.nox, L2.Cx.wish] at ok hd0 ⊢
  apply wp_seq
  cases d with
  | tuple ds =>
    apply wp_if (b := decide ((ds.length : Int) > 12))
    · have e : decide ((ds.length : Int) > 12) = (false || decide ((ds.length : Int) > 12)) := (Bool.false_or _).symm
      rw [e]
      apply evt_or
      · wtm_at "evtis"
      · intro _
        wtm_at "ev"
    · intro h
      rw [decide_eq_true_eq] at h
      apply wp_ret
      apply EvS.wp
      · wtm_at "ev"
      · refine ⟨rfl, ?_⟩
        have : isSeenB (.tuple ds) = false := by
          simp only [isSeenB]
          rw [decide_eq_false (by omega)]; rfl
        rw [this]
    · intro h
      rw [decide_eq_false_iff_not] at h
      apply wp_next
      have e1 : (ds.filter fun d => !isPersonB d).isEmpty = ds.all isPersonB := by
        rw [Bool.eq_iff_iff, List.isEmpty_iff, List.filter_eq_nil_iff, List.all_eq_true]
        exact ⟨fun q d hd => by have := q d hd; simpa using this, fun q d hd => by rw [q d hd]; simp⟩
      apply wp_seq
      apply wp_if (b := !ds.all isPersonB)
      · rw [← e1, ← eqv_nil]
        apply evt_test
        apply evs_op (x := .lst (ds.filter fun d => !isPersonB d))
        · refine evs_is (x := .lst ((ds.filter fun d => !isPersonB d).map id)) ?_ (by rw [List.map_id])
          refine evs_lc (items := ds) (evi_seqT (by wtm_at "ev")) (gvs_name (by decide)) (sz' (by omega)) ?_
          refine lcp_dsF (p := fun d => !isPersonB d) (f := id) fun d hd => ⟨_, gto_name (lt_ble rfl), ?_, fun _ => by wtm_at "ev"⟩
          apply evt_not
          apply evt_B
          exact cl_good (by wtm_at "ev") (shortD_sub hd0 d hd)
        · wtm_at "ev"
        · exact ops_neD rfl rfl (lay_sub ok hk) sh_nil
      · intro h2
        rw [Bool.not_eq_true'] at h2
        apply wp_ret
        apply EvS.wp
        · wtm_at "ev"
        · refine ⟨rfl, ?_⟩
          have : isSeenB (.tuple ds) = false := by
            simp only [isSeenB]
            rw [h2, Bool.and_false]; rfl
          rw [this]
      intro h2
      rw [Bool.not_eq_false'] at h2
      apply wp_next
      obtain ⟨ps, rfl, hp⟩ := pers_of h2
      have hl : ps.length ≤ 12 := by rw [List.length_map] at h; omega
      apply wp_ret
      apply EvS.wp
      · apply evs_op
        · refine evs_lenSetS (x := .lst ((ps.map Per.name).map PyData.str)) ?_ rfl (by rw [List.length_map]; omega)
          rw [List.map_map]
          refine evs_lc (items := ps.map Per.enc) (evi_seqT (by wtm_at "ev")) (gvs_name (by decide)) (sz' (by rw [List.length_map]; omega)) ?_
          refine lcp_all (f := fun p : Per => PyData.str p.name) fun p _ => ⟨_, gto_name (lt_ble rfl), ?_⟩
          apply evs_op
          · wtm_at "ev"
          · wtm_at "ev"
          · exact ix_at rfl rfl
        · wtm_at "ev"
        · exact ops_eqD rfl rfl (sh_int _) (sh_int _)
      · refine ⟨rfl, ?_⟩
        rw [eqv_int]
        show Sl.d _ = Sl.d (.bool (isSeenB (.tuple (ps.map Per.enc))))
        simp only [isSeenB, h2, List.length_map, namesOf_enc]
        rw [decide_eq_true hl]
        simp only [Bool.true_and, Int.natCast_inj]
  | _ =>
    apply wp_if (b := true)
    · apply evt_or1
      · wtm_at "ev"
      · rfl
    · intro h
      apply wp_ret
      apply EvS.wp
      · wtm_at "ev"
      · exact ⟨rfl, rfl⟩
    · intro h
      cases h
theorem cl_good_seen {F : Fx} {Γ : List Sl} {t : TA} {E : XK} {d : PyData} (h : EvA F t Γ [.d d]) (h1 : shortD d) : EvS F (tCall (spP F.K con_good_seen) [] E t) Γ (.d (.bool (isSeenB d))) :=
  evs_call (c := con_good_seen) d h rfl h1 (fun _ h => h) fun _ h => h

/-! ### require_groups, of groups -/
abbrev con_require_groups : Con := { α := PyData, args := fun a => [.d a], pre := fun a => isGroupsB a = true, post := fun a r => r = .d .none }
theorem ok_require_groups (T : Tx K mg) : FnOk P w K mg base CX0 (2 + 1) (He.ga K "require_groups") T.fd_require_groups ["value"] (spP K con_require_groups) := by
  refine fn_ok T.F_require_groups sc_require_groups con_require_groups (fun _ _ => rfl) (by decide) (fun _ _ h => h) fun cdv A outer s H E hr => ⟨_, (pss_one (ps_if (pt_not (pt_val (pe_call (ok_is_groups T) (hr.mono (by decide)) (by rfl) T.g_is_groups T.F_is_groups.kp (bi_is_groups T) .nil pass0 (pa_cons (pv 0) pa_nil))))
        (pss_one ps_never)
        pss_nil)), ?_⟩
  intro B S0 E px d hd
  dsimp only [L2.cxOf, L2.Cx.nox, L2.Cx.wish]
  apply wp_if
  · wtm_at "ev"
  · intro h
    rw [hd] at h
    cases h
  · intro _
    apply wp_next
    rfl
theorem cl_require_groups {F : Fx} {Γ : List Sl} {t : TA} {E : XK} {d : PyData} (h : EvA F t Γ [.d d]) (hd : isGroupsB d = true) : EvS F (tCall (spP F.K con_require_groups) [] E t) Γ (.d .none) :=
  evs_call (c := con_require_groups) d h rfl hd (fun _ h => h) fun _ h => h
local macro_rules
  | `(tactic| wtm_at "call") => `(tactic| ((with_reducible apply cl_require_groups); wtm_at "ev"; assumption))

/-! ### require_size, of sizes -/
theorem size_ok {n : Nat} (h1 : 1 ≤ n) (h2 : n ≤ 30) : isIntB (.int (n : Int)) 1 30 = true := by
  show (decide (1 ≤ (n : Int)) && decide ((n : Int) ≤ 30)) = true
  rw [decide_eq_true (by omega), decide_eq_true (by omega)]; rfl
abbrev con_require_size : Con := { α := PyData, args := fun a => [.d a], pre := fun a => isIntB a 1 30 = true, post := fun a r => r = .d .none }
theorem ok_require_size (T : Tx K mg) : FnOk P w K mg base CX0 (1 + 1) (He.ga K "require_size") T.fd_require_size ["value"] (spP K con_require_size) := by
  refine fn_ok T.F_require_size sc_require_size con_require_size (fun _ _ => rfl) (by decide) (fun _ _ h => h) fun cdv A outer s H E hr => ⟨_, (pss_one (ps_if (pt_not (pt_val (pe_call (ok_is_integer T) (hr.mono (by decide)) (by rfl) T.g_is_integer T.F_is_integer.kp (bi_is_integer T) .nil pass0 (pa_cons (pv 0) (pa_cons pe_int (pa_cons (pe_glob (v := .int 30) (by rfl) T.c_MAX_SIZE.choose_spec ⟨_, rfl⟩) pa_nil))))))
        (pss_one ps_never)
        pss_nil)), ?_⟩
  intro B S0 E px d hd
  dsimp only [L2.cxOf, L2.Cx.nox, L2.Cx.wish]
  apply wp_if
  · wtm_at "ev"
  · intro h
    rw [hd] at h
    cases h
  · intro _
    apply wp_next
    rfl
theorem cl_require_size {F : Fx} {Γ : List Sl} {t : TA} {E : XK} {d : PyData} (h : EvA F t Γ [.d d]) (hd : isIntB d 1 30 = true) : EvS F (tCall (spP F.K con_require_size) [] E t) Γ (.d .none) :=
  evs_call (c := con_require_size) d h rfl hd (fun _ h => h) fun _ h => h
local macro_rules
  | `(tactic| wtm_at "call") => `(tactic| ((with_reducible apply cl_require_size); wtm_at "ev"; assumption))

/-! ### require_seen, of what can be seen -/
abbrev con_require_seen : Con := { α := PyData, args := fun a => [.d a], pre := fun a => shortSeen a ∧ isSeenB a = true, post := fun a r => r = .d .none }
theorem ok_require_seen (T : Tx K mg) : FnOk P w K mg base CX0 (3 + 1) (He.ga K "require_seen") T.fd_require_seen ["value"] (spP K con_require_seen) := by
  refine fn_ok T.F_require_seen sc_require_seen con_require_seen (fun _ _ => rfl) (by decide) (fun _ _ h => h) fun cdv A outer s H E hr => ⟨_, (pss_one (ps_if (pt_not (pt_val (pe_call (ok_is_seen T) (hr.mono (by decide)) (by rfl) T.g_is_seen T.F_is_seen.kp (bi_is_seen T) .nil pass0 (pa_cons (pv 0) pa_nil))))
        (pss_one ps_never)
        pss_nil)), ?_⟩
  rintro B S0 E px d ⟨hs, hd⟩
  dsimp only [L2.cxOf, L2.Cx.nox, L2.Cx.wish] at hs hd ⊢
  apply wp_if
  · wtm_at "ev"
  · intro h
    rw [hd] at h
    cases h
  · intro _
    apply wp_next
    rfl
theorem cl_require_seen {F : Fx} {Γ : List Sl} {t : TA} {E : XK} {ps : List Per} (h : EvA F t Γ [.d (encSeen ps)]) (hd : SeenOk ps) : EvS F (tCall (spP F.K con_require_seen) [] E t) Γ (.d .none) :=
  evs_call (c := con_require_seen) (encSeen ps) h rfl ⟨shortSeen_enc hd.ok, isSeen_enc.mpr hd⟩ (fun _ h => h) fun _ h => h
local macro_rules
  | `(tactic| wtm_at "call") => `(tactic| ((with_reducible apply cl_require_seen); wtm_at "ev"; assumption))

/-! ### _law_seen -/
theorem manyNames_strs : ∀ a ∈ manyNames, PyData.strOk a = true := by decide +kernel
def encK (kd : List Int) : PyData := .tuple (kd.map PyData.int)
/-- the ranks that a kind tells -/
structure Pat (kd : List Int) (p : Per) : Prop where
  f : p.first.isSome = hasL kd 0
  l : p.last.isSome = hasL kd 1
  d : p.dense.isSome = hasL kd 2
def KindsOk (kinds : List (List Int)) : Prop := kinds ≠ [] ∧ kinds.length ≤ 1000 ∧ ∀ kd ∈ kinds, kd ≠ [] ∧ ∀ i ∈ kd, i = 0 ∨ i = 1 ∨ i = 2
def pickR (kd : List Int) (i j : Int) : Option Int := if hasL kd i = true then some j else none
theorem pickR_some {kd : List Int} {i j : Int} : (pickR kd i j).isSome = hasL kd i := by
  unfold pickR; cases hasL kd i <;> rfl
theorem any_kd (kd : List Int) (i : Int) : ((kd.map PyData.int).any fun z => PyData.eqv z (.int i)) = hasL kd i := by
  rw [List.any_map]
  unfold hasL
  exact congrArg (fun f => kd.any f) (funext fun j => eqv_int j i)
theorem flat_ints' : ∀ ns : List Int, (ns.map PyData.int).all flatD = true
  | [] => rfl
  | n :: ns => by rw [List.map_cons, List.all_cons, flat_ints' ns]; rfl
def shiftO (sh : Int) (o : Option Int) : Option Int := o.map fun r => if r + sh > 1 then r + sh else 1
theorem shiftO_some {sh : Int} {o : Option Int} : (shiftO sh o).isSome = o.isSome := by cases o <;> rfl
def Per.shift (sh : Int) (p : Per) : Per := ⟨p.name, shiftO sh p.first, shiftO sh p.last, shiftO sh p.dense⟩
theorem sh_pers {ps : List Per} (h : ∀ p ∈ ps, p.name ∈ manyNames) : SeqAt.shaped (.list (ps.map Per.enc)) = true := by
  have h1 : PyData.canLayAll0 (ps.map Per.enc) = true := by
    induction ps with
    | nil => simp [PyData.canLayAll0]
    | cons p ps ih =>
      rw [List.map_cons, PyData.canLayAll0, ih fun q hq => h q (.tail _ hq)]
      have := manyNames_strs _ (h p (.head _))
      obtain ⟨nm, f, l, d⟩ := p
      cases f <;> cases l <;> cases d <;> simp_all [Per.enc, oI, PyData.canLay0, PyData.canLayAll0]
  have h2 : PyData.depthAll (ps.map Per.enc) ≤ 1 := by
    clear h h1
    induction ps with
    | nil => simp [PyData.depthAll]
    | cons p ps ih =>
      rw [List.map_cons, PyData.depthAll]
      obtain ⟨nm, f, l, d⟩ := p
      have : PyData.depth (Per.enc ⟨nm, f, l, d⟩) = 1 := by
        cases f <;> cases l <;> cases d <;> simp [Per.enc, oI, PyData.depth, PyData.depthAll]
      omega
  simp [SeqAt.shaped, PyData.canLay0, PyData.depth, h1]
  first | done | omega
structure SeenW (kinds : List (List Int)) (ps : List Per) : Prop where
  ok : ∀ p ∈ ps, p.ok = true
  names : ∀ p ∈ ps, p.name ∈ manyNames
  pat : ∀ p ∈ ps, ∃ kd ∈ kinds, Pat kd p
abbrev con_law_seen : ConS := { α := (Int × Int × Int) × List Int × Int × List (List Int), src := fun a => srcD a.1, args := fun a => [.d (.tuple (a.2.1.map PyData.int)), .d (.int a.2.2.1), .d (.list (a.2.2.2.map encK))], pre := fun a => SrcOk a.1 ∧ GoodNs a.2.1 30 ∧ 0 ≤ a.2.2.1 ∧ a.2.2.1 ≤ 12 ∧ KindsOk a.2.2.2, post := fun a r ds => ∃ ps b, r = .d (encSeen ps) ∧ SeenOk ps ∧ SeenW a.2.2.2 ps ∧ (ps.length : Int) ≤ a.2.2.1 ∧ ds = srcD b ∧ SrcOk b }
theorem row_ok {kd : List Int} {nm : Str} {r : Int × Int × Int} (hn : isNameS nm = true) (hk : kd ≠ []) (hs : ∀ i ∈ kd, i = 0 ∨ i = 1 ∨ i = 2) (h : 1 ≤ r.2.2 ∧ r.2.2 ≤ r.1 ∧ r.1 ≤ r.2.1 ∧ r.2.1 ≤ 30) : (⟨nm, pickR kd 0 r.1, pickR kd 1 r.2.1, pickR kd 2 r.2.2⟩ : Per).ok = true := by
  have hex : hasL kd 0 = true ∨ hasL kd 1 = true ∨ hasL kd 2 = true := by
    cases kd with
    | nil => exact absurd rfl hk
    | cons i is =>
      rcases hs i (.head _) with e | e | e
      · exact .inl (hasL_iff.mpr (e ▸ .head _))
      · exact .inr (.inl (hasL_iff.mpr (e ▸ .head _)))
      · exact .inr (.inr (hasL_iff.mpr (e ▸ .head _)))
  simp only [Per.ok, hn, Bool.true_and, ranksOk, pickR]
  obtain ⟨r1, r2, r3⟩ := r
  dsimp only at h ⊢
  cases h0 : hasL kd 0 <;> cases h1 : hasL kd 1 <;> cases h2 : hasL kd 2 <;> simp [h0, h1, h2, rankO, leO] at hex ⊢ <;> omega

/-! ### _law_kinds -/
def kinds8 : List (List Int) := [[0], [0], [1], [2], [0, 1], [0, 2], [1, 2], [0, 1, 2]]
abbrev con_law_kinds : Con := { α := Unit, args := fun _ => [], pre := fun _ => True, post := fun _ r => r = .lst (kinds8.map encK) }
theorem ok_law_kinds (T : Tx K mg) : FnOk P w K mg base CX0 (0 + 1) (He.ga K "_law_kinds") T.fd_law_kinds [] (spP K con_law_kinds) := by
  refine fn_ok T.F_law_kinds sc_law_kinds con_law_kinds (fun _ _ => rfl) (by decide) (fun _ _ h => h) fun cdv A outer s H E hr => ⟨_, (pss_one (ps_ret (pe_lst (pa_cons (pe_tup (pa_cons pe_int pa_nil)) (pa_cons (pe_tup (pa_cons pe_int pa_nil)) (pa_cons (pe_tup (pa_cons pe_int pa_nil)) (pa_cons (pe_tup (pa_cons pe_int pa_nil)) (pa_cons (pe_tup (pa_cons pe_int (pa_cons pe_int pa_nil))) (pa_cons (pe_tup (pa_cons pe_int (pa_cons pe_int pa_nil))) (pa_cons (pe_tup (pa_cons pe_int (pa_cons pe_int pa_nil))) (pa_cons (pe_tup (pa_cons pe_int (pa_cons pe_int (pa_cons pe_int pa_nil)))) pa_nil))))))))))), ?_⟩
  rintro B S0 E px ⟨⟩ -
  dsimp only [L2.cxOf, L2.Cx.nox, L2.Cx.wish]
  apply wp_ret
  apply EvS.wp
  · wtm_at "ev"
  · exact ⟨rfl, rfl⟩
theorem cl_law_kinds {F : Fx} {Γ : List Sl} {E : XK} : EvS F (tCall (spP F.K con_law_kinds) [] E tNil) Γ (.lst (kinds8.map encK)) :=
  evs_call (c := con_law_kinds) () eva_nil rfl trivial (fun _ h => h) fun _ h => h
theorem kinds8_ok : KindsOk kinds8 := ⟨by decide, by decide, by decide⟩

/-! ### what raises at its first checks -/
def isSysB : PyData → Bool
  | .str a => ((["first", "last", "dense"] : List Str).map PyData.str).any fun z => PyData.eqv z (.str a)
  | _ => false
abbrev con_require_groupsR (K : PySem.W.Frag) : Con := { α := PyData, args := fun a => [.d a], pre := fun a => isGroupsB a = false, post := fun _ _ => False, exc := fun _ C => C = He.ga K "InvalidGroups" }
theorem ok_require_groupsR (T : Tx K mg) : FnOk P w K mg base (L2N.CX P w) (2 + 1) (He.ga K "require_groups") T.fd_require_groups ["value"] (spP K (con_require_groupsR K)) := by
  refine fn_okN T.F_require_groups sc_require_groups (con_require_groupsR K) (fun _ _ => rfl) (by decide) fun cdv A outer s H E hr => ⟨_, (pss_one (ps_if (pt_not (pt_val (pe_call (ok_is_groups T) (hr.mono (by decide)) (by rfl) T.g_is_groups T.F_is_groups.kp (bi_is_groups T) .nil pass0 (pa_cons (pv 0) pa_nil))))
        (pss_one (L2N.ps_raise rfl (L2N.takes_of rfl rfl rfl rfl) (L2N.pmk_own PySem.F.excBase_ValueError T.er_InvalidGroups.ex T.g_InvalidGroups T.er_InvalidGroups.kp T.er_InvalidGroups.raises (by exact rfl))))
        pss_nil)), ?_⟩
  rintro B S0 d hd
  dsimp only [L2.cxOf, L2.Cx.nox, L2.Cx.wish] at hd ⊢
  apply wp_if
  · wtm_at "ev"
  · intro _
    exact wp_raise rfl
  · intro h
    rw [hd] at h
    cases h
abbrev con_require_systemR (K : PySem.W.Frag) : Con := { α := PyData, args := fun a => [.d a], pre := fun a => isSysB a = false, post := fun _ _ => False, exc := fun _ C => C = He.ga K "InvalidSystem" }
theorem ok_require_systemR (T : Tx K mg) : FnOk P w K mg base (L2N.CX P w) (0 + 1) (He.ga K "require_system") T.fd_require_system ["value"] (spP K (con_require_systemR K)) := by
  refine fn_okN T.F_require_system sc_require_system (con_require_systemR K) (fun _ _ => rfl) (by decide) fun cdv A outer s H E hr => ⟨_, (pss_one (ps_if (PW.pt (pw_or (pt_not (pt_val (pe_callB call_isi (by rfl) T.b_isinstance bt_isinstance (pa_cons (pv 0) (pa_cons (pe_bltn (v := .ty "str") (by rfl) T.b_str bt_str rfl) pa_nil))))) (pw_or1 (pt_cmpR op_notin_G (pv 0) (pe_glob (v := .ref (He.ga K "SYSTEMS")) (by rfl) T.c_SYSTEMS rfl) (by with_unfolding_all rfl)))))
        (pss_one (L2N.ps_raise rfl (L2N.takes_of rfl rfl rfl rfl) (L2N.pmk_own PySem.F.excBase_ValueError T.er_InvalidSystem.ex T.g_InvalidSystem T.er_InvalidSystem.kp T.er_InvalidSystem.raises (by exact rfl))))
        pss_nil)), ?_⟩
  rintro B S0 d hd
  dsimp only [L2.cxOf, L2.Cx.nox, L2.Cx.wish] at hd ⊢
  have q : ∀ H : Hp, SqT K H (He.ga K "SYSTEMS") ((["first", "last", "dense"] : List Str).map V.str) := T.q_SYSTEMS
  apply wp_if (b := true)
  · cases d with
    | str a =>
      refine evt_is (b := false || (!((["first", "last", "dense"] : List Str).map PyData.str).any fun z => PyData.eqv z (.str a))) ?_ ?_
      · apply evt_or
        · wtm_at "evtis"
        · intro _
          wtm_at "ev"
      · rw [show (((["first", "last", "dense"] : List Str).map PyData.str).any fun z => PyData.eqv z (.str a)) = isSysB (.str a) from rfl, hd]; rfl
    | _ =>
      apply evt_or1
      · wtm_at "ev"
      · rfl
  · intro _
    exact wp_raise rfl
  · intro h
    cases h
abbrev con_require_seenR (K : PySem.W.Frag) : Con := { α := PyData, args := fun a => [.d a], pre := fun a => shortSeen a ∧ isSeenB a = false, post := fun _ _ => False, exc := fun _ C => C = He.ga K "InvalidSeen" }
theorem ok_require_seenR (T : Tx K mg) : FnOk P w K mg base (L2N.CX P w) (3 + 1) (He.ga K "require_seen") T.fd_require_seen ["value"] (spP K (con_require_seenR K)) := by
  refine fn_okN T.F_require_seen sc_require_seen (con_require_seenR K) (fun _ _ => rfl) (by decide) fun cdv A outer s H E hr => ⟨_, (pss_one (ps_if (pt_not (pt_val (pe_call (ok_is_seen T) (hr.mono (by decide)) (by rfl) T.g_is_seen T.F_is_seen.kp (bi_is_seen T) .nil pass0 (pa_cons (pv 0) pa_nil))))
        (pss_one (L2N.ps_raise rfl (L2N.takes_of rfl rfl rfl rfl) (L2N.pmk_own PySem.F.excBase_ValueError T.er_InvalidSeen.ex T.g_InvalidSeen T.er_InvalidSeen.kp T.er_InvalidSeen.raises (by exact rfl))))
        pss_nil)), ?_⟩
  rintro B S0 d ⟨hs, hd⟩
  dsimp only [L2.cxOf, L2.Cx.nox, L2.Cx.wish] at hs hd ⊢
  apply wp_if
  · wtm_at "ev"
  · intro _
    exact wp_raise rfl
  · intro h
    rw [hd] at h
    cases h
abbrev con_withoutR (K : PySem.W.Frag) : Con := { α := PyData × PyData, args := fun a => [.d a.1, .d a.2], pre := fun a => isGroupsB a.1 = false, post := fun _ _ => False, exc := fun _ C => C = He.ga K "InvalidGroups" }
theorem ok_withoutR (T : Tx K mg) : FnOk P w K mg base (L2N.CX P w) (3 + 1) (He.ga K "without") T.fd_without ["groups", "index"] (spP K (con_withoutR K)) := by
  refine fn_okN T.F_without sc_without (con_withoutR K) (fun _ _ => rfl) (by decide) fun cdv A outer s H E hr => ⟨_, (pss_cons (ps_expr (pe_call (ok_require_groupsR T) (hr.mono (by decide)) (by rfl) T.g_require_groups T.F_require_groups.kp (bi_require_groups T) .nil (passN (L2N.takes_of rfl rfl rfl rfl)) (pa_cons (pv 0) pa_nil)))
      (pss_cons ps_never
      (pss_one ps_never))), ?_⟩
  rintro B S0 ⟨d, e⟩ hd
  dsimp only [L2.cxOf, L2.Cx.nox, L2.Cx.wish] at hd ⊢
  apply wp_seq
  apply wp_drop
  refine wpe_callX (c := con_require_groupsR K) (EvA.wp (ss := [.d d]) (by wtm_at "ev") ⟨d, rfl, rfl, hd, fun _ h => h.elim, fun C hC => hC⟩)
abbrev con_changed_byR (K : PySem.W.Frag) : Con := { α := PyData × PyData, args := fun a => [.d a.1, .d a.2], pre := fun a => isGroupsB a.1 = false, post := fun _ _ => False, exc := fun _ C => C = He.ga K "InvalidGroups" }
theorem ok_changed_byR (T : Tx K mg) : FnOk P w K mg base (L2N.CX P w) (3 + 1) (He.ga K "changed_by") T.fd_changed_by ["before", "after"] (spP K (con_changed_byR K)) := by
  refine fn_okN T.F_changed_by sc_changed_by (con_changed_byR K) (fun _ _ => rfl) (by decide) fun cdv A outer s H E hr => ⟨_, (pss_cons (ps_expr (pe_call (ok_require_groupsR T) (hr.mono (by decide)) (by rfl) T.g_require_groups T.F_require_groups.kp (bi_require_groups T) .nil (passN (L2N.takes_of rfl rfl rfl rfl)) (pa_cons (pv 0) pa_nil)))
      (pss_cons ps_never
      (pss_cons ps_never
      (pss_one ps_never)))), ?_⟩
  rintro B S0 ⟨d, e⟩ hd
  dsimp only [L2.cxOf, L2.Cx.nox, L2.Cx.wish] at hd ⊢
  apply wp_seq
  apply wp_drop
  refine wpe_callX (c := con_require_groupsR K) (EvA.wp (ss := [.d d]) (by wtm_at "ev") ⟨d, rfl, rfl, hd, fun _ h => h.elim, fun C hC => hC⟩)
abbrev con_ranksR (K : PySem.W.Frag) : Con := { α := PyData × PyData, args := fun a => [.d a.1, .d a.2], pre := fun a => isGroupsB a.1 = false, post := fun _ _ => False, exc := fun _ C => C = He.ga K "InvalidGroups" }
theorem ok_ranksR (T : Tx K mg) : FnOk P w K mg base (L2N.CX P w) (3 + 1) (He.ga K "ranks") T.fd_ranks ["groups", "system"] (spP K (con_ranksR K)) := by
  refine fn_okN T.F_ranks sc_ranks (con_ranksR K) (fun _ _ => rfl) (by decide) fun cdv A outer s H E hr => ⟨_, (pss_cons (ps_expr (pe_call (ok_require_groupsR T) (hr.mono (by decide)) (by rfl) T.g_require_groups T.F_require_groups.kp (bi_require_groups T) .nil (passN (L2N.takes_of rfl rfl rfl rfl)) (pa_cons (pv 0) pa_nil)))
      (pss_cons ps_never
      (pss_one ps_never))), ?_⟩
  rintro B S0 ⟨d, e⟩ hd
  dsimp only [L2.cxOf, L2.Cx.nox, L2.Cx.wish] at hd ⊢
  apply wp_seq
  apply wp_drop
  refine wpe_callX (c := con_require_groupsR K) (EvA.wp (ss := [.d d]) (by wtm_at "ev") ⟨d, rfl, rfl, hd, fun _ h => h.elim, fun C hC => hC⟩)
abbrev con_ranksS (K : PySem.W.Frag) : Con := { α := PyData × PyData, args := fun a => [.d a.1, .d a.2], pre := fun a => isGroupsB a.1 = true ∧ isSysB a.2 = false, post := fun _ _ => False, exc := fun _ C => C = He.ga K "InvalidSystem" }
theorem ok_ranksS (T : Tx K mg) : FnOk P w K mg base (L2N.CX P w) (3 + 1) (He.ga K "ranks") T.fd_ranks ["groups", "system"] (spP K (con_ranksS K)) := by
  refine fn_okN T.F_ranks sc_ranks (con_ranksS K) (fun _ _ => rfl) (by decide) fun cdv A outer s H E hr => ⟨_, (pss_cons (ps_expr (pe_call (ok_require_groups T) (hr.mono (by decide)) (by rfl) T.g_require_groups T.F_require_groups.kp (bi_require_groups T) .nil pass0 (pa_cons (pv 0) pa_nil)))
      (pss_cons (ps_expr (pe_call (ok_require_systemR T) (hr.mono (by decide)) (by rfl) T.g_require_system T.F_require_system.kp (bi_require_system T) .nil (passN (L2N.takes_of rfl rfl rfl rfl)) (pa_cons (pv 1) pa_nil)))
      (pss_one ps_never))), ?_⟩
  rintro B S0 ⟨d, e⟩ ⟨hd, he⟩
  dsimp only [L2.cxOf, L2.Cx.nox, L2.Cx.wish] at hd he ⊢
  apply wp_seq
  apply wp_drop
  apply EvS.wp
  · wtm_at "ev"
  apply wp_seq
  apply wp_drop
  refine wpe_callX (c := con_require_systemR K) (EvA.wp (ss := [.d e]) (by wtm_at "ev") ⟨e, rfl, rfl, he, fun _ h => h.elim, fun C hC => hC⟩)
abbrev con_fitsR (K : PySem.W.Frag) : Con := { α := PyData × PyData, args := fun a => [.d a.1, .d a.2], pre := fun a => isIntB a.1 1 30 = true ∧ shortSeen a.2 ∧ isSeenB a.2 = false, post := fun _ _ => False, exc := fun _ C => C = He.ga K "InvalidSeen" }
theorem ok_fitsR (T : Tx K mg) : FnOk P w K mg base (L2N.CX P w) (4 + 1) (He.ga K "fits") T.fd_fits ["size", "seen"] (spP K (con_fitsR K)) := by
  refine fn_okN T.F_fits sc_fits (con_fitsR K) (fun _ _ => rfl) (by decide) fun cdv A outer s H E hr => ⟨_, (pss_cons (ps_expr (pe_call (ok_require_size T) (hr.mono (by decide)) (by rfl) T.g_require_size T.F_require_size.kp (bi_require_size T) .nil pass0 (pa_cons (pv 0) pa_nil)))
      (pss_cons (ps_expr (pe_call (ok_require_seenR T) (hr.mono (by decide)) (by rfl) T.g_require_seen T.F_require_seen.kp (bi_require_seen T) .nil (passN (L2N.takes_of rfl rfl rfl rfl)) (pa_cons (pv 1) pa_nil)))
      (pss_one ps_never))), ?_⟩
  rintro B S0 ⟨d, e⟩ ⟨hd, hs, he⟩
  dsimp only [L2.cxOf, L2.Cx.nox, L2.Cx.wish] at hd hs he ⊢
  apply wp_seq
  apply wp_drop
  apply EvS.wp
  · wtm_at "ev"
  apply wp_seq
  apply wp_drop
  refine wpe_callX (c := con_require_seenR K) (EvA.wp (ss := [.d e]) (by wtm_at "ev") ⟨e, rfl, rfl, ⟨hs, he⟩, fun _ h => h.elim, fun C hC => hC⟩)
abbrev con_count_rankingsR (K : PySem.W.Frag) : Con := { α := PyData × PyData, args := fun a => [.d a.1, .d a.2], pre := fun a => isIntB a.1 1 30 = true ∧ shortSeen a.2 ∧ isSeenB a.2 = false, post := fun _ _ => False, exc := fun _ C => C = He.ga K "InvalidSeen" }
theorem ok_count_rankingsR (T : Tx K mg) : FnOk P w K mg base (L2N.CX P w) (4 + 1) (He.ga K "count_rankings") T.fd_count_rankings ["size", "seen"] (spP K (con_count_rankingsR K)) := by
  refine fn_okN T.F_count_rankings sc_count_rankings (con_count_rankingsR K) (fun _ _ => rfl) (by decide) fun cdv A outer s H E hr => ⟨_, (pss_cons (ps_expr (pe_call (ok_require_size T) (hr.mono (by decide)) (by rfl) T.g_require_size T.F_require_size.kp (bi_require_size T) .nil pass0 (pa_cons (pv 0) pa_nil)))
      (pss_cons (ps_expr (pe_call (ok_require_seenR T) (hr.mono (by decide)) (by rfl) T.g_require_seen T.F_require_seen.kp (bi_require_seen T) .nil (passN (L2N.takes_of rfl rfl rfl rfl)) (pa_cons (pv 1) pa_nil)))
      (pss_one ps_never))), ?_⟩
  rintro B S0 ⟨d, e⟩ ⟨hd, hs, he⟩
  dsimp only [L2.cxOf, L2.Cx.nox, L2.Cx.wish] at hd hs he ⊢
  apply wp_seq
  apply wp_drop
  apply EvS.wp
  · wtm_at "ev"
  apply wp_seq
  apply wp_drop
  refine wpe_callX (c := con_require_seenR K) (EvA.wp (ss := [.d e]) (by wtm_at "ev") ⟨e, rfl, rfl, ⟨hs, he⟩, fun _ h => h.elim, fun C hC => hC⟩)
abbrev con_marksR (K : PySem.W.Frag) : Con := { α := PyData × PyData, args := fun a => [.d a.1, .d a.2], pre := fun a => isIntB a.1 1 30 = true ∧ shortSeen a.2 ∧ isSeenB a.2 = false, post := fun _ _ => False, exc := fun _ C => C = He.ga K "InvalidSeen" }
theorem ok_marksR (T : Tx K mg) : FnOk P w K mg base (L2N.CX P w) (4 + 1) (He.ga K "marks") T.fd_marks ["size", "seen"] (spP K (con_marksR K)) := by
  refine fn_okN T.F_marks sc_marks (con_marksR K) (fun _ _ => rfl) (by decide) fun cdv A outer s H E hr => ⟨_, (pss_cons (ps_expr (pe_call (ok_require_size T) (hr.mono (by decide)) (by rfl) T.g_require_size T.F_require_size.kp (bi_require_size T) .nil pass0 (pa_cons (pv 0) pa_nil)))
      (pss_cons (ps_expr (pe_call (ok_require_seenR T) (hr.mono (by decide)) (by rfl) T.g_require_seen T.F_require_seen.kp (bi_require_seen T) .nil (passN (L2N.takes_of rfl rfl rfl rfl)) (pa_cons (pv 1) pa_nil)))
      (pss_cons ps_never
      (pss_cons ps_never
      (pss_cons ps_never
      (pss_one ps_never)))))), ?_⟩
  rintro B S0 ⟨d, e⟩ ⟨hd, hs, he⟩
  dsimp only [L2.cxOf, L2.Cx.nox, L2.Cx.wish] at hd hs he ⊢
  apply wp_seq
  apply wp_drop
  apply EvS.wp
  · wtm_at "ev"
  apply wp_seq
  apply wp_drop
  refine wpe_callX (c := con_require_seenR K) (EvA.wp (ss := [.d e]) (by wtm_at "ev") ⟨e, rfl, rfl, ⟨hs, he⟩, fun _ h => h.elim, fun C hC => hC⟩)
abbrev con_clashR (K : PySem.W.Frag) : Con := { α := PyData × PyData, args := fun a => [.d a.1, .d a.2], pre := fun a => isIntB a.1 1 30 = true ∧ shortSeen a.2 ∧ isSeenB a.2 = false, post := fun _ _ => False, exc := fun _ C => C = He.ga K "InvalidSeen" }
theorem ok_clashR (T : Tx K mg) : FnOk P w K mg base (L2N.CX P w) (4 + 1) (He.ga K "clash") T.fd_clash ["size", "seen"] (spP K (con_clashR K)) := by
  refine fn_okN T.F_clash sc_clash (con_clashR K) (fun _ _ => rfl) (by decide) fun cdv A outer s H E hr => ⟨_, (pss_cons (ps_expr (pe_call (ok_require_size T) (hr.mono (by decide)) (by rfl) T.g_require_size T.F_require_size.kp (bi_require_size T) .nil pass0 (pa_cons (pv 0) pa_nil)))
      (pss_cons (ps_expr (pe_call (ok_require_seenR T) (hr.mono (by decide)) (by rfl) T.g_require_seen T.F_require_seen.kp (bi_require_seen T) .nil (passN (L2N.takes_of rfl rfl rfl rfl)) (pa_cons (pv 1) pa_nil)))
      (pss_cons ps_never
      (pss_cons ps_never
      (pss_cons ps_never
      (pss_cons ps_never
      (pss_one ps_never))))))), ?_⟩
  rintro B S0 ⟨d, e⟩ ⟨hd, hs, he⟩
  dsimp only [L2.cxOf, L2.Cx.nox, L2.Cx.wish] at hd hs he ⊢
  apply wp_seq
  apply wp_drop
  apply EvS.wp
  · wtm_at "ev"
  apply wp_seq
  apply wp_drop
  refine wpe_callX (c := con_require_seenR K) (EvA.wp (ss := [.d e]) (by wtm_at "ev") ⟨e, rfl, rfl, ⟨hs, he⟩, fun _ h => h.elim, fun C hC => hC⟩)
abbrev con_ranking_atR (K : PySem.W.Frag) : Con := { α := PyData × PyData × PyData, args := fun a => [.d a.1, .d a.2.1, .d a.2.2], pre := fun a => isIntB a.1 1 30 = true ∧ shortSeen a.2.1 ∧ isSeenB a.2.1 = false, post := fun _ _ => False, exc := fun _ C => C = He.ga K "InvalidSeen" }
theorem ok_ranking_atR (T : Tx K mg) : FnOk P w K mg base (L2N.CX P w) (4 + 1) (He.ga K "ranking_at") T.fd_ranking_at ["size", "seen", "number"] (spP K (con_ranking_atR K)) := by
  refine fn_okN T.F_ranking_at sc_ranking_at (con_ranking_atR K) (fun _ _ => rfl) (by decide) fun cdv A outer s H E hr => ⟨_, (pss_cons (ps_expr (pe_call (ok_require_size T) (hr.mono (by decide)) (by rfl) T.g_require_size T.F_require_size.kp (bi_require_size T) .nil pass0 (pa_cons (pv 0) pa_nil)))
      (pss_cons (ps_expr (pe_call (ok_require_seenR T) (hr.mono (by decide)) (by rfl) T.g_require_seen T.F_require_seen.kp (bi_require_seen T) .nil (passN (L2N.takes_of rfl rfl rfl rfl)) (pa_cons (pv 1) pa_nil)))
      (pss_cons ps_never
      (pss_cons ps_never
      (pss_cons ps_never
      (pss_cons ps_never
      (pss_one ps_never))))))), ?_⟩
  rintro B S0 ⟨d, e, f⟩ ⟨hd, hs, he⟩
  dsimp only [L2.cxOf, L2.Cx.nox, L2.Cx.wish] at hd hs he ⊢
  apply wp_seq
  apply wp_drop
  apply EvS.wp
  · wtm_at "ev"
  apply wp_seq
  apply wp_drop
  refine wpe_callX (c := con_require_seenR K) (EvA.wp (ss := [.d e]) (by wtm_at "ev") ⟨e, rfl, rfl, ⟨hs, he⟩, fun _ h => h.elim, fun C hC => hC⟩)
abbrev con_possible_sizesR (K : PySem.W.Frag) : Con := { α := PyData, args := fun a => [.d a], pre := fun a => shortSeen a ∧ isSeenB a = false, post := fun _ _ => False, exc := fun _ C => C = He.ga K "InvalidSeen" }
theorem ok_possible_sizesR (T : Tx K mg) : FnOk P w K mg base (L2N.CX P w) (4 + 1) (He.ga K "possible_sizes") T.fd_possible_sizes ["seen"] (spP K (con_possible_sizesR K)) := by
  refine fn_okN T.F_possible_sizes sc_possible_sizes (con_possible_sizesR K) (fun _ _ => rfl) (by decide) fun cdv A outer s H E hr => ⟨_, (pss_cons (ps_expr (pe_call (ok_require_seenR T) (hr.mono (by decide)) (by rfl) T.g_require_seen T.F_require_seen.kp (bi_require_seen T) .nil (passN (L2N.takes_of rfl rfl rfl rfl)) (pa_cons (pv 0) pa_nil)))
      (pss_one ps_never)), ?_⟩
  rintro B S0 e ⟨hs, he⟩
  dsimp only [L2.cxOf, L2.Cx.nox, L2.Cx.wish] at hs he ⊢
  apply wp_seq
  apply wp_drop
  refine wpe_callX (c := con_require_seenR K) (EvA.wp (ss := [.d e]) (by wtm_at "ev") ⟨e, rfl, rfl, ⟨hs, he⟩, fun _ h => h.elim, fun C hC => hC⟩)

/-! ### lists of texts -/
theorem sh_strsL {xs : List Str} (h : ∀ x ∈ xs, PyData.strOk x = true) : SeqAt.shaped (.list (xs.map PyData.str)) = true := by
  have h1 : PyData.canLayAll0 (xs.map PyData.str) = true := by
    induction xs with
    | nil => simp [PyData.canLayAll0]
    | cons x xs ih =>
      rw [List.map_cons, PyData.canLayAll0, ih fun y hy => h y (by simp [hy]), Bool.and_true, PyData.canLay0]
      exact h x (by simp)
  have h2 : PyData.depthAll (xs.map PyData.str) = 0 := by
    clear h h1
    induction xs with
    | nil => simp [PyData.depthAll]
    | cons x xs ih => rw [List.map_cons, PyData.depthAll, ih]; simp [PyData.depth]
  unfold SeqAt.shaped
  rw [Bool.and_eq_true, PyData.canLay0, PyData.depth, h2]
  exact ⟨h1, by decide⟩
theorem eqvAll_strs : ∀ xs ys : List Str, PyData.eqvAll (xs.map PyData.str) (ys.map PyData.str) = decide (xs = ys)
  | [], [] => by simp [PyData.eqvAll]
  | [], _ :: _ => by simp [PyData.eqvAll]
  | _ :: _, [] => by simp [PyData.eqvAll]
  | x :: xs, y :: ys => by
    rw [List.map_cons, List.map_cons, PyData.eqvAll, eqvAll_strs xs ys, PyData.eqv]
    by_cases h : x = y <;> by_cases h2 : xs = ys <;> simp [h, h2]
theorem eqv_strsL (xs ys : List Str) : PyData.eqv (.list (xs.map PyData.str)) (.list (ys.map PyData.str)) = decide (xs = ys) := by
  rw [PyData.eqv]; exact eqvAll_strs xs ys
theorem cutD_init {α : Type} (xs : List α) (x : α) : cutD (xs ++ [x]) none (some (-1)) = xs := by
  have e : ∀ d, HT.sIx (xs ++ [x]).length d (some (-1)) = xs.length := fun d => by
    show (if (-1 : Int) < 0 then ((-1 : Int) + ((xs ++ [x]).length : Int)).toNat else min (-1 : Int).toNat (xs ++ [x]).length) = _
    rw [if_pos (by decide), List.length_append, List.length_singleton]
    omega
  unfold cutD
  rw [HT.sIx_none, e, List.drop_zero, Nat.sub_zero, List.take_append_of_le_length (Nat.le_refl _), List.take_length]
theorem ops_notNL {F : Fx} {x : Sl} {ds : List PyData} (h : x.asL = some ds) : OpS F (fun x y H Q => y = .non ∧ Q (.bl (!decide (x = .non))) H) x (.d .none) (.d (.bool true)) := fun z v w Q hz hv hw c => by
  obtain ⟨a, xs, rfl, _⟩ := hv.asL hz h
  exact ⟨hw.d_none, c _ z (Add.refl z) hz (.bl true) trivial⟩

/-! ### the one name of an error -/
def errWords : List Str := ["groups", "system", "index", "size", "seen", "number", "name", "result", "unknown", "known", "many", "undo"]
def wordsAll : List Str := errWords ++ (["base", "value"] : List Str)
def goodsOf (c : Str) : List Bool := [decide (c = "InvalidGroups"), decide (c = "InvalidSystem"), decide (c = "InvalidIndex"), decide (c = "InvalidSize"), decide (c = "InvalidSeen"), decide (c = "InvalidNumber"), decide (c = "InvalidName"), decide (c = "InvalidResult"), decide (c = "UnknownName"), decide (c = "KnownName"), decide (c = "TooMany"), decide (c = "NothingToUndo"), true, true]
def errWord (c : Str) : Str := ((errAll.zip errWords).lookup c).getD "other"
def ansE (K : PySem.W.Frag) (D : Addr) (x : Str) : Prop := ∃ c ∈ errAll, ErrOk K errAll c ∧ D = He.ga K c ∧ x = errWord c
theorem isE_err {F : Fx} {a : Addr} {c y : Str} {all : List Str} (E : ErrOk F.K all c) (hy : y ∈ all) : CallS F (rIsE F.K (He.ga F.K c) a) [.raw (.ref a), .raw (.ref (He.ga F.K y))] (.d (.bool (decide (c = y)))) := isE_ref (E.is_ y hy)
theorem names_of : ∀ c ∈ errAll, ((wordsAll.zip (goodsOf c)).filter fun q => q.2).map (fun q => q.1) = [errWord c, "base", "value"] := by decide +kernel
theorem zipD_pairs : ∀ (ws : List Str) (bs : List Bool), zipD (ws.map PyData.str) (bs.map PyData.bool) = (ws.zip bs).map fun q => PyData.tuple [.str q.1, .bool q.2]
  | [], _ => rfl
  | _ :: _, [] => rfl
  | w :: ws, b :: bs => congrArg (PyData.tuple [.str w, .bool b] :: ·) (zipD_pairs ws bs)
theorem words_split : Txt.split "groups system index size seen number name result unknown known many undo base value" " " = wordsAll := by decide +kernel
local macro_rules
  | `(tactic| wtm_at "cb") => `(tactic| first | exact isE_err (by assumption) (by decide +kernel) | exact isE_ref (ErrOk.rk (by assumption)) | exact isE_ty (ErrOk.ve (by assumption)))
theorem ok_law_error_name (T : Tx K mg) : FnE P w K mg base (0 + 1) (He.ga K "_law_error_name") T.fd_law_error_name "e" (ansE K) := by
  refine fn_okE T.F_law_error_name sc_law_error_name (by decide) fun cdv A outer s H E p D ex hot hr hz hv ha => ?_
  obtain ⟨c, hc, eo, rfl, rfl⟩ := ha
  have hC : ExcC K (He.ga K c) := eo.cc
  refine ⟨_, (pss_cons (ps_set (i := 1) sc_law_error_name.nd rfl (.inl rfl) (pe_lst (pa_cons (pe_callB (cr_isH hC (.head _) hz hv) (by rfl) T.b_isinstance bt_isinstance (pa_cons (pv 0) (pa_cons (pe_glob (v := .ref (He.ga K "InvalidGroups")) (by rfl) T.g_InvalidGroups rfl) pa_nil))) (pa_cons (pe_callB (cr_isH hC (.head _) hz hv) (by rfl) T.b_isinstance bt_isinstance (pa_cons (pv 0) (pa_cons (pe_glob (v := .ref (He.ga K "InvalidSystem")) (by rfl) T.g_InvalidSystem rfl) pa_nil))) (pa_cons (pe_callB (cr_isH hC (.head _) hz hv) (by rfl) T.b_isinstance bt_isinstance (pa_cons (pv 0) (pa_cons (pe_glob (v := .ref (He.ga K "InvalidIndex")) (by rfl) T.g_InvalidIndex rfl) pa_nil))) pa_nil)))))
      (pss_cons (ps_set (i := 1) sc_law_error_name.nd rfl (.inl rfl) (pe_op op_addG (pv 1) (pe_lst (pa_cons (pe_callB (cr_isH hC (.head _) hz hv) (by rfl) T.b_isinstance bt_isinstance (pa_cons (pv 0) (pa_cons (pe_glob (v := .ref (He.ga K "InvalidSize")) (by rfl) T.g_InvalidSize rfl) pa_nil))) (pa_cons (pe_callB (cr_isH hC (.head _) hz hv) (by rfl) T.b_isinstance bt_isinstance (pa_cons (pv 0) (pa_cons (pe_glob (v := .ref (He.ga K "InvalidSeen")) (by rfl) T.g_InvalidSeen rfl) pa_nil))) (pa_cons (pe_callB (cr_isH hC (.head _) hz hv) (by rfl) T.b_isinstance bt_isinstance (pa_cons (pv 0) (pa_cons (pe_glob (v := .ref (He.ga K "InvalidNumber")) (by rfl) T.g_InvalidNumber rfl) pa_nil))) pa_nil))))))
      (pss_cons (ps_set (i := 1) sc_law_error_name.nd rfl (.inl rfl) (pe_op op_addG (pv 1) (pe_lst (pa_cons (pe_callB (cr_isH hC (.head _) hz hv) (by rfl) T.b_isinstance bt_isinstance (pa_cons (pv 0) (pa_cons (pe_glob (v := .ref (He.ga K "InvalidName")) (by rfl) T.g_InvalidName rfl) pa_nil))) (pa_cons (pe_callB (cr_isH hC (.head _) hz hv) (by rfl) T.b_isinstance bt_isinstance (pa_cons (pv 0) (pa_cons (pe_glob (v := .ref (He.ga K "InvalidResult")) (by rfl) T.g_InvalidResult rfl) pa_nil))) (pa_cons (pe_callB (cr_isH hC (.head _) hz hv) (by rfl) T.b_isinstance bt_isinstance (pa_cons (pv 0) (pa_cons (pe_glob (v := .ref (He.ga K "UnknownName")) (by rfl) T.g_UnknownName rfl) pa_nil))) pa_nil))))))
      (pss_cons (ps_set (i := 1) sc_law_error_name.nd rfl (.inl rfl) (pe_op op_addG (pv 1) (pe_lst (pa_cons (pe_callB (cr_isH hC (.head _) hz hv) (by rfl) T.b_isinstance bt_isinstance (pa_cons (pv 0) (pa_cons (pe_glob (v := .ref (He.ga K "KnownName")) (by rfl) T.g_KnownName rfl) pa_nil))) (pa_cons (pe_callB (cr_isH hC (.head _) hz hv) (by rfl) T.b_isinstance bt_isinstance (pa_cons (pv 0) (pa_cons (pe_glob (v := .ref (He.ga K "TooMany")) (by rfl) T.g_TooMany rfl) pa_nil))) (pa_cons (pe_callB (cr_isH hC (.head _) hz hv) (by rfl) T.b_isinstance bt_isinstance (pa_cons (pv 0) (pa_cons (pe_glob (v := .ref (He.ga K "NothingToUndo")) (by rfl) T.g_NothingToUndo rfl) pa_nil))) pa_nil))))))
      (pss_cons (ps_set (i := 1) sc_law_error_name.nd rfl (.inl rfl) (pe_op op_addG (pv 1) (pe_lst (pa_cons (pe_callB (cr_isH hC (.head _) hz hv) (by rfl) T.b_isinstance bt_isinstance (pa_cons (pv 0) (pa_cons (pe_glob (v := .ref (He.ga K "RankError")) (by rfl) T.g_RankError rfl) pa_nil))) (pa_cons (pe_callB (cr_isH hC (.head _) hz hv) (by rfl) T.b_isinstance bt_isinstance (pa_cons (pv 0) (pa_cons (pe_bltn (v := .ty "ValueError") (by rfl) T.b_ValueError bt_ValueError rfl) pa_nil))) pa_nil)))))
      (pss_cons (ps_set (i := 2) sc_law_error_name.nd rfl (.inl rfl) pe_str)
      (pss_cons (ps_setLcE hot (.head _) (i := 3) (own := [("word", 4), ("good", 5)]) sc_law_error_name.nd rfl rfl (sw_true rfl rfl rfl (by decide +kernel)) (piE_zip (by rfl) T.b_zip (pa_cons (pe_split (pv 2) pe_str) (pa_cons (pv 1) pa_nil))) (blkOk_by (own := [("word", 4), ("good", 5)]) (N := ["e", "some", "words", "names", "word", "good"]) (sc := defScope s_law_error_name) (by decide +kernel)) (fun _ _ _ _ _ => (pgTupK (n := 2) K (pgTupE (hotC_blk hot) (pgs_cons (pg_name (i := 4) sc_law_error_name.nd rfl (.inl rfl)) (pgs_cons (pg_name (i := 5) sc_law_error_name.nd rfl (.inl rfl)) pgs_nil))))) (fun _ _ _ _ _ => (pts_one (pt_val (pv 5)))) (fun _ _ _ _ _ => (pv 4)))
      (pss_one (ps_ret (pe_ifExp (pt_cmpR (op_eqD hr.units) (pe_slice sl_G (pv 3) (po_some pe_int) po_none) (pe_lst (pa_cons pe_str (pa_cons pe_str pa_nil))) (nomark _)) (pe_ix ix_seq (pv 3) pe_int (fun _ _ => rfl)) pe_str)))))))))), ?_⟩
  intro B S0 E px
  dsimp only [L2H.cxH, L2.cxOf, L2.Cx.nox, L2.Cx.wish]
  apply wp_seq
  apply wp_asg
  · apply evs_share
    apply evs_lst
    · wtm_at "ev"
    · wtm_at "sz"
  · exact lt_ble rfl
  · rfl
  iterate 3
    apply wp_seq
    apply wp_asg
    · wtm_at "ev"
    · exact lt_ble rfl
    · rfl
  apply wp_seq
  refine wp_asg (s := .d (.list ((goodsOf c).map PyData.bool))) (evs_share ?_) (lt_ble rfl) rfl ?_
  · apply evs_is
    · wtm_at "ev"
    · rfl
  apply wp_seq
  refine wp_asg (by wtm_at "ev") (lt_ble rfl) rfl ?_
  apply wp_seq
  refine wp_asg (s := .lst ([errWord c, "base", "value"].map PyData.str)) (evs_lc (items := (wordsAll.zip (goodsOf c)).map fun q => PyData.tuple [.str q.1, .bool q.2]) (EvI.is (evi_zipE (ds := wordsAll.map PyData.str) (es := (goodsOf c).map PyData.bool) (eva_cons (evs_share (evs_split (by wtm_at "ev") (by wtm_at "ev") (by decide +kernel) (sz' (Nat.le_of_ble_eq_true (by decide +kernel))) words_split)) (eva_cons (by wtm_at "ev") eva_nil)) (by rw [List.length_map, List.length_map]; exact (by decide +kernel : wordsAll.length ≤ 14))) (zipD_pairs _ _)) (gvs_tup (gvss_names [4, 5] (by decide))) (sz' (by rw [List.length_map, List.length_zip]; exact Nat.le_trans (Nat.min_le_left ..) (Nat.le_of_ble_eq_true (by decide +kernel)))) ?_) (lt_ble rfl) rfl ?_
  · rw [← names_of c hc, List.map_map]
    refine lcp_map (enc := fun q : Str × Bool => PyData.tuple [.str q.1, .bool q.2]) (xs := wordsAll.zip (goodsOf c)) (p := fun q => q.2) (f := fun q : Str × Bool => PyData.str q.1) fun q _ => ?_
    exact ⟨_, gto_tup rfl (gtos_names [4, 5] [.str q.1, .bool q.2] _ rfl (names_lt rfl)), by wtm_at "ev", fun _ => by wtm_at "ev"⟩
  apply wp_ret
  apply EvS.wp
  · refine evs_if1 (s := .d (.str (errWord c))) ?_ ?_
    · apply evt_is
      · apply evt_test
        apply evs_op (x := .lst ((["base", "value"] : List Str).map PyData.str)) (y := .lst ((["base", "value"] : List Str).map PyData.str))
        · refine evs_is (s := .lst ((["base", "value"] : List Str).map PyData.str)) (evs_slL (lo := some (1 : Int)) (hi := none) (evs_var rfl rfl) rfl ?_ ?_) ?_
          · wtm_at "ev"
          · wtm_at "ev"
          · rfl
        · refine evs_is (x := .lst [.str "base", .str "value"]) ?_ rfl
          wtm_at "ev"
        · apply ops_eqD
          · rfl
          · rfl
          · exact sh_strsL (by decide +kernel)
          · exact sh_strsL (by decide +kernel)
      · exact (eqv_strsL _ _).trans (by decide)
    · apply evs_is
      · wtm_at "ev"
      · rfl
  · rfl

/-! ### try suites by name -/
def tTryW (K : PySem.W.Frag) (c : Value) (i : Nat) (ts : Addr → Value → Option Addr → TS) (Wout : WX) (tb : WX → TS) : TS := fun D σ H => tb (wAs K c i ts Wout D) D σ H
theorem ps_tryW {X : Cx} {x n : Str} {c : Value} {i : Nat} {body suite : List Stmt} {b₀ : Stmt} {np pos pos' : Pos} {tb : WX → TS} {ts : Addr → Value → Option Addr → TS} {Wout : WX} (hs : X.stack = X.env :: X.outer) (hf : X.env.frame = some X.env.locals) (hN : X.N.Nodup) (hi : X.N[i]? = some n) (hln : X.env.kindOf n = some .local) (hc : Names X x c) (tk : L2N.Takes X Wout)
    (hb : ∀ (W : WX) (pn : List (Addr × Obj)) (xe : Value → Shared → Prop), L2N.Takes (X.tr pn xe) W → PassesOwn (model X.prog X.w) X.A X.env xe → PSs (X.tr pn xe) body (tb W))
    (hsu : ∀ (a : Addr) (oe : Obj) (cls : Value) (d : Option Addr) (pn : List (Addr × Obj)), L2N.Zn cls d oe → (∃ vs, oe.data = .fields vs) → PSs (X.suite a ((a, oe) :: pn)) (b₀ :: suite) (ts a cls d)) :
    PS X (.Try body [.ExceptHandler (some (.Name x np)) (some n) (b₀ :: suite) pos'] [] [] pos) (tTryW X.K c i ts Wout tb) := L2N.ps_try_as hs hf hN hi hln hc tk hb hsu
theorem wp_tryW {F : Fx} {Γ : List Sl} {nx bk ct : List Sl → Prop} {rt : Sl → List Sl → Prop} {tb : WX → TS} {R : Addr} {i n : Nat} {ans : Addr → Str → Prop} {W0 : WX} {px : Addr → Prop} (hn : Γ.length = n) (hi : i < n) (h : ∀ (S1 : Hp) (W : WX), Takes1 ⟨F.K, F.B, S1, fun _ _ _ => True, px⟩ n W → Wp ⟨F.K, F.B, S1, fun _ _ _ => True, px⟩ (tb W) Γ nx rt bk ct)
    (hx : ∀ C, px C → PySem.W.exmOne F.K (.ref C) (.ref R) = some true ∧ ∃ x, ans C x ∧ rt (.d (.str x)) (blank n)) :
    Wp F (tTryW F.K (.ref R) i (fun a cls d => tRet (tErr a cls d ans (tCons (tVar i) tNil))) W0 tb) Γ nx rt bk ct := wp_tryG hn hi h hx
section
variable {P : Program} {w : World} {K : PySem.W.Frag} {mg : Str → Option Value} {base : Heap} {CXx : CXT} {k j n : Nat} {f f2 f3 f4 : Addr} {fd : FuncData} {ps ks : List Str} {sp sp2 sp3 sp4 : Sp}
theorem cand_of (F : FnOk P w K mg base CXx k f fd ps sp) (hk : k ≤ j) (kp : PySem.W.keepIn K (.ref f) = true) (b : Binds K fd ps []) : Cand P w K mg base CXx j f sp := ⟨fd, ps, k, F, hk, kp, b⟩
theorem candK_of (F : FnOk P w K mg base CXx k f fd ps sp) (hk : k ≤ j) (kp : PySem.W.keepIn K (.ref f) = true) (b : KBn K fd ps n ks (· ++ ·) (· ++ ·)) : CandK P w K mg base CXx j n ks f sp := ⟨fd, ps, k, F, hk, kp, b⟩
theorem cand2 (h1 : Cand P w K mg base CXx j f sp) (h2 : Cand P w K mg base CXx j f2 sp2) : ∀ c ∈ [(f, sp), (f2, sp2)], Cand P w K mg base CXx j c.1 c.2 := fun c hc => by
  rcases List.mem_cons.mp hc with e | hc
  · rw [e]; exact h1
  · rw [List.mem_singleton.mp hc]; exact h2
theorem cand3 (h1 : Cand P w K mg base CXx j f sp) (h2 : Cand P w K mg base CXx j f2 sp2) (h3 : Cand P w K mg base CXx j f3 sp3) : ∀ c ∈ [(f, sp), (f2, sp2), (f3, sp3)], Cand P w K mg base CXx j c.1 c.2 := fun c hc => by
  rcases List.mem_cons.mp hc with e | hc
  · rw [e]; exact h1
  · exact cand2 h2 h3 c hc
theorem cand4 (h1 : Cand P w K mg base CXx j f sp) (h2 : Cand P w K mg base CXx j f2 sp2) (h3 : Cand P w K mg base CXx j f3 sp3) (h4 : Cand P w K mg base CXx j f4 sp4) : ∀ c ∈ [(f, sp), (f2, sp2), (f3, sp3), (f4, sp4)], Cand P w K mg base CXx j c.1 c.2 := fun c hc => by
  rcases List.mem_cons.mp hc with e | hc
  · rw [e]; exact h1
  · exact cand3 h2 h3 h4 c hc
end

/-! ### _law_outcome of k01 -/
def exc01 (a : Nat × PyData × PyData) : Str := if a.1 ≤ 2 then (if isGroupsB a.2.1 = true then "InvalidSystem" else "InvalidGroups") else "InvalidSeen"
def word01 (a : Nat × PyData × PyData) : Str := if a.1 ≤ 2 then (if isGroupsB a.2.1 = true then "system" else "groups") else "seen"
abbrev con_ranksX (K : PySem.W.Frag) : Con := { α := PyData × PyData, args := fun a => [.d a.1, .d a.2], pre := fun a => isGroupsB a.1 = false ∨ (isGroupsB a.1 = true ∧ isSysB a.2 = false), post := fun _ _ => False, exc := fun a C => C = He.ga K (if isGroupsB a.1 = true then "InvalidSystem" else "InvalidGroups") }
theorem ok_ranksX (T : Tx K mg) : FnOk P w K mg base (L2N.CX P w) (3 + 1) (He.ga K "ranks") T.fd_ranks ["groups", "system"] (spP K (con_ranksX K)) :=
  ⟨fun vs H Q E ⟨_, a, _, hv, _⟩ => by have := VPs.len hv; simpa using this,
    fun A outer s H args us vs Q E hr he hb hv ⟨S, a, h1, h2, h3, h4, h5⟩ => by
      rcases h3 with h3 | ⟨h3, h3'⟩
      · exact (ok_ranksR T).run A outer s H args us vs Q E hr he hb hv ⟨S, a, h1, h2, h3, h4, fun C H' hC => h5 C H' (by show C = _; rw [if_neg (by rw [h3]; exact Bool.false_ne_true)]; exact hC)⟩
      · exact (ok_ranksS T).run A outer s H args us vs Q E hr he hb hv ⟨S, a, h1, h2, ⟨h3, h3'⟩, h4, fun C H' hC => h5 C H' (by show C = _; rw [if_pos h3]; exact hC)⟩⟩
abbrev con_law_outcome01 : Con := { α := Nat × PyData × PyData, args := fun a => [.d (.int (a.1 : Int)), .d a.2.1, .d a.2.2], pre := fun a => (a.1 ≤ 2 ∧ isGroupsB a.2.1 = false) ∨ (a.1 = 0 ∧ isGroupsB a.2.1 = true ∧ isSysB a.2.2 = false) ∨ (3 ≤ a.1 ∧ a.1 ≤ 8 ∧ shortSeen a.2.1 ∧ isSeenB a.2.1 = false), post := fun a r => r = .d (.str (word01 a)) }
theorem ok_law_outcome (T : Tx K mg) : FnOk P w K mg base CX0 (5 + 1) (He.ga K "_law_outcome") T.fd_law_outcome ["call", "value", "odd"] (spP K con_law_outcome01) := by
  refine fn_ok T.F_law_outcome sc_law_outcome con_law_outcome01 (fun _ _ => rfl) (by decide) (fun _ _ h => h) fun cdv A outer s H E hr => ⟨_, (pss_cons (ps_tryW (i := 3) rfl rfl sc_law_outcome.nd rfl rfl ⟨rfl, by decide, .inl T.g_RankError⟩ takesF (fun W pn xe tk po => (pss_one (ps_if (pt_cmpR (opK rEqD K (op_eqD hr.units)) (pv 0) pe_int (nomark _))
          (pss_one (ps_expr (pe_callNS (ok_ranksX T) (hr.mono (by decide)) (by rfl) T.g_ranks T.F_ranks.kp (bi_ranks T) (fun σ => L2N.passAt tk σ) (pa_cons (pv 1) pa_nil) (pk_cons (pv 2) pk_nil))))
          (pss_one (ps_if (pt_cmpR op_lt (pv 0) pe_int (nomark _))
            (pss_one (ps_expr (pe_callF (cs := [(He.ga K "without", spP K (con_withoutR K)), (He.ga K "changed_by", spP K (con_changed_byR K))]) (cand2 (cand_of (ok_withoutR T) (by decide) T.F_without.kp (bi_without T)) (cand_of (ok_changed_byR T) (by decide) T.F_changed_by.kp (bi_changed_by T))) hr (fun σ => L2N.passAt tk σ) (pe_ix (ixK rIx K ix_seq) (pe_lst (pa_cons (pe_glob (v := .ref (He.ga K "without")) (by rfl) T.g_without rfl) (pa_cons (pe_glob (v := .ref (He.ga K "changed_by")) (by rfl) T.g_changed_by rfl) pa_nil))) (pe_op op_sub (pv 0) pe_int) (fun _ _ => rfl)) (pa_cons (pv 1) (pa_cons (pv 2) pa_nil)))))
            (pss_one (ps_if (pt_cmpR op_lt (pv 0) pe_int (nomark _))
              (pss_one (ps_expr (pe_callF (cs := [(He.ga K "fits", spP K (con_fitsR K)), (He.ga K "count_rankings", spP K (con_count_rankingsR K)), (He.ga K "marks", spP K (con_marksR K))]) (cand3 (cand_of (ok_fitsR T) (by decide) T.F_fits.kp (bi_fits T)) (cand_of (ok_count_rankingsR T) (by decide) T.F_count_rankings.kp (bi_count_rankings T)) (cand_of (ok_marksR T) (by decide) T.F_marks.kp (bi_marks T))) hr (fun σ => L2N.passAt tk σ) (pe_ix (ixK rIx K ix_seq) (pe_lst (pa_cons (pe_glob (v := .ref (He.ga K "fits")) (by rfl) T.g_fits rfl) (pa_cons (pe_glob (v := .ref (He.ga K "count_rankings")) (by rfl) T.g_count_rankings rfl) (pa_cons (pe_glob (v := .ref (He.ga K "marks")) (by rfl) T.g_marks rfl) pa_nil)))) (pe_op op_sub (pv 0) pe_int) (fun _ _ => rfl)) (pa_cons pe_int (pa_cons (pv 1) pa_nil)))))
              (pss_one (ps_if (pt_cmpR (opK rEqD K (op_eqD hr.units)) (pv 0) pe_int (nomark _))
                (pss_one (ps_expr (pe_callS (ok_ranking_atR T) (hr.mono (by decide)) (by rfl) T.g_ranking_at T.F_ranking_at.kp (bi_ranking_at T) (fun σ => L2N.passAt tk σ) (pa_cons pe_int (pa_cons (pv 1) (pa_cons (pv 2) pa_nil))))))
                (pss_one (ps_if (pt_cmpR (opK rEqD K (op_eqD hr.units)) (pv 0) pe_int (nomark _))
                  (pss_one (ps_expr (pe_callS (ok_clashR T) (hr.mono (by decide)) (by rfl) T.g_clash T.F_clash.kp (bi_clash T) (fun σ => L2N.passAt tk σ) (pa_cons pe_int (pa_cons (pv 1) pa_nil)))))
                  (pss_one (ps_expr (pe_callS (ok_possible_sizesR T) (hr.mono (by decide)) (by rfl) T.g_possible_sizes T.F_possible_sizes.kp (bi_possible_sizes T) (fun σ => L2N.passAt tk σ) (pa_cons (pv 1) pa_nil))))))))))))))) (fun a oe cls d pn hz hv => (pss_one (ps_ret (pe_callA (ok_law_error_name T) hr (by decide) hz hv (by rfl) T.g_law_error_name T.F_law_error_name.kp (bi_law_error_name T) (pa_cons (pv 3) pa_nil))))))
      (pss_one (ps_ret pe_str))), ?_⟩
  rintro B S0 E px ⟨c, d, e⟩ hp
  dsimp only [L2.cxOf, L2.Cx.nox, L2.Cx.wish] at hp ⊢
  apply wp_seq
  refine wp_tryW (px := fun C => C = He.ga K (exc01 (c, d, e))) (n := 4) rfl (by decide) (fun S1 W hW => ?_) (fun C hC => ?_)
  · have sc : SeqAt.shaped (.int (c : Int)) = true := sh_int _
    have z0 : SeqAt.shaped (.int 0) = true := sh_int _
    have z6 : SeqAt.shaped (.int 6) = true := sh_int _
    have z7 : SeqAt.shaped (.int 7) = true := sh_int _
    have i9 : isIntB (.int 9) 1 30 = true := by decide
    apply wp_if (b := decide ((c : Int) = 0))
    · refine evt_is (b := PyData.eqv (.int (c : Int)) (.int 0)) (by wtm_at "ev") (eqv_int _ _)
    · intro h
      rw [decide_eq_true_eq] at h
      have e0 : c = 0 := by omega
      subst e0
      apply wp_drop
      refine wpe_callNX (c := con_ranksX K) hW rfl (ss1 := [.d d]) (ks1 := [.d e]) (by wtm_at "ev") (by wtm_at "ev") rfl rfl (d, e) rfl rfl ?_ (fun _ h => h.elim) (fun C hC => hC)
      rcases hp with hp | hp | hp
      · exact .inl hp.2
      · exact .inr hp.2
      · omega
    intro h
    rw [decide_eq_false_iff_not] at h
    apply wp_if (b := decide ((c : Int) < 3))
    · wtm_at "ev"
    · intro h3
      rw [decide_eq_true_eq] at h3
      have hg : isGroupsB d = false := by
        rcases hp with hp | hp | hp
        · exact hp.2
        · omega
        · omega
      have ex : exc01 (c, d, e) = "InvalidGroups" := by unfold exc01; rw [if_pos (by show c ≤ 2; omega), if_neg (by rw [hg]; exact Bool.false_ne_true)]
      rcases (by omega : c = 1 ∨ c = 2) with e1 | e1
      · subst e1
        apply wp_drop
        refine wpe_callFX (f := He.ga K "without") (c := con_withoutR K) hW rfl (List.Mem.head _) (evs_pick (ws := [.ref (He.ga K "without"), .ref (He.ga K "changed_by")]) (j := 0) (eva_cons evs_raw (eva_cons evs_raw eva_nil)) (Nat.le_of_ble_eq_true rfl) (by wtm_at "evis") rfl) (EvA.wp (ss := [.d d, .d e]) (by wtm_at "ev") ⟨(d, e), rfl, rfl, hg, fun _ h => h.elim, fun C hC => by show C = He.ga K (exc01 _); rw [ex]; exact hC⟩)
      · subst e1
        apply wp_drop
        refine wpe_callFX (f := He.ga K "changed_by") (c := con_changed_byR K) hW rfl (List.Mem.tail _ (List.Mem.head _)) (evs_pick (ws := [.ref (He.ga K "without"), .ref (He.ga K "changed_by")]) (j := 1) (eva_cons evs_raw (eva_cons evs_raw eva_nil)) (Nat.le_of_ble_eq_true rfl) (by wtm_at "evis") rfl) (EvA.wp (ss := [.d d, .d e]) (by wtm_at "ev") ⟨(d, e), rfl, rfl, hg, fun _ h => h.elim, fun C hC => by show C = He.ga K (exc01 _); rw [ex]; exact hC⟩)
    intro h3
    rw [decide_eq_false_iff_not] at h3
    obtain ⟨c3, c8, hsh, hse⟩ : 3 ≤ c ∧ c ≤ 8 ∧ shortSeen d ∧ isSeenB d = false := by
      rcases hp with hp | hp | hp
      · omega
      · omega
      · exact hp
    have ex : exc01 (c, d, e) = "InvalidSeen" := by unfold exc01; rw [if_neg (by show ¬ c ≤ 2; omega)]
    have px : ∀ C, C = He.ga K "InvalidSeen" → C = He.ga K (exc01 (c, d, e)) := fun C hC => by rw [ex]; exact hC
    apply wp_if (b := decide ((c : Int) < 6))
    · wtm_at "ev"
    · intro h6
      rw [decide_eq_true_eq] at h6
      rcases (by omega : c = 3 ∨ c = 4 ∨ c = 5) with e1 | e1 | e1
      · subst e1
        apply wp_drop
        refine wpe_callFX (f := He.ga K "fits") (c := con_fitsR K) hW rfl (List.Mem.head _) (evs_pick (ws := [.ref (He.ga K "fits"), .ref (He.ga K "count_rankings"), .ref (He.ga K "marks")]) (j := 0) (eva_cons evs_raw (eva_cons evs_raw (eva_cons evs_raw eva_nil))) (Nat.le_of_ble_eq_true rfl) (by wtm_at "evis") rfl) (EvA.wp (ss := [.d (.int 9), .d d]) (by wtm_at "ev") ⟨(.int 9, d), rfl, rfl, ⟨i9, hsh, hse⟩, fun _ h => h.elim, px⟩)
      · subst e1
        apply wp_drop
        refine wpe_callFX (f := He.ga K "count_rankings") (c := con_count_rankingsR K) hW rfl (List.Mem.tail _ (List.Mem.head _)) (evs_pick (ws := [.ref (He.ga K "fits"), .ref (He.ga K "count_rankings"), .ref (He.ga K "marks")]) (j := 1) (eva_cons evs_raw (eva_cons evs_raw (eva_cons evs_raw eva_nil))) (Nat.le_of_ble_eq_true rfl) (by wtm_at "evis") rfl) (EvA.wp (ss := [.d (.int 9), .d d]) (by wtm_at "ev") ⟨(.int 9, d), rfl, rfl, ⟨i9, hsh, hse⟩, fun _ h => h.elim, px⟩)
      · subst e1
        apply wp_drop
        refine wpe_callFX (f := He.ga K "marks") (c := con_marksR K) hW rfl (List.Mem.tail _ (List.Mem.tail _ (List.Mem.head _))) (evs_pick (ws := [.ref (He.ga K "fits"), .ref (He.ga K "count_rankings"), .ref (He.ga K "marks")]) (j := 2) (eva_cons evs_raw (eva_cons evs_raw (eva_cons evs_raw eva_nil))) (Nat.le_of_ble_eq_true rfl) (by wtm_at "evis") rfl) (EvA.wp (ss := [.d (.int 9), .d d]) (by wtm_at "ev") ⟨(.int 9, d), rfl, rfl, ⟨i9, hsh, hse⟩, fun _ h => h.elim, px⟩)
    intro h6
    rw [decide_eq_false_iff_not] at h6
    apply wp_if (b := decide ((c : Int) = 6))
    · refine evt_is (b := PyData.eqv (.int (c : Int)) (.int 6)) (by wtm_at "ev") (eqv_int _ _)
    · intro _
      apply wp_drop
      exact wpe_callSX (c := con_ranking_atR K) hW rfl (EvA.wp (ss := [.d (.int 9), .d d, .d e]) (by wtm_at "ev") ⟨(.int 9, d, e), rfl, rfl, ⟨i9, hsh, hse⟩, fun _ h => h.elim, px⟩)
    intro _
    apply wp_if (b := decide ((c : Int) = 7))
    · refine evt_is (b := PyData.eqv (.int (c : Int)) (.int 7)) (by wtm_at "ev") (eqv_int _ _)
    · intro _
      apply wp_drop
      exact wpe_callSX (c := con_clashR K) hW rfl (EvA.wp (ss := [.d (.int 9), .d d]) (by wtm_at "ev") ⟨(.int 9, d), rfl, rfl, ⟨i9, hsh, hse⟩, fun _ h => h.elim, px⟩)
    intro _
    apply wp_drop
    exact wpe_callSX (c := con_possible_sizesR K) hW rfl (EvA.wp (ss := [.d d]) (by wtm_at "ev") ⟨d, rfl, rfl, ⟨hsh, hse⟩, fun _ h => h.elim, px⟩)
  · subst hC
    unfold exc01
    by_cases h2 : c ≤ 2
    · rw [if_pos h2]
      cases hg : isGroupsB d with
      | true =>
        rw [if_pos rfl]
        exact ⟨T.er_InvalidSystem.em, "system", ⟨"InvalidSystem", by decide +kernel, T.er_InvalidSystem, rfl, by decide +kernel⟩, rfl, by show _ = Sl.d (.str (word01 (c, d, e))); unfold word01; rw [if_pos h2, if_pos hg]⟩
      | false =>
        rw [if_neg Bool.false_ne_true]
        exact ⟨T.er_InvalidGroups.em, "groups", ⟨"InvalidGroups", by decide +kernel, T.er_InvalidGroups, rfl, by decide +kernel⟩, rfl, by show _ = Sl.d (.str (word01 (c, d, e))); unfold word01; rw [if_pos h2, if_neg (by rw [hg]; exact Bool.false_ne_true)]⟩
    · rw [if_neg h2]
      exact ⟨T.er_InvalidSeen.em, "seen", ⟨"InvalidSeen", by decide +kernel, T.er_InvalidSeen, rfl, by decide +kernel⟩, rfl, by show _ = Sl.d (.str (word01 (c, d, e))); unfold word01; rw [if_neg h2]⟩
theorem cl_law_outcome {F : Fx} {Γ : List Sl} {t : TA} {E : XK} {c : Nat} {d e : PyData} (h : EvA F t Γ [.d (.int (c : Int)), .d d, .d e]) (hp : con_law_outcome01.pre (c, d, e)) : EvS F (tCall (spP F.K con_law_outcome01) [] E t) Γ (.d (.str (word01 (c, d, e)))) :=
  evs_call (c := con_law_outcome01) (c, d, e) h rfl hp (fun _ h => h) fun _ h => h

theorem ok_law_seen (T : Tx K mg) : FnOk P w K mg base CX0 (2 + 1) (He.ga K "_law_seen") T.fd_law_seen ["source", "sizes", "most", "kinds"] (spS K con_law_seen) := by
  refine fn_okS T.F_law_seen sc_law_seen con_law_seen (fun _ _ => rfl) (by decide) fun cdv A outer s H E hr => ⟨_, (pss_cons (ps_par (i := 4) (j := 5) (by rfl) sc_law_seen.nd rfl rfl (by decide) rfl rfl (pa_cons (pe_call (ok_law_rows T) (hr.mono (by decide)) (by rfl) T.g_law_rows T.F_law_rows.kp (bi_law_rows T) .nil pass0 (pa_cons (pv 1) pa_nil)) (pa_cons (pe_lst pa_nil) pa_nil)) (by rfl))
      (pss_cons (ps_set (i := 6) sc_law_seen.nd rfl (.inl rfl) (pe_listRg rfl (by rfl) T.b_list (prg_1 (by rfl) T.b_range (pe_callB call_lenG (by rfl) T.b_len bt_len (pa_cons (pv 4) pa_nil)))))
      (pss_cons (ps_for PassesOwn.never rfl (pi_seq (pe_slice sl_G (pe_call0 (ok_law_people T) (hr.mono (by decide)) (by rfl) T.g_law_people T.F_law_people.kp (bi_law_people T) .nil pass0) po_none (po_some (pe_call (ok_law_pick T) (hr.mono (by decide)) (by rfl) T.g_law_pick T.F_law_pick.kp (bi_law_pick T) .nil pass0 (pa_cons (pv 0) (pa_cons (pe_op op_addG pe_int (pe_callB (call_min2 rfl) (by rfl) T.b_min bt_min (pa_cons (pv 2) (pa_cons (pe_callB call_lenG (by rfl) T.b_len bt_len (pa_cons (pv 4) pa_nil)) pa_nil)))) pa_nil)))))) (pg_name (i := 7) sc_law_seen.nd rfl (.inl rfl))
        (pss_cons (ps_set (i := 8) sc_law_seen.nd rfl (.inr rfl) (pe_ix ix_seq (pv 4) (pe_bm PySem.F.plainAttrs_list PySem.F.slot_list_pop PySem.F.type_list_pop mt_popAt (pv 6) (pa_cons (pe_call (ok_law_pick T) (hr.mono (by decide)) (by rfl) T.g_law_pick T.F_law_pick.kp (bi_law_pick T) .nil pass0 (pa_cons (pv 0) (pa_cons (pe_callB call_lenG (by rfl) T.b_len bt_len (pa_cons (pv 6) pa_nil)) pa_nil))) pa_nil)) (fun _ _ => rfl)))
        (pss_cons (ps_set (i := 9) sc_law_seen.nd rfl (.inr rfl) (pe_ix ix_seq (pv 3) (pe_call (ok_law_pick T) (hr.mono (by decide)) (by rfl) T.g_law_pick T.F_law_pick.kp (bi_law_pick T) .nil pass0 (pa_cons (pv 0) (pa_cons (pe_callB call_lenG (by rfl) T.b_len bt_len (pa_cons (pv 3) pa_nil)) pa_nil))) (fun _ _ => rfl)))
        (pss_one (ps_expr (pe_bm PySem.F.plainAttrs_list PySem.F.slot_list_append PySem.F.type_list_append mt_append (pv 5) (pa_cons (pe_op op_addG (pe_tup (pa_cons (pv 7) pa_nil)) (pe_callTy call_tuple_of (by rfl) T.b_tuple bt_tuple (pa_cons (pe_lc (own := [("at", 10)]) rfl sc_law_seen.nd (pi_range1 (by rfl) T.b_range (pa_cons pe_int pa_nil)) (blkOk_by (own := [("at", 10)]) (N := ["source", "sizes", "most", "kinds", "rows", "found", "spots", "name", "row", "kind", "at", "shift", "other", "rank"]) (sc := defScope s_law_seen) (by decide +kernel)) (fun _ _ _ _ _ => (pg_name (i := 10) sc_law_seen.nd rfl (.inl rfl))) (fun _ _ _ _ _ => pts_nil) (fun _ _ _ _ _ => (pe_ifExp (pt_cmpR (opK rInG K op_in_G) (pv 10) (pv 9) (by with_unfolding_all rfl)) (pe_ix (ixK rIx K ix_seq) (pv 8) (pv 10) (fun _ _ => rfl)) pe_non))) pa_nil))) pa_nil)))))))
      (pss_cons (ps_if (PW.pt (pw_and (pt_cmpR (op_neD hr.units) (pv 5) (pe_lst pa_nil) (nomark _)) (pw_and1 (pt_cmpR (op_eqD hr.units) (pe_call (ok_law_pick T) (hr.mono (by decide)) (by rfl) T.g_law_pick T.F_law_pick.kp (bi_law_pick T) .nil pass0 (pa_cons (pv 0) (pa_cons pe_int pa_nil))) pe_int (nomark _)))))
        (pss_cons (ps_set (i := 10) sc_law_seen.nd rfl (.inl rfl) (pe_call (ok_law_pick T) (hr.mono (by decide)) (by rfl) T.g_law_pick T.F_law_pick.kp (bi_law_pick T) .nil pass0 (pa_cons (pv 0) (pa_cons (pe_callB call_lenG (by rfl) T.b_len bt_len (pa_cons (pv 5) pa_nil)) pa_nil))))
        (pss_cons (ps_set (i := 11) sc_law_seen.nd rfl (.inr rfl) (pe_op op_sub (pe_call (ok_law_pick T) (hr.mono (by decide)) (by rfl) T.g_law_pick T.F_law_pick.kp (bi_law_pick T) .nil pass0 (pa_cons (pv 0) (pa_cons pe_int pa_nil))) pe_int))
        (pss_cons (ps_set (i := 12) sc_law_seen.nd rfl (.inl rfl) (pe_op op_addG (pe_slice sl_G (pe_ix ix_seq (pv 5) (pv 10) (fun _ _ => rfl)) po_none (po_some pe_int)) (pe_callTy call_tuple_of (by rfl) T.b_tuple bt_tuple (pa_cons (pe_lc (own := [("rank", 13)]) rfl sc_law_seen.nd (pi_seq (pe_slice sl_G (pe_ix ix_seq (pv 5) (pv 10) (fun _ _ => rfl)) (po_some pe_int) po_none)) (blkOk_by (own := [("rank", 13)]) (N := ["source", "sizes", "most", "kinds", "rows", "found", "spots", "name", "row", "kind", "at", "shift", "other", "rank"]) (sc := defScope s_law_seen) (by decide +kernel)) (fun _ _ _ _ _ => (pg_name (i := 13) sc_law_seen.nd rfl (.inl rfl))) (fun _ _ _ _ _ => pts_nil) (fun _ _ _ _ _ => (pe_ifExp (pt_cmpR op_isN (pv 13) pe_non (nomark _)) pe_non (pe_callB (call_max2 rfl) (by rfl) T.b_max bt_max (pa_cons pe_int (pa_cons (pe_op (opK rAddG K op_addG) (pv 13) (pv 11)) pa_nil)))))) pa_nil))))
        (pss_one (ps_asg (pe_ifExp (pt_val (pe_call (ok_law_is_good_person T) (hr.mono (by decide)) (by rfl) T.g_law_is_good_person T.F_law_is_good_person.kp (bi_law_is_good_person T) .nil pass0 (pa_cons (pv 12) pa_nil))) (pv 12) (pe_ix ix_seq (pv 5) (pv 10) (fun _ _ => rfl))) (pg_sub (pv 5) (pv 10) set_list))))))
        pss_nil)
      (pss_one (ps_ret (pe_callTy call_tuple_of (by rfl) T.b_tuple bt_tuple (pa_cons (pv 5) pa_nil)))))))), ?_⟩
  rintro B S0 E px a ⟨b, ns, most, kinds⟩ ⟨hb, hns, hm0, hm1, hk0, hk1, hk2⟩
  dsimp only [L2.cxOf, L2.Cx.nox, L2.Cx.wish] at hb hns hm0 hm1 hk0 hk1 hk2 ⊢
  have hs := hns.2.2
  have hrl := rowsF_len ns 0 0 hns.2.1
  have hr1 : 1 ≤ (rowsF 0 0 ns).length := by
    have h1 := sum_nonneg' hns.2.1
    have h2 : 1 ≤ ns.length := by cases ns with | nil => exact absurd rfl hns.1 | cons _ _ => simp
    omega
  have hrow : ∀ r ∈ rowsF 0 0 ns, 1 ≤ r.2.2 ∧ r.2.2 ≤ r.1 ∧ r.1 ≤ r.2.1 ∧ r.2.1 ≤ 30 := fun r hr => by
    have := rowsF_ok ns 0 0 hns.2.1 (Int.le_refl _) r hr
    omega
  apply wp_seq
  apply wp_parE (s1 := .lst ((rowsF 0 0 ns).map encRow)) (s2 := .lst []) (cl_law_rows (by wtm_at "ev") hns.2.1 hs) (by wtm_at "ev") rfl rfl (by decide) (lt_ble rfl) (lt_ble rfl)
  refine wp_share (i := 4) rfl ?_
  generalize hrows : rowsF 0 0 ns = rows at *
  have hL : (rows.map encRow).length = rows.length := List.length_map ..
  apply wp_seq
  apply wp_asg (s := .lst (rangeD 0 rows.length))
  · refine evs_is (evs_rg1 (n := (rows.length : Nat)) ?_ (by omega) (by omega)) (by rw [Int.toNat_natCast])
    refine evs_is (by wtm_at "ev") (by rw [List.length_map])
  · exact lt_ble rfl
  · rfl
  apply wp_seq
  apply wp_for
  apply wpi_seqL
  refine wpe_slD (x := .lst (manyNames.map PyData.str)) cl_law_people rfl rfl ?_
  apply cw_law_pick (s0 := .src a (srcD b)) (b := b) (n := 1 + (if ((rows.map encRow).length : Int) < most then ((rows.map encRow).length : Int) else most)) rfl rfl hb (by wtm_at "ev") (by split <;> omega) (by split <;> omega)
  intro x b1 x1 x2 hb1
  refine ⟨x, rfl, _, rfl, ?_⟩
  have hxm : x ≤ most ∧ x ≤ rows.length := by split at x2 <;> omega
  rw [cutD_map, cutD_take _ x1]
  have hxl : (manyNames.take x.toNat).length = x.toNat := by
    rw [List.length_take]
    have : manyNames.length = 12 := rfl
    omega
  refine forW_map (enc := PyData.str) (xs := manyNames.take x.toNat) (fun i rest Γ => ∃ (b : Int × Int × Int) (ps : List Per) (sp : List Int) (g7 g8 g9 g10 g11 g12 g13 : Sl), Γ = [.src a (srcD b), .d (.tuple (ns.map PyData.int)), .d (.int most), .d (.list (kinds.map encK)), .d (.list (rows.map encRow)), .lst (ps.map Per.enc), .lst (sp.map PyData.int), g7, g8, g9, g10, g11, g12, g13] ∧ SrcOk b ∧ SeenW kinds ps ∧ ps.map Per.name ++ rest = manyNames.take x.toNat ∧ sp.length + i = rows.length ∧ ps.length = i ∧ ∀ q ∈ sp, 0 ≤ q ∧ q < rows.length)
    ⟨b1, [], (List.range rows.length).map (fun i : Nat => 0 + (i : Int)), _, _, _, _, _, _, _, by rw [List.map_map]; rfl, hb1, ⟨by simp, by simp, by simp⟩, rfl, by simp, rfl, fun q hq => by simp at hq; obtain ⟨i, hi, rfl⟩ := hq; omega⟩ ?_ ?_
  · rintro i nm rest Γ ⟨b2, ps, sp, g7, g8, g9, g10, g11, g12, g13, rfl, hb2, hw, hnm, hsl, hpl, hsp⟩
    have hmem : nm ∈ manyNames := List.mem_of_mem_take (i := x.toNat) (by rw [← hnm]; simp)
    have hi : i < x.toNat := by
      have := congrArg List.length hnm
      rw [List.length_append, List.length_map, hpl, hxl] at this
      simp at this; omega
    refine GTo.wp (gto_name (lt_ble rfl)) ?_
    apply wp_seq
    -- row
    apply wp_asgW
    refine wpe_opR (x := .d (.list (rows.map encRow))) (by wtm_at "ev") rfl ?_
    refine wpe_popAt (ds := sp.map PyData.int) rfl ?_
    have hS : (sp.map PyData.int).length = sp.length := List.length_map ..
    apply cw_law_pick (s0 := .src a (srcD b2)) (b := b2) (n := ((sp.map PyData.int).length : Nat)) rfl rfl hb2 (by wtm_at "ev") (by omega) (by omega)
    intro j b3 j1 j2 hb3
    have hj : j.toNat < sp.length := by omega
    obtain ⟨q1, q2⟩ := hsp sp[j.toNat] (List.getElem_mem hj)
    refine ⟨j.toNat, .int sp[j.toNat], by rw [show ((j.toNat : Nat) : Int) = j by omega], rfl, by rw [List.getElem?_map, List.getElem?_eq_getElem hj]; rfl, by rw [List.length_map]; omega, ?_⟩
    have hq : (sp[j.toNat]).toNat < rows.length := by omega
    obtain ⟨row, hrow'⟩ : ∃ row, rows[(sp[j.toNat]).toNat]? = some row := ⟨_, List.getElem?_eq_getElem hq⟩
    have hrm : row ∈ rows := List.mem_of_getElem? hrow'
    refine ⟨.d (encRow row), ix_at (ds := rows.map encRow) rfl ?_, rfl, lt_ble rfl, ?_⟩
    · have e : sp[j.toNat] = (((sp[j.toNat]).toNat : Nat) : Int) := by omega
      rw [e]
      exact atI_nat' (by rw [List.getElem?_map, hrow']; rfl)
    -- kind
    apply wp_seq
    apply wp_asgW
    refine wpe_opR (x := .d (.list (kinds.map encK))) (by wtm_at "ev") rfl ?_
    have hkl : 1 ≤ kinds.length := by cases kinds with | nil => exact absurd rfl hk0 | cons _ _ => simp
    have hK : (kinds.map encK).length = kinds.length := List.length_map ..
    apply cw_law_pick (s0 := .src a (srcD b3)) (b := b3) (n := ((kinds.map encK).length : Nat)) rfl rfl hb3 (by wtm_at "ev") (by omega) (by omega)
    intro y b4 y1 y2 hb4
    have hy : y.toNat < kinds.length := by omega
    obtain ⟨kd, hkd⟩ : ∃ kd, kinds[y.toNat]? = some kd := ⟨_, List.getElem?_eq_getElem hy⟩
    have hkm : kd ∈ kinds := List.mem_of_getElem? hkd
    obtain ⟨kd0, kd1⟩ := hk2 kd hkm
    refine ⟨.d (encK kd), ix_at (ds := kinds.map encK) rfl ?_, rfl, lt_ble rfl, ?_⟩
    · have e : y = ((y.toNat : Nat) : Int) := by omega
      rw [e]
      exact atI_nat' (by rw [List.getElem?_map, hkd]; rfl)
    have hr := hrow row hrm
    let p : Per := ⟨nm, pickR kd 0 row.1, pickR kd 1 row.2.1, pickR kd 2 row.2.2⟩
    have hp : p.ok = true := row_ok (manyNames_ok nm hmem) kd0 kd1 hr
    refine wp_append (s0 := .lst (ps.map Per.enc)) (ds := ps.map Per.enc) (d := p.enc) rfl rfl ?_ (sz' (by rw [List.length_map]; omega)) ?_
    · refine evs_is (x := .d (.tuple ([.str nm] ++ [oI p.first, oI p.last, oI p.dense]))) ?_ rfl
      apply evs_op
      · wtm_at "ev"
      · refine evs_cb (ss := [.lst [oI p.first, oI p.last, oI p.dense]]) (eva_cons ?_ eva_nil) (tup_lst rfl)
        let rk : Int → Int := fun i => if i = 0 then row.1 else if i = 1 then row.2.1 else row.2.2
        refine evs_is (x := .lst ((([0, 1, 2] : List Int)).map fun i => oI (pickR kd i (rk i)))) ?_ rfl
        refine evs_lc (items := ([0, 1, 2] : List Int).map PyData.int) ?_ (gvs_name (by decide)) (sz' (Nat.le_of_ble_eq_true rfl)) ?_
        · exact evi_range1 (j := 3) (by wtm_at "ev") (by decide) (by decide)
        · refine lcp_all (f := fun i => oI (pickR kd i (rk i))) fun i hi => ⟨_, gto_name (lt_ble rfl), ?_⟩
          refine evs_is (evs_ifD (b := hasL kd i) (d := .int (rk i)) (e := .none) ?_ (fun _ => ?_) (fun _ => ?_)) ?_
          · rw [← any_kd]
            apply evt_test
            apply evs_op
            · wtm_at "ev"
            · wtm_at "ev"
            · exact in_G (r' := rInG K) (in_seq (ds := kd.map PyData.int) rfl rfl (flat_ints' kd))
          · apply evs_op
            · wtm_at "ev"
            · wtm_at "ev"
            · refine ix_at (ds := [.int row.1, .int row.2.1, .int row.2.2]) rfl ?_
              simp at hi
              rcases hi with rfl | rfl | rfl <;> rfl
          · wtm_at "ev"
          · unfold pickR
            cases hasL kd i <;> rfl
      · exact add_tup (ds := [.str nm]) (sz (Nat.le_of_ble_eq_true rfl))
    · refine ⟨b4, ps ++ [p], sp.eraseIdx j.toNat, .d (.str nm), .d (encRow row), .d (encK kd), g10, g11, g12, g13, ?_, hb4, ⟨?_, ?_, ?_⟩, ?_, ?_, ?_, ?_⟩
      · rw [List.map_append]
        have e : (sp.map PyData.int).eraseIdx j.toNat = (sp.eraseIdx j.toNat).map PyData.int := by
          rw [List.eraseIdx_eq_take_drop_succ, List.eraseIdx_eq_take_drop_succ, List.map_append, List.map_take, List.map_drop]
        rw [← e]; rfl
      · intro p' hp'
        rcases List.mem_append.mp hp' with h | h
        · exact hw.ok p' h
        · rw [List.mem_singleton] at h; subst h; exact hp
      · intro p' hp'
        rcases List.mem_append.mp hp' with h | h
        · exact hw.names p' h
        · rw [List.mem_singleton] at h; subst h; exact hmem
      · intro p' hp'
        rcases List.mem_append.mp hp' with h | h
        · exact hw.pat p' h
        · rw [List.mem_singleton] at h; subst h; exact ⟨kd, hkm, pickR_some, pickR_some, pickR_some⟩
      · rw [← hnm, List.map_append, List.append_assoc]; rfl
      · rw [List.length_eraseIdx]; split <;> omega
      · rw [List.length_append, hpl]; rfl
      · intro q hq
        exact hsp q (List.mem_of_mem_eraseIdx hq)
  · rintro i Γ ⟨b2, ps, sp, g7, g8, g9, g10, g11, g12, g13, rfl, hb2, hw, hnm, hsl, hpl, hsp⟩
    rw [List.append_nil] at hnm
    have hpx : (ps.length : Int) ≤ x := by
      have := congrArg List.length hnm
      rw [List.length_map, hxl] at this
      omega
    have hlen : ps.length ≤ 12 := by omega
    have hnd : (ps.map Per.name).Nodup := by rw [hnm]; exact List.Nodup.sublist (List.take_sublist _ _) manyNames_nodup
    have fin : ∀ {nx : List Sl → Prop} (b : Int × Int × Int) (qs : List Per) (g7 g8 g9 g10 g11 g12 g13 : Sl), SrcOk b → SeenW kinds qs → qs.map Per.name = ps.map Per.name → Wp ⟨K, B, S0, E, px⟩ (tRet (tCB (rTupG K) (tCons (tVar 5) tNil))) [.src a (srcD b), .d (.tuple (ns.map PyData.int)), .d (.int most), .d (.list (kinds.map encK)), .d (.list (rows.map encRow)), .lst (qs.map Per.enc), .lst (sp.map PyData.int), g7, g8, g9, g10, g11, g12, g13] nx (fun r Γ => r.back = true ∧ ∃ ds, Γ[0]? = some (.src a ds) ∧ ∃ ps b, r = .d (encSeen ps) ∧ SeenOk ps ∧ SeenW kinds ps ∧ (ps.length : Int) ≤ most ∧ ds = srcD b ∧ SrcOk b) (fun _ => False) (fun _ => False) := by
      intro nx b qs g7 g8 g9 g10 g11 g12 g13 hb hq e
      have el : qs.length = ps.length := by have := congrArg List.length e; simpa using this
      apply wp_ret
      apply EvS.wp
      · wtm_at "ev"
      · exact ⟨rfl, _, rfl, qs, b, rfl, ⟨by omega, hq.ok, by rw [e]; exact hnd⟩, hq, by omega, rfl, hb⟩
    have hW : SeenW kinds ps := hw
    apply wp_seq
    apply wp_ifW
    apply wpt_and
    apply EvT.wp
    · apply evt_test
      apply evs_op
      · wtm_at "ev"
      · wtm_at "ev"
      · exact ops_neD rfl rfl (sh_pers hw.names) sh_nil
    rw [eqv_nil]
    refine ⟨fun he => ?_, fun he => ⟨fun q => (nomatch q), fun _ => wp_next (fin _ _ _ _ _ _ _ _ _ hb2 hw rfl)⟩⟩
    have hne : 1 ≤ ps.length := by
      cases ps with
      | nil => cases he
      | cons _ _ => simp
    have hP : (ps.map Per.enc).length = ps.length := List.length_map ..
    apply wpt_test
    apply wpe_op
    apply cw_law_pick (s0 := .src a (srcD b2)) (b := b2) (n := 5) rfl rfl hb2 (by wtm_at "ev") (by decide) (by decide)
    intro u b3 u1 u2 hb3
    refine ⟨rfl, ?_⟩
    apply EvS.wp
    · wtm_at "ev"
    refine ⟨_, ops_eqD rfl rfl (sh_int _) (sh_int _), _, rfl, fun _ => ?_, fun _ => wp_next (fin _ _ _ _ _ _ _ _ _ hb3 hw rfl)⟩
    apply wp_seq
    apply wp_asgW
    apply cw_law_pick (s0 := .src a (srcD b3)) (b := b3) (n := ((ps.map Per.enc).length : Nat)) rfl rfl hb3 (by wtm_at "ev") (by omega) (by omega)
    intro j b4 j1 j2 hb4
    refine ⟨rfl, lt_ble rfl, ?_⟩
    apply wp_seq
    apply wp_asgW
    apply wpe_op
    apply cw_law_pick (s0 := .src a (srcD b4)) (b := b4) (n := 3) rfl rfl hb4 (by wtm_at "ev") (by decide) (by decide)
    intro v b5 v1 v2 hb5
    refine ⟨rfl, ?_⟩
    apply EvS.wp
    · wtm_at "ev"
    refine ⟨_, ops_I0, rfl, lt_ble rfl, ?_⟩
    have hj : j.toNat < ps.length := by omega
    obtain ⟨p, hp⟩ : ∃ p, ps[j.toNat]? = some p := ⟨_, List.getElem?_eq_getElem hj⟩
    have hpm : p ∈ ps := List.mem_of_getElem? hp
    have hx : atI (ps.map Per.enc) j = some p.enc := by
      have e : j = ((j.toNat : Nat) : Int) := by omega
      rw [e]
      exact atI_nat' (by rw [List.getElem?_map, hp]; rfl)
    have ename := manyNames_ok _ (hw.names p hpm)
    let sh := v - 1
    apply wp_seq
    apply wp_asg (s := .d (p.shift sh).enc)
    · refine evs_is (x := .d (.tuple ([.str p.name] ++ [oI (shiftO sh p.first), oI (shiftO sh p.last), oI (shiftO sh p.dense)]))) ?_ rfl
      apply evs_op
      · refine evs_is (x := .d (.tuple (cutD [.str p.name, oI p.first, oI p.last, oI p.dense] none (some 1)))) ?_ rfl
        refine evs_slT (x := .d (.tuple [.str p.name, oI p.first, oI p.last, oI p.dense])) ?_ rfl evo_no (evo_some (by wtm_at "ev"))
        apply evs_op
        · wtm_at "ev"
        · wtm_at "ev"
        · exact ix_at rfl hx
      · refine evs_cb (ss := [.lst [oI (shiftO sh p.first), oI (shiftO sh p.last), oI (shiftO sh p.dense)]]) (eva_cons ?_ eva_nil) (tup_lst rfl)
        refine evs_is (x := .lst (([p.first, p.last, p.dense] : List (Option Int)).map fun o => oI (shiftO sh o))) ?_ rfl
        refine evs_lc (items := ([p.first, p.last, p.dense] : List (Option Int)).map oI) ?_ (gvs_name (by decide)) (sz' (Nat.le_of_ble_eq_true rfl)) ?_
        · apply evi_seqT
          refine evs_is (x := .d (.tuple (cutD [.str p.name, oI p.first, oI p.last, oI p.dense] (some 1) none))) ?_ rfl
          refine evs_slT (x := .d (.tuple [.str p.name, oI p.first, oI p.last, oI p.dense])) ?_ rfl (evo_some (by wtm_at "ev")) evo_no
          apply evs_op
          · wtm_at "ev"
          · wtm_at "ev"
          · exact ix_at rfl hx
        · refine lcp_all (f := fun o => oI (shiftO sh o)) fun o _ => ⟨_, gto_name (lt_ble rfl), ?_⟩
          cases o with
          | none =>
            refine evs_is (evs_ifD (b := true) (d := .none) (e := .none) (by wtm_at "evtis") (fun _ => by wtm_at "ev") (fun q => nomatch q)) rfl
          | some i =>
            refine evs_is (evs_ifD (b := false) (d := .none) (e := .int (if i + sh > 1 then i + sh else 1)) (by wtm_at "evtis") (fun q => nomatch q) (fun _ => ?_)) rfl
            apply evs_cb
            · wtm_at "ev"
            · exact max2
      · exact add_tup (ds := [.str p.name]) (sz (Nat.le_of_ble_eq_true rfl))
    · exact lt_ble rfl
    · rfl
    refine wp_setL (s0 := .lst (ps.map Per.enc)) (ds := ps.map Per.enc) (j := j) (n := j.toNat) (d := if ranksOk (shiftO sh p.first) (shiftO sh p.last) (shiftO sh p.dense) = true then (p.shift sh).enc else p.enc) rfl rfl ?_ (by wtm_at "ev") ?_ ?_
    · refine evs_ifD ?_ (fun _ => by wtm_at "ev") (fun _ => ?_)
      · apply evt_B
        exact cl_law_is_good_person (p := p.shift sh) (by wtm_at "ev") ename
      · apply evs_op
        · wtm_at "ev"
        · wtm_at "ev"
        · exact ix_at rfl hx
    · rw [hP]
      unfold ixN
      rw [if_pos j1, if_pos (by omega)]
    · let p2 : Per := if ranksOk (shiftO sh p.first) (shiftO sh p.last) (shiftO sh p.dense) = true then p.shift sh else p
      have e2 : (if ranksOk (shiftO sh p.first) (shiftO sh p.last) (shiftO sh p.dense) = true then (p.shift sh).enc else p.enc) = p2.enc := by
        show _ = (if _ then _ else _ : Per).enc
        split <;> rfl
      have en2 : p2.name = p.name := by show (if _ then _ else _ : Per).name = _; split <;> rfl
      have eok : p2.ok = true := by
        show (if _ then _ else _ : Per).ok = true
        split
        · rename_i q; simp only [Per.ok, Per.shift, q, Bool.and_true]; exact ename
        · exact hw.ok p hpm
      have epat : ∀ kd, Pat kd p → Pat kd p2 := fun kd h => by
        show Pat kd (if _ then _ else _ : Per)
        split
        · exact ⟨by show (shiftO sh p.first).isSome = _; rw [shiftO_some, h.f], by show (shiftO sh p.last).isSome = _; rw [shiftO_some, h.l], by show (shiftO sh p.dense).isSome = _; rw [shiftO_some, h.d]⟩
        · exact h
      rw [e2]
      have es : (ps.map Per.enc).set j.toNat p2.enc = (ps.set j.toNat p2).map Per.enc := by rw [List.map_set]
      show Wp _ _ [.src a (srcD b5), .d (.tuple (ns.map PyData.int)), .d (.int most), .d (.list (kinds.map encK)), .d (.list (rows.map encRow)), .lst ((ps.map Per.enc).set j.toNat p2.enc), .lst (sp.map PyData.int), _, _, _, _, _, _, _] _ _ _ _
      rw [es]
      have hmem : ∀ q ∈ ps.set j.toNat p2, q ∈ ps ∨ q = p2 := fun q hq => List.mem_or_eq_of_mem_set hq
      refine fin b5 (ps.set j.toNat p2) _ _ _ _ _ _ _ hb5 ⟨fun q hq => ?_, fun q hq => ?_, fun q hq => ?_⟩ ?_
      · rcases hmem q hq with h | rfl
        · exact hw.ok q h
        · exact eok
      · rcases hmem q hq with h | rfl
        · exact hw.names q h
        · rw [en2]; exact hw.names p hpm
      · rcases hmem q hq with h | rfl
        · exact hw.pat q h
        · obtain ⟨kd, hk, h⟩ := hw.pat p hpm
          exact ⟨kd, hk, epat kd h⟩
      · rw [List.map_set, en2]
        apply List.ext_getElem?
        intro i
        by_cases hi : i = j.toNat
        · subst hi
          rw [List.getElem?_set_self (by rw [List.length_map]; exact hj), List.getElem?_map, hp]; rfl
        · rw [List.getElem?_set_ne (fun q => hi q.symm)]
theorem cw_law_seen {F : Fx} {Γ : List Sl} {t : TA} {E : XK} {k : Sl → List Sl → Prop} {i : Nat} {s0 : Sl} {b : Int × Int × Int} {ns : List Int} {most : Int} {kinds : List (List Int)} (hi : Γ[i]? = some s0) (ho : s0.ownL = some (srcD b)) (hb : SrcOk b) (h : EvA F t Γ [.d (.tuple (ns.map PyData.int)), .d (.int most), .d (.list (kinds.map encK))]) (h1 : GoodNs ns 30) (h2 : 0 ≤ most) (h3 : most ≤ 12) (h4 : KindsOk kinds)
    (hk : ∀ ps b', SeenOk ps → SeenW kinds ps → (ps.length : Int) ≤ most → SrcOk b' → k (.d (encSeen ps)) (Γ.set i (s0.withL (srcD b')))) : WpE F (tCall (spS F.K con_law_seen) [] E (tCons (tVar i) t)) Γ k :=
  wpe_callS (c := con_law_seen) (b, ns, most, kinds) hi ho h rfl ⟨hb, h1, h2, h3, h4⟩ fun r ds' ⟨ps, b', e1, q1, q2, q3, e2, q4⟩ => by subst e1 e2; exact hk ps b' q1 q2 q3 q4

/-! ### _law_is_bool -/
abbrev con_law_is_bool : Con := { α := Bool × Bool, args := fun a => [.d (.bool a.1), .d (.bool a.2)], pre := fun _ => True, post := fun a r => r = .d (.bool (a.1 == a.2)) }
theorem ok_law_is_bool (T : Tx K mg) : FnOk P w K mg base CX0 (0 + 1) (He.ga K "_law_is_bool") T.fd_law_is_bool ["actual", "expected"] (spP K con_law_is_bool) := by
  refine fn_ok T.F_law_is_bool sc_law_is_bool con_law_is_bool (fun _ _ => rfl) (by decide) (fun _ _ h => h) fun cdv A outer s H E hr => ⟨_, (pss_one (ps_ret (pe_and (pe_callB call_isi (by rfl) T.b_isinstance bt_isinstance (pa_cons (pv 0) (pa_cons (pe_bltn (v := .ty "bool") (by rfl) T.b_bool bt_bool rfl) pa_nil))) (pe_one (pe_cmpR (op_eqD hr.units) (pv 0) (pv 1) (nomark _)))))), ?_⟩
  rintro B S0 E px ⟨a, b⟩ -
  dsimp only [L2.cxOf, L2.Cx.nox, L2.Cx.wish]
  refine wp_ret ?_
  have sa := sh_bool a
  have sb := sh_bool b
  apply EvS.wp
  · wtm_at "ev"
  · refine ⟨rfl, ?_⟩
    cases a <;> cases b <;> simp [isB, PyData.eqv]
theorem cl_law_is_bool {F : Fx} {Γ : List Sl} {t : TA} {E : XK} {a b : Bool} (h : EvA F t Γ [.d (.bool a), .d (.bool b)]) : EvS F (tCall (spP F.K con_law_is_bool) [] E t) Γ (.d (.bool (a == b))) :=
  evs_call (c := con_law_is_bool) (a, b) h rfl trivial (fun _ h => h) fun _ h => h

/-! ### law of k01 -/
theorem shortS_ok {d : PyData} (h : shortD d) : shortS d := by
  obtain ⟨t, l, k, ht, _, _, ok⟩ := h
  cases d with
  | str a => exact Nat.le_trans (okD_str ok).1 ht
  | _ => trivial
theorem shortP_ok {d : PyData} (h : shortD d) : shortP d := by
  cases d with
  | tuple ds =>
    cases ds with
    | nil => trivial
    | cons n r => exact shortS_ok (shortD_sub h n (by simp))
  | _ => trivial
theorem shortSeen_ok {d : PyData} (h : shortD d) : shortSeen d := by
  cases d with
  | tuple ds => exact fun e he => shortP_ok (shortD_sub h e he)
  | _ => trivial
def okV (d : PyData) : Prop := okD 20 40 8 d = true
theorem okV_short {d : PyData} (h : okV d) : shortD d := ⟨20, 40, 8, by decide, by decide, by decide, h⟩
theorem okV_of {t l k : Nat} {d : PyData} (h : okD t l k d = true) (h1 : t ≤ 20) (h2 : l ≤ 40) (h3 : k ≤ 8) : okV d := okD_mono h1 h2 h3 h
theorem sizes_okD {ns : List Int} (k : Nat) (hl : ns.length ≤ 30) : okD 9 30 (k + 1) (.tuple (ns.map PyData.int)) = true := okD_mkT (by rw [List.length_map]; exact hl) fun d hd => by
  obtain ⟨i, _, rfl⟩ := List.mem_map.mp hd
  exact okD_int i
theorem name_okD {nm : Str} (k : Nat) (h : nm ∈ manyNames) : okD 9 30 k (.str nm) = true :=
  okD_mkS (by have := name_short (manyNames_ok nm h); omega) (manyNames_strs nm h)
theorem oI_okD (k : Nat) (o : Option Int) : okD 9 30 k (oI o) = true := by
  cases o with
  | none => cases k <;> rfl
  | some i => exact okD_int i
theorem per_okD {p : Per} (k : Nat) (h : p.name ∈ manyNames) : okD 9 30 (k + 1) p.enc = true := okD_mkT (by simp) fun d hd => by
  simp only [List.mem_cons, List.not_mem_nil, or_false] at hd
  rcases hd with rfl | rfl | rfl | rfl
  · exact name_okD k h
  · exact oI_okD k _
  · exact oI_okD k _
  · exact oI_okD k _
theorem seen_okD {ps : List Per} (k : Nat) (h : ∀ p ∈ ps, p.name ∈ manyNames) (hl : ps.length ≤ 12) : okD 9 30 (k + 2) (encSeen ps) = true := okD_mkT (by rw [List.length_map]; omega) fun d hd => by
  obtain ⟨p, hp, rfl⟩ := List.mem_map.mp hd
  exact per_okD k (h p hp)
/-- the values that are tried as groups -/
def someA (ds : List PyData) : List PyData := [.tuple ds, .list ds, .tuple (ds ++ [.int 1]), .tuple (ds ++ [.int 0]), .tuple (cutD ds (some 1) none), .tuple [], .tuple [.int 30], .tuple [.int 31]]
def someB : List PyData := [.tuple (List.replicate (30 : Int).toNat [PyData.int 1]).flatten, .tuple (List.replicate (31 : Int).toNat [PyData.int 1]).flatten, .tuple [.bool true]]
theorem someB_ok : ∀ d ∈ someB, okV d := by unfold okV; decide +kernel
theorem okV_tup {ds : List PyData} (h1 : ds.length ≤ 40) (h2 : ∀ d ∈ ds, okD 20 40 7 d = true) : okV (.tuple ds) := okD_mkT h1 h2
theorem okV_lst {ds : List PyData} (h1 : ds.length ≤ 40) (h2 : ∀ d ∈ ds, okD 20 40 7 d = true) : okV (.list ds) := okD_mkL h1 h2
theorem cutD_mem {α : Type} {xs : List α} {lo hi : Option Int} {x : α} (h : x ∈ cutD xs lo hi) : x ∈ xs := List.mem_of_mem_drop (List.mem_of_mem_take h)
theorem someA_ok {ds : List PyData} (h1 : ds.length ≤ 30) (h2 : ∀ d ∈ ds, okD 20 40 7 d = true) : ∀ d ∈ someA ds, okV d := fun d hd => by
  have app : ∀ i : Int, okV (.tuple (ds ++ [.int i])) := fun i => okV_tup (by rw [List.length_append, List.length_singleton]; omega) fun e he => by
    rcases List.mem_append.mp he with q | q
    · exact h2 e q
    · rw [List.mem_singleton.mp q]; exact okD_int i
  simp only [someA, List.mem_cons, List.not_mem_nil, or_false] at hd
  rcases hd with rfl | rfl | rfl | rfl | rfl | rfl | rfl | rfl
  · exact okV_tup (by omega) h2
  · exact okV_lst (by omega) h2
  · exact app 1
  · exact app 0
  · exact okV_tup (by have := cutD_le ds (some 1) none; omega) fun e he => h2 e (cutD_mem he)
  · exact (show okD 20 40 8 _ = true by decide +kernel)
  · exact (show okD 20 40 8 _ = true by decide +kernel)
  · exact (show okD 20 40 8 _ = true by decide +kernel)
/-- the values that are tried as what was seen -/
def zoe : PyData := .tuple [.str "zoe", .int 1, .int 1, .int 1]
def seenA (ds : List PyData) : List PyData := [.tuple ds, .list ds, .tuple (ds ++ cutD ds none (some 1)), .tuple ([zoe] ++ ds), .tuple [.str "a", .int 1, .none, .none]]
def seenB : List PyData := [.tuple [.tuple [.str "a", .none, .none, .none]], .tuple [.tuple [.str "a", .int 2, .int 1, .none]], .tuple [.tuple [.str "a", .int 2, .none, .int 3]]]
def seenC : List PyData := [.tuple [.tuple [.str "a", .none, .int 2, .int 3]], .tuple [.tuple [.str "a", .int 31, .none, .none]], .tuple [.tuple [.str "", .int 1, .int 1, .int 1]]]
theorem seenBC_ok : ∀ d ∈ seenB ++ seenC, okV d := by unfold okV; decide +kernel
theorem seenA_ok {ds : List PyData} (h1 : ds.length ≤ 12) (h2 : ∀ d ∈ ds, okD 20 40 7 d = true) : ∀ d ∈ seenA ds, okV d := fun d hd => by
  simp only [seenA, List.mem_cons, List.not_mem_nil, or_false] at hd
  rcases hd with rfl | rfl | rfl | rfl | rfl
  · exact okV_tup (by omega) h2
  · exact okV_lst (by omega) h2
  · refine okV_tup (by have := cutD_le ds none (some 1); rw [List.length_append]; omega) fun e he => ?_
    rcases List.mem_append.mp he with q | q
    · exact h2 e q
    · exact h2 e (cutD_mem q)
  · refine okV_tup (by rw [List.length_append, List.length_singleton]; omega) fun e he => ?_
    rcases List.mem_append.mp he with q | q
    · rw [List.mem_singleton.mp q]; exact (show okD 20 40 7 zoe = true by decide +kernel)
    · exact h2 e q
  · exact (show okD 20 40 8 _ = true by decide +kernel)
theorem word_sh {a : Str} (h : PyData.strOk a = true) : SeqAt.shaped (.str a) = true := sh_str h
local macro_rules
  | `(tactic| wtm_at "op") => `(tactic| first | exact mulT_tup (fun q => (nomatch q)) (by decide) (by decide) (Nat.le_of_ble_eq_true rfl) | (apply mulT_g; apply mul_lst; rfl; decide; decide; exact Nat.le_of_ble_eq_true rfl))
abbrev con_law : Con := lawC
theorem ok_law (T : Tx K mg) : FnOk P w K mg base CX0 (7 + 1) (He.ga K "law") T.fd_law ["script"] (spP K con_law) := by
  refine fn_ok T.F_law sc_law con_law (fun _ _ => rfl) (by decide) (fun _ _ h => h) fun cdv A outer s H E hr => ⟨_, (pss_cons (ps_for PassesOwn.never rfl (pi_range1 (by rfl) T.b_range (pa_cons (pe_callB (call_max2 rfl) (by rfl) T.b_max bt_max (pa_cons pe_int (pa_cons (pe_callB (call_min2 rfl) (by rfl) T.b_min bt_min (pa_cons pe_int (pa_cons (pe_callB call_lenG (by rfl) T.b_len bt_len (pa_cons (pv 0) pa_nil)) pa_nil))) pa_nil))) pa_nil)) (pg_name (i := 1) sc_law.nd rfl (.inl rfl))
        (pss_cons (ps_set (i := 2) sc_law.nd rfl (.inr rfl) (pe_call (ok_law_source T) (hr.mono (by decide)) (by rfl) T.g_law_source T.F_law_source.kp (bi_law_source T) .nil pass0 (pa_cons (pv 0) (pa_cons (pv 1) pa_nil))))
        (pss_cons (ps_set (i := 3) sc_law.nd rfl (.inr rfl) (pe_call (ok_law_sizes T) (hr.mono (by decide)) (by rfl) T.g_law_sizes T.F_law_sizes.kp (bi_law_sizes T) .nil pass0 (pa_cons (pv 2) (pa_cons pe_int pa_nil))))
        (pss_cons (ps_set (i := 4) sc_law.nd rfl (.inl rfl) (pe_lst (pa_cons (pv 3) (pa_cons (pe_callTy call_list_of (by rfl) T.b_list bt_list (pa_cons (pv 3) pa_nil)) (pa_cons (pe_op op_addG (pv 3) (pe_tup (pa_cons pe_int pa_nil))) (pa_cons (pe_op op_addG (pv 3) (pe_tup (pa_cons pe_int pa_nil))) (pa_cons (pe_slice sl_G (pv 3) (po_some pe_int) po_none) (pa_cons (pe_tup pa_nil) (pa_cons (pe_tup (pa_cons pe_int pa_nil)) (pa_cons (pe_tup (pa_cons pe_int pa_nil)) pa_nil))))))))))
        (pss_cons (ps_set (i := 4) sc_law.nd rfl (.inl rfl) (pe_op op_addG (pv 4) (pe_lst (pa_cons (pe_op op_mulT (pe_tup (pa_cons pe_int pa_nil)) pe_int) (pa_cons (pe_op op_mulT (pe_tup (pa_cons pe_int pa_nil)) pe_int) (pa_cons (pe_tup (pa_cons pe_bl pa_nil)) pa_nil))))))
        (pss_cons (ps_for PassesOwn.never rfl (pi_seq (pe_op op_addG (pe_op op_addG (pv 4) (pe_lc (own := [("turn", 9)]) rfl sc_law.nd (pi_range1 (by rfl) T.b_range (pa_cons pe_int pa_nil)) (blkOk_by (own := [("turn", 9)]) (N := ["script", "k", "source", "sizes", "some", "value", "good", "seen", "odd", "turn", "call"]) (sc := defScope s_law) (by decide +kernel)) (fun _ _ _ _ _ => (pg_name (i := 9) sc_law.nd rfl (.inl rfl))) (fun _ _ _ _ _ => pts_nil) (fun _ _ _ _ _ => (pe_call (ok_law_variant T) (hr.mono (by decide)) (by rfl) T.g_law_variant T.F_law_variant.kp (bi_law_variant T) .nil pass0 (pa_cons (pv 2) (pa_cons (pv 3) (pa_cons pe_int pa_nil))))))) (pe_lst (pa_cons (pe_call (ok_law_any_value T) (hr.mono (by decide)) (by rfl) T.g_law_any_value T.F_law_any_value.kp (bi_law_any_value T) .nil pass0 (pa_cons (pv 2) (pa_cons pe_int pa_nil))) pa_nil)))) (pg_name (i := 5) sc_law.nd rfl (.inr rfl))
          (pss_cons (ps_set (i := 6) sc_law.nd rfl (.inl rfl) (pe_call (ok_law_is_good_sizes T) (hr.mono (by decide)) (by rfl) T.g_law_is_good_sizes T.F_law_is_good_sizes.kp (bi_law_is_good_sizes T) .nil pass0 (pa_cons (pv 5) pa_nil)))
          (pss_cons (ps_if (pt_not (pt_val (pe_call (ok_law_is_bool T) (hr.mono (by decide)) (by rfl) T.g_law_is_bool T.F_law_is_bool.kp (bi_law_is_bool T) .nil pass0 (pa_cons (pe_call (ok_is_groups T) (hr.mono (by decide)) (by rfl) T.g_is_groups T.F_is_groups.kp (bi_is_groups T) .nil pass0 (pa_cons (pv 5) pa_nil)) (pa_cons (pv 6) pa_nil)))))
            (pss_one (ps_ret pe_bl))
            pss_nil)
          (pss_one (ps_if (PW.pt (pw_and (pt_not (pt_val (pv 6))) (pw_and1 (pt_cmpR (op_neD hr.units) (pe_lc (own := [("call", 10)]) rfl sc_law.nd (pi_seq (pe_lst (pa_cons pe_int (pa_cons pe_int (pa_cons pe_int pa_nil))))) (blkOk_by (own := [("call", 10)]) (N := ["script", "k", "source", "sizes", "some", "value", "good", "seen", "odd", "turn", "call"]) (sc := defScope s_law) (by decide +kernel)) (fun _ _ _ _ _ => (pg_name (i := 10) sc_law.nd rfl (.inl rfl))) (fun _ _ _ _ _ => pts_nil) (fun _ _ _ _ _ => (pe_call (ok_law_outcome T) (hr.mono (by decide)) (by rfl) T.g_law_outcome T.F_law_outcome.kp (bi_law_outcome T) .nil pass0 (pa_cons (pv 10) (pa_cons (pv 5) (pa_cons pe_non pa_nil)))))) (pe_op op_mulT (pe_lst (pa_cons pe_str pa_nil)) pe_int) (nomark _)))))
            (pss_one (ps_ret pe_bl))
            pss_nil)))))
        (pss_cons (ps_set (i := 7) sc_law.nd rfl (.inr rfl) (pe_call (ok_law_seen T) (hr.mono (by decide)) (by rfl) T.g_law_seen T.F_law_seen.kp (bi_law_seen T) .nil pass0 (pa_cons (pv 2) (pa_cons (pv 3) (pa_cons pe_int (pa_cons (pe_call0 (ok_law_kinds T) (hr.mono (by decide)) (by rfl) T.g_law_kinds T.F_law_kinds.kp (bi_law_kinds T) .nil pass0) pa_nil))))))
        (pss_cons (ps_set (i := 4) sc_law.nd rfl (.inl rfl) (pe_lst (pa_cons (pv 7) (pa_cons (pe_callTy call_list_of (by rfl) T.b_list bt_list (pa_cons (pv 7) pa_nil)) (pa_cons (pe_op op_addG (pv 7) (pe_slice sl_G (pv 7) po_none (po_some pe_int))) (pa_cons (pe_op op_addG (pe_tup (pa_cons (pe_tup (pa_cons pe_str (pa_cons pe_int (pa_cons pe_int (pa_cons pe_int pa_nil))))) pa_nil)) (pv 7)) (pa_cons (pe_tup (pa_cons pe_str (pa_cons pe_int (pa_cons pe_non (pa_cons pe_non pa_nil))))) pa_nil)))))))
        (pss_cons (ps_set (i := 4) sc_law.nd rfl (.inl rfl) (pe_op op_addG (pv 4) (pe_lst (pa_cons (pe_tup (pa_cons (pe_tup (pa_cons pe_str (pa_cons pe_non (pa_cons pe_non (pa_cons pe_non pa_nil))))) pa_nil)) (pa_cons (pe_tup (pa_cons (pe_tup (pa_cons pe_str (pa_cons pe_int (pa_cons pe_int (pa_cons pe_non pa_nil))))) pa_nil)) (pa_cons (pe_tup (pa_cons (pe_tup (pa_cons pe_str (pa_cons pe_int (pa_cons pe_non (pa_cons pe_int pa_nil))))) pa_nil)) pa_nil))))))
        (pss_cons (ps_set (i := 4) sc_law.nd rfl (.inl rfl) (pe_op op_addG (pv 4) (pe_lst (pa_cons (pe_tup (pa_cons (pe_tup (pa_cons pe_str (pa_cons pe_non (pa_cons pe_int (pa_cons pe_int pa_nil))))) pa_nil)) (pa_cons (pe_tup (pa_cons (pe_tup (pa_cons pe_str (pa_cons pe_int (pa_cons pe_non (pa_cons pe_non pa_nil))))) pa_nil)) (pa_cons (pe_tup (pa_cons (pe_tup (pa_cons pe_str (pa_cons pe_int (pa_cons pe_int (pa_cons pe_int pa_nil))))) pa_nil)) pa_nil))))))
        (pss_cons (ps_for PassesOwn.never rfl (pi_seq (pe_op op_addG (pe_op op_addG (pv 4) (pe_lc (own := [("turn", 9)]) rfl sc_law.nd (pi_range1 (by rfl) T.b_range (pa_cons pe_int pa_nil)) (blkOk_by (own := [("turn", 9)]) (N := ["script", "k", "source", "sizes", "some", "value", "good", "seen", "odd", "turn", "call"]) (sc := defScope s_law) (by decide +kernel)) (fun _ _ _ _ _ => (pg_name (i := 9) sc_law.nd rfl (.inl rfl))) (fun _ _ _ _ _ => pts_nil) (fun _ _ _ _ _ => (pe_call (ok_law_variant T) (hr.mono (by decide)) (by rfl) T.g_law_variant T.F_law_variant.kp (bi_law_variant T) .nil pass0 (pa_cons (pv 2) (pa_cons (pv 7) (pa_cons pe_int pa_nil))))))) (pe_lst (pa_cons (pe_call (ok_law_any_value T) (hr.mono (by decide)) (by rfl) T.g_law_any_value T.F_law_any_value.kp (bi_law_any_value T) .nil pass0 (pa_cons (pv 2) (pa_cons pe_int pa_nil))) pa_nil)))) (pg_name (i := 5) sc_law.nd rfl (.inr rfl))
          (pss_cons (ps_set (i := 6) sc_law.nd rfl (.inl rfl) (pe_call (ok_law_is_good_seen T) (hr.mono (by decide)) (by rfl) T.g_law_is_good_seen T.F_law_is_good_seen.kp (bi_law_is_good_seen T) .nil pass0 (pa_cons (pv 5) pa_nil)))
          (pss_cons (ps_if (pt_not (pt_val (pe_call (ok_law_is_bool T) (hr.mono (by decide)) (by rfl) T.g_law_is_bool T.F_law_is_bool.kp (bi_law_is_bool T) .nil pass0 (pa_cons (pe_call (ok_is_seen T) (hr.mono (by decide)) (by rfl) T.g_is_seen T.F_is_seen.kp (bi_is_seen T) .nil pass0 (pa_cons (pv 5) pa_nil)) (pa_cons (pv 6) pa_nil)))))
            (pss_one (ps_ret pe_bl))
            pss_nil)
          (pss_one (ps_if (pt_not (pt_val (pv 6)))
            (pss_one (ps_if (pt_cmpR (op_neD hr.units) (pe_lc (own := [("call", 10)]) rfl sc_law.nd (pi_seq (pe_lst (pa_cons pe_int (pa_cons pe_int (pa_cons pe_int (pa_cons pe_int (pa_cons pe_int (pa_cons pe_int pa_nil)))))))) (blkOk_by (own := [("call", 10)]) (N := ["script", "k", "source", "sizes", "some", "value", "good", "seen", "odd", "turn", "call"]) (sc := defScope s_law) (by decide +kernel)) (fun _ _ _ _ _ => (pg_name (i := 10) sc_law.nd rfl (.inl rfl))) (fun _ _ _ _ _ => pts_nil) (fun _ _ _ _ _ => (pe_call (ok_law_outcome T) (hr.mono (by decide)) (by rfl) T.g_law_outcome T.F_law_outcome.kp (bi_law_outcome T) .nil pass0 (pa_cons (pv 10) (pa_cons (pv 5) (pa_cons pe_non pa_nil)))))) (pe_op op_mulT (pe_lst (pa_cons pe_str pa_nil)) pe_int) (nomark _))
              (pss_one (ps_ret pe_bl))
              pss_nil))
            pss_nil)))))
        (pss_one (ps_for PassesOwn.never rfl (pi_seq (pe_lst (pa_cons pe_non (pa_cons pe_str (pa_cons pe_str (pa_cons pe_int (pa_cons (pe_tup (pa_cons pe_str pa_nil)) (pa_cons pe_bl pa_nil)))))))) (pg_name (i := 8) sc_law.nd rfl (.inl rfl))
          (pss_one (ps_if (pt_cmpR (op_neD hr.units) (pe_call (ok_law_outcome T) (hr.mono (by decide)) (by rfl) T.g_law_outcome T.F_law_outcome.kp (bi_law_outcome T) .nil pass0 (pa_cons pe_int (pa_cons (pv 3) (pa_cons (pv 8) pa_nil)))) pe_str (nomark _))
            (pss_one (ps_ret pe_bl))
            pss_nil)))))))))))))))
      (pss_one (ps_ret pe_bl))), ?_⟩
  rintro B S0 E px xs hx
  dsimp only [L2.cxOf, L2.Cx.nox, L2.Cx.wish] at hx ⊢
  apply wp_seq
  apply wp_forI
  · apply evi_range1
    · wtm_at "ev"
    · split <;> split <;> omega
    · split <;> split <;> omega
  refine forW_range (fun i Γ => ∃ g1 g2 g3 g4 g5 g6 g7 g8 g9 g10, Γ = [.sq (xs.map PyData.int), g1, g2, g3, g4, g5, g6, g7, g8, g9, g10]) ⟨_, _, _, _, _, _, _, _, _, _, rfl⟩ ?_ ?_
  · rintro i Γ hi ⟨g1, g2, g3, g4, g5, g6, g7, g8, g9, g10, rfl⟩
    have hik : i ≤ 1000 := by
      rw [List.length_map] at hi
      revert hi
      split <;> split <;> omega
    refine GTo.wp (gto_name (lt_ble rfl)) ?_
    rw [Int.zero_add]
    apply wp_seq
    apply wp_asgW
    apply cw_law_source (ns := xs) (n := i) (by wtm_at "ev") hik
    intro b hb
    refine ⟨rfl, lt_ble rfl, ?_⟩
    apply wp_seq
    apply wp_asgW
    apply cw_law_sizes (s0 := .lst (srcD b)) (b := b) (n := 30) rfl rfl hb (by wtm_at "ev") (by decide) (by decide)
    intro ns b1 hns hb1
    refine ⟨rfl, lt_ble rfl, ?_⟩
    have hlen := sum_nonneg' hns.2.1
    have hs30 := hns.2.2
    have hl30 : ns.length ≤ 30 := by omega
    have hG : isGroupsB (.tuple (ns.map PyData.int)) = true := isGroups_of hns.1 hns.2.1 hns.2.2
    have hL : (ns.map PyData.int).length = ns.length := List.length_map ..
    have oks : ∀ d ∈ ns.map PyData.int, okD 20 40 7 d = true := fun d hd => by
      obtain ⟨j, _, rfl⟩ := List.mem_map.mp hd
      exact okD_int j
    -- groups, odd ones
    apply wp_seq
    have z1 : ∀ j : Int, (ns.map PyData.int).length + [PyData.int j].length ≤ sizeLine := fun j => by rw [hL, sizeLine_eq, List.length_singleton]; omega
    have y1 := z1 1
    have y0 := z1 0
    refine wp_asg (s := .lst (someA (ns.map PyData.int))) (by wtm_at "evis") (lt_ble rfl) rfl ?_
    apply wp_seq
    refine wp_asg (s := .lst (someA (ns.map PyData.int) ++ someB)) (by wtm_at "evis") (lt_ble rfl) rfl ?_
    refine wp_share (i := 4) (ds := someA (ns.map PyData.int) ++ someB) rfl ?_
    have okAB : ∀ d ∈ someA (ns.map PyData.int) ++ someB, okV d := fun d hd => by
      rcases List.mem_append.mp hd with q | q
      · exact someA_ok (by rw [hL]; exact hl30) oks d q
      · exact someB_ok d q
    have lenAB : (someA (ns.map PyData.int) ++ someB).length = 11 := rfl
    generalize hAB : someA (ns.map PyData.int) ++ someB = AB at *
    apply wp_seq
    refine Wp.mono (nx := fun Γ => ∃ (b : Int × Int × Int) (g5 g6 g7 g8 g9 g10 : Sl), Γ = [.sq (xs.map PyData.int), .d (.int (i : Int)), .lst (srcD b), .d (.tuple (ns.map PyData.int)), .d (.list AB), g5, g6, g7, g8, g9, g10] ∧ SrcOk b) ?_ ?_ (fun _ _ h => h) (fun _ h => h) fun _ h => h
    · refine wp_for ?_
      apply wpi_seqL
      apply wpe_share
      apply wpe_op
      refine wpe_opR (x := .d (.list AB)) (by wtm_at "ev") rfl ?_
      apply wpe_lc (gvs_name (by decide)) (fun v σ H Q Q' => mono_name v σ H Q Q')
      refine EvI.wp (evi_range1 (j := 4) (by wtm_at "ev") (by decide) (by decide)) ?_
      refine ⟨by rw [rangeD_len, sizeLine_eq]; decide, fun _ acc Γ => ∃ (b : Int × Int × Int) (g5 g6 g7 g8 g9 g10 : Sl), Γ = [.sq (xs.map PyData.int), .d (.int (i : Int)), .lst (srcD b), .d (.tuple (ns.map PyData.int)), .d (.list AB), g5, g6, g7, g8, g9, g10] ∧ SrcOk b ∧ ∀ d ∈ acc, okV d, ⟨b1, _, _, _, _, _, _, rfl, hb1, by simp⟩, ?_, ?_⟩
      · rintro j d acc Γ1 hd ⟨b2, g5, g6, g7, g8, g9, g10, rfl, hb2, hacc⟩
        refine ⟨_, gto_name (lt_ble rfl), ?_⟩
        apply cw_law_variant (s0 := .lst (srcD b2)) (b := b2) (ds := ns.map PyData.int) (t := 9) (l := 30) (k := 5) rfl rfl hb2 (by wtm_at "ev") ⟨by decide, by decide, by decide, by decide, by decide, by decide, sizes_okD 5 hl30⟩
        intro y b3 hy hb3
        refine ⟨y, rfl, b3, _, _, _, _, _, _, rfl, hb3, fun e he => ?_⟩
        rcases List.mem_append.mp he with q | q
        · exact hacc e q
        · rw [List.mem_singleton.mp q]; exact okV_of hy (by decide) (by decide) (by decide)
      · rintro acc Γ1 hl ⟨b2, g5, g6, g7, g8, g9, g10, rfl, hb2, hacc⟩
        rw [rangeD_len] at hl
        have hl4 : acc.length = 4 := hl
        refine ⟨.lst (AB ++ acc), add_lst rfl rfl (by rw [sizeLine_eq]; omega), rfl, ?_⟩
        apply wpe_lst
        apply wpa_one
        apply cw_law_any (s0 := .lst (srcD b2)) (b := b2) (n := 3) rfl rfl hb2 (show EvA _ _ _ [Sl.d (.int 3)] by wtm_at "ev") (by decide)
        intro y b3 hy hb3
        refine ⟨[y], rfl, by rw [sizeLine_eq]; exact Nat.le_of_ble_eq_true rfl, .lst ((AB ++ acc) ++ [y]), add_lst rfl rfl (by rw [sizeLine_eq, List.length_append, List.length_singleton]; omega), _, rfl, _, rfl, ?_⟩
        have okAll : ∀ d ∈ (AB ++ acc) ++ [y], okV d := fun e he => by
          rcases List.mem_append.mp he with q | q
          · rcases List.mem_append.mp q with q | q
            · exact okAB e q
            · exact hacc e q
          · rw [List.mem_singleton.mp q]; exact okV_of hy (by decide) (by decide) (by decide)
        refine forW_inv (fun _ Γ => ∃ (b : Int × Int × Int) (g5 g6 g7 g8 g9 g10 : Sl), Γ = [.sq (xs.map PyData.int), .d (.int (i : Int)), .lst (srcD b), .d (.tuple (ns.map PyData.int)), .d (.list AB), g5, g6, g7, g8, g9, g10] ∧ SrcOk b) ⟨b3, _, _, _, _, _, _, rfl, hb3⟩ ?_ (fun _ h => h)
        rintro j d Γ1 hd ⟨b4, g5, g6, g7, g8, g9, g10, rfl, hb4⟩
        have hok := okAll d (List.mem_of_getElem? hd)
        have hsh := okV_short hok
        refine GTo.wp (gto_name (lt_ble rfl)) ?_
        apply wp_seq
        refine wp_asg (s := .d (.bool (isGroupsB d))) (cl_good_sizes (by wtm_at "ev") hsh) (lt_ble rfl) rfl ?_
        apply wp_seq
        refine wp_if0 (evt_is (b := !(isGroupsB d == isGroupsB d)) ?_ (by simp)) ?_
        · apply evt_not
          apply evt_B
          exact cl_law_is_bool (eva_cons (cl_is_groups (by wtm_at "ev")) (eva_cons (by wtm_at "ev") eva_nil))
        apply wp_next
        refine wp_if0 (evt_is (b := !isGroupsB d && !PyData.eqv (.list ((["groups", "groups", "groups"] : List Str).map PyData.str)) (.list ((["groups", "groups", "groups"] : List Str).map PyData.str))) ?_ (by rw [eqv_strsL]; simp)) ?_
        rotate_left
        · apply wp_next
          exact ⟨b4, _, _, _, _, _, _, rfl, hb4⟩
        apply evt_and
        · wtm_at "ev"
        · intro hg
          rw [Bool.not_eq_true'] at hg
          apply evt_test
          refine evs_op (x := .lst ((["groups", "groups", "groups"] : List Str).map PyData.str)) (y := .lst (List.replicate (3 : Int).toNat [PyData.str "groups"]).flatten) ?_ (by wtm_at "ev") (ops_neD rfl rfl (sh_strsL (by decide +kernel)) (sh_strsL (by decide +kernel)))
          refine evs_is (x := .lst (([0, 1, 2] : List Nat).map fun _ => PyData.str "groups")) ?_ rfl
          refine evs_lc (items := ([0, 1, 2] : List Nat).map fun c : Nat => PyData.int (c : Int)) (evi_seqL (evs_share (by wtm_at "evis"))) (gvs_name (by decide)) (sz' (Nat.le_of_ble_eq_true rfl)) ?_
          refine lcp_all (enc := fun c : Nat => PyData.int (c : Int)) (xs := ([0, 1, 2] : List Nat)) (f := fun _ => PyData.str "groups") fun c hc => ⟨_, gto_name (lt_ble rfl), ?_⟩
          have c2 : c ≤ 2 := by simp only [List.mem_cons, List.not_mem_nil, or_false] at hc; omega
          refine evs_is (cl_law_outcome (c := c) (d := d) (e := .none) (by wtm_at "ev") (.inl ⟨c2, hg⟩)) ?_
          unfold word01
          rw [if_pos (show (c, d, PyData.none).1 ≤ 2 from c2), if_neg (show ¬ isGroupsB (c, d, PyData.none).2.1 = true by rw [show isGroupsB (c, d, PyData.none).2.1 = false from hg]; exact Bool.false_ne_true)]
    rintro Γ ⟨b2, g5, g6, g7, g8, g9, g10, rfl, hb2⟩
    -- what was seen, odd ones
    apply wp_seq
    apply wp_asgW
    apply cw_law_seen (s0 := .lst (srcD b2)) (b := b2) (ns := ns) (most := 12) (kinds := kinds8) rfl rfl hb2 (eva_cons (by wtm_at "ev") (eva_cons (by wtm_at "ev") (eva_cons (evs_share cl_law_kinds) eva_nil))) hns (by decide) (by decide) kinds8_ok
    intro ps b3 hps hpw hpl hb3
    refine ⟨rfl, lt_ble rfl, ?_⟩
    have hP : (ps.map Per.enc).length = ps.length := List.length_map ..
    have hp12 : ps.length ≤ 12 := hps.few
    have okp : ∀ d ∈ ps.map Per.enc, okD 20 40 7 d = true := fun d hd => by
      obtain ⟨p, hp, rfl⟩ := List.mem_map.mp hd
      exact okD_mono (by decide) (by decide) (by decide) (per_okD 6 (hpw.names p hp))
    show Wp _ _ [.sq (xs.map PyData.int), .d (.int (i : Int)), .lst (srcD b3), .d (.tuple (ns.map PyData.int)), .d (.list AB), g5, g6, .d (.tuple (ps.map Per.enc)), g8, g9, g10] _ _ _ _
    have q1 := cutD_le (ps.map Per.enc) none (some 1)
    have w1 : (ps.map Per.enc).length + (cutD (ps.map Per.enc) none (some (1 : Int))).length ≤ sizeLine := by rw [sizeLine_eq]; omega
    have w2 : [zoe].length + (ps.map Per.enc).length ≤ sizeLine := by rw [sizeLine_eq, List.length_singleton]; omega
    apply wp_seq
    refine wp_asg (s := .lst (seenA (ps.map Per.enc))) (by wtm_at "evis") (lt_ble rfl) rfl ?_
    apply wp_seq
    refine wp_asg (s := .lst (seenA (ps.map Per.enc) ++ seenB)) (by wtm_at "evis") (lt_ble rfl) rfl ?_
    apply wp_seq
    refine wp_asg (s := .lst ((seenA (ps.map Per.enc) ++ seenB) ++ seenC)) (by wtm_at "evis") (lt_ble rfl) rfl ?_
    refine wp_share (i := 4) (ds := (seenA (ps.map Per.enc) ++ seenB) ++ seenC) rfl ?_
    have okS : ∀ d ∈ (seenA (ps.map Per.enc) ++ seenB) ++ seenC, okV d := fun d hd => by
      rw [List.append_assoc] at hd
      rcases List.mem_append.mp hd with q | q
      · exact seenA_ok (by rw [hP]; exact hp12) okp d q
      · exact seenBC_ok d q
    have lenS : ((seenA (ps.map Per.enc) ++ seenB) ++ seenC).length = 11 := rfl
    generalize hS : (seenA (ps.map Per.enc) ++ seenB) ++ seenC = SC at *
    apply wp_seq
    refine Wp.mono (nx := fun Γ => ∃ (b : Int × Int × Int) (g5 g6 g8 g9 g10 : Sl), Γ = [.sq (xs.map PyData.int), .d (.int (i : Int)), .lst (srcD b), .d (.tuple (ns.map PyData.int)), .d (.list SC), g5, g6, .d (.tuple (ps.map Per.enc)), g8, g9, g10] ∧ SrcOk b) ?_ ?_ (fun _ _ h => h) (fun _ h => h) fun _ h => h
    · refine wp_for ?_
      apply wpi_seqL
      apply wpe_share
      apply wpe_op
      refine wpe_opR (x := .d (.list SC)) (by wtm_at "ev") rfl ?_
      apply wpe_lc (gvs_name (by decide)) (fun v σ H Q Q' => mono_name v σ H Q Q')
      refine EvI.wp (evi_range1 (j := 8) (by wtm_at "ev") (by decide) (by decide)) ?_
      refine ⟨by rw [rangeD_len, sizeLine_eq]; decide, fun _ acc Γ => ∃ (b : Int × Int × Int) (g5 g6 g8 g9 g10 : Sl), Γ = [.sq (xs.map PyData.int), .d (.int (i : Int)), .lst (srcD b), .d (.tuple (ns.map PyData.int)), .d (.list SC), g5, g6, .d (.tuple (ps.map Per.enc)), g8, g9, g10] ∧ SrcOk b ∧ ∀ d ∈ acc, okV d, ⟨b3, _, _, _, _, _, rfl, hb3, by simp⟩, ?_, ?_⟩
      · rintro j d acc Γ1 hd ⟨b4, g5, g6, g8, g9, g10, rfl, hb4, hacc⟩
        refine ⟨_, gto_name (lt_ble rfl), ?_⟩
        apply cw_law_variant (s0 := .lst (srcD b4)) (b := b4) (ds := ps.map Per.enc) (t := 9) (l := 30) (k := 6) rfl rfl hb4 (by wtm_at "ev") ⟨by decide, by decide, by decide, by decide, by decide, by decide, seen_okD 5 hpw.names hp12⟩
        intro y b5 hy hb5
        refine ⟨y, rfl, b5, _, _, _, _, _, rfl, hb5, fun e he => ?_⟩
        rcases List.mem_append.mp he with q | q
        · exact hacc e q
        · rw [List.mem_singleton.mp q]; exact okV_of hy (by decide) (by decide) (by decide)
      · rintro acc Γ1 hl ⟨b4, g5, g6, g8, g9, g10, rfl, hb4, hacc⟩
        rw [rangeD_len] at hl
        have hl8 : acc.length = 8 := hl
        refine ⟨.lst (SC ++ acc), add_lst rfl rfl (by rw [sizeLine_eq]; omega), rfl, ?_⟩
        apply wpe_lst
        apply wpa_one
        apply cw_law_any (s0 := .lst (srcD b4)) (b := b4) (n := 3) rfl rfl hb4 (show EvA _ _ _ [Sl.d (.int 3)] by wtm_at "ev") (by decide)
        intro y b5 hy hb5
        refine ⟨[y], rfl, by rw [sizeLine_eq]; exact Nat.le_of_ble_eq_true rfl, .lst ((SC ++ acc) ++ [y]), add_lst rfl rfl (by rw [sizeLine_eq, List.length_append, List.length_singleton]; omega), _, rfl, _, rfl, ?_⟩
        have okAll : ∀ d ∈ (SC ++ acc) ++ [y], okV d := fun e he => by
          rcases List.mem_append.mp he with q | q
          · rcases List.mem_append.mp q with q | q
            · exact okS e q
            · exact hacc e q
          · rw [List.mem_singleton.mp q]; exact okV_of hy (by decide) (by decide) (by decide)
        refine forW_inv (fun _ Γ => ∃ (b : Int × Int × Int) (g5 g6 g8 g9 g10 : Sl), Γ = [.sq (xs.map PyData.int), .d (.int (i : Int)), .lst (srcD b), .d (.tuple (ns.map PyData.int)), .d (.list SC), g5, g6, .d (.tuple (ps.map Per.enc)), g8, g9, g10] ∧ SrcOk b) ⟨b5, _, _, _, _, _, rfl, hb5⟩ ?_ (fun _ h => h)
        rintro j d Γ1 hd ⟨b6, g5, g6, g8, g9, g10, rfl, hb6⟩
        have hok := okAll d (List.mem_of_getElem? hd)
        have hsh := okV_short hok
        have hss := shortSeen_ok hsh
        refine GTo.wp (gto_name (lt_ble rfl)) ?_
        apply wp_seq
        refine wp_asg (s := .d (.bool (isSeenB d))) (cl_good_seen (by wtm_at "ev") hsh) (lt_ble rfl) rfl ?_
        apply wp_seq
        refine wp_if0 (evt_is (b := !(isSeenB d == isSeenB d)) ?_ (by simp)) ?_
        · apply evt_not
          apply evt_B
          exact cl_law_is_bool (eva_cons (cl_is_seen (by wtm_at "ev") hss) (eva_cons (by wtm_at "ev") eva_nil))
        apply wp_next
        apply wp_if (b := !isSeenB d)
        · wtm_at "ev"
        · intro hg
          rw [Bool.not_eq_true'] at hg
          refine wp_if0 (evt_is (b := !PyData.eqv (.list ((["seen", "seen", "seen", "seen", "seen", "seen"] : List Str).map PyData.str)) (.list ((["seen", "seen", "seen", "seen", "seen", "seen"] : List Str).map PyData.str))) ?_ (by rw [eqv_strsL]; simp)) ?_
          rotate_left
          · apply wp_next
            exact ⟨b6, _, _, _, _, _, rfl, hb6⟩
          apply evt_test
          refine evs_op (x := .lst ((["seen", "seen", "seen", "seen", "seen", "seen"] : List Str).map PyData.str)) (y := .lst (List.replicate (6 : Int).toNat [PyData.str "seen"]).flatten) ?_ (by wtm_at "ev") (ops_neD rfl rfl (sh_strsL (by decide +kernel)) (sh_strsL (by decide +kernel)))
          refine evs_is (x := .lst (([3, 4, 5, 6, 7, 8] : List Nat).map fun _ => PyData.str "seen")) ?_ rfl
          refine evs_lc (items := ([3, 4, 5, 6, 7, 8] : List Nat).map fun c : Nat => PyData.int (c : Int)) (evi_seqL (evs_share (by wtm_at "evis"))) (gvs_name (by decide)) (sz' (Nat.le_of_ble_eq_true rfl)) ?_
          refine lcp_all (enc := fun c : Nat => PyData.int (c : Int)) (xs := ([3, 4, 5, 6, 7, 8] : List Nat)) (f := fun _ => PyData.str "seen") fun c hc => ⟨_, gto_name (lt_ble rfl), ?_⟩
          have c2 : 3 ≤ c ∧ c ≤ 8 := by simp only [List.mem_cons, List.not_mem_nil, or_false] at hc; omega
          refine evs_is (cl_law_outcome (c := c) (d := d) (e := .none) (by wtm_at "ev") (.inr (.inr ⟨c2.1, c2.2, hss, hg⟩))) ?_
          unfold word01
          rw [if_neg (show ¬ (c, d, PyData.none).1 ≤ 2 from fun q => by have q : c ≤ 2 := q; omega)]
        · intro _
          exact wp_next ⟨b6, _, _, _, _, _, rfl, hb6⟩
    rintro Γ ⟨b4, g5, g6, g8, g9, g10, rfl, hb4⟩
    -- odd systems
    refine wp_forI (items := [PyData.none, .str "", .str "First", .int 0, .tuple [.str "last"], .bool true]) (evi_seqL (evs_share (by wtm_at "ev"))) ?_
    refine forW_inv (fun _ Γ => ∃ (g5 g6 g8 g9 g10 : Sl), Γ = [.sq (xs.map PyData.int), .d (.int (i : Int)), .lst (srcD b4), .d (.tuple (ns.map PyData.int)), .d (.list SC), g5, g6, .d (.tuple (ps.map Per.enc)), g8, g9, g10]) ⟨_, _, _, _, _, rfl⟩ ?_ ?_
    · rintro j d Γ1 hd ⟨g5, g6, g8, g9, g10, rfl⟩
      have hbad : isSysB d = false := (by decide +kernel : ∀ d ∈ [PyData.none, .str "", .str "First", .int 0, .tuple [.str "last"], .bool true], isSysB d = false) d (List.mem_of_getElem? hd)
      refine GTo.wp (gto_name (lt_ble rfl)) ?_
      have sw : SeqAt.shaped (.str "system") = true := sh_str (by decide +kernel)
      refine wp_if0 (evt_is (b := !PyData.eqv (.str "system") (.str "system")) ?_ (by rw [PyData.eqv]; simp)) ?_
      rotate_left
      · apply wp_next
        exact ⟨_, _, _, _, _, rfl⟩
      apply evt_test
      refine evs_op (x := .d (.str "system")) (evs_is (cl_law_outcome (c := 0) (d := .tuple (ns.map PyData.int)) (e := d) (show EvA _ _ _ [Sl.d (.int 0), Sl.d (.tuple (ns.map PyData.int)), Sl.d d] by wtm_at "ev") (.inr (.inl ⟨rfl, hG, hbad⟩))) ?_) (by wtm_at "ev") (ops_neD rfl rfl sw sw)
      unfold word01
      rw [if_pos (show ((0 : Nat), PyData.tuple (ns.map PyData.int), d).1 ≤ 2 from Nat.zero_le 2), if_pos hG]
    · rintro Γ ⟨g5, g6, g8, g9, g10, rfl⟩
      exact ⟨_, _, _, _, _, _, _, _, _, _, rfl⟩
  · rintro Γ ⟨g1, g2, g3, g4, g5, g6, g7, g8, g9, g10, rfl⟩
    apply wp_ret
    apply EvS.wp
    · wtm_at "ev"
    · exact ⟨rfl, rfl⟩

def de_is_integer : He.DefD := ⟨("is_integer", none), "is_integer", "is_integer", defArgs s_is_integer, defBody s_is_integer, defScope s_is_integer, [], []⟩
def de_is_groups : He.DefD := ⟨("is_groups", none), "is_groups", "is_groups", defArgs s_is_groups, defBody s_is_groups, defScope s_is_groups, [], []⟩
def de_require_groups : He.DefD := ⟨("require_groups", none), "require_groups", "require_groups", defArgs s_require_groups, defBody s_require_groups, defScope s_require_groups, [], []⟩
def de_require_system : He.DefD := ⟨("require_system", none), "require_system", "require_system", defArgs s_require_system, defBody s_require_system, defScope s_require_system, [], []⟩
def de_ranks_of : He.DefD := ⟨("ranks_of", none), "ranks_of", "ranks_of", defArgs s_ranks_of, defBody s_ranks_of, defScope s_ranks_of, [], []⟩
def de_ranks : He.DefD := ⟨("ranks", none), "ranks", "ranks", defArgs s_ranks, defBody s_ranks, defScope s_ranks, [], []⟩
def de_left_by_one : He.DefD := ⟨("left_by_one", none), "left_by_one", "left_by_one", defArgs s_left_by_one, defBody s_left_by_one, defScope s_left_by_one, [], []⟩
def de_without : He.DefD := ⟨("without", none), "without", "without", defArgs s_without, defBody s_without, defScope s_without, [], []⟩
def de_changed_by : He.DefD := ⟨("changed_by", none), "changed_by", "changed_by", defArgs s_changed_by, defBody s_changed_by, defScope s_changed_by, [], []⟩
def de_is_name : He.DefD := ⟨("is_name", none), "is_name", "is_name", defArgs s_is_name, defBody s_is_name, defScope s_is_name, [], []⟩
def de_is_person : He.DefD := ⟨("is_person", none), "is_person", "is_person", defArgs s_is_person, defBody s_is_person, defScope s_is_person, [], []⟩
def de_is_seen : He.DefD := ⟨("is_seen", none), "is_seen", "is_seen", defArgs s_is_seen, defBody s_is_seen, defScope s_is_seen, [], []⟩
def de_require_size : He.DefD := ⟨("require_size", none), "require_size", "require_size", defArgs s_require_size, defBody s_require_size, defScope s_require_size, [], []⟩
def de_require_seen : He.DefD := ⟨("require_seen", none), "require_seen", "require_seen", defArgs s_require_seen, defBody s_require_seen, defScope s_require_seen, [], []⟩
def de_members : He.DefD := ⟨("members", none), "members", "members", defArgs s_members, defBody s_members, defScope s_members, [], []⟩
def de_ways_on : He.DefD := ⟨("ways_on", none), "ways_on", "ways_on", defArgs s_ways_on, defBody s_ways_on, defScope s_ways_on, [], []⟩
def de_steps : He.DefD := ⟨("steps", none), "steps", "steps", defArgs s_steps, defBody s_steps, defScope s_steps, [], []⟩
def de_counted : He.DefD := ⟨("counted", none), "counted", "counted", defArgs s_counted, defBody s_counted, defScope s_counted, [], []⟩
def de_fits : He.DefD := ⟨("fits", none), "fits", "fits", defArgs s_fits, defBody s_fits, defScope s_fits, [], []⟩
def de_count_rankings : He.DefD := ⟨("count_rankings", none), "count_rankings", "count_rankings", defArgs s_count_rankings, defBody s_count_rankings, defScope s_count_rankings, [], []⟩
def de_next_groups : He.DefD := ⟨("next_groups", none), "next_groups", "next_groups", defArgs s_next_groups, defBody s_next_groups, defScope s_next_groups, [], []⟩
def de_ranking_at : He.DefD := ⟨("ranking_at", none), "ranking_at", "ranking_at", defArgs s_ranking_at, defBody s_ranking_at, defScope s_ranking_at, [], []⟩
def de_marks : He.DefD := ⟨("marks", none), "marks", "marks", defArgs s_marks, defBody s_marks, defScope s_marks, [], []⟩
def de_possible_sizes : He.DefD := ⟨("possible_sizes", none), "possible_sizes", "possible_sizes", defArgs s_possible_sizes, defBody s_possible_sizes, defScope s_possible_sizes, [], []⟩
def de_clash : He.DefD := ⟨("clash", none), "clash", "clash", defArgs s_clash, defBody s_clash, defScope s_clash, [], []⟩
def de_law_source : He.DefD := ⟨("_law_source", none), "_law_source", "_law_source", defArgs s_law_source, defBody s_law_source, defScope s_law_source, [], []⟩
def de_law_pick : He.DefD := ⟨("_law_pick", none), "_law_pick", "_law_pick", defArgs s_law_pick, defBody s_law_pick, defScope s_law_pick, [], []⟩
def de_law_is_bool : He.DefD := ⟨("_law_is_bool", none), "_law_is_bool", "_law_is_bool", defArgs s_law_is_bool, defBody s_law_is_bool, defScope s_law_is_bool, [], []⟩
def de_law_any_value : He.DefD := ⟨("_law_any_value", none), "_law_any_value", "_law_any_value", defArgs s_law_any_value, defBody s_law_any_value, defScope s_law_any_value, [], []⟩
def de_law_variant : He.DefD := ⟨("_law_variant", none), "_law_variant", "_law_variant", defArgs s_law_variant, defBody s_law_variant, defScope s_law_variant, [], []⟩
def de_law_is_integer : He.DefD := ⟨("_law_is_integer", none), "_law_is_integer", "_law_is_integer", defArgs s_law_is_integer, defBody s_law_is_integer, defScope s_law_is_integer, [], []⟩
def de_law_error_name : He.DefD := ⟨("_law_error_name", none), "_law_error_name", "_law_error_name", defArgs s_law_error_name, defBody s_law_error_name, defScope s_law_error_name, [], []⟩
def de_law_sizes : He.DefD := ⟨("_law_sizes", none), "_law_sizes", "_law_sizes", defArgs s_law_sizes, defBody s_law_sizes, defScope s_law_sizes, [], []⟩
def de_law_rows : He.DefD := ⟨("_law_rows", none), "_law_rows", "_law_rows", defArgs s_law_rows, defBody s_law_rows, defScope s_law_rows, [], []⟩
def de_law_people : He.DefD := ⟨("_law_people", none), "_law_people", "_law_people", defArgs s_law_people, defBody s_law_people, defScope s_law_people, [], []⟩
def de_law_seen : He.DefD := ⟨("_law_seen", none), "_law_seen", "_law_seen", defArgs s_law_seen, defBody s_law_seen, defScope s_law_seen, [], []⟩
def de_law_is_good_person : He.DefD := ⟨("_law_is_good_person", none), "_law_is_good_person", "_law_is_good_person", defArgs s_law_is_good_person, defBody s_law_is_good_person, defScope s_law_is_good_person, [], []⟩
def de_law_kinds : He.DefD := ⟨("_law_kinds", none), "_law_kinds", "_law_kinds", defArgs s_law_kinds, defBody s_law_kinds, defScope s_law_kinds, [], []⟩
def de_law_is_good_sizes : He.DefD := ⟨("_law_is_good_sizes", none), "_law_is_good_sizes", "_law_is_good_sizes", defArgs s_law_is_good_sizes, defBody s_law_is_good_sizes, defScope s_law_is_good_sizes, [], []⟩
def de_law_is_good_seen : He.DefD := ⟨("_law_is_good_seen", none), "_law_is_good_seen", "_law_is_good_seen", defArgs s_law_is_good_seen, defBody s_law_is_good_seen, defScope s_law_is_good_seen, [], []⟩
def de_law_outcome : He.DefD := ⟨("_law_outcome", none), "_law_outcome", "_law_outcome", defArgs s_law_outcome, defBody s_law_outcome, defScope s_law_outcome, [], []⟩
def de_law : He.DefD := ⟨("law", none), "law", "law", defArgs s_law, defBody s_law, defScope s_law, [], []⟩
def fnAll : List He.DefD := [de_is_integer, de_is_groups, de_require_groups, de_require_system, de_ranks_of, de_ranks, de_left_by_one, de_without, de_changed_by, de_is_name, de_is_person, de_is_seen, de_require_size, de_require_seen, de_members, de_ways_on, de_steps, de_counted, de_fits, de_count_rankings, de_next_groups, de_ranking_at, de_marks, de_possible_sizes, de_clash, de_law_source, de_law_pick, de_law_is_bool, de_law_any_value, de_law_variant, de_law_is_integer, de_law_error_name, de_law_sizes, de_law_rows, de_law_people, de_law_seen, de_law_is_good_person, de_law_kinds, de_law_is_good_sizes, de_law_is_good_seen, de_law_outcome, de_law]
def faAll : List He.Fa := [.glo "is_integer", .glo "is_groups", .glo "require_groups", .glo "require_system", .glo "ranks_of", .glo "ranks", .glo "left_by_one", .glo "without", .glo "changed_by", .glo "is_name", .glo "is_person", .glo "is_seen", .glo "require_size", .glo "require_seen", .glo "members", .glo "ways_on", .glo "steps", .glo "counted", .glo "fits", .glo "count_rankings", .glo "next_groups", .glo "ranking_at", .glo "marks", .glo "possible_sizes", .glo "clash", .glo "_law_source", .glo "_law_pick", .glo "_law_is_bool", .glo "_law_any_value", .glo "_law_variant", .glo "_law_is_integer", .glo "_law_error_name", .glo "_law_sizes", .glo "_law_rows", .glo "_law_people", .glo "_law_seen", .glo "_law_is_good_person", .glo "_law_kinds", .glo "_law_is_good_sizes", .glo "_law_is_good_seen", .glo "_law_outcome", .glo "law", .free "ValueError", .free "all", .free "bool", .free "enumerate", .free "int", .free "isinstance", .free "len", .free "list", .free "max", .free "min", .free "range", .free "set", .free "sorted", .free "str", .free "sum", .free "tuple", .free "zip", .int "MAX_SIZE" 30, .glo "SYSTEMS", .str "LETTERS" "abcdefghijklmnopqrstuvwxyz", .int "MAX_SEEN" 12, .int "MAX_NAME" 8, .int "MAX_CLASH" 8, .glo "InvalidGroups", .glo "InvalidSystem", .glo "InvalidIndex", .glo "InvalidSize", .glo "InvalidSeen", .glo "InvalidNumber", .glo "TooMany", .glo "InvalidName", .glo "InvalidResult", .glo "UnknownName", .glo "KnownName", .glo "NothingToUndo", .glo "RankError"]
def exAll (K : PySem.W.Frag) : Bool := He.tupB K "SYSTEMS" [.str "first", .str "last", .str "dense"] && errB K errAll "InvalidGroups" && errB K errAll "InvalidSystem" && errB K errAll "InvalidIndex" && errB K errAll "InvalidSize" && errB K errAll "InvalidSeen" && errB K errAll "InvalidNumber" && errB K errAll "TooMany"
abbrev RwR : PySem.W.OpenRow := PySem.W.OpenLaw.row PySem.Challenge.rw_tiedranks_k01_groups_and_people
abbrev hkA : PySem.W.Hook := He.hookX 4 faAll fnAll [] [] exAll
def obA (s : PySem.W.SharedT) : He.AlX := He.obsX 4 faAll fnAll [] [] exAll (HandSHeadRun.getT s)
theorem ob_eq (s : PySem.W.SharedT) : obA s = hkA.obs s.abs := He.obsX_eq (HandSHeadRun.getT_eq s)
def looseN : List Str := (["is_integer", "is_groups", "require_groups", "require_system", "ranks_of", "ranks", "left_by_one", "without", "changed_by", "is_name", "is_person", "is_seen", "require_size", "require_seen", "members", "ways_on", "steps", "counted", "fits", "count_rankings", "next_groups", "ranking_at", "marks", "possible_sizes", "clash", "_law_source", "_law_pick", "_law_is_bool", "_law_any_value", "_law_variant"] : List Str) ++ (["_law_is_integer", "_law_error_name", "_law_sizes", "_law_rows", "_law_people", "_law_seen", "_law_is_good_person", "_law_kinds", "_law_is_good_sizes", "_law_is_good_seen", "_law_outcome", "RankError", "InvalidGroups", "InvalidSystem", "InvalidIndex", "InvalidSize", "InvalidSeen", "InvalidNumber", "InvalidName", "InvalidResult", "UnknownName", "KnownName", "TooMany", "NothingToUndo", "MAX_SIZE", "SYSTEMS", "LETTERS", "MAX_SEEN", "MAX_NAME", "MAX_CLASH"] : List Str)
theorem runA (w : World) : HandSHeadRun.RunEq RwR (PySem.W.view RwR.prog [67]) hkA obA 6000 looseN w := by
  intro os
  kernel_rfl
theorem txOf {w : World} {K : PySem.W.Frag} {h : Heap} {mg : Str → Option Value} (X : K.In h) (G : h.Ns mainGlobals mg) (c : He.SaysX faAll fnAll [] [] exAll w h K) : Nonempty (Tx K mg) := by
  have cd := c.t.d
  have x7 : (He.tupB K "SYSTEMS" [.str "first", .str "last", .str "dense"] && errB K errAll "InvalidGroups" && errB K errAll "InvalidSystem" && errB K errAll "InvalidIndex" && errB K errAll "InvalidSize" && errB K errAll "InvalidSeen" && errB K errAll "InvalidNumber" && errB K errAll "TooMany") = true := c.more
  have y7 := (Bool.and_eq_true_iff.mp x7).2
  have x6 := (Bool.and_eq_true_iff.mp x7).1
  have y6 := (Bool.and_eq_true_iff.mp x6).2
  have x5 := (Bool.and_eq_true_iff.mp x6).1
  have y5 := (Bool.and_eq_true_iff.mp x5).2
  have x4 := (Bool.and_eq_true_iff.mp x5).1
  have y4 := (Bool.and_eq_true_iff.mp x4).2
  have x3 := (Bool.and_eq_true_iff.mp x4).1
  have y3 := (Bool.and_eq_true_iff.mp x3).2
  have x2 := (Bool.and_eq_true_iff.mp x3).1
  have y2 := (Bool.and_eq_true_iff.mp x2).2
  have x1 := (Bool.and_eq_true_iff.mp x2).1
  have y1 := (Bool.and_eq_true_iff.mp x1).2
  have x0 := (Bool.and_eq_true_iff.mp x1).1
  have y0 := x0
  obtain ⟨f0, F0⟩ := cd.def_ 0 (d := de_is_integer) rfl
  obtain ⟨f1, F1⟩ := cd.def_ 1 (d := de_is_groups) rfl
  obtain ⟨f2, F2⟩ := cd.def_ 2 (d := de_require_groups) rfl
  obtain ⟨f3, F3⟩ := cd.def_ 3 (d := de_require_system) rfl
  obtain ⟨f4, F4⟩ := cd.def_ 4 (d := de_ranks_of) rfl
  obtain ⟨f5, F5⟩ := cd.def_ 5 (d := de_ranks) rfl
  obtain ⟨f6, F6⟩ := cd.def_ 6 (d := de_left_by_one) rfl
  obtain ⟨f7, F7⟩ := cd.def_ 7 (d := de_without) rfl
  obtain ⟨f8, F8⟩ := cd.def_ 8 (d := de_changed_by) rfl
  obtain ⟨f9, F9⟩ := cd.def_ 9 (d := de_is_name) rfl
  obtain ⟨f10, F10⟩ := cd.def_ 10 (d := de_is_person) rfl
  obtain ⟨f11, F11⟩ := cd.def_ 11 (d := de_is_seen) rfl
  obtain ⟨f12, F12⟩ := cd.def_ 12 (d := de_require_size) rfl
  obtain ⟨f13, F13⟩ := cd.def_ 13 (d := de_require_seen) rfl
  obtain ⟨f14, F14⟩ := cd.def_ 14 (d := de_members) rfl
  obtain ⟨f15, F15⟩ := cd.def_ 15 (d := de_ways_on) rfl
  obtain ⟨f16, F16⟩ := cd.def_ 16 (d := de_steps) rfl
  obtain ⟨f17, F17⟩ := cd.def_ 17 (d := de_counted) rfl
  obtain ⟨f18, F18⟩ := cd.def_ 18 (d := de_fits) rfl
  obtain ⟨f19, F19⟩ := cd.def_ 19 (d := de_count_rankings) rfl
  obtain ⟨f20, F20⟩ := cd.def_ 20 (d := de_next_groups) rfl
  obtain ⟨f21, F21⟩ := cd.def_ 21 (d := de_ranking_at) rfl
  obtain ⟨f22, F22⟩ := cd.def_ 22 (d := de_marks) rfl
  obtain ⟨f23, F23⟩ := cd.def_ 23 (d := de_possible_sizes) rfl
  obtain ⟨f24, F24⟩ := cd.def_ 24 (d := de_clash) rfl
  obtain ⟨f25, F25⟩ := cd.def_ 25 (d := de_law_source) rfl
  obtain ⟨f26, F26⟩ := cd.def_ 26 (d := de_law_pick) rfl
  obtain ⟨f27, F27⟩ := cd.def_ 27 (d := de_law_is_bool) rfl
  obtain ⟨f28, F28⟩ := cd.def_ 28 (d := de_law_any_value) rfl
  obtain ⟨f29, F29⟩ := cd.def_ 29 (d := de_law_variant) rfl
  obtain ⟨f30, F30⟩ := cd.def_ 30 (d := de_law_is_integer) rfl
  obtain ⟨f31, F31⟩ := cd.def_ 31 (d := de_law_error_name) rfl
  obtain ⟨f32, F32⟩ := cd.def_ 32 (d := de_law_sizes) rfl
  obtain ⟨f33, F33⟩ := cd.def_ 33 (d := de_law_rows) rfl
  obtain ⟨f34, F34⟩ := cd.def_ 34 (d := de_law_people) rfl
  obtain ⟨f35, F35⟩ := cd.def_ 35 (d := de_law_seen) rfl
  obtain ⟨f36, F36⟩ := cd.def_ 36 (d := de_law_is_good_person) rfl
  obtain ⟨f37, F37⟩ := cd.def_ 37 (d := de_law_kinds) rfl
  obtain ⟨f38, F38⟩ := cd.def_ 38 (d := de_law_is_good_sizes) rfl
  obtain ⟨f39, F39⟩ := cd.def_ 39 (d := de_law_is_good_seen) rfl
  obtain ⟨f40, F40⟩ := cd.def_ 40 (d := de_law_outcome) rfl
  obtain ⟨f41, F41⟩ := cd.def_ 41 (d := de_law) rfl
  exact ⟨⟨f0, fun_of F0, He.glo_ok X G (cd.fact 0 (f := .glo "is_integer") rfl), f1, fun_of F1, He.glo_ok X G (cd.fact 1 (f := .glo "is_groups") rfl), f2, fun_of F2, He.glo_ok X G (cd.fact 2 (f := .glo "require_groups") rfl), f3, fun_of F3, He.glo_ok X G (cd.fact 3 (f := .glo "require_system") rfl), f4, fun_of F4, He.glo_ok X G (cd.fact 4 (f := .glo "ranks_of") rfl), f5, fun_of F5, He.glo_ok X G (cd.fact 5 (f := .glo "ranks") rfl), f6, fun_of F6, He.glo_ok X G (cd.fact 6 (f := .glo "left_by_one") rfl), f7, fun_of F7, He.glo_ok X G (cd.fact 7 (f := .glo "without") rfl), f8, fun_of F8, He.glo_ok X G (cd.fact 8 (f := .glo "changed_by") rfl), f9, fun_of F9, He.glo_ok X G (cd.fact 9 (f := .glo "is_name") rfl), f10, fun_of F10, He.glo_ok X G (cd.fact 10 (f := .glo "is_person") rfl), f11, fun_of F11, He.glo_ok X G (cd.fact 11 (f := .glo "is_seen") rfl), f12, fun_of F12, He.glo_ok X G (cd.fact 12 (f := .glo "require_size") rfl), f13, fun_of F13, He.glo_ok X G (cd.fact 13 (f := .glo "require_seen") rfl), f14, fun_of F14, He.glo_ok X G (cd.fact 14 (f := .glo "members") rfl), f15, fun_of F15, He.glo_ok X G (cd.fact 15 (f := .glo "ways_on") rfl), f16, fun_of F16, He.glo_ok X G (cd.fact 16 (f := .glo "steps") rfl), f17, fun_of F17, He.glo_ok X G (cd.fact 17 (f := .glo "counted") rfl), f18, fun_of F18, He.glo_ok X G (cd.fact 18 (f := .glo "fits") rfl), f19, fun_of F19, He.glo_ok X G (cd.fact 19 (f := .glo "count_rankings") rfl), f20, fun_of F20, He.glo_ok X G (cd.fact 20 (f := .glo "next_groups") rfl), f21, fun_of F21, He.glo_ok X G (cd.fact 21 (f := .glo "ranking_at") rfl), f22, fun_of F22, He.glo_ok X G (cd.fact 22 (f := .glo "marks") rfl), f23, fun_of F23, He.glo_ok X G (cd.fact 23 (f := .glo "possible_sizes") rfl), f24, fun_of F24, He.glo_ok X G (cd.fact 24 (f := .glo "clash") rfl), f25, fun_of F25, He.glo_ok X G (cd.fact 25 (f := .glo "_law_source") rfl), f26, fun_of F26, He.glo_ok X G (cd.fact 26 (f := .glo "_law_pick") rfl), f27, fun_of F27, He.glo_ok X G (cd.fact 27 (f := .glo "_law_is_bool") rfl), f28, fun_of F28, He.glo_ok X G (cd.fact 28 (f := .glo "_law_any_value") rfl), f29, fun_of F29, He.glo_ok X G (cd.fact 29 (f := .glo "_law_variant") rfl), f30, fun_of F30, He.glo_ok X G (cd.fact 30 (f := .glo "_law_is_integer") rfl), f31, fun_of F31, He.glo_ok X G (cd.fact 31 (f := .glo "_law_error_name") rfl), f32, fun_of F32, He.glo_ok X G (cd.fact 32 (f := .glo "_law_sizes") rfl), f33, fun_of F33, He.glo_ok X G (cd.fact 33 (f := .glo "_law_rows") rfl), f34, fun_of F34, He.glo_ok X G (cd.fact 34 (f := .glo "_law_people") rfl), f35, fun_of F35, He.glo_ok X G (cd.fact 35 (f := .glo "_law_seen") rfl), f36, fun_of F36, He.glo_ok X G (cd.fact 36 (f := .glo "_law_is_good_person") rfl), f37, fun_of F37, He.glo_ok X G (cd.fact 37 (f := .glo "_law_kinds") rfl), f38, fun_of F38, He.glo_ok X G (cd.fact 38 (f := .glo "_law_is_good_sizes") rfl), f39, fun_of F39, He.glo_ok X G (cd.fact 39 (f := .glo "_law_is_good_seen") rfl), f40, fun_of F40, He.glo_ok X G (cd.fact 40 (f := .glo "_law_outcome") rfl), f41, fun_of F41, He.glo_ok X G (cd.fact 41 (f := .glo "law") rfl), He.free_ok X G (cd.fact 42 (f := .free "ValueError") rfl), He.free_ok X G (cd.fact 43 (f := .free "all") rfl), He.free_ok X G (cd.fact 44 (f := .free "bool") rfl), He.free_ok X G (cd.fact 45 (f := .free "enumerate") rfl), He.free_ok X G (cd.fact 46 (f := .free "int") rfl), He.free_ok X G (cd.fact 47 (f := .free "isinstance") rfl), He.free_ok X G (cd.fact 48 (f := .free "len") rfl), He.free_ok X G (cd.fact 49 (f := .free "list") rfl), He.free_ok X G (cd.fact 50 (f := .free "max") rfl), He.free_ok X G (cd.fact 51 (f := .free "min") rfl), He.free_ok X G (cd.fact 52 (f := .free "range") rfl), He.free_ok X G (cd.fact 53 (f := .free "set") rfl), He.free_ok X G (cd.fact 54 (f := .free "sorted") rfl), He.free_ok X G (cd.fact 55 (f := .free "str") rfl), He.free_ok X G (cd.fact 56 (f := .free "sum") rfl), He.free_ok X G (cd.fact 57 (f := .free "tuple") rfl), He.free_ok X G (cd.fact 58 (f := .free "zip") rfl), He.int_ok X G (cd.fact 59 (f := .int "MAX_SIZE" 30) rfl), He.glo_ok X G (cd.fact 60 (f := .glo "SYSTEMS") rfl), fun H => He.tupB_ok y0 H, He.str_ok X G (cd.fact 61 (f := .str "LETTERS" "abcdefghijklmnopqrstuvwxyz") rfl), He.int_ok X G (cd.fact 62 (f := .int "MAX_SEEN" 12) rfl), He.int_ok X G (cd.fact 63 (f := .int "MAX_NAME" 8) rfl), He.int_ok X G (cd.fact 64 (f := .int "MAX_CLASH" 8) rfl), He.glo_ok X G (cd.fact 65 (f := .glo "InvalidGroups") rfl), He.glo_ok X G (cd.fact 66 (f := .glo "InvalidSystem") rfl), He.glo_ok X G (cd.fact 67 (f := .glo "InvalidIndex") rfl), He.glo_ok X G (cd.fact 68 (f := .glo "InvalidSize") rfl), He.glo_ok X G (cd.fact 69 (f := .glo "InvalidSeen") rfl), He.glo_ok X G (cd.fact 70 (f := .glo "InvalidNumber") rfl), He.glo_ok X G (cd.fact 71 (f := .glo "TooMany") rfl), He.glo_ok X G (cd.fact 72 (f := .glo "InvalidName") rfl), He.glo_ok X G (cd.fact 73 (f := .glo "InvalidResult") rfl), He.glo_ok X G (cd.fact 74 (f := .glo "UnknownName") rfl), He.glo_ok X G (cd.fact 75 (f := .glo "KnownName") rfl), He.glo_ok X G (cd.fact 76 (f := .glo "NothingToUndo") rfl), He.glo_ok X G (cd.fact 77 (f := .glo "RankError") rfl), errB_ok y1, errB_ok y2, errB_ok y3, errB_ok y4, errB_ok y5, errB_ok y6, errB_ok y7⟩⟩
end GL
open PySem PySem.W PySem.Calls PyProof.Rows
theorem PySem.Challenge.cw_tiedranks_k01_groups_and_people_holds : PySem.Challenge.rw_tiedranks_k01_groups_and_people.Holds := by
  w_on; o_law
  refine HandSHeadRun.head_any (r := OpenLaw.row PySem.Challenge.rw_tiedranks_k01_groups_and_people) (q := view (OpenLaw.row PySem.Challenge.rw_tiedranks_k01_groups_and_people).prog [67]) (H := GL.hkA) (ob := GL.obA) (M := 6000) (loose := GL.looseN) (d := HandSHeadRun.topDef (OpenLaw.row PySem.Challenge.rw_tiedranks_k01_groups_and_people).prog 67) (kwd := []) GL.ob_eq
    (by kernel_rfl) (fun s => by kernel_rfl) GL.runA (by kernel_rfl) (by kernel_rfl) (by kernel_rfl) (by rfl) (by first | assumption | decide +kernel) (by decide +kernel) ⟨rfl, rfl, rfl, rfl, rfl, by decide +kernel⟩ ?hw ?hc
  case hw => w_witness2
  case hc =>
    refine L2.walk_ofE (l := PySem.Challenge.rw_tiedranks_k01_groups_and_people) (n := 63) (k := 8) (x := "script") (CX := L2.CX0) rfl (by decide) (by kernel_rfl) ⟨rfl, by decide, by decide⟩ ?F (fun _ _ _ _ z => z)
    intro w mg fa h Y G hmg0
    obtain ⟨K, KX, c⟩ := Y
    obtain ⟨T⟩ := GL.txOf KX G c
    have hmg : mg ("law" : PySem.Str) = some (.ref fa) := by
      have e : (HandSHeadRun.topDef (OpenLaw.row PySem.Challenge.rw_tiedranks_k01_groups_and_people).prog 67).name = ("law" : PySem.Str) := by kernel_rfl
      rw [← e]
      exact hmg0
    have e := hmg.symm.trans T.g_law
    cases e
    refine ⟨K, T.fd_law, GL.spP K GL.lawC, KX, GL.law_binds T.F_law fun _ _ _ _ _ _ _ => rfl, fun H a ns hl _ hS => GL.law_wish hl hS, fun base _ _ => GL.ok_law T⟩
