import PyProof.Rows.All
import Wide.All
import OpenK.AllK
import Wide.FinOn
import KE.KStateDown
import KE.SortData
import KE.DataCmp
import KE.DataEq
import KE.KeyNested
import KE.KDictKeyed
import HandS.ForMost
import HandS.Exc
import HandS.ExcOwn
import HandS.ExcInit
import HandS.CallSlots
import HandS.TryOnly
import HandS.More
import HandS.Defaults
import HandS.Deep
import HandS.TupAny
import HandS.Head0
import HandS.Head1
import HandS.Head2
import HandS.HeadEnd
import HandS.HeadHook1
import HandS.HeadHook2
import HandS.Zip
import HandS.Wide
import HandS.Style
import HandS.Flow
import HandS.IsInst
import HandS.Strs
import HandS.Conv
import HandS.ExcIs
import HandS.ExcField
import HandS.TupSets
import PyProof.WalksMore
import PyProof.DictRoadsH
import HandS.TupLen
import KE.GoesMore
import KE.GoesZip
import KE.GoesEnum
import KE.GoesRev
import KE.KDictZip
import PyProof.Draws
import HandS.MapObj
import KE.KDictPairs
import KE.KIndexOf
import PySem.Challenge.RW_pickalike_k03_moved
section
set_option Elab.async false
set_option linter.all false
set_option maxRecDepth 100000
set_option maxHeartbeats 4000000
/-! The data layer: what Python code computes, over plain data (PyData), on top of the hand layer's rules. -/
namespace DL
open PySem PySem.Spec PyProof.Rows L2

/-! ### results -/
inductive R (α : Type) where
  | ok (a : α)
  | ex (c : String) (f : Option PyData)
  | bad
def R.bind {α β : Type} (x : R α) (f : α → R β) : R β := match x with
  | .ok a => f a
  | .ex c v => .ex c v
  | .bad => .bad
@[simp] theorem R.bind_ok {α β : Type} (a : α) (f : α → R β) : (R.ok a).bind f = f a := rfl
@[simp] theorem R.bind_ex {α β : Type} (c : String) (v : Option PyData) (f : α → R β) : (R.ex c v).bind f = .ex c v := rfl
@[simp] theorem R.bind_bad {α β : Type} (f : α → R β) : (R.bad).bind f = .bad := rfl
abbrev DEnv := List (Option PyData)

/-! ### heaps -/
/-- from (H, Hf) on: all that stood stands; what is new in Hf is new in H. Hf: the part of H that is settled (nothing in it will be changed) -/
structure Ext (H Hf H' Hf' : Hp) : Prop where
  same : Same H H'
  sf : Same Hf Hf'
  sub : Same Hf' H'
  new : ∀ a o, Hf' a = some o → Hf a = some o ∨ H a = none
theorem Ext.refl {H Hf : Hp} (h : Same Hf H) : Ext H Hf H Hf := ⟨Same.refl _, Same.refl _, h, fun _ _ e => .inl e⟩
theorem Ext.trans {H Hf H1 Hf1 H2 Hf2 : Hp} (a : Ext H Hf H1 Hf1) (b : Ext H1 Hf1 H2 Hf2) : Ext H Hf H2 Hf2 where
  same := a.same.trans b.same
  sf := a.sf.trans b.sf
  sub := b.sub
  new := fun x o e => by
    rcases b.new x o e with h | h
    · exact a.new x o h
    · exact .inr (a.same.free h)
/-- a new object, settled at once -/
theorem Ext.add {H Hf : Hp} (h : Same Hf H) {p : Addr} {o : HO} (n : H p = none) : Ext H Hf (upd H p o) (upd Hf p o) where
  same := fun b x e => by rw [upd_ne (ne_of_none e n)]; exact e
  sf := fun b x e => by rw [upd_ne (ne_of_none e (h.free n))]; exact e
  sub := fun b x e => by
    unfold upd at e ⊢
    split
    · rename_i q; rw [if_pos q] at e; exact e
    · rename_i q; rw [if_neg q] at e; exact h b x e
  new := fun b x e => by
    unfold upd at e
    split at e
    · rename_i q; subst q; exact .inr n
    · exact .inl e
/-- a new object that is not settled -/
theorem Ext.fresh {H Hf : Hp} (h : Same Hf H) {p : Addr} {o : HO} (n : H p = none) : Ext H Hf (upd H p o) Hf where
  same := fun b x e => by rw [upd_ne (ne_of_none e n)]; exact e
  sf := Same.refl _
  sub := fun b x e => by rw [upd_ne (ne_of_none (h b x e) n)]; exact h b x e
  new := fun b x e => .inl e

theorem Same.rd {H H' : Hp} {a : Addr} {u : HO} (e : Same H H') (h : Rd H a u) : Rd H' a u := h.imp (fun q => e _ _ q) fun ⟨o, q⟩ => ⟨o, e _ _ q⟩
theorem Same.tup {K : PySem.W.Frag} {H H' : Hp} {a : Addr} {xs : List V} (e : Same H H') (h : SqT K H a xs) : SqT K H' a xs := by
  rcases h with (h | ⟨o, h⟩) | h
  · exact .inl (.inl (e _ _ h))
  · exact .inl (.inr ⟨o, e _ _ h⟩)
  · exact .inr h

/-! ### data -/
def keyD : Key → PyData
  | .inl i => .int i
  | .inr x => .str x
/-- at a: an exception of the class cls, its own dict at d -/
def exK (a : Addr) (cls : Value) (d : Option Addr) : HO := .ext fun h => ∃ oe vs, h.get? a = some oe ∧ Zc cls d oe ∧ oe.data = .fields vs
/-- a caught exception as data: its class, its field -/
def excD (c : Str) : Option (Str × PyData) → PyData
  | none => .dict [(.bool true, .str c)]
  | some (f, x) => .dict [(.bool true, .str c), (.str f, x)]
/-- the code of a def of the module as data -/
def fnD (x : Str) : PyData := .dict [(.none, .str x)]

/-- a tuple that stands at a, with no own dict -/
def SqN (K : PySem.W.Frag) (H : Hp) (a : Addr) (xs : List V) : Prop :=
  (∃ o, H a = some (.frz o (.tup xs)) ∧ o.dict = none) ∨
    ∃ (o : Obj) (its : Array Value) (n : Nat), K.lookup a = some o ∧ o.cls = .type "tuple" ∧ o.dict = none ∧ o.data = .seq its n ∧ its.size ≤ sizeLine ∧ Vals xs its.toList
theorem SqN.sq {K : PySem.W.Frag} {H : Hp} {a : Addr} {xs : List V} (h : SqN K H a xs) : SqT K H a xs := by
  rcases h with ⟨o, h, _⟩ | ⟨o, its, n, h, a, _, b⟩
  · exact .inl (.inr ⟨o, h⟩)
  · exact .inr ⟨o, its, n, h, a, b⟩
theorem SqN.of {K : PySem.W.Frag} {H : Hp} {a : Addr} {xs : List V} {o : Obj} (d : o.dict = none) : SqN K (upd H a (.frz o (.tup xs))) a xs := .inl ⟨o, upd_same, d⟩
theorem Same.tupN {K : PySem.W.Frag} {H H' : Hp} {a : Addr} {xs : List V} (e : Same H H') (h : SqN K H a xs) : SqN K H' a xs := by
  rcases h with ⟨o, h, d⟩ | h
  · exact .inl ⟨o, e _ _ h, d⟩
  · exact .inr h

mutual
/-- the value v is the data d, by the settled heap -/
inductive Rp (K : PySem.W.Frag) (H : Hp) : V → PyData → Prop
  | non : Rp K H .non .none
  | bl (b : Bool) : Rp K H (.bl b) (.bool b)
  | int (i : Int) : Rp K H (.int i) (.int i)
  | str (x : Str) : Rp K H (.str x) (.str x)
  | lst {a : Addr} {xs : List V} {ds : List PyData} : Rd H a (.lst xs) → RpAll K H xs ds → Rp K H (.ref a) (.list ds)
  | tup {a : Addr} {xs : List V} {ds : List PyData} : SqN K H a xs → RpAll K H xs ds → Rp K H (.ref a) (.tuple ds)
  | dK {a : Addr} {kvs : List (Key × V)} {ds : List (PyData × PyData)} : H a = some (.dK kvs) → RpKV K H kvs ds → Rp K H (.ref a) (.dict ds)
  | dN {a : Addr} {o : Obj} {es : Array DictEntry} {ep : Nat} {ds : List (PyData × PyData)} {ks : List (NestedKey × Addr × V × Value)} :
      H a = some (.ext (fun h => h.get? a = some o)) → o.ExactDict → o.data = .dict es ep → ks ≠ [] → (a == sysModules) = false →
      (∀ P w, es.toList = ks.map fun k => entryOfKey (nestedKind P w) (k.1, k.2.1, k.2.2.2)) → (ks.map (·.1)).Nodup → RpEs K H ks ds → Rp K H (.ref a) (.dict ds)
  | fn (x : Str) : Rp K H (.ref (He.ga K x)) (fnD x)
  | exc0 {a : Addr} {c : Str} : H a = some (exK a (.ref (He.ga K c)) none) → Rp K H (.ref a) (excD c none)
  | exc1 {a d : Addr} {c f : Str} {v : V} {x : PyData} : H a = some (exK a (.ref (He.ga K c)) (some d)) → H d = some (.xd [(f, v)]) → Rp K H v x → Rp K H (.ref a) (excD c (some (f, x)))
inductive RpAll (K : PySem.W.Frag) (H : Hp) : List V → List PyData → Prop
  | nil : RpAll K H [] []
  | cons {v : V} {vs : List V} {d : PyData} {ds : List PyData} : Rp K H v d → RpAll K H vs ds → RpAll K H (v :: vs) (d :: ds)
inductive RpKV (K : PySem.W.Frag) (H : Hp) : List (Key × V) → List (PyData × PyData) → Prop
  | nil : RpKV K H [] []
  | cons {k : Key} {v : V} {kvs : List (Key × V)} {d : PyData} {ds : List (PyData × PyData)} : Rp K H v d → RpKV K H kvs ds → RpKV K H ((k, v) :: kvs) ((keyD k, d) :: ds)
/-- a dict's entries, the keys tuples: the key, where its tuple stands, its value -/
inductive RpEs (K : PySem.W.Frag) (H : Hp) : List (NestedKey × Addr × V × Value) → List (PyData × PyData) → Prop
  | nil : RpEs K H [] []
  | cons {k : NestedKey} {t : Addr} {v : V} {u : Value} {kvs : List (NestedKey × Addr × V × Value)} {d : PyData} {ds : List (PyData × PyData)} :
      Rp K H (.ref t) k.data → (∃ ks, k = .tup ks) → k.depth ≤ 8 → RelV v u → Rp K H v d → RpEs K H kvs ds → RpEs K H ((k, t, v, u) :: kvs) ((k.data, d) :: ds)
end
variable {K : PySem.W.Frag} {H H' Hf Hf' : Hp}
mutual
theorem Rp.mono (e : Same H H') : ∀ {v : V} {d : PyData}, Rp K H v d → Rp K H' v d
  | _, _, .non => .non
  | _, _, .bl b => .bl b
  | _, _, .int i => .int i
  | _, _, .str x => .str x
  | _, _, .lst h a => .lst (Same.rd e h) (RpAll.mono e a)
  | _, _, .tup h a => .tup (Same.tupN e h) (RpAll.mono e a)
  | _, _, .dK h a => .dK (e _ _ h) (RpKV.mono e a)
  | _, _, .dN h a b c n f g i => .dN (e _ _ h) a b c n f g (RpEs.mono e i)
  | _, _, .fn x => .fn x
  | _, _, .exc0 h => .exc0 (e _ _ h)
  | _, _, .exc1 h d r => .exc1 (e _ _ h) (e _ _ d) (Rp.mono e r)
theorem RpAll.mono (e : Same H H') : ∀ {vs : List V} {ds : List PyData}, RpAll K H vs ds → RpAll K H' vs ds
  | _, _, .nil => .nil
  | _, _, .cons h t => .cons (Rp.mono e h) (RpAll.mono e t)
theorem RpKV.mono (e : Same H H') : ∀ {vs : List (Key × V)} {ds : List (PyData × PyData)}, RpKV K H vs ds → RpKV K H' vs ds
  | _, _, .nil => .nil
  | _, _, .cons h t => .cons (Rp.mono e h) (RpKV.mono e t)
theorem RpEs.mono (e : Same H H') : ∀ {vs : List (NestedKey × Addr × V × Value)} {ds : List (PyData × PyData)}, RpEs K H vs ds → RpEs K H' vs ds
  | _, _, .nil => .nil
  | _, _, .cons h a b c d t => .cons (Rp.mono e h) a b c (Rp.mono e d) (RpEs.mono e t)
end
theorem RpAll.length : ∀ {vs : List V} {ds : List PyData}, RpAll K H vs ds → vs.length = ds.length
  | _, _, .nil => rfl
  | _, _, .cons _ t => congrArg Nat.succ (RpAll.length t)
theorem RpAll.append : ∀ {vs ws : List V} {ds es : List PyData}, RpAll K H vs ds → RpAll K H ws es → RpAll K H (vs ++ ws) (ds ++ es)
  | _, _, _, _, .nil, s => s
  | _, _, _, _, .cons h t, s => .cons h (RpAll.append t s)
theorem RpAll.get : ∀ {vs : List V} {ds : List PyData} {i : Nat} {d : PyData}, RpAll K H vs ds → ds[i]? = some d → ∃ v, vs[i]? = some v ∧ Rp K H v d
  | _, _, i, _, .nil, e => by simp at e
  | _, _, 0, _, .cons h _, e => by
    have e' := Option.some.inj e
    subst e'
    exact ⟨_, rfl, h⟩
  | _, _, i + 1, _, .cons _ t, e => RpAll.get (i := i) t e
theorem RpAll.getV : ∀ {vs : List V} {ds : List PyData} {i : Nat} {v : V}, RpAll K H vs ds → vs[i]? = some v → ∃ d, ds[i]? = some d ∧ Rp K H v d
  | _, _, i, _, .nil, e => by simp at e
  | _, _, 0, _, .cons h _, e => by
    have e' := Option.some.inj e
    subst e'
    exact ⟨_, rfl, h⟩
  | _, _, i + 1, _, .cons _ t, e => RpAll.getV (i := i) t e
theorem RpAll.take : ∀ {vs : List V} {ds : List PyData} (n : Nat), RpAll K H vs ds → RpAll K H (vs.take n) (ds.take n)
  | _, _, 0, _ => .nil
  | _, _, _ + 1, .nil => .nil
  | _, _, n + 1, .cons h t => .cons h (RpAll.take n t)
theorem RpAll.drop : ∀ {vs : List V} {ds : List PyData} (n : Nat), RpAll K H vs ds → RpAll K H (vs.drop n) (ds.drop n)
  | _, _, 0, h => h
  | _, _, _ + 1, .nil => .nil
  | _, _, n + 1, .cons _ t => RpAll.drop n t
theorem RpAll.reverse : ∀ {vs : List V} {ds : List PyData}, RpAll K H vs ds → RpAll K H vs.reverse ds.reverse
  | _, _, .nil => .nil
  | _, _, .cons h t => by
    rw [List.reverse_cons, List.reverse_cons]
    exact RpAll.append (RpAll.reverse t) (.cons h .nil)
theorem RpAll.set {v : V} {d : PyData} (r : Rp K H v d) : ∀ {vs : List V} {ds : List PyData} (i : Nat), RpAll K H vs ds → RpAll K H (vs.set i v) (ds.set i d)
  | _, _, _, .nil => .nil
  | _, _, 0, .cons _ t => .cons r t
  | _, _, i + 1, .cons h t => .cons h (RpAll.set r i t)
theorem RpAll.eraseIdx : ∀ {vs : List V} {ds : List PyData} (i : Nat), RpAll K H vs ds → RpAll K H (vs.eraseIdx i) (ds.eraseIdx i)
  | _, _, _, .nil => .nil
  | _, _, 0, .cons _ t => t
  | _, _, i + 1, .cons h t => .cons h (RpAll.eraseIdx i t)
theorem RpAll.ints : ∀ (ns : List Int), RpAll K H (ns.map V.int) (ns.map PyData.int)
  | [] => .nil
  | n :: ns => .cons (.int n) (RpAll.ints ns)

/-- plain data are data of the hand layer -/
theorem Rp.list_inv {v : V} {ds : List PyData} (h : Rp K H v (.list ds)) : ∃ a xs, v = .ref a ∧ SqL K H a xs ∧ RpAll K H xs ds := by
  cases h with
  | lst a b => exact ⟨_, _, rfl, .inl a, b⟩
theorem Rp.list_rd {v : V} {ds : List PyData} (h : Rp K H v (.list ds)) : ∃ a xs, v = .ref a ∧ Rd H a (.lst xs) ∧ RpAll K H xs ds := by
  cases h with
  | lst a b => exact ⟨_, _, rfl, a, b⟩
theorem Rp.tuple_inv {v : V} {ds : List PyData} (h : Rp K H v (.tuple ds)) : ∃ a xs, v = .ref a ∧ SqT K H a xs ∧ RpAll K H xs ds := by
  cases h with
  | tup a b => exact ⟨_, _, rfl, a.sq, b⟩
theorem Rp.tuple_invN {v : V} {ds : List PyData} (h : Rp K H v (.tuple ds)) : ∃ a xs, v = .ref a ∧ SqN K H a xs ∧ RpAll K H xs ds := by
  cases h with
  | tup a b => exact ⟨_, _, rfl, a, b⟩
mutual
theorem Rp.dp : ∀ (d : PyData) (v : V), d.plain = true → Rp K H v d → Dp K H v d
  | .none, _, _, h => by cases h; exact .non
  | .bool b, _, _, h => by cases h; exact .bl b
  | .int i, _, _, h => by cases h; exact .int i
  | .str x, _, _, h => by cases h; exact .str x
  | .list ds, _, p, h => by
    obtain ⟨a, xs, rfl, h1, h2⟩ := h.list_inv
    exact .lst h1 (RpAll.dp ds xs (by simpa [PyData.plain] using p) h2)
  | .tuple ds, _, p, h => by
    obtain ⟨a, xs, rfl, h1, h2⟩ := h.tuple_inv
    exact .tup h1 (RpAll.dp ds xs (by simpa [PyData.plain] using p) h2)
  | .dict _, _, p, _ => by simp [PyData.plain] at p
theorem RpAll.dp : ∀ (ds : List PyData) (vs : List V), PyData.plainAll ds = true → RpAll K H vs ds → DpAll K H vs ds
  | [], _, _, h => by cases h; exact .nil
  | d :: ds, _, p, h => by
    have p' : d.plain = true ∧ PyData.plainAll ds = true := by simpa [PyData.plainAll] using p
    cases h with
    | cons a b => exact .cons (Rp.dp d _ p'.1 a) (RpAll.dp ds _ p'.2 b)
end

/-! ### owned objects: one name holds them, nothing else does -/
def OwnAt (K : PySem.W.Frag) (H Hf : Hp) (p : Addr) (d : PyData) : Prop :=
  (∃ xs ds, H p = some (.lst xs) ∧ d = .list ds ∧ RpAll K Hf xs ds) ∨
  (∃ kvs ds, H p = some (.dK kvs) ∧ d = .dict ds ∧ RpKV K Hf kvs ds) ∨
  (∃ (o : Obj) (es : Array DictEntry) (ep : Nat) (ds : List (PyData × PyData)) (ks : List (NestedKey × Addr × V × Value)),
      H p = some (.ext (fun h => h.get? p = some o)) ∧ o.ExactDict ∧ o.data = .dict es ep ∧ ks ≠ [] ∧ (p == sysModules) = false ∧
      (∀ P w, es.toList = ks.map fun k => entryOfKey (nestedKind P w) (k.1, k.2.1, k.2.2.2)) ∧ (ks.map (·.1)).Nodup ∧ d = .dict ds ∧ RpEs K Hf ks ds)
def Own (K : PySem.W.Frag) (H Hf : Hp) (v : V) (d : PyData) : Prop := ∃ p, v = .ref p ∧ Hf p = none ∧ OwnAt K H Hf p d
theorem OwnAt.tracked {p : Addr} {d : PyData} (h : OwnAt K H Hf p d) : ∃ o, H p = some o := by
  rcases h with ⟨_, _, h, _⟩ | ⟨_, _, h, _⟩ | ⟨_, _, _, _, _, h, _⟩ <;> exact ⟨_, h⟩
theorem OwnAt.ext {p : Addr} {d : PyData} (h : OwnAt K H Hf p d) (e : H' p = H p) (s : Same Hf Hf') : OwnAt K H' Hf' p d := by
  rcases h with ⟨xs, ds, h, r, a⟩ | ⟨xs, ds, h, r, a⟩ | ⟨o, es, ep, ds, ks, h, a1, a2, a3, a4, a5, a6, a7, a8⟩
  · exact .inl ⟨xs, ds, e.trans h, r, a.mono s⟩
  · exact .inr (.inl ⟨xs, ds, e.trans h, r, a.mono s⟩)
  · exact .inr (.inr ⟨o, es, ep, ds, ks, e.trans h, a1, a2, a3, a4, a5, a6, a7, a8.mono s⟩)
theorem Own.ext {v : V} {d : PyData} (h : Own K H Hf v d) (x : Ext H Hf H' Hf') : Own K H' Hf' v d := by
  obtain ⟨p, rfl, n, a⟩ := h
  obtain ⟨o, ho⟩ := a.tracked
  refine ⟨p, rfl, ?_, a.ext (by rw [ho, x.same _ _ ho]) x.sf⟩
  cases q : Hf' p with
  | none => rfl
  | some u =>
    rcases x.new p u q with z | z
    · rw [n] at z; cases z
    · rw [ho] at z; cases z
/-- settled: what was owned may be handed on, never to be changed again -/
theorem OwnAt.settle {p : Addr} {d : PyData} (hs : Same Hf H) (n : Hf p = none) (h : OwnAt K H Hf p d) : ∃ o, H p = some o ∧ Same Hf (upd Hf p o) ∧ Same (upd Hf p o) H ∧ Rp K (upd Hf p o) (.ref p) d := by
  obtain ⟨o, ho⟩ := h.tracked
  have s1 : Same Hf (upd Hf p o) := fun b x e => by rw [upd_ne (ne_of_none e n)]; exact e
  refine ⟨o, ho, s1, fun b x e => ?_, ?_⟩
  · unfold upd at e
    split at e
    · rename_i q; cases e; rw [q]; exact ho
    · exact hs b x e
  · rcases h with ⟨xs, ds, h, rfl, a⟩ | ⟨xs, ds, h, rfl, a⟩ | ⟨o', es, ep, ds, ks, h, a1, a2, a3, a4, a5, a6, rfl, a8⟩
    · rw [ho] at h; cases h
      exact .lst (.of upd_same) (a.mono s1)
    · rw [ho] at h; cases h
      exact .dK upd_same (a.mono s1)
    · rw [ho] at h; cases h
      exact .dN upd_same a1 a2 a3 a4 a5 a6 (a8.mono s1)
/-- data to be read now: settled, or owned -/
def RpW (K : PySem.W.Frag) (H Hf : Hp) (v : V) (d : PyData) : Prop := Rp K Hf v d ∨ Own K H Hf v d
theorem RpW.ext {v : V} {d : PyData} (h : RpW K H Hf v d) (x : Ext H Hf H' Hf') : RpW K H' Hf' v d := h.imp (fun r => r.mono x.sf) fun o => o.ext x
/-- .. and by the whole heap -/
theorem RpW.full {v : V} {d : PyData} (h : RpW K H Hf v d) (s : Same Hf H) : Rp K H v d := by
  rcases h with h | ⟨p, rfl, n, a⟩
  · exact h.mono s
  · obtain ⟨o, ho, s1, s2, r⟩ := a.settle s n
    exact r.mono s2
theorem RpW.list_inv {v : V} {ds : List PyData} (h : RpW K H Hf v (.list ds)) (s : Same Hf H) : ∃ a xs, v = .ref a ∧ SqL K H a xs ∧ RpAll K Hf xs ds := by
  rcases h with h | ⟨p, rfl, n, a⟩
  · obtain ⟨a, xs, e, h1, h2⟩ := h.list_inv
    exact ⟨a, xs, e, s.seq h1, h2⟩
  · rcases a with ⟨xs, ds', h, e, a⟩ | ⟨_, _, _, e, _⟩ | ⟨_, _, _, _, _, _, _, _, _, _, _, _, e, _⟩
    · cases e; exact ⟨p, xs, rfl, .of h, a⟩
    · cases e
    · cases e
theorem RpW.list_rd {v : V} {ds : List PyData} (h : RpW K H Hf v (.list ds)) (s : Same Hf H) : ∃ a xs, v = .ref a ∧ Rd H a (.lst xs) ∧ RpAll K Hf xs ds := by
  rcases h with h | ⟨p, rfl, n, a⟩
  · obtain ⟨a, xs, e, h1, h2⟩ := h.list_rd
    exact ⟨a, xs, e, Same.rd s h1, h2⟩
  · rcases a with ⟨xs, ds', h, e, a⟩ | ⟨_, _, _, e, _⟩ | ⟨_, _, _, _, _, _, _, _, _, _, _, _, e, _⟩
    · cases e; exact ⟨p, xs, rfl, .of h, a⟩
    · cases e
    · cases e
theorem RpW.tuple_inv {v : V} {ds : List PyData} (h : RpW K H Hf v (.tuple ds)) (s : Same Hf H) : ∃ a xs, v = .ref a ∧ SqT K H a xs ∧ RpAll K Hf xs ds := by
  rcases h with h | ⟨p, rfl, n, a⟩
  · obtain ⟨a, xs, e, h1, h2⟩ := h.tuple_inv
    exact ⟨a, xs, e, Same.tup s h1, h2⟩
  · rcases a with ⟨xs, ds', h, e, a⟩ | ⟨_, _, _, e, _⟩ | ⟨_, _, _, _, _, _, _, _, _, _, _, _, e, _⟩
    · cases e
    · cases e
    · cases e
theorem RpW.tuple_invN {v : V} {ds : List PyData} (h : RpW K H Hf v (.tuple ds)) (s : Same Hf H) : ∃ a xs, v = .ref a ∧ SqN K H a xs ∧ RpAll K Hf xs ds := by
  rcases h with h | ⟨p, rfl, n, a⟩
  · obtain ⟨a, xs, e, h1, h2⟩ := h.tuple_invN
    exact ⟨a, xs, e, Same.tupN s h1, h2⟩
  · rcases a with ⟨xs, ds', h, e, a⟩ | ⟨_, _, _, e, _⟩ | ⟨_, _, _, _, _, _, _, _, _, _, _, _, e, _⟩
    · cases e
    · cases e
    · cases e
theorem RpW.int_inv {v : V} {i : Int} (h : RpW K H Hf v (.int i)) : v = .int i := by
  rcases h with h | ⟨p, rfl, n, a⟩
  · cases h; rfl
  · rcases a with ⟨xs, ds', h, e, a⟩ | ⟨_, _, _, e, _⟩ | ⟨_, _, _, _, _, _, _, _, _, _, _, _, e, _⟩ <;> cases e
theorem RpW.str_inv {v : V} {i : Str} (h : RpW K H Hf v (.str i)) : v = .str i := by
  rcases h with h | ⟨p, rfl, n, a⟩
  · cases h; rfl
  · rcases a with ⟨xs, ds', h, e, a⟩ | ⟨_, _, _, e, _⟩ | ⟨_, _, _, _, _, _, _, _, _, _, _, _, e, _⟩ <;> cases e
theorem RpW.bool_inv {v : V} {i : Bool} (h : RpW K H Hf v (.bool i)) : v = .bl i := by
  rcases h with h | ⟨p, rfl, n, a⟩
  · cases h; rfl
  · rcases a with ⟨xs, ds', h, e, a⟩ | ⟨_, _, _, e, _⟩ | ⟨_, _, _, _, _, _, _, _, _, _, _, _, e, _⟩ <;> cases e
theorem RpW.none_inv {v : V} (h : RpW K H Hf v .none) : v = .non := by
  rcases h with h | ⟨p, rfl, n, a⟩
  · cases h; rfl
  · rcases a with ⟨xs, ds', h, e, a⟩ | ⟨_, _, _, e, _⟩ | ⟨_, _, _, _, _, _, _, _, _, _, _, _, e, _⟩ <;> cases e
end DL
end

section
set_option Elab.async false
set_option linter.all false
set_option maxRecDepth 100000
set_option maxHeartbeats 4000000
/-! Tuples that are made new, held with the object that stands there: it has no own dict. -/
namespace L2
open PySem PySem.Spec PyProof.Rows
section
variable {X : Cx} {pins : List (Addr × Obj)} {σ : St} {H : Hp} {s : Shared}
/-- the tuple of these items, as an object -/
abbrev tobj (its : Array Value) : Obj := { cls := .type "tuple", data := .seq its }
theorem tfz_ok {X : Cx} {H : Hp} {h : Heap} {a : Addr} {its : List Value} {ys : List V} (e : h.get? a = some (tobj its.toArray)) (hv : Vals ys its) (hz : ys.length ≤ sizeLine) : ObjOk X.prog X.w H h a (.frz (tobj its.toArray) (.tup ys)) :=
  ⟨e, hz, its, hv, ⟨_, e, rfl, _, rfl⟩⟩
theorem Inv.tnewF {its : List Value} {ys : List V} {t' : Nat} (I : Inv X pins σ H s) (hv : Vals ys its) (hz : ys.length ≤ sizeLine) :
    Inv X pins σ (upd H s.heap.objs.size (.frz (tobj its.toArray) (.tup ys))) { s with heap := s.heap.push (tobj its.toArray), toks := t' } :=
  I.laid (fun _ _ q => Heap.get?_push_of_some _ q) (Nat.le_refl _) (tfz_ok (Heap.get?_push_size _ rfl) hv hz)
end
section
variable {X : Cx} {e : Expr} {es : List Expr} {te : TE} {t : TA} {pos : Pos}
def tTupF (t : TA) : TE := fun σ H Q => t σ H fun xs H1 => xs.length ≤ sizeLine ∧ ∀ p o, H1 p = none → o.dict = none → Q (.ref p) (upd H1 p (.frz o (.tup xs)))
theorem pe_tupF {x1} (h : PA X es t) : PE X (.Tuple es x1 pos) (tTupF t) := by
  refine ⟨fun pins s σ H Q I hq => ?_⟩
  refine wpAny_Tuple_spliced (thn (h.run pos pins s σ H _ I hq) fun us s1 ⟨xs, H1, I1, r, z, q⟩ => ⟨by rw [← r.length]; exact z, ?_⟩)
  have hf : H1 s1.heap.objs.size = none := I1.hok.fresh (Nat.le_refl _)
  exact ⟨.ref s1.heap.objs.size, _, I1.tnewF (t' := s1.toks) r z, rfl, q _ _ hf rfl⟩
/-- t + u -/
def rCatF (K : PySem.W.Frag) : R2 := fun x y H Q => ∃ a b xs ys, x = .ref a ∧ y = .ref b ∧ SqT K H a xs ∧ SqT K H b ys ∧ xs.length + ys.length ≤ sizeLine ∧
  (xs = [] → Q (.ref b) H) ∧ (xs ≠ [] → ys = [] → Q (.ref a) H) ∧ (xs ≠ [] → ys ≠ [] → ∀ p o, H p = none → o.dict = none → Q (.ref p) (upd H p (.frz o (.tup (xs ++ ys)))))
theorem op_catF : OpR X (binaryOp .Add) (rCatF X.K) := by
  intro pins s σ H x y v u Q I rx ry h
  obtain ⟨a, b, xs, ys, rfl, rfl, ha, hb, hz, q0, q1, q2⟩ := h
  cases rx
  cases ry
  obtain ⟨its, r1, p1, _⟩ := I.tuple ha
  obtain ⟨its2, r2, p2, _⟩ := I.tuple hb
  by_cases hx : xs = []
  · subst hx
    cases r1
    exact cat_tup0 p1 p2 ⟨.ref b, H, I, rfl, q0 rfl⟩
  · refine HT.cat_tup p1 p2 (fun z => hx (r1.nil_iff.mp z)) (fun z => ⟨.ref a, H, I, rfl, q1 hx (r2.nil_iff.mp z)⟩) (fun z => ?_) (by rw [← r1.length, ← r2.length]; exact hz)
    exact ⟨.ref s.heap.objs.size, _, I.tnewF (t' := s.toks) (r1.append r2) (by rw [List.length_append]; exact hz), rfl, q2 hx (fun w => z (r2.nil_iff.mpr w)) _ _ (I.hok.fresh (Nat.le_refl _)) rfl⟩
/-- t[lo:hi]: the whole of it is t itself -/
def rSlF (K : PySem.W.Frag) : V → Option Int → Option Int → Hp → VK → Prop := fun x lo hi H Q => ∃ a xs, x = .ref a ∧ SqT K H a xs ∧
  (HT.sIx xs.length 0 lo = 0 ∧ HT.sIx xs.length xs.length hi = xs.length → Q (.ref a) H) ∧ (¬ (HT.sIx xs.length 0 lo = 0 ∧ HT.sIx xs.length xs.length hi = xs.length) → ∀ p o, H p = none → o.dict = none → Q (.ref p) (upd H p (.frz o (.tup (cutV xs lo hi)))))
theorem sl_tupF : SlR X (rSlF X.K) := by
  intro pins s σ H x v vl vu lo hi sl Q I rx hs pl pu h
  obtain ⟨a, xs, rfl, hx, q1, q2⟩ := h
  cases rx
  obtain ⟨its, r, ht, hz⟩ := I.tuple hx
  have hlen : its.toArray.size = xs.length := by rw [List.size_toArray]; exact r.length.symm
  refine ⟨"tuple", _, PyProof.Rows.slot_tuple_getitem.lookup, ht.typeIs, ?_⟩
  by_cases hw : HT.sIx xs.length 0 lo = 0 ∧ HT.sIx xs.length xs.length hi = xs.length
  · exact getItem_tuple_whole ht hs pl pu (by rw [hlen]; exact hw) ⟨.ref a, H, I, rfl, q1 hw⟩
  · refine HT.getItem_tuple_cut ht hs pl pu (by rw [hlen]; exact hw) ?_ (by rw [hlen]; exact hz)
    rw [hlen]
    exact ⟨.ref s.heap.objs.size, _, I.tnewF (t' := s.toks) ((r.drop (HT.sIx xs.length 0 lo)).take (HT.sIx xs.length xs.length hi - HT.sIx xs.length 0 lo)) (Nat.le_trans (cutV_length xs lo hi) hz), rfl, q2 hw _ _ (I.hok.fresh (Nat.le_refl _)) rfl⟩
/-- tuple(xs) -/
theorem call_tuple_ofF : CallR X (.type "tuple") (fun xs H Q => ∃ p ys, xs = [.ref p] ∧ ((SqL X.K H p ys ∧ ∀ l o, H l = none → o.dict = none → Q (.ref l) (upd H l (.frz o (.tup ys)))) ∨ (SqT X.K H p ys ∧ Q (.ref p) H))) := by
  intro pins s σ H xs us Q I r h
  obtain ⟨p, ys, rfl, h⟩ := h
  obtain ⟨u, rfl, rx⟩ := vals1 r
  cases rx
  rcases h with ⟨hq, q⟩ | ⟨hq, q⟩
  · obtain ⟨its, r', pl, hz⟩ := I.list hq
    have hlen := r'.length
    refine call_tuple_list pl.isList (fun h' kp => ?_) (by simp only [List.size_toArray] <;> omega)
    have I1 : Inv X pins σ H { s with heap := h' } := I.kept (t' := s.toks) kp
    exact ⟨.ref h'.objs.size, _, I1.tnewF (t' := s.toks) r' hz, rfl, q _ _ (I1.hok.fresh (Nat.le_refl _)) rfl⟩
  · obtain ⟨its, r', pl, hz⟩ := I.tuple hq
    exact call_tuple_same pl ⟨.ref p, H, I, rfl, q⟩
end

/-! ### the pairs of a zip -/
section
variable {X : Cx} {pins : List (Addr × Obj)} {σ : St} {H : Hp} {s : Shared}
theorem pair_in {g : Heap} {ch : List Addr} {p q : Value} {x y : V} (I : Inv X pins σ H s) (gk : ∀ c o, c ∉ ch → s.heap.get? c = some o → g.get? c = some o) (gf : ∀ c ∈ ch, FpOk X pins H c)
    (gn : g.get? s.heap.objs.size = some (tobj #[p, q])) (rp : RelV x p) (rq : RelV y q) :
    Inv X pins σ (upd H s.heap.objs.size (.frz (tobj #[p, q]) (.tup [x, y]))) { s with heap := g } :=
  I.turnedNew (t' := s.toks) gk gf (Nat.le_refl _) (tfz_ok (its := [p, q]) gn (.cons rp (.cons rq .nil)) (by show 2 ≤ sizeLine; decide))
theorem fresh_at {ch : List Addr} {u : HO} (gf : ∀ c ∈ ch, FpOk X pins H c) (lt : ∀ c ∈ ch, c < s.heap.objs.size) : ∀ c ∈ ch, (upd H s.heap.objs.size u) c = none := fun c hc => by
  rw [upd_ne (Nat.ne_of_lt (lt c hc))]; exact (gf c hc).1
end
section
variable {P : Program} {w : World} {K : PySem.W.Frag} {elts : List Expr} {kk : Nat} {tpos : Pos} {a b z TI TO i1 i2 : Addr}
/-- the lists at a and b, the items in new pairs without own dicts -/
def ItzF (K : PySem.W.Frag) (a b : Addr) : It where
  go := (Itz K a b).go
  stop := (Itz K a b).stop
  yld := fun i H v H' => ∃ T o x y, v = .ref T ∧ H T = none ∧ o.dict = none ∧ H' = upd H T (.frz o (.tup [x, y])) ∧ (∀ l, SqL K H a l → l[i]? = some x) ∧ ∀ l, SqL K H b l → l[i]? = some y
/-- the tuples at a and b .. -/
def ItzTF (K : PySem.W.Frag) (a b : Addr) : It where
  go := (RZ.ItzT K a b).go
  stop := (RZ.ItzT K a b).stop
  yld := fun i H v H' => ∃ T o x y, v = .ref T ∧ H T = none ∧ o.dict = none ∧ H' = upd H T (.frz o (.tup [x, y])) ∧ (∀ l, SqT K H a l → l[i]? = some x) ∧ ∀ l, SqT K H b l → l[i]? = some y
theorem five {A B C D E : Addr} {m : Addr → Prop} (h1 : m A) (h2 : m B) (h3 : m C) (h4 : m D) (h5 : m E) : ∀ c ∈ [A, B, C, D, E], m c := fun c hc => by
  rcases List.mem_cons.mp hc with q | hc
  · subst q; exact h1
  rcases List.mem_cons.mp hc with q | hc
  · subst q; exact h2
  rcases List.mem_cons.mp hc with q | hc
  · subst q; exact h3
  rcases List.mem_cons.mp hc with q | hc
  · subst q; exact h4
  rcases List.mem_cons.mp hc with q | hc
  · subst q; exact h5
  cases hc
theorem not5 {A B C D E c : Addr} (h : c ∉ [A, B, C, D, E]) : c ≠ A ∧ c ≠ B ∧ c ≠ C ∧ c ≠ D ∧ c ≠ E := by simpa using h
theorem turn_zipF (D : ZipApart z TI TO i1 i2 a b) :
    Turn P w K (.Tuple elts kk tpos) (ItzF K a b) [z, TI, TO, i1, i2] z (fun i g => IsZip g z TI TO .none ∧ IsPair g TI (.ref i1) (.ref i2) ∧ (∃ p q, IsPair g TO p q) ∧ g.IsListIter i1 a i ∧ g.IsListIter i2 b i) where
  mem := (turn_zip (P := P) (w := w) (K := K) (elts := elts) (kk := kk) (tpos := tpos) D).mem
  obj := (turn_zip (P := P) (w := w) (K := K) (elts := elts) (kk := kk) (tpos := tpos) D).obj
  keep := (turn_zip (P := P) (w := w) (K := K) (elts := elts) (kk := kk) (tpos := tpos) D).keep
  done := (turn_zip (P := P) (w := w) (K := K) (elts := elts) (kk := kk) (tpos := tpos) D).done
  self := (turn_zip (P := P) (w := w) (K := K) (elts := elts) (kk := kk) (tpos := tpos) D).self
  item := by
    intro X eP ew eK hc i pins s σ H E I gf ⟨kz, kTI, ⟨p0, q0, kTO⟩, k1, k2⟩ ⟨xs, ys, x, y, qx, qy, ex, ey⟩
    subst eP ew eK
    obtain ⟨us, vx, px, _⟩ := I.list qx
    obtain ⟨ws, vy, py, _⟩ := I.list qy
    obtain ⟨u, eu, ru⟩ := vx.get ex
    obtain ⟨v, ev, rv⟩ := vy.get ey
    refine wpAny_pyNext_zip_item D kz kTI kTO k1 k2 px.isList py.isList (x := u) (y := v) (by simpa using eu) (by simpa using ev) fun g z' TO' k1' k2' gT _ gk => ⟨_, rfl, wpAny_letOwnedTupleGo_zip (s := { s with heap := g }) z' fun g2 z'' sb => ?_⟩
    have lz : z < s.heap.objs.size := Heap.lt_size kz
    have g2k : ∀ c o, c ∉ [z, TI, TO, i1, i2] → s.heap.get? c = some o → g2.get? c = some o := fun c o n e => by
      obtain ⟨n1, _, n3, n4, n5⟩ := not5 n
      exact (sb.2 c n1).trans (gk c o n1 n3 n4 n5 e)
    have lt : ∀ c ∈ [z, TI, TO, i1, i2], c < s.heap.objs.size :=
      five lz (Heap.lt_size kTI) (Heap.lt_size kTO) (let ⟨_, e, _⟩ := k1; Heap.lt_size e) (let ⟨_, e, _⟩ := k2; Heap.lt_size e)
    refine ⟨.ref s.heap.objs.size, _, pair_in (s := s) (g := g2) I g2k gf ((sb.2 _ (Nat.ne_of_gt lz)).trans gT) ru rv, rfl, ⟨_, _, x, y, rfl, I.hok.fresh (Nat.le_refl _), rfl, rfl, fun l hl => ?_, fun l hl => ?_⟩, ⟨z'', ?_, ⟨u, v, ?_⟩, ?_, ?_⟩, fresh_at (s := s) gf lt⟩
    · rw [I.list_inj hl qx]; exact ex
    · rw [I.list_inj hl qy]; exact ey
    · exact (sb.2 _ D.TIz).trans (gk _ _ D.TIz D.TITO D.TIi1 D.TIi2 kTI)
    · exact (sb.2 _ D.TOz).trans TO'
    · exact k1'.at fun o e => (sb.2 _ D.i1z).trans e
    · exact k2'.at fun o e => (sb.2 _ D.i2z).trans e
theorem turn_zipTF (D : ZipApart z TI TO i1 i2 a b) :
    Turn P w K (.Tuple elts kk tpos) (ItzTF K a b) [z, TI, TO, i1, i2] z (fun i g => IsZip g z TI TO .none ∧ IsPair g TI (.ref i1) (.ref i2) ∧ (∃ p q, IsPair g TO p q) ∧ g.IsTupleIter i1 a i ∧ g.IsTupleIter i2 b i) where
  mem := (RZ.turn_zipT (P := P) (w := w) (K := K) (elts := elts) (kk := kk) (tpos := tpos) D).mem
  obj := (RZ.turn_zipT (P := P) (w := w) (K := K) (elts := elts) (kk := kk) (tpos := tpos) D).obj
  keep := (RZ.turn_zipT (P := P) (w := w) (K := K) (elts := elts) (kk := kk) (tpos := tpos) D).keep
  done := (RZ.turn_zipT (P := P) (w := w) (K := K) (elts := elts) (kk := kk) (tpos := tpos) D).done
  self := (RZ.turn_zipT (P := P) (w := w) (K := K) (elts := elts) (kk := kk) (tpos := tpos) D).self
  item := by
    intro X eP ew eK hc i pins s σ H E I gf ⟨kz, kTI, ⟨p0, q0, kTO⟩, k1, k2⟩ ⟨xs, ys, x, y, qx, qy, ex, ey⟩
    subst eP ew eK
    obtain ⟨us, vx, px, _⟩ := I.tuple qx
    obtain ⟨ws, vy, py, _⟩ := I.tuple qy
    obtain ⟨u, eu, ru⟩ := vx.get ex
    obtain ⟨v, ev, rv⟩ := vy.get ey
    refine RZ.pyNext_zipT_item D kz kTI kTO k1 k2 px py (x := u) (y := v) (by simpa using eu) (by simpa using ev) fun g z' TO' k1' k2' gT _ gk => ⟨_, rfl, wpAny_letOwnedTupleGo_zip (s := { s with heap := g }) z' fun g2 z'' sb => ?_⟩
    have lz : z < s.heap.objs.size := Heap.lt_size kz
    have g2k : ∀ c o, c ∉ [z, TI, TO, i1, i2] → s.heap.get? c = some o → g2.get? c = some o := fun c o n e => by
      obtain ⟨n1, _, n3, n4, n5⟩ := not5 n
      exact (sb.2 c n1).trans (gk c o n1 n3 n4 n5 e)
    have lt : ∀ c ∈ [z, TI, TO, i1, i2], c < s.heap.objs.size :=
      five lz (Heap.lt_size kTI) (Heap.lt_size kTO) (let ⟨_, e, _⟩ := k1; Heap.lt_size e) (let ⟨_, e, _⟩ := k2; Heap.lt_size e)
    refine ⟨.ref s.heap.objs.size, _, pair_in (s := s) (g := g2) I g2k gf ((sb.2 _ (Nat.ne_of_gt lz)).trans gT) ru rv, rfl, ⟨_, _, x, y, rfl, I.hok.fresh (Nat.le_refl _), rfl, rfl, fun l hl => ?_, fun l hl => ?_⟩, ⟨z'', ?_, ⟨u, v, ?_⟩, ?_, ?_⟩, fresh_at (s := s) gf lt⟩
    · rw [I.tuple_inj hl qx]; exact ex
    · rw [I.tuple_inj hl qy]; exact ey
    · exact (sb.2 _ D.TIz).trans (gk _ _ D.TIz D.TITO D.TIi1 D.TIi2 kTI)
    · exact (sb.2 _ D.TOz).trans TO'
    · exact k1'.at fun o e => (sb.2 _ D.i1z).trans e
    · exact k2'.at fun o e => (sb.2 _ D.i2z).trans e
end
def iZipF (K : PySem.W.Frag) (ta : TA) : TI := fun σ H R => ta σ H fun vs H1 => ∃ a b xs ys, vs = [.ref a, .ref b] ∧ ((SqL K H1 a xs ∧ SqL K H1 b ys ∧ R (ItzF K a b) H1) ∨ (SqT K H1 a xs ∧ SqT K H1 b ys ∧ R (ItzTF K a b) H1))
theorem pi_zipF {X : Cx} {e1 e2 : Expr} {ta : TA} {p pos tpos : Pos} {elts : List Expr} {kk : Nat} (hg : Gl X "zip") (hm : X.mg "zip" = none) (ha : PA X [e1, e2] ta)
    (hs : starEach [e1, e2] X.env = (false, eval e1 X.env) :: starEach [e2] X.env := by rfl) (hpl : (backTo pos (starEach [e2] X.env)).any (·.1) = false := by rfl) :
    PI X (.Tuple elts kk tpos) (.Call (.Name "zip" p) [e1, e2] [] pos) (iZipF X.K ta) := by
  refine ⟨fun pins s σ H R I h => ?_⟩
  refine Call_ (ld_blt I hg hm PyProof.Rows.boot_zip (PyProof.Rows.callWith_type1 (thn (ha.run pos pins s σ H _ I h) fun us s1 ⟨vs, H1, I1, r1, a, b, xs, ys, ev, q1⟩ => ?_) hs hpl))
  subst ev
  obtain ⟨u, us', ru, rus, rfl⟩ : ∃ u us', RelV (.ref a) u ∧ Vals [.ref b] us' ∧ us = u :: us' := by cases r1 with | cons m n => exact ⟨_, _, m, n, rfl⟩
  obtain ⟨v, rv, rfl⟩ : ∃ v, RelV (.ref b) v ∧ us' = [v] := by
    cases rus with
    | cons m n => cases n; exact ⟨_, m, rfl⟩
  cases ru
  cases rv
  have ge : ∀ k, FpOk X pins H1 (s1.heap.objs.size + k) := fun k => I1.fpOk (Nat.le_add_right _ _) (I1.hok.fresh (Nat.le_add_right _ _))
  have fp5 := five (m := FpOk X pins H1) (ge 4) (ge 2) (ge 3) (ge 0) (ge 1)
  rcases q1 with ⟨qx, qy, q⟩ | ⟨qx, qy, q⟩
  · obtain ⟨_, _, px, _⟩ := I1.list qx
    obtain ⟨_, _, py, _⟩ := I1.list qy
    refine call_zip_2 px.isList py.isList fun g gz gTI gTO g1 g2 _ gk => wpAny_pyIter_zip gz ?_
    exact ⟨_, _, _, _, H1, rfl, I1.kept (t' := s1.toks) gk, turn_zipF (PySem.W.ktu_apart s1.heap.objs.size a b px.lt py.lt), ⟨gz, gTI, ⟨_, _, gTO⟩, g1, g2⟩, fp5, q⟩
  · obtain ⟨us, _, px, _⟩ := I1.tuple qx
    obtain ⟨ws, _, py, _⟩ := I1.tuple qy
    have la : a < s1.heap.objs.size := let ⟨_, e, _⟩ := px; Heap.lt_size e
    have lb : b < s1.heap.objs.size := let ⟨_, e, _⟩ := py; Heap.lt_size e
    refine RZ.call_zipT (show s1.heap.IsTuple a us.toArray from px) (show s1.heap.IsTuple b ws.toArray from py) fun g gz gTI gTO g1 g2 _ gk => wpAny_pyIter_zip gz ?_
    exact ⟨_, _, _, _, H1, rfl, I1.kept (t' := s1.toks) gk, turn_zipTF (PySem.W.ktu_apart s1.heap.objs.size a b la lb), ⟨gz, gTI, ⟨_, _, gTO⟩, g1, g2⟩, fp5, q⟩
end L2
end

section
set_option Elab.async false
set_option linter.all false
set_option maxRecDepth 100000
set_option maxHeartbeats 4000000
namespace DL
open PySem PySem.Spec PyProof.Rows L2
abbrev St := L2.St

/-! ### the slots -/
structure SR (K : PySem.W.Frag) (H0 Hf0 : Hp) (O : List Nat) (η : DEnv) (σ : St) (H Hf : Hp) : Prop where
  len : η.length = σ.length
  ext : Ext H0 Hf0 H Hf
  val : ∀ i d, i ∉ O → η[i]? = some (some d) → ∃ v, σ[i]? = some (some v) ∧ Rp K Hf v d
  own : ∀ i d, i ∈ O → η[i]? = some (some d) → ∃ p, σ[i]? = some (some (.ref p)) ∧ H0 p = none ∧ Hf p = none ∧ OwnAt K H Hf p d
  dis : ∀ i j d d' p, i ∈ O → j ∈ O → i ≠ j → η[i]? = some (some d) → η[j]? = some (some d') → σ[i]? = some (some (.ref p)) → σ[j]? ≠ some (some (.ref p))
section
variable {K : PySem.W.Frag} {H0 Hf0 H Hf H' Hf' : Hp} {O : List Nat} {η : DEnv} {σ : St}
theorem SR.sub (S : SR K H0 Hf0 O η σ H Hf) : Same Hf H := S.ext.sub
theorem SR.step (S : SR K H0 Hf0 O η σ H Hf) (x : Ext H Hf H' Hf') : SR K H0 Hf0 O η σ H' Hf' where
  len := S.len
  ext := S.ext.trans x
  val := fun i d h e => let ⟨v, a, b⟩ := S.val i d h e; ⟨v, a, b.mono x.sf⟩
  own := fun i d h e => by
    obtain ⟨p, a, b, c, o⟩ := S.own i d h e
    obtain ⟨p', e', n, o'⟩ := Own.ext ⟨p, rfl, c, o⟩ x
    cases e'
    exact ⟨p, a, b, n, o'⟩
  dis := S.dis
/-- a slot is read -/
theorem SR.read (S : SR K H0 Hf0 O η σ H Hf) {i : Nat} {d : PyData} (e : η[i]? = some (some d)) : ∃ v, σ[i]? = some (some v) ∧ RpW K H Hf v d := by
  by_cases h : i ∈ O
  · obtain ⟨p, a, b, c, o⟩ := S.own i d h e
    exact ⟨.ref p, a, .inr ⟨p, rfl, c, o⟩⟩
  · obtain ⟨v, a, b⟩ := S.val i d h e
    exact ⟨v, a, .inl b⟩
end

/-! ### what is wanted -/
/-- the program's own exception classes: with a field of that name, or none -/
abbrev EC := String → Option (Option Str)
def ExRep (ec : EC) (K : PySem.W.Frag) (Hf H : Hp) (cls : Value) (d : Option Addr) (c : String) (fl : Option PyData) : Prop :=
  cls = .ref (He.ga K (Str.ofString c)) ∧ match ec c, fl with
    | some none, none => d = none
    | some (some f), some x => ∃ da v, d = some da ∧ Hf da = some (.xd [(f, v)]) ∧ Rp K Hf v x
    | _, _ => False
def Post (ec : EC) (K : PySem.W.Frag) (W : WX) (σ : St) {α β : Type} (ρ : Hp → Hp → α → β → Prop) (Q : α → Hp → Prop) (H Hf : Hp) : R β → Prop
  | .ok b => ∀ a H' Hf', Ext H Hf H' Hf' → ρ H' Hf' a b → Q a H'
  | .ex c fl => ∀ H' Hf' cls d, Ext H Hf H' Hf' → ExRep ec K Hf' H' cls d c fl → W cls d σ H'
  | .bad => False
section
variable {ec : EC} {K : PySem.W.Frag} {W : WX} {σ : St} {α β γ δ : Type} {ρ : Hp → Hp → α → β → Prop} {ρ2 : Hp → Hp → γ → δ → Prop} {H Hf H' Hf' : Hp}
theorem Post.step {Q : α → Hp → Prop} {r : R β} (h : Post ec K W σ ρ Q H Hf r) (x : Ext H Hf H' Hf') : Post ec K W σ ρ Q H' Hf' r := by
  cases r with
  | ok b => exact fun a H1 Hf1 y q => h a H1 Hf1 (x.trans y) q
  | ex c fl => exact fun H1 Hf1 cls d y q => h H1 Hf1 cls d (x.trans y) q
  | bad => exact h
theorem Post.imp {Q Q' : α → Hp → Prop} {r : R β} (h : Post ec K W σ ρ Q H Hf r) (i : ∀ a H, Q a H → Q' a H) : Post ec K W σ ρ Q' H Hf r := by
  cases r with
  | ok b => exact fun a H1 Hf1 y q => i _ _ (h a H1 Hf1 y q)
  | ex c fl => exact h
  | bad => exact h
/-- the first part's wish -/
theorem Post.bindI {Q : γ → Hp → Prop} {r : R β} {g : β → R δ} (h : Post ec K W σ ρ2 Q H Hf (r.bind g)) :
    Post ec K W σ ρ (fun a H1 => ∃ Hf1 b, Ext H Hf H1 Hf1 ∧ ρ H1 Hf1 a b ∧ Post ec K W σ ρ2 Q H1 Hf1 (g b)) H Hf r := by
  cases r with
  | ok b => exact fun a H1 Hf1 y q => ⟨Hf1, b, y, q, Post.step h y⟩
  | ex c fl => exact h
  | bad => exact h
theorem Post.ok_of {Q : α → Hp → Prop} {b : β} (h : Post ec K W σ ρ Q H Hf (.ok b)) {a : α} (x : Ext H Hf H' Hf') (r : ρ H' Hf' a b) : Q a H' := h a H' Hf' x r
theorem Post.here {Q : α → Hp → Prop} {b : β} (h : Post ec K W σ ρ Q H Hf (.ok b)) {a : α} (s : Same Hf H) (r : ρ H Hf a b) : Q a H := h a H Hf (Ext.refl s) r
end

/-! ### judgements -/
abbrev ρV (K : PySem.W.Frag) : Hp → Hp → V → PyData → Prop := fun _ Hf v d => Rp K Hf v d
abbrev ρW (K : PySem.W.Frag) : Hp → Hp → V → PyData → Prop := fun H Hf v d => RpW K H Hf v d
abbrev ρB : Hp → Hp → Bool → Bool → Prop := fun _ _ a b => a = b
abbrev ρA (K : PySem.W.Frag) : Hp → Hp → List V → List PyData → Prop := fun _ Hf vs ds => RpAll K Hf vs ds
section
variable (ec : EC) (K : PySem.W.Frag) (W : WX) (O : List Nat)
def tD {α β : Type} (ρ : Hp → Hp → α → β → Prop) (f : DEnv → R β) : St → Hp → (α → Hp → Prop) → Prop := fun σ H Q =>
  ∃ H0 Hf0 Hf η, SR K H0 Hf0 O η σ H Hf ∧ Post ec K W σ ρ Q H Hf (f η)
end
/-- the expression e is the data that f tells; not owned by a name -/
def DE (ec : EC) (X : Cx) (W : WX) (O : List Nat) (e : Expr) (f : DEnv → R PyData) : Prop := PE X e (tD ec X.K W O (ρV X.K) f)
/-- .. or owned -/
def DW (ec : EC) (X : Cx) (W : WX) (O : List Nat) (e : Expr) (f : DEnv → R PyData) : Prop := PE X e (tD ec X.K W O (ρW X.K) f)
/-- a test -/
def DT (ec : EC) (X : Cx) (W : WX) (O : List Nat) (e : Expr) (f : DEnv → R Bool) : Prop := PT X e (tD ec X.K W O ρB f)
/-- .. whatever its 'whole' is -/
def DQ (ec : EC) (X : Cx) (W : WX) (O : List Nat) (e : Expr) (f : DEnv → R Bool) : Prop := PW X e (tD ec X.K W O ρB f)
/-- arguments -/
def DA (ec : EC) (X : Cx) (W : WX) (O : List Nat) (es : List Expr) (f : DEnv → R (List PyData)) : Prop := PA X es (tD ec X.K W O (ρA X.K) f)

section
variable {X : Cx}
theorem PE.imp {e : Expr} {t t' : TE} (h : PE X e t) (i : ∀ σ H Q, t' σ H Q → t σ H Q) : PE X e t' := ⟨fun pins s σ H Q I q => h.run pins s σ H Q I (i σ H Q q)⟩
theorem PT.imp {e : Expr} {t t' : TT} (h : PT X e t) (i : ∀ σ H Q, t' σ H Q → t σ H Q) : PT X e t' := ⟨fun pins s σ H Q I q => h.run pins s σ H Q I (i σ H Q q)⟩
theorem PW.imp {e : Expr} {t t' : TT} (h : PW X e t) (i : ∀ σ H Q, t' σ H Q → t σ H Q) : PW X e t' := ⟨fun w pins s σ H Q I q => h.run w pins s σ H Q I (i σ H Q q)⟩
theorem PA.imp {es : List Expr} {t t' : TA} (h : PA X es t) (i : ∀ σ H Q, t' σ H Q → t σ H Q) : PA X es t' := ⟨fun p pins s σ H Q I q => h.run p pins s σ H Q I (i σ H Q q)⟩
theorem PS.imp {st : Stmt} {t t' : TS} (h : PS X st t) (i : ∀ D σ H, t' D σ H → t D σ H) : PS X st t' := ⟨fun pins s σ H D I q => h.run pins s σ H D I (i D σ H q)⟩
theorem PSs.imp {st : List Stmt} {t t' : TS} (h : PSs X st t) (i : ∀ D σ H, t' D σ H → t D σ H) : PSs X st t' := ⟨fun pins s σ H D I q => h.run pins s σ H D I (i D σ H q)⟩
end

section
variable {ec : EC} {X : Cx} {W : WX} {O : List Nat} {e a b : Expr} {es : List Expr} {f fa fb : DEnv → R PyData} {pos : Pos}
/-! ### names, constants -/
def dV (i : Nat) : DEnv → R PyData := fun η => match η[i]? with
  | some (some d) => .ok d
  | _ => .bad
def dC (d : PyData) : DEnv → R PyData := fun _ => .ok d
theorem DE.w (h : DE ec X W O e f) : DW ec X W O e f := PE.imp h fun σ H Q ⟨H0, Hf0, Hf, η, S, p⟩ => ⟨H0, Hf0, Hf, η, S, by
  cases q : f η with
  | ok d => rw [q] at p; exact fun v H1 Hf1 x r => p v H1 Hf1 x (.inl r)
  | ex c fl => rw [q] at p; exact p
  | bad => rw [q] at p; exact p⟩
theorem dw_var (i : Nat) {x : Str} {pos : Pos} (hN : X.N[i]? = some x := by rfl) (hv : Vis X.env.scope x := by first | exact Or.inl rfl | exact Or.inr (Or.inl rfl) | exact Or.inr (Or.inr rfl)) (hd : (x == ("__debug__" : Str)) = false := by decide)
    (hcd : (x == ("__classdict__" : Str)) = false := by decide) : DW ec X W O (.Name x pos) (dV i) := PE.imp (pe_var hN hv hd hcd) fun σ H Q ⟨H0, Hf0, Hf, η, S, p⟩ => by
  unfold dV at p
  cases q : η[i]? with
  | none => rw [q] at p; exact p.elim
  | some o =>
    cases o with
    | none => rw [q] at p; exact p.elim
    | some d =>
      rw [q] at p
      obtain ⟨v, e, r⟩ := S.read q
      exact ⟨v, e, p.here S.sub r⟩
theorem de_var (i : Nat) {x : Str} {pos : Pos} (hO : i ∉ O := by decide) (hN : X.N[i]? = some x := by rfl) (hv : Vis X.env.scope x := by first | exact Or.inl rfl | exact Or.inr (Or.inl rfl) | exact Or.inr (Or.inr rfl)) (hd : (x == ("__debug__" : Str)) = false := by decide)
    (hcd : (x == ("__classdict__" : Str)) = false := by decide) : DE ec X W O (.Name x pos) (dV i) := PE.imp (pe_var hN hv hd hcd) fun σ H Q ⟨H0, Hf0, Hf, η, S, p⟩ => by
  unfold dV at p
  cases q : η[i]? with
  | none => rw [q] at p; exact p.elim
  | some o =>
    cases o with
    | none => rw [q] at p; exact p.elim
    | some d =>
      rw [q] at p
      obtain ⟨v, e, r⟩ := S.val i d hO q
      exact ⟨v, e, p.here S.sub r⟩
theorem de_int {i j pos} : DE ec X W O (.Constant (.int i) j pos) (dC (.int i)) := PE.imp pe_int fun σ H Q ⟨H0, Hf0, Hf, η, S, p⟩ => p.here S.sub (.int i)
theorem de_bool {b j pos} : DE ec X W O (.Constant (.bool b) j pos) (dC (.bool b)) := PE.imp pe_bl fun σ H Q ⟨H0, Hf0, Hf, η, S, p⟩ => p.here S.sub (.bl b)
theorem de_none {j pos} : DE ec X W O (.Constant .none j pos) (dC .none) := PE.imp pe_non fun σ H Q ⟨H0, Hf0, Hf, η, S, p⟩ => p.here S.sub .non
theorem de_str {x j pos} : DE ec X W O (.Constant (.str x) j pos) (dC (.str x)) := PE.imp pe_str fun σ H Q ⟨H0, Hf0, Hf, η, S, p⟩ => p.here S.sub (.str x)
/-- a def of the module as a value -/
theorem de_fn {x : Str} {pos : Pos} (hm : X.mg x = some (.ref (He.ga X.K x))) (hg : Gl X x := by rfl) (hd : (x == ("__debug__" : Str)) = false := by decide) : DE ec X W O (.Name x pos) (dC (fnD x)) :=
  PE.imp (pe_glob hg hm (v := .ref (He.ga X.K x)) rfl hd) fun σ H Q ⟨H0, Hf0, Hf, η, S, p⟩ => p.here S.sub (.fn x)
/-- a constant of the module -/
theorem de_globInt {x : Str} {i : Int} {pos : Pos} (hm : ∃ t, X.mg x = some (.int i t)) (hg : Gl X x := by rfl) (hd : (x == ("__debug__" : Str)) = false := by decide) : DE ec X W O (.Name x pos) (dC (.int i)) := by
  obtain ⟨t, hm⟩ := hm
  exact PE.imp (pe_glob hg hm (v := .int i) ⟨t, rfl⟩ hd) fun σ H Q ⟨H0, Hf0, Hf, η, S, p⟩ => p.here S.sub (.int i)
theorem de_globStr {x z : Str} {pos : Pos} (hm : ∃ t, X.mg x = some (.str z t)) (hg : Gl X x := by rfl) (hd : (x == ("__debug__" : Str)) = false := by decide) : DE ec X W O (.Name x pos) (dC (.str z)) := by
  obtain ⟨t, hm⟩ := hm
  exact PE.imp (pe_glob hg hm (v := .str z) ⟨t, rfl⟩ hd) fun σ H Q ⟨H0, Hf0, Hf, η, S, p⟩ => p.here S.sub (.str z)

/-! ### arguments -/
def dNil : DEnv → R (List PyData) := fun _ => .ok []
def dCons (f : DEnv → R PyData) (g : DEnv → R (List PyData)) : DEnv → R (List PyData) := fun η => (f η).bind fun d => (g η).bind fun ds => .ok (d :: ds)
theorem da_nil : DA ec X W O [] dNil := PA.imp pa_nil fun σ H Q ⟨H0, Hf0, Hf, η, S, p⟩ => p.here S.sub .nil
theorem da_cons {g : DEnv → R (List PyData)} (ha : DE ec X W O e f) (hr : DA ec X W O es g) (hs : starEach (e :: es) X.env = (false, eval e X.env) :: starEach es X.env := by rfl) : DA ec X W O (e :: es) (dCons f g) :=
  PA.imp (pa_cons ha hr hs) fun σ H Q ⟨H0, Hf0, Hf, η, S, p⟩ => ⟨H0, Hf0, Hf, η, S, p.bindI.imp fun v H1 ⟨Hf1, d, x1, r1, p1⟩ => ⟨H0, Hf0, Hf1, η, S.step x1, p1.bindI.imp fun vs H2 ⟨Hf2, ds, x2, r2, p2⟩ =>
    p2.here x2.sub (.cons (Rp.mono x2.sf r1) r2)⟩⟩

/-! ### operators -/
/-- f on values is g on data -/
def OpD (ec : EC) (X : Cx) (W : WX) (f : Value → Value → Sem Value) (g : PyData → PyData → R PyData) : Prop :=
  ∀ (pins : List (Addr × Obj)) (s : Shared) (σ : St) (H Hf : Hp) (x y : V) (dx dy : PyData) (v u : Value) (Q : VK), Inv X pins σ H s → Same Hf H → RelV x v → RelV y u → RpW X.K H Hf x dx → RpW X.K H Hf y dy →
    Post ec X.K W σ (ρV X.K) Q H Hf (g dx dy) → wpAny (model X.prog X.w) X.A (f v u) (EP X pins σ Q) X.xe s
theorem OpD.of {f : Value → Value → Sem Value} {g : PyData → PyData → R PyData} {r : R2} (h : OpR X f r)
    (i : ∀ (σ : St) (H Hf : Hp) (x y : V) (dx dy : PyData) (Q : VK), Same Hf H → RpW X.K H Hf x dx → RpW X.K H Hf y dy → Post ec X.K W σ (ρV X.K) Q H Hf (g dx dy) → r x y H Q) : OpD ec X W f g :=
  fun pins s σ H Hf x y dx dy v u Q I hs rx ry wx wy p => h pins s σ H x y v u Q I rx ry (i σ H Hf x y dx dy Q hs wx wy p)
def d2 (g : PyData → PyData → R PyData) (fa fb : DEnv → R PyData) : DEnv → R PyData := fun η => (fa η).bind fun x => (fb η).bind fun y => g x y
theorem op2 {f : Value → Value → Sem Value} {g : PyData → PyData → R PyData} (h : OpD ec X W f g) (ha : DW ec X W O a fa) (hb : DW ec X W O b fb) {pins : List (Addr × Obj)} {s : Shared} {σ : St} {H : Hp} {Q : VK} (I : Inv X pins σ H s)
    (q : tD ec X.K W O (ρV X.K) (d2 g fa fb) σ H Q) :
    wpAny (model X.prog X.w) X.A (eval a X.env) (fun v s₁ => wpAny (model X.prog X.w) X.A (eval b X.env) (fun u s₂ => wpAny (model X.prog X.w) X.A (f v u) (EP X pins σ Q) X.xe s₂) X.xe s₁) X.xe s := by
  obtain ⟨H0, Hf0, Hf, η, S, p⟩ := q
  refine thn (ha.run pins s σ H _ I ⟨H0, Hf0, Hf, η, S, p.bindI⟩) fun v s1 ⟨x, H1, I1, r1, Hf1, dx, x1, w1, p1⟩ => ?_
  refine thn (hb.run pins s1 σ H1 _ I1 ⟨H0, Hf0, Hf1, η, S.step x1, p1.bindI⟩) fun u s2 ⟨y, H2, I2, r2, Hf2, dy, x2, w2, p2⟩ => ?_
  exact h pins s2 σ H2 Hf2 x y dx dy v u Q I2 x2.sub r1 r2 (w1.ext x2) w2 p2
theorem de_op {op : Operator} {g : PyData → PyData → R PyData} (h : OpD ec X W (binaryOp op) g) (ha : DW ec X W O a fa) (hb : DW ec X W O b fb) : DE ec X W O (.BinOp a op b pos) (d2 g fa fb) :=
  ⟨fun pins s σ H Q I q => wpAny_BinOp (op2 h ha hb I q)⟩
theorem de_cmp {op : CmpOp} {g : PyData → PyData → R PyData} (h : OpD ec X W (compareOp op) g) (ha : DW ec X W O a fa) (hb : DW ec X W O b fb) (hm : behindInMarks op b = false) : DE ec X W O (.Compare a [op] [b] pos) (d2 g fa fb) :=
  ⟨fun pins s σ H Q I q => wpAny_Compare1 (op2 h ha hb I q) hm⟩
/-- a value that is a truth -/
def dB (f : DEnv → R PyData) : DEnv → R Bool := fun η => (f η).bind fun d => match d with
  | .bool b => .ok b
  | _ => .bad
/-- an expression that gives a truth, as a test -/
theorem dt_val {f : DEnv → R PyData} (h : DE ec X W O e f) (he : ∀ whole, isTrue e X.env whole = (do let v ← whole; standAt e.pos; holding [v] (truthy v)) := by intro _; rfl) : DT ec X W O e (dB f) :=
  PT.imp (pt_val h he) fun σ H Q ⟨H0, Hf0, Hf, η, S, p⟩ => ⟨H0, Hf0, Hf, η, S, p.bindI.imp fun v H1 ⟨Hf1, d, x1, r1, p1⟩ => by
    cases r1 with
    | bl b => exact ⟨b, rfl, p1.here x1.sub rfl⟩
    | _ => exact p1.elim⟩
theorem dt_cmp {op : CmpOp} {g : PyData → PyData → R PyData} (h : OpD ec X W (compareOp op) g) (ha : DW ec X W O a fa) (hb : DW ec X W O b fb) (hm : behindInMarks op b = false) : DT ec X W O (.Compare a [op] [b] pos) (dB (d2 g fa fb)) := by
  refine ⟨fun pins s σ H Q I q => ?_⟩
  have q' : tD ec X.K W O (ρV X.K) (d2 g fa fb) σ H (fun v H1 => ∃ k, v = .bl k ∧ Q k H1) := by
    obtain ⟨H0, Hf0, Hf, η, S, p⟩ := q
    exact ⟨H0, Hf0, Hf, η, S, p.bindI.imp fun v H1 ⟨Hf1, d, x1, r1, p1⟩ => by
      cases r1 with
      | bl b => exact ⟨b, rfl, p1.here x1.sub rfl⟩
      | _ => exact p1.elim⟩
  refine wpAny_isTrue_Compare1 (thn (op2 h ha hb I q') fun v s1 h1 => thn h1 fun u s2 h2 => thn h2 fun c s3 ⟨x, H1, I1, r1, q1⟩ => ?_) hm
  obtain ⟨k, rfl, q1⟩ := q1
  cases r1
  exact wpAny_truthy_bool ⟨H1, I1, q1⟩

end
end DL
end

section
set_option Elab.async false
set_option linter.all false
set_option maxRecDepth 100000
set_option maxHeartbeats 4000000
namespace DL
open PySem PySem.Spec PyProof.Rows L2

/-! ### room -/
/-- room on the C stack for what is asked of data -/
abbrev Rm (X : Cx) : Prop := X.A.units + 150 < cLine
theorem rm_of {k : Nat} {X : Cx} (r : Room k X.A) : Rm X := by have := r.un; show _ < _; omega

section
variable {ec : EC} {X : Cx} {W : WX} {O : List Nat} {e a b : Expr} {es : List Expr} {f fa fb : DEnv → R PyData} {pos : Pos}
/-- two plain data are read -/
theorem reads2 {pins : List (Addr × Obj)} {s : Shared} {σ : St} {H Hf : Hp} {x : V} {dx : PyData} {v : Value} (I : Inv X pins σ H s) (hs : Same Hf H) (rx : RelV x v) (wx : RpW X.K H Hf x dx) (p : dx.plain = true) : ∃ as, Reads s.heap v dx as :=
  Dp.reads I dx x v (Rp.dp dx x p (wx.full hs)) rx

/-! ### == and != -/
def cmpOk (a b : PyData) : Bool := a.plain && b.plain && decide (min a.depth b.depth ≤ 64)
def dEq (a b : PyData) : R PyData := if cmpOk a b then .ok (.bool (PyData.eqv a b)) else .bad
def dNe (a b : PyData) : R PyData := if cmpOk a b then .ok (.bool (!PyData.eqv a b)) else .bad
theorem cmpOk_of {a b : PyData} (h : cmpOk a b = true) : a.plain = true ∧ b.plain = true ∧ min a.depth b.depth ≤ 64 := by
  unfold cmpOk at h
  simp only [Bool.and_eq_true, decide_eq_true_eq] at h
  exact ⟨h.1.1, h.1.2, h.2⟩
theorem od_eq (hu : Rm X) : OpD ec X W (compareOp .Eq) dEq := by
  intro pins s σ H Hf x y dx dy v u Q I hs rx ry wx wy p
  unfold dEq at p
  by_cases hc : cmpOk dx dy = true
  · rw [if_pos hc] at p
    obtain ⟨h1, h2, h3⟩ := cmpOk_of hc
    obtain ⟨as, ra⟩ := reads2 I hs rx wx h1
    obtain ⟨bs, rb⟩ := reads2 I hs ry wy h2
    exact PySem.SeqAt.eq_plain ra rb h1 h2 (by have : X.A.units + 150 < cLine := hu; omega) ⟨.bl _, H, I, rfl, p.here hs (.bl _)⟩
  · rw [if_neg hc] at p
    exact p.elim
theorem od_ne (hu : Rm X) : OpD ec X W (compareOp .NotEq) dNe := by
  intro pins s σ H Hf x y dx dy v u Q I hs rx ry wx wy p
  unfold dNe at p
  by_cases hc : cmpOk dx dy = true
  · rw [if_pos hc] at p
    obtain ⟨h1, h2, h3⟩ := cmpOk_of hc
    obtain ⟨as, ra⟩ := reads2 I hs rx wx h1
    obtain ⟨bs, rb⟩ := reads2 I hs ry wy h2
    exact PySem.SeqAt.ne_plain ra rb h1 h2 (by have : X.A.units + 150 < cLine := hu; omega) ⟨.bl _, H, I, rfl, p.here hs (.bl _)⟩
  · rw [if_neg hc] at p
    exact p.elim

/-! ### order -/
def isNone : PyData → Bool
  | .none => true
  | _ => false
theorem isNone_no {d : PyData} (h : isNone d = false) : d ≠ .none := by
  intro e; subst e; exact Bool.noConfusion h
theorem plain_alike : ∀ {a b : PyData}, PySem.W.alike a b = true → True := fun _ => trivial
def ordOk (a b : PyData) : Bool := a.plain && b.plain && PySem.W.alike a b && !isNone a && decide (min a.depth b.depth ≤ 64)
theorem ordOk_of {a b : PyData} (h : ordOk a b = true) : a.plain = true ∧ b.plain = true ∧ PySem.W.alike a b = true ∧ a ≠ .none ∧ min a.depth b.depth ≤ 64 := by
  unfold ordOk at h
  simp only [Bool.and_eq_true, decide_eq_true_eq] at h
  exact ⟨h.1.1.1.1, h.1.1.1.2, h.1.1.2, isNone_no (by simpa using h.1.2), h.2⟩
def dOrd (g : PyData → PyData → Bool) (a b : PyData) : R PyData := if ordOk a b then .ok (.bool (g a b)) else .bad
abbrev dLt := dOrd fun a b => PySem.W.dataLt a b
abbrev dGt := dOrd fun a b => PySem.W.dataLt b a
abbrev dLe := dOrd fun a b => !PySem.W.dataLt b a
abbrev dGe := dOrd fun a b => !PySem.W.dataLt a b
theorem od_ord (hu : Rm X) {op : CmpOp} {g : PyData → PyData → Bool} (rule : ∀ (s : Shared) (a b : Value) (da db : PyData) (as bs : List Addr) (Q : Value → Shared → Prop), Reads s.heap a da as → Reads s.heap b db bs → PySem.W.alike da db = true → da ≠ .none → X.A.units + min da.depth db.depth < cLine →
    Q (.bool (g da db)) s → wpAny (model X.prog X.w) X.A (compareOp op a b) Q X.xe s) : OpD ec X W (compareOp op) (dOrd g) := by
  intro pins s σ H Hf x y dx dy v u Q I hs rx ry wx wy p
  unfold dOrd at p
  by_cases hc : ordOk dx dy = true
  · rw [if_pos hc] at p
    obtain ⟨h1, h2, h3, h4, h5⟩ := ordOk_of hc
    obtain ⟨as, ra⟩ := reads2 I hs rx wx h1
    obtain ⟨bs, rb⟩ := reads2 I hs ry wy h2
    exact rule s v u dx dy as bs _ ra rb h3 h4 (by have : X.A.units + 150 < cLine := hu; omega) ⟨.bl _, H, I, rfl, p.here hs (.bl _)⟩
  · rw [if_neg hc] at p
    exact p.elim
theorem od_lt (hu : Rm X) : OpD ec X W (compareOp .Lt) dLt := od_ord hu fun _ _ _ _ _ _ _ _ ra rb h hn hu q => PySem.W.lt_data ra rb h hn hu q
theorem od_gt (hu : Rm X) : OpD ec X W (compareOp .Gt) dGt := od_ord hu fun _ _ _ _ _ _ _ _ ra rb h hn hu q => PySem.W.gt_data ra rb h hn hu q
theorem od_le (hu : Rm X) : OpD ec X W (compareOp .LtE) dLe := od_ord hu fun _ _ _ _ _ _ _ _ ra rb h hn hu q => PySem.W.le_data ra rb h hn hu q
theorem od_ge (hu : Rm X) : OpD ec X W (compareOp .GtE) dGe := od_ord hu fun _ _ _ _ _ _ _ _ ra rb h hn hu q => PySem.W.ge_data ra rb h hn hu q

/-! ### is None, is True -/
def dIs (neg : Bool) : PyData → PyData → R PyData
  | d, .none => .ok (.bool (if neg then !isNone d else isNone d))
  | .bool a, .bool b => .ok (.bool (if neg then !decide (a = b) else decide (a = b)))
  | _, _ => .bad
theorem RpW.isNone {K : PySem.W.Frag} {H Hf : Hp} {v : V} {d : PyData} (h : RpW K H Hf v d) : decide (v = .non) = isNone d := by
  rcases h with h | ⟨p, rfl, n, a⟩
  · cases h <;> rfl
  · rcases a with ⟨xs, ds', h, e, a⟩ | ⟨_, _, _, e, _⟩ | ⟨_, _, _, _, _, _, _, _, _, _, _, _, e, _⟩ <;> subst e <;> rfl
theorem od_is : OpD ec X W (compareOp .Is) (dIs false) := by
  intro pins s σ H Hf x y dx dy v u Q I hs rx ry wx wy p
  cases dy with
  | none =>
    have e := wy.none_inv
    subst e
    have p' : Post ec X.K W σ (ρV X.K) Q H Hf (.ok (.bool (isNone dx))) := by cases dx <;> exact p
    exact op_isN pins s σ H x .non v u Q I rx ry ⟨rfl, by rw [wx.isNone]; exact p'.here hs (.bl _)⟩
  | bool b =>
    cases dx with
    | bool c =>
      have e := wx.bool_inv
      have e' := wy.bool_inv
      subst e e'
      exact op_isBl pins s σ H _ _ v u Q I rx ry ⟨c, b, rfl, rfl, p.here hs (.bl _)⟩
    | _ => exact p.elim
  | _ => cases dx <;> exact p.elim
theorem od_isNot : OpD ec X W (compareOp .IsNot) (dIs true) := by
  intro pins s σ H Hf x y dx dy v u Q I hs rx ry wx wy p
  cases dy with
  | none =>
    have e := wy.none_inv
    subst e
    have p' : Post ec X.K W σ (ρV X.K) Q H Hf (.ok (.bool (!isNone dx))) := by cases dx <;> exact p
    exact op_notN pins s σ H x .non v u Q I rx ry ⟨rfl, by rw [wx.isNone]; exact p'.here hs (.bl _)⟩
  | bool b =>
    cases dx with
    | bool c =>
      have e := wx.bool_inv
      have e' := wy.bool_inv
      subst e e'
      exact op_notBl pins s σ H _ _ v u Q I rx ry ⟨c, b, rfl, rfl, p.here hs (.bl _)⟩
    | _ => exact p.elim
  | _ => cases dx <;> exact p.elim

/-! ### in, not in -/
/-- x in y: a list, a tuple, a text (one sign or more); a dict: below -/
def lookD : List (PyData × PyData) → PyData → Option PyData
  | [], _ => none
  | (k, v) :: r, x => if PyData.eqv k x = true then some v else lookD r x
def isKey : PyData → Bool
  | .int _ => true
  | .str _ => true
  | _ => false
def inOk (a : PyData) (ys : List PyData) : Bool := a.plain && PyData.plainAll ys && decide (min (PyData.depthAll ys) a.depth ≤ 64)
def strIn (x y : Str) : Bool := !(Builtin.Str.occurrences y x 0 y.length 1).isEmpty
def dInS (neg : Bool) : PyData → PyData → R PyData := fun a b => match b with
  | .list ys => if inOk a ys then .ok (.bool (neg ^^ ys.any fun y => PyData.eqv y a)) else .bad
  | .tuple ys => if inOk a ys then .ok (.bool (neg ^^ ys.any fun y => PyData.eqv y a)) else .bad
  | .str y => match a with
    | .str x => .ok (.bool (neg ^^ strIn x y))
    | _ => .bad
  | _ => .bad
theorem inOk_of {a : PyData} {ys : List PyData} (h : inOk a ys = true) : a.plain = true ∧ PyData.plainAll ys = true ∧ min (PyData.depthAll ys) a.depth ≤ 64 := by
  unfold inOk at h
  simp only [Bool.and_eq_true, decide_eq_true_eq] at h
  exact ⟨h.1.1, h.1.2, h.2⟩
theorem od_inS (hu : Rm X) : OpD ec X W (compareOp .In) (dInS false) := by
  intro pins s σ H Hf x y dx dy v u Q I hs rx ry wx wy p
  have hu' : X.A.units + 150 < cLine := hu
  cases dy with
  | list ys =>
    unfold dInS at p
    by_cases hc : inOk dx ys = true
    · simp only [hc, if_true, Bool.false_xor] at p
      obtain ⟨h1, h2, h3⟩ := inOk_of hc
      obtain ⟨as, ra⟩ := reads2 I hs rx wx h1
      obtain ⟨bs, rb⟩ := reads2 I hs ry wy (by simpa [PyData.plain] using h2)
      exact PySem.SeqAt.in_list_data rb ra h2 h1 (by omega) ⟨.bl _, H, I, rfl, p.here hs (.bl _)⟩
    · simp only [hc] at p
      exact p.elim
  | tuple ys =>
    unfold dInS at p
    by_cases hc : inOk dx ys = true
    · simp only [hc, if_true, Bool.false_xor] at p
      obtain ⟨h1, h2, h3⟩ := inOk_of hc
      obtain ⟨as, ra⟩ := reads2 I hs rx wx h1
      obtain ⟨bs, rb⟩ := reads2 I hs ry wy (by simpa [PyData.plain] using h2)
      exact PySem.SeqAt.in_tuple_data rb ra h2 h1 (by omega) ⟨.bl _, H, I, rfl, p.here hs (.bl _)⟩
    · simp only [hc] at p
      exact p.elim
  | str z =>
    cases dx with
    | str y =>
      have e := wx.str_inv
      have e' := wy.str_inv
      subst e e'
      obtain ⟨t, rfl⟩ := rx
      obtain ⟨t', rfl⟩ := ry
      exact in_str ⟨.bl _, H, I, rfl, p.here hs (by rw [Bool.false_xor]; exact .bl _)⟩
    | _ => exact p.elim
  | _ => exact p.elim
theorem od_notInS (hu : Rm X) : OpD ec X W (compareOp .NotIn) (dInS true) := by
  intro pins s σ H Hf x y dx dy v u Q I hs rx ry wx wy p
  have hu' : X.A.units + 150 < cLine := hu
  cases dy with
  | list ys =>
    unfold dInS at p
    by_cases hc : inOk dx ys = true
    · simp only [hc, if_true, Bool.true_xor] at p
      obtain ⟨h1, h2, h3⟩ := inOk_of hc
      obtain ⟨as, ra⟩ := reads2 I hs rx wx h1
      obtain ⟨bs, rb⟩ := reads2 I hs ry wy (by simpa [PyData.plain] using h2)
      exact PySem.SeqAt.notIn_list_data rb ra h2 h1 (by omega) ⟨.bl _, H, I, rfl, p.here hs (.bl _)⟩
    · simp only [hc] at p
      exact p.elim
  | tuple ys =>
    unfold dInS at p
    by_cases hc : inOk dx ys = true
    · simp only [hc, if_true, Bool.true_xor] at p
      obtain ⟨h1, h2, h3⟩ := inOk_of hc
      obtain ⟨as, ra⟩ := reads2 I hs rx wx h1
      obtain ⟨bs, rb⟩ := reads2 I hs ry wy (by simpa [PyData.plain] using h2)
      exact PySem.SeqAt.notIn_tuple_data rb ra h2 h1 (by omega) ⟨.bl _, H, I, rfl, p.here hs (.bl _)⟩
    · simp only [hc] at p
      exact p.elim
  | str z =>
    cases dx with
    | str y =>
      have e := wx.str_inv
      have e' := wy.str_inv
      subst e e'
      obtain ⟨t, rfl⟩ := rx
      obtain ⟨t', rfl⟩ := ry
      exact notIn_str ⟨.bl _, H, I, rfl, p.here hs (by rw [Bool.true_xor]; exact .bl _)⟩
    | _ => exact p.elim
  | _ => exact p.elim

/-! ### arithmetic -/
/-- 2 ^ 400 -/
def bigN : Nat := 2582249878086908589655919172003011874329705792829223512830659356540647622016841194629645353280137831435903171972747493376
theorem bigN_eq : bigN = 2 ^ 400 := by decide +kernel
def small (i : Int) : Bool := decide (i.natAbs < bigN)
theorem small_of {i : Int} (h : small i = true) : i.natAbs < 2 ^ 400 := by
  rw [← bigN_eq]; exact of_decide_eq_true h
def dAdd : PyData → PyData → R PyData
  | .int i, .int j => .ok (.int (i + j))
  | .str x, .str y => if x.length + y.length ≤ sizeLine then .ok (.str (x ++ y)) else .bad
  | .list xs, .list ys => if xs.length + ys.length ≤ sizeLine then .ok (.list (xs ++ ys)) else .bad
  | .tuple xs, .tuple ys => if xs.length + ys.length ≤ sizeLine then .ok (.tuple (xs ++ ys)) else .bad
  | _, _ => .bad
theorem od_add : OpD ec X W (binaryOp .Add) dAdd := by
  intro pins s σ H Hf x y dx dy v u Q I hs rx ry wx wy p
  unfold dAdd at p
  split at p
  · have e := wx.int_inv
    have e' := wy.int_inv
    subst e e'
    exact op_add pins s σ H _ _ v u Q I rx ry ⟨_, _, rfl, rfl, p.here hs (.int _)⟩
  · have e := wx.str_inv
    have e' := wy.str_inv
    subst e e'
    split at p
    · rename_i hz
      exact op_add_str pins s σ H _ _ v u Q I rx ry ⟨_, _, rfl, rfl, hz, p.here hs (.str _)⟩
    · exact p.elim
  · split at p
    · rename_i xs ys hz
      obtain ⟨a1, vs1, rfl, h1, r1⟩ := wx.list_inv hs
      obtain ⟨a2, vs2, rfl, h2, r2⟩ := wy.list_inv hs
      cases rx
      cases ry
      obtain ⟨its1, q1, pl1, z1⟩ := I.list h1
      obtain ⟨its2, q2, pl2, z2⟩ := I.list h2
      have l1 := q1.length
      have l2 := q2.length
      have l3 := r1.length
      have l4 := r2.length
      obtain ⟨⟨c1, d1, t1, sl1⟩, g1, e1, k1, n1⟩ := pl1.isList
      obtain ⟨⟨c2, d2, t2, sl2⟩, g2, e2, k2, n2⟩ := pl2.isList
      simp only at e1 e2 n1 n2
      subst e1 e2 n1 n2
      refine concat_meets ⟨_, g1, rfl⟩ ⟨_, g2, rfl⟩ noFill_list_add seq_list_add PySem.F.slot_list_add PySem.F.entry_list_add (PySem.F.args_list_add_2 _ _)
        (list_addW a1 a2 its1.toArray its2.toArray k1 k2 d1 d2 sl1 sl2 (by rw [List.size_toArray, List.size_toArray]; omega)) ⟨g1, g2, ?_⟩
      have ea : its1.toArray ++ its2.toArray = (its1 ++ its2).toArray := by simp
      rw [ea]
      have x := Ext.add hs (o := .lst (vs1 ++ vs2)) (I.hok.fresh (Nat.le_refl s.heap.objs.size))
      exact ⟨.ref _, _, I.lnew (t' := s.toks) (q1.append q2) (by rw [List.length_append]; omega), rfl, p _ _ _ x (.lst (.of upd_same) (RpAll.append (r1.mono x.sf) (r2.mono x.sf)))⟩
    · exact p.elim
  · split at p
    · rename_i xs ys hz
      obtain ⟨a1, vs1, rfl, h1, r1⟩ := wx.tuple_inv hs
      obtain ⟨a2, vs2, rfl, h2, r2⟩ := wy.tuple_inv hs
      have l3 := r1.length
      have l4 := r2.length
      refine op_catF pins s σ H _ _ v u Q I rx ry ⟨a1, a2, vs1, vs2, rfl, rfl, h1, h2, by omega, fun e => ?_, fun _ e => ?_, fun _ _ q o n od => ?_⟩
      · subst e
        cases r1
        rcases wy with wy | ⟨_, _, _, a⟩
        · exact p.here hs wy
        · exfalso
          rcases a with ⟨xs, ds', h, e, a⟩ | ⟨_, _, _, e, _⟩ | ⟨_, _, _, _, _, _, _, _, _, _, _, _, e, _⟩ <;> cases e
      · subst e
        cases r2
        rw [List.append_nil] at p
        rcases wx with wx | ⟨_, _, _, a⟩
        · exact p.here hs wx
        · exfalso
          rcases a with ⟨xs, ds', h, e, a⟩ | ⟨_, _, _, e, _⟩ | ⟨_, _, _, _, _, _, _, _, _, _, _, _, e, _⟩ <;> cases e
      · have x := Ext.add hs (o := .frz o (.tup (vs1 ++ vs2))) n
        exact p _ _ _ x (.tup (.of od) (RpAll.append (r1.mono x.sf) (r2.mono x.sf)))
    · exact p.elim
  · exact p.elim

def dSub : PyData → PyData → R PyData
  | .int i, .int j => .ok (.int (i - j))
  | _, _ => .bad
theorem od_sub : OpD ec X W (binaryOp .Sub) dSub := by
  intro pins s σ H Hf x y dx dy v u Q I hs rx ry wx wy p
  unfold dSub at p
  split at p
  · have e := wx.int_inv
    have e' := wy.int_inv
    subst e e'
    exact op_sub pins s σ H _ _ v u Q I rx ry ⟨_, _, rfl, rfl, p.here hs (.int _)⟩
  · exact p.elim
def repS (x : Str) (n : Nat) : Str := ⟨(List.replicate n x.cps.toList).flatten.toArray⟩
def dMul : PyData → PyData → R PyData
  | .int i, .int j => if small i && small j then .ok (.int (i * j)) else .bad
  | .str x, .int n => if 0 ≤ n ∧ n ≤ 1000 ∧ x.length ≤ 1000 then .ok (.str (repS x n.toNat)) else .bad
  | _, _ => .bad
theorem foldl_app (xs : List (Array Nat)) : ∀ a : Array Nat, (xs.foldl (· ++ ·) a).toList = a.toList ++ (xs.map Array.toList).flatten := by
  induction xs with
  | nil => intro a; simp
  | cons x xs ih => intro a; simp [ih]
theorem txt_mul {x : Str} {n : Int} (h0 : 0 ≤ n) : Txt.mul x n = repS x n.toNat := by
  unfold Txt.mul repS
  by_cases h1 : n < 1
  · rw [if_pos h1]
    have e : n = 0 := by omega
    subst e
    rfl
  · rw [if_neg h1]
    by_cases h2 : (n == 1 || x.length == 0) = true
    · rw [if_pos h2]
      rcases (Bool.or_eq_true _ _).mp h2 with h | h
      · have e : n = 1 := by simpa using h
        subst e
        show x = _
        cases x
        simp
      · have e : x.cps.size = 0 := eq_of_beq h
        cases x with
        | mk c =>
          have e' : c = #[] := Array.eq_empty_of_size_eq_zero e
          subst e'
          simp
    · rw [if_neg h2]
      congr 1
      apply Array.toList_inj.mp
      rw [foldl_app]
      simp
theorem od_mul : OpD ec X W (binaryOp .Mult) dMul := by
  intro pins s σ H Hf x y dx dy v u Q I hs rx ry wx wy p
  unfold dMul at p
  split at p
  · split at p
    · rename_i i j hz
      have e := wx.int_inv
      have e' := wy.int_inv
      subst e e'
      rw [Bool.and_eq_true] at hz
      exact op_mulW pins s σ H _ _ v u Q I rx ry ⟨_, _, rfl, rfl, wide_mul (small_of hz.1) (small_of hz.2) (by decide) (by decide) (by decide), p.here hs (.int _)⟩
    · exact p.elim
  · split at p
    · rename_i z n hz
      have e := wx.str_inv
      have e' := wy.int_inv
      subst e e'
      obtain ⟨t, rfl⟩ := rx
      obtain ⟨t', rfl⟩ := ry
      obtain ⟨h0, h1, h2⟩ := hz
      have hp : z.length * n.toNat ≤ 1000 * 1000 := Nat.mul_le_mul h2 (by omega)
      refine PySem.SB.mul ⟨?_, fun h3 h4 => ?_, fun h3 h4 => ?_⟩ fun t' k => ?_
      · simp only [Bool.or_eq_false_iff, decide_eq_false_iff_not]
        constructor <;> omega
      · have h6 : (z.length : Int) * n ≤ 1000 * n := Int.mul_le_mul_of_nonneg_right (by omega) h0
        have h5 : (z.length : Int) ≤ (2 ^ 63 - 1) / n := Int.le_ediv_of_mul_le (by omega) (by omega)
        omega
      · unfold Builtin.Str.tooLong
        exact decide_eq_false (by have : sizeLine = 2 ^ 24 := rfl; omega)
      · rw [txt_mul h0]
        exact ⟨.str _, H, I.tok _, ⟨_, rfl⟩, p.here hs (.str _)⟩
    · exact p.elim
  · exact p.elim
def dDiv : PyData → PyData → R PyData
  | .int i, .int j => if decide (0 < j) && small j then .ok (.int (i / j)) else .bad
  | _, _ => .bad
theorem od_div : OpD ec X W (binaryOp .FloorDiv) dDiv := by
  intro pins s σ H Hf x y dx dy v u Q I hs rx ry wx wy p
  unfold dDiv at p
  split at p
  · split at p
    · rename_i i j hz
      have e := wx.int_inv
      have e' := wy.int_inv
      subst e e'
      rw [Bool.and_eq_true, decide_eq_true_eq] at hz
      exact op_fdivW pins s σ H _ _ v u Q I rx ry ⟨_, _, rfl, rfl, wide_div hz.1 (small_of hz.2) (by decide) (by decide), p.here hs (.int _)⟩
    · exact p.elim
  · exact p.elim
def dMod : PyData → PyData → R PyData
  | .int i, .int j => if 0 < j then .ok (.int (i % j)) else .bad
  | _, _ => .bad
theorem od_mod : OpD ec X W (binaryOp .Mod) dMod := by
  intro pins s σ H Hf x y dx dy v u Q I hs rx ry wx wy p
  unfold dMod at p
  split at p
  · split at p
    · rename_i i j hz
      have e := wx.int_inv
      have e' := wy.int_inv
      subst e e'
      exact op_mod pins s σ H _ _ v u Q I rx ry ⟨_, _, rfl, rfl, hz, p.here hs (.int _)⟩
    · exact p.elim
  · exact p.elim
def dPow : PyData → PyData → R PyData
  | .int i, .int j => if 0 ≤ j ∧ j ≤ 200 ∧ 0 ≤ i ∧ i ≤ 10 then .ok (.int (i ^ j.toNat)) else .bad
  | _, _ => .bad
theorem od_pow : OpD ec X W (binaryOp .Pow) dPow := by
  intro pins s σ H Hf x y dx dy v u Q I hs rx ry wx wy p
  unfold dPow at p
  split at p
  · split at p
    · rename_i i j hz
      have e := wx.int_inv
      have e' := wy.int_inv
      subst e e'
      exact op_pow pins s σ H _ _ v u Q I rx ry ⟨_, _, rfl, rfl, ⟨hz.1, by omega, by omega⟩, p.here hs (.int _)⟩
    · exact p.elim
  · exact p.elim
def dShl : PyData → PyData → R PyData
  | .int i, .int j => if 0 ≤ j ∧ j ≤ 200 ∧ 0 ≤ i ∧ i ≤ 10 then .ok (.int (i * 2 ^ j.toNat)) else .bad
  | _, _ => .bad
theorem od_shl : OpD ec X W (binaryOp .LShift) dShl := by
  intro pins s σ H Hf x y dx dy v u Q I hs rx ry wx wy p
  unfold dShl at p
  split at p
  · split at p
    · rename_i i j hz
      have e := wx.int_inv
      have e' := wy.int_inv
      subst e e'
      exact op_shl pins s σ H _ _ v u Q I rx ry ⟨_, _, rfl, rfl, ⟨hz.1, by omega, by omega⟩, p.here hs (.int _)⟩
    · exact p.elim
  · exact p.elim
def dShr : PyData → PyData → R PyData
  | .int i, .int j => if 0 ≤ j then .ok (.int (i / 2 ^ j.toNat)) else .bad
  | _, _ => .bad
theorem od_shr : OpD ec X W (binaryOp .RShift) dShr := by
  intro pins s σ H Hf x y dx dy v u Q I hs rx ry wx wy p
  unfold dShr at p
  split at p
  · split at p
    · rename_i i j hz
      have e := wx.int_inv
      have e' := wy.int_inv
      subst e e'
      exact op_shr pins s σ H _ _ v u Q I rx ry ⟨_, _, rfl, rfl, hz, p.here hs (.int _)⟩
    · exact p.elim
  · exact p.elim
def dBand : PyData → PyData → R PyData
  | .int i, .int j => .ok (.int (Builtin.bitAnd i j))
  | _, _ => .bad
theorem od_band : OpD ec X W (binaryOp .BitAnd) dBand := by
  intro pins s σ H Hf x y dx dy v u Q I hs rx ry wx wy p
  unfold dBand at p
  split at p
  · have e := wx.int_inv
    have e' := wy.int_inv
    subst e e'
    exact op_and pins s σ H _ _ v u Q I rx ry ⟨_, _, rfl, rfl, p.here hs (.int _)⟩
  · exact p.elim
/-- -a -/
def dNeg (f : DEnv → R PyData) : DEnv → R PyData := fun η => (f η).bind fun d => match d with
  | .int i => .ok (.int (-i))
  | _ => .bad
theorem de_neg (h : DW ec X W O e f) : DE ec X W O (.UnaryOp .USub e pos) (dNeg f) := PE.imp (pe_un un_neg h) fun σ H Q ⟨H0, Hf0, Hf, η, S, p⟩ => ⟨H0, Hf0, Hf, η, S, p.bindI.imp fun v H1 ⟨Hf1, d, x1, r1, p1⟩ => by
  cases d with
  | int i => exact ⟨i, r1.int_inv, p1.here x1.sub (.int _)⟩
  | _ => exact p1.elim⟩

/-! ### a[b] -/
def dIxS : PyData → PyData → R PyData := fun a b => match b with
  | .int i => match a with
    | .list xs => match atI xs i with
      | some d => .ok d
      | none => .bad
    | .tuple xs => match atI xs i with
      | some d => .ok d
      | none => .bad
    | .str x => if x.length ≤ sizeLine then match atI x.cps.toList i with
      | some c => .ok (.str ⟨#[c]⟩)
      | none => .bad else .bad
    | _ => .bad
  | _ => .bad
theorem atI_rp {K : PySem.W.Frag} {H : Hp} {xs : List V} {ds : List PyData} {i : Int} {d : PyData} (r : RpAll K H xs ds) (e : atI ds i = some d) : ∃ v, atI xs i = some v ∧ Rp K H v d := by
  unfold atI at e ⊢
  rw [r.length]
  cases q : ixN ds.length i with
  | none => rw [q] at e; cases e
  | some j =>
    rw [q] at e
    exact r.get e
theorem de_ixS (ha : DW ec X W O a fa) (hb : DW ec X W O b fb) (hs : PlainIx b := by exact fun _ _ => rfl) : DE ec X W O (.Subscript a b pos) (d2 dIxS fa fb) := by
  refine PE.imp (pe_ix ix_seq ha hb hs) fun σ H Q ⟨H0, Hf0, Hf, η, S, p⟩ => ⟨H0, Hf0, Hf, η, S, p.bindI.imp fun x H1 ⟨Hf1, dx, x1, w1, p1⟩ => ⟨H0, Hf0, Hf1, η, S.step x1, p1.bindI.imp fun y H2 ⟨Hf2, dy, x2, w2, p2⟩ => ?_⟩⟩
  have w1' := w1.ext x2
  cases dy with
  | int i =>
    have e := w2.int_inv
    subst e
    cases dx with
    | list xs =>
      unfold dIxS at p2
      cases q : atI xs i with
      | none => simp only [q] at p2; exact p2.elim
      | some d =>
        simp only [q] at p2
        obtain ⟨a', vs, rfl, h1, r1⟩ := w1'.list_inv x2.sub
        obtain ⟨v, e1, e2⟩ := atI_rp r1 q
        exact .inl ⟨a', vs, i, v, rfl, rfl, h1, e1, p2.here x2.sub e2⟩
    | tuple xs =>
      unfold dIxS at p2
      cases q : atI xs i with
      | none => simp only [q] at p2; exact p2.elim
      | some d =>
        simp only [q] at p2
        obtain ⟨a', vs, rfl, h1, r1⟩ := w1'.tuple_inv x2.sub
        obtain ⟨v, e1, e2⟩ := atI_rp r1 q
        exact .inr (.inl ⟨a', vs, i, v, rfl, rfl, h1, e1, p2.here x2.sub e2⟩)
    | str z =>
      unfold dIxS at p2
      have e := w1'.str_inv
      subst e
      by_cases hz : z.length ≤ sizeLine
      · simp only [hz, if_true] at p2
        cases q : atI z.cps.toList i with
        | none => rw [q] at p2; exact p2.elim
        | some c =>
          rw [q] at p2
          exact .inr (.inr ⟨z, i, c, rfl, rfl, hz, q, p2.here x2.sub (.str _)⟩)
      · simp only [hz, if_false] at p2
        exact p2.elim
    | _ => exact p2.elim
  | _ => exact p2.elim
end
end DL
end

section
set_option Elab.async false
set_option linter.all false
set_option maxRecDepth 100000
set_option maxHeartbeats 4000000
namespace DL
open PySem PySem.Spec PyProof.Rows L2

/-! ### new objects -/
/-- a new object that nothing settled holds: it may be owned -/
abbrev ρN (K : PySem.W.Frag) (B : Hp) : Hp → Hp → V → PyData → Prop := fun H Hf v d => ∃ p, v = .ref p ∧ B p = none ∧ Hf p = none ∧ OwnAt K H Hf p d
def DN (ec : EC) (X : Cx) (W : WX) (O : List Nat) (e : Expr) (f : DEnv → R PyData) : Prop :=
  PE X e fun σ H Q => ∃ H0 Hf0 Hf η, SR X.K H0 Hf0 O η σ H Hf ∧ Post ec X.K W σ (ρN X.K H) Q H Hf (f η)
section
variable {ec : EC} {X : Cx} {W : WX} {O : List Nat} {e a b : Expr} {es : List Expr} {f fa fb : DEnv → R PyData} {pos : Pos}
theorem Post.settle {K : PySem.W.Frag} {σ : St} {Q : VK} {H Hf : Hp} {r : R PyData} (h : Post ec K W σ (ρV K) Q H Hf r) : Post ec K W σ (ρN K H) Q H Hf r := by
  cases r with
  | ok d =>
    rintro v H1 Hf1 x ⟨p, rfl, n0, n1, o⟩
    obtain ⟨u, hu, s1, s2, r⟩ := o.settle x.sub n1
    exact h _ _ _ ⟨x.same, x.sf.trans s1, s2, fun a y e => by
      unfold upd at e
      split at e
      · rename_i q; subst q; exact .inr n0
      · exact x.new a y e⟩ r
  | ex c fl => exact h
  | bad => exact h
theorem DN.de (h : DN ec X W O e f) : DE ec X W O e f := PE.imp h fun σ H Q ⟨H0, Hf0, Hf, η, S, p⟩ => ⟨H0, Hf0, Hf, η, S, p.settle⟩
theorem DN.dw (h : DN ec X W O e f) : DW ec X W O e f := h.de.w

/-! ### displays -/
/-- arguments: as many values as are written -/
def DAn (ec : EC) (X : Cx) (W : WX) (O : List Nat) (es : List Expr) (f : DEnv → R (List PyData)) : Prop := DA ec X W O es f ∧ ∀ η ds, f η = .ok ds → ds.length = es.length
theorem dn_nil : DAn ec X W O [] dNil := ⟨da_nil, fun η ds h => by injection h with h; subst h; rfl⟩
theorem dn_cons {g : DEnv → R (List PyData)} (ha : DE ec X W O e f) (hr : DAn ec X W O es g) (hs : starEach (e :: es) X.env = (false, eval e X.env) :: starEach es X.env := by rfl) : DAn ec X W O (e :: es) (dCons f g) := by
  refine ⟨da_cons ha hr.1 hs, fun η ds h => ?_⟩
  unfold dCons at h
  cases q : f η with
  | ok d =>
    rw [q, R.bind_ok] at h
    cases q2 : g η with
    | ok ds' =>
      rw [q2, R.bind_ok] at h
      injection h with h
      subst h
      exact congrArg Nat.succ (hr.2 η ds' q2)
    | ex c fl => rw [q2] at h; cases h
    | bad => rw [q2] at h; cases h
  | ex c fl => rw [q] at h; cases h
  | bad => rw [q] at h; cases h
def dTup (g : DEnv → R (List PyData)) : DEnv → R PyData := fun η => (g η).bind fun ds => .ok (.tuple ds)
def dLst (g : DEnv → R (List PyData)) : DEnv → R PyData := fun η => (g η).bind fun ds => .ok (.list ds)
theorem len_of {K : PySem.W.Frag} {H : Hp} {vs : List V} {ds : List PyData} {n : Nat} (r : RpAll K H vs ds) (h : ds.length = n) (hn : n ≤ sizeLine) : vs.length ≤ sizeLine := by rw [r.length, h]; exact hn
theorem Post.bindE {K : PySem.W.Frag} {σ : St} {α β γ δ : Type} {ρ : Hp → Hp → α → β → Prop} {ρ2 : Hp → Hp → γ → δ → Prop} {Q : γ → Hp → Prop} {H Hf : Hp} {r : R β} {g : β → R δ} (h : Post ec K W σ ρ2 Q H Hf (r.bind g)) :
    Post ec K W σ ρ (fun a H1 => ∃ Hf1 b, r = .ok b ∧ Ext H Hf H1 Hf1 ∧ ρ H1 Hf1 a b ∧ Post ec K W σ ρ2 Q H1 Hf1 (g b)) H Hf r := by
  cases r with
  | ok b => exact fun a H1 Hf1 y q => ⟨Hf1, b, rfl, y, q, Post.step h y⟩
  | ex c fl => exact h
  | bad => exact h
theorem de_tup {k : Nat} {g : DEnv → R (List PyData)} (h : DAn ec X W O es g) (hn : es.length ≤ sizeLine := by decide) : DE ec X W O (.Tuple es k pos) (dTup g) :=
  PE.imp (pe_tupF h.1) fun σ H Q ⟨H0, Hf0, Hf, η, S, p⟩ => ⟨H0, Hf0, Hf, η, S, p.bindE.imp fun vs H1 ⟨Hf1, ds, e1, x1, r1, p1⟩ => ⟨len_of r1 (h.2 η ds e1) hn, fun q o n od => by
    have x := Ext.add x1.sub (o := .frz o (.tup vs)) n
    exact p1 _ _ _ x (.tup (.of od) (r1.mono x.sf))⟩⟩
theorem dn_lst {g : DEnv → R (List PyData)} (h : DAn ec X W O es g) (hn : es.length ≤ sizeLine := by decide) : DN ec X W O (.List es pos) (dLst g) :=
  PE.imp (pe_lst h.1) fun σ H Q ⟨H0, Hf0, Hf, η, S, p⟩ => ⟨H0, Hf0, Hf, η, S, p.bindE.imp fun vs H1 ⟨Hf1, ds, e1, x1, r1, p1⟩ => ⟨len_of r1 (h.2 η ds e1) hn, fun q n => by
    have x := Ext.fresh x1.sub (o := .lst vs) n
    refine p1 _ _ _ x ⟨q, rfl, x1.same.free n, x1.sub.free n, .inl ⟨vs, ds, upd_same, rfl, r1⟩⟩⟩⟩

/-! ### and, or, not -/
def bAnd (f g : DEnv → R Bool) : DEnv → R Bool := fun η => (f η).bind fun c => if c then g η else .ok false
def bOr (f g : DEnv → R Bool) : DEnv → R Bool := fun η => (f η).bind fun c => if c then .ok true else g η
def bNot (f : DEnv → R Bool) : DEnv → R Bool := fun η => (f η).bind fun c => .ok (!c)
variable {rest : List Expr} {ga gb : DEnv → R Bool}
theorem dq_and1 (ha : DT ec X W O a ga) : DQ ec X W O (.BoolOp .And [a] pos) ga := pw_and1 ha
theorem dq_or1 (ha : DT ec X W O a ga) : DQ ec X W O (.BoolOp .Or [a] pos) ga := pw_or1 ha
theorem dq_and (ha : DT ec X W O a ga) (hb : DQ ec X W O (.BoolOp .And (b :: rest) pos) gb) : DQ ec X W O (.BoolOp .And (a :: b :: rest) pos) (bAnd ga gb) :=
  PW.imp (pw_and ha hb) fun σ H Q ⟨H0, Hf0, Hf, η, S, p⟩ => ⟨H0, Hf0, Hf, η, S, p.bindI.imp fun c H1 ⟨Hf1, c', x1, r1, p1⟩ => by
    have r1 : c = c' := r1
    subst r1
    cases c with
    | true => exact ⟨H0, Hf0, Hf1, η, S.step x1, p1⟩
    | false => exact p1.here x1.sub rfl⟩
theorem dq_or (ha : DT ec X W O a ga) (hb : DQ ec X W O (.BoolOp .Or (b :: rest) pos) gb) : DQ ec X W O (.BoolOp .Or (a :: b :: rest) pos) (bOr ga gb) :=
  PW.imp (pw_or ha hb) fun σ H Q ⟨H0, Hf0, Hf, η, S, p⟩ => ⟨H0, Hf0, Hf, η, S, p.bindI.imp fun c H1 ⟨Hf1, c', x1, r1, p1⟩ => by
    have r1 : c = c' := r1
    subst r1
    cases c with
    | false => exact ⟨H0, Hf0, Hf1, η, S.step x1, p1⟩
    | true => exact p1.here x1.sub rfl⟩
theorem dt_q (h : DQ ec X W O e ga) : DT ec X W O e ga := PW.pt h
theorem dt_not (ha : DT ec X W O a ga) : DT ec X W O (.UnaryOp .Not a pos) (bNot ga) :=
  PT.imp (pt_not ha) fun σ H Q ⟨H0, Hf0, Hf, η, S, p⟩ => ⟨H0, Hf0, Hf, η, S, p.bindI.imp fun c H1 ⟨Hf1, c', x1, r1, p1⟩ => by
    have r1 : c = c' := r1
    subst r1
    exact p1.here x1.sub rfl⟩
/-- a truth as a value -/
def dAnd (f g : DEnv → R PyData) : DEnv → R PyData := fun η => (f η).bind fun d => match d with
  | .bool c => if c then g η else .ok (.bool false)
  | _ => .bad
def dOr (f g : DEnv → R PyData) : DEnv → R PyData := fun η => (f η).bind fun d => match d with
  | .bool c => if c then .ok (.bool true) else g η
  | _ => .bad
def dNot (f : DEnv → R PyData) : DEnv → R PyData := fun η => (f η).bind fun d => match d with
  | .bool c => .ok (.bool (!c))
  | _ => .bad
theorem de_one {op : BoolOp} (ha : DE ec X W O a fa) : DE ec X W O (.BoolOp op [a] pos) fa := pe_one ha
theorem de_and (ha : DE ec X W O a fa) (hb : DE ec X W O (.BoolOp .And (b :: rest) pos) fb) : DE ec X W O (.BoolOp .And (a :: b :: rest) pos) (dAnd fa fb) :=
  PE.imp (pe_and ha hb) fun σ H Q ⟨H0, Hf0, Hf, η, S, p⟩ => ⟨H0, Hf0, Hf, η, S, p.bindI.imp fun v H1 ⟨Hf1, d, x1, r1, p1⟩ => by
    cases r1 with
    | bl c =>
      refine ⟨c, rfl, ?_⟩
      cases c with
      | true => exact ⟨H0, Hf0, Hf1, η, S.step x1, p1⟩
      | false => exact p1.here x1.sub (.bl _)
    | _ => exact p1.elim⟩
theorem de_or (ha : DE ec X W O a fa) (hb : DE ec X W O (.BoolOp .Or (b :: rest) pos) fb) : DE ec X W O (.BoolOp .Or (a :: b :: rest) pos) (dOr fa fb) :=
  PE.imp (pe_or ha hb) fun σ H Q ⟨H0, Hf0, Hf, η, S, p⟩ => ⟨H0, Hf0, Hf, η, S, p.bindI.imp fun v H1 ⟨Hf1, d, x1, r1, p1⟩ => by
    cases r1 with
    | bl c =>
      refine ⟨c, rfl, ?_⟩
      cases c with
      | false => exact ⟨H0, Hf0, Hf1, η, S.step x1, p1⟩
      | true => exact p1.here x1.sub (.bl _)
    | _ => exact p1.elim⟩
theorem de_not (ha : DE ec X W O a fa) : DE ec X W O (.UnaryOp .Not a pos) (dNot fa) :=
  PE.imp (pe_not ha) fun σ H Q ⟨H0, Hf0, Hf, η, S, p⟩ => ⟨H0, Hf0, Hf, η, S, p.bindI.imp fun v H1 ⟨Hf1, d, x1, r1, p1⟩ => by
    cases r1 with
    | bl c => exact ⟨c, rfl, p1.here x1.sub (.bl _)⟩
    | _ => exact p1.elim⟩

/-! ### calls of the module's defs -/
/-- what a def promises: it is m on data -/
def spD (ec : EC) (K : PySem.W.Frag) (n : Nat) (m : List PyData → R PyData) : Sp := fun vs H Q E => ∃ Hf ds, Same Hf H ∧ RpAll K Hf vs ds ∧ ds.length = n ∧ Post ec K (fun c d _ H => E c d H) [] (ρV K) Q H Hf (m ds)
/-- the def x of the module is m on data; k: how deep it calls -/
structure FOk (ec : EC) (P : Program) (w : World) (K : PySem.W.Frag) (mg : Str → Option Value) (base : Heap) (k : Nat) (x : Str) (n : Nat) (m : List PyData → R PyData) : Prop where
  ok : ∃ (fd : FuncData) (ps : List Str), ps.length = n ∧ FnOk P w K mg base (L2.CX P w) k (He.ga K x) fd ps (spD ec K n m) ∧ Binds K fd ps []
  kp : PySem.W.keepIn K (.ref (He.ga K x)) = true
  at_ : mg x = some (.ref (He.ga K x))
def dCall (m : List PyData → R PyData) (g : DEnv → R (List PyData)) : DEnv → R PyData := fun η => (g η).bind m
theorem Post.wish {K : PySem.W.Frag} {σ : St} {α β : Type} {ρ : Hp → Hp → α → β → Prop} {Q : α → Hp → Prop} {H Hf : Hp} {r : R β} (h : Post ec K W σ ρ Q H Hf r) : Post ec K (fun c d _ H => W c d σ H) [] ρ Q H Hf r := by
  cases r <;> exact h
theorem de_call {k n : Nat} {x : Str} {m : List PyData → R PyData} {g : DEnv → R (List PyData)} {p : Pos} (F : FOk ec X.prog X.w X.K X.mg X.base k x n m) (hr : Room k X.A) (tk : Takes X W) (ha : DAn ec X W O (e :: es) g) (hn : (e :: es).length = n := by rfl) (hg : Gl X x := by rfl)
    (hdb : (x == ("__debug__" : Str)) = false := by decide) (he : starEach (e :: es) X.env = (false, eval e X.env) :: starEach es X.env := by rfl) (hpl : (backTo pos (starEach es X.env)).any (·.1) = false := by rfl) :
    DE ec X W O (.Call (.Name x p) (e :: es) [] pos) (dCall m g) := by
  obtain ⟨fd, ps, hps, hF, hB⟩ := F.ok
  refine PE.imp (pe_callS hF hr hg F.at_ F.kp hB (E := WE W) (fun σ => passAt tk σ) ha.1 hdb he hpl) fun σ H Q ⟨H0, Hf0, Hf, η, S, p⟩ => ⟨H0, Hf0, Hf, η, S, p.bindE.imp fun vs H1 ⟨Hf1, ds, e1, x1, r1, p1⟩ => ?_⟩
  exact ⟨Hf1, ds, x1.sub, r1, (ha.2 η ds e1).trans hn, p1.wish⟩
theorem de_call0 {k : Nat} {x : Str} {m : List PyData → R PyData} {p : Pos} (F : FOk ec X.prog X.w X.K X.mg X.base k x 0 m) (hr : Room k X.A) (tk : Takes X W) (hg : Gl X x := by rfl)
    (hdb : (x == ("__debug__" : Str)) = false := by decide) :
    DE ec X W O (.Call (.Name x p) [] [] pos) (dCall m dNil) := by
  obtain ⟨fd, ps, hps, hF, hB⟩ := F.ok
  refine ⟨fun pins s σ H Q I h => ?_⟩
  refine wpAny_Call_Name_kw (ld_glob I hg F.at_ ?_ hdb)
  refine PySem.W.callWith_K0 I.kIn F.kp ?_
  obtain ⟨H0, Hf0, Hf, η, S, p⟩ := h
  exact run_fnS (E := WE W) (us := []) (vs := []) hF hr hB (passAt tk σ) I .nil ⟨Hf, [], S.sub, .nil, rfl, (show Post ec X.K W σ (ρV X.K) Q H Hf (m []) from p).wish⟩
theorem takes_no {X : Cx} : Takes X fun _ _ _ _ => False := fun _ _ ⟨_, _, _, _, _, _, _, _, _, _, _, _, _, _, _, _, z⟩ => z.elim

/-! ### calls of built-in functions -/
/-- f on values is g on data -/
def CallD (ec : EC) (X : Cx) (W : WX) (f : Value) (g : PyData → R PyData) : Prop :=
  ∀ (pins : List (Addr × Obj)) (s : Shared) (σ : St) (H Hf : Hp) (x : V) (dx : PyData) (v : Value) (Q : VK), Inv X pins σ H s → Same Hf H → RelV x v → RpW X.K H Hf x dx →
    Post ec X.K W σ (ρV X.K) Q H Hf (g dx) → wpAny (model X.prog X.w) X.A (call f [v]) (EP X pins σ Q) X.xe s
/-- .. a new object -/
def CallN (ec : EC) (X : Cx) (W : WX) (f : Value) (g : PyData → R PyData) : Prop :=
  ∀ (pins : List (Addr × Obj)) (s : Shared) (σ : St) (H Hf : Hp) (x : V) (dx : PyData) (v : Value) (Q : VK), Inv X pins σ H s → Same Hf H → RelV x v → RpW X.K H Hf x dx →
    Post ec X.K W σ (ρN X.K H) Q H Hf (g dx) → wpAny (model X.prog X.w) X.A (call f [v]) (EP X pins σ Q) X.xe s
theorem CallN.d {f : Value} {g : PyData → R PyData} (h : CallN ec X W f g) : CallD ec X W f g := fun pins s σ H Hf x dx v Q I hs rx wx p => h pins s σ H Hf x dx v Q I hs rx wx p.settle
def d1 (g : PyData → R PyData) (f : DEnv → R PyData) : DEnv → R PyData := fun η => (f η).bind g
section
variable {x : Str} {p : Pos} {g : PyData → R PyData} {T : String}
/-- one weak argument -/
theorem pa_w (ha : DW ec X W O e f) (hs : starEach [e] X.env = (false, eval e X.env) :: starEach [] X.env := by rfl) : PA X [e] fun σ H Q => tD ec X.K W O (ρW X.K) f σ H fun v H1 => Q [v] H1 :=
  PA.imp (pa_cons ha pa_nil hs) fun σ H Q q => q
theorem de_bf (hc : CallD ec X W (.builtin T) g) (hm : X.mg x = none) (ha : DW ec X W O e f) (hv : bootBuiltins x = some (.builtin T)) (hg : Gl X x := by rfl) (hn : x ≠ "__name__" := by decide) (hdb : (x == ("__debug__" : Str)) = false := by decide)
    (he : starEach [e] X.env = (false, eval e X.env) :: starEach [] X.env := by rfl) (hpl : (backTo pos (starEach [] X.env)).any (·.1) = false := by rfl) : DE ec X W O (.Call (.Name x p) [e] [] pos) (d1 g f) := by
  refine ⟨fun pins s σ H Q I h => ?_⟩
  refine wpAny_Call_Name_kw (ld_blt I hg hm hv ?_ hn hdb)
  obtain ⟨H0, Hf0, Hf, η, S, q⟩ := h
  refine PyProof.Rows.callWith_builtin1 (thn ((pa_w ha he).run pos pins s σ H (fun vs H1 => ∃ v Hf1 d, vs = [v] ∧ Ext H Hf H1 Hf1 ∧ RpW X.K H1 Hf1 v d ∧ Post ec X.K W σ (ρV X.K) Q H1 Hf1 (g d)) I
    ⟨H0, Hf0, Hf, η, S, q.bindI.imp fun v H1 ⟨Hf1, d, x1, r1, p1⟩ => ⟨v, Hf1, d, rfl, x1, r1, p1⟩⟩) fun us s1 ⟨vs, H1, I1, r1, v, Hf1, d, e1, x1, w1, p1⟩ => ?_) he hpl
  subst e1
  cases r1 with
  | cons r rr =>
    cases rr
    exact hc pins s1 σ H1 Hf1 v d _ Q I1 x1.sub r w1 p1
theorem de_bt (hc : CallD ec X W (.type T) g) (hm : X.mg x = none) (ha : DW ec X W O e f) (hv : bootBuiltins x = some (.type T)) (hg : Gl X x := by rfl) (hn : x ≠ "__name__" := by decide) (hdb : (x == ("__debug__" : Str)) = false := by decide)
    (he : starEach [e] X.env = (false, eval e X.env) :: starEach [] X.env := by rfl) (hpl : (backTo pos (starEach [] X.env)).any (·.1) = false := by rfl) : DE ec X W O (.Call (.Name x p) [e] [] pos) (d1 g f) := by
  refine ⟨fun pins s σ H Q I h => ?_⟩
  refine wpAny_Call_Name_kw (ld_blt I hg hm hv ?_ hn hdb)
  obtain ⟨H0, Hf0, Hf, η, S, q⟩ := h
  refine PyProof.Rows.callWith_type1 (thn ((pa_w ha he).run pos pins s σ H (fun vs H1 => ∃ v Hf1 d, vs = [v] ∧ Ext H Hf H1 Hf1 ∧ RpW X.K H1 Hf1 v d ∧ Post ec X.K W σ (ρV X.K) Q H1 Hf1 (g d)) I
    ⟨H0, Hf0, Hf, η, S, q.bindI.imp fun v H1 ⟨Hf1, d, x1, r1, p1⟩ => ⟨v, Hf1, d, rfl, x1, r1, p1⟩⟩) fun us s1 ⟨vs, H1, I1, r1, v, Hf1, d, e1, x1, w1, p1⟩ => ?_) he hpl
  subst e1
  cases r1 with
  | cons r rr =>
    cases rr
    exact hc pins s1 σ H1 Hf1 v d _ Q I1 x1.sub r w1 p1
/-- the answer is new to the state ahead of the call -/
theorem Post.older {K : PySem.W.Frag} {σ : St} {Q : VK} {H Hf H1 Hf1 : Hp} {r : R PyData} (x : Ext H Hf H1 Hf1) (h : Post ec K W σ (ρN K H) Q H1 Hf1 r) : Post ec K W σ (ρN K H1) Q H1 Hf1 r := by
  cases r with
  | ok d => exact fun v H2 Hf2 y ⟨p, e, n, q⟩ => h v H2 Hf2 y ⟨p, e, x.same.free n, q⟩
  | ex c fl => exact h
  | bad => exact h
theorem dn_bf (hc : CallN ec X W (.builtin T) g) (hm : X.mg x = none) (ha : DW ec X W O e f) (hv : bootBuiltins x = some (.builtin T)) (hg : Gl X x := by rfl) (hn : x ≠ "__name__" := by decide) (hdb : (x == ("__debug__" : Str)) = false := by decide)
    (he : starEach [e] X.env = (false, eval e X.env) :: starEach [] X.env := by rfl) (hpl : (backTo pos (starEach [] X.env)).any (·.1) = false := by rfl) : DN ec X W O (.Call (.Name x p) [e] [] pos) (d1 g f) := by
  refine ⟨fun pins s σ H Q I h => ?_⟩
  refine wpAny_Call_Name_kw (ld_blt I hg hm hv ?_ hn hdb)
  obtain ⟨H0, Hf0, Hf, η, S, q⟩ := h
  refine PyProof.Rows.callWith_builtin1 (thn ((pa_w ha he).run pos pins s σ H (fun vs H1 => ∃ v Hf1 d, vs = [v] ∧ Ext H Hf H1 Hf1 ∧ RpW X.K H1 Hf1 v d ∧ Post ec X.K W σ (ρN X.K H) Q H1 Hf1 (g d)) I
    ⟨H0, Hf0, Hf, η, S, q.bindI.imp fun v H1 ⟨Hf1, d, x1, r1, p1⟩ => ⟨v, Hf1, d, rfl, x1, r1, p1⟩⟩) fun us s1 ⟨vs, H1, I1, r1, v, Hf1, d, e1, x1, w1, p1⟩ => ?_) he hpl
  subst e1
  cases r1 with
  | cons r rr =>
    cases rr
    exact hc pins s1 σ H1 Hf1 v d _ Q I1 x1.sub r w1 (p1.older x1)
theorem dn_bt (hc : CallN ec X W (.type T) g) (hm : X.mg x = none) (ha : DW ec X W O e f) (hv : bootBuiltins x = some (.type T)) (hg : Gl X x := by rfl) (hn : x ≠ "__name__" := by decide) (hdb : (x == ("__debug__" : Str)) = false := by decide)
    (he : starEach [e] X.env = (false, eval e X.env) :: starEach [] X.env := by rfl) (hpl : (backTo pos (starEach [] X.env)).any (·.1) = false := by rfl) : DN ec X W O (.Call (.Name x p) [e] [] pos) (d1 g f) := by
  refine ⟨fun pins s σ H Q I h => ?_⟩
  refine wpAny_Call_Name_kw (ld_blt I hg hm hv ?_ hn hdb)
  obtain ⟨H0, Hf0, Hf, η, S, q⟩ := h
  refine PyProof.Rows.callWith_type1 (thn ((pa_w ha he).run pos pins s σ H (fun vs H1 => ∃ v Hf1 d, vs = [v] ∧ Ext H Hf H1 Hf1 ∧ RpW X.K H1 Hf1 v d ∧ Post ec X.K W σ (ρN X.K H) Q H1 Hf1 (g d)) I
    ⟨H0, Hf0, Hf, η, S, q.bindI.imp fun v H1 ⟨Hf1, d, x1, r1, p1⟩ => ⟨v, Hf1, d, rfl, x1, r1, p1⟩⟩) fun us s1 ⟨vs, H1, I1, r1, v, Hf1, d, e1, x1, w1, p1⟩ => ?_) he hpl
  subst e1
  cases r1 with
  | cons r rr =>
    cases rr
    exact hc pins s1 σ H1 Hf1 v d _ Q I1 x1.sub r w1 (p1.older x1)
end
end
end DL
end

section
set_option Elab.async false
set_option linter.all false
set_option maxRecDepth 100000
set_option maxHeartbeats 4000000
namespace DL
open PySem PySem.Spec PyProof.Rows L2
section
variable {ec : EC} {X : Cx} {W : WX} {O : List Nat} {e a b : Expr} {es : List Expr} {f fa fb : DEnv → R PyData} {pos : Pos}

theorem CallD.of {f : Value} {g : PyData → R PyData} {r : List V → Hp → VK → Prop} (h : CallR X f r)
    (i : ∀ (σ : St) (H Hf : Hp) (x : V) (dx : PyData) (Q : VK), Same Hf H → RpW X.K H Hf x dx → Post ec X.K W σ (ρV X.K) Q H Hf (g dx) → r [x] H Q) : CallD ec X W f g :=
  fun pins s σ H Hf x dx v Q I hs rx wx p => h pins s σ H [x] [v] Q I (.cons rx .nil) (i σ H Hf x dx Q hs wx p)
theorem CallN.of {f : Value} {g : PyData → R PyData} {r : List V → Hp → VK → Prop} (h : CallR X f r)
    (i : ∀ (σ : St) (H Hf : Hp) (x : V) (dx : PyData) (Q : VK), Same Hf H → RpW X.K H Hf x dx → Post ec X.K W σ (ρN X.K H) Q H Hf (g dx) → r [x] H Q) : CallN ec X W f g :=
  fun pins s σ H Hf x dx v Q I hs rx wx p => h pins s σ H [x] [v] Q I (.cons rx .nil) (i σ H Hf x dx Q hs wx p)
/-- a new list -/
theorem new_list {K : PySem.W.Frag} {σ : St} {Q : VK} {H Hf : Hp} {ds : List PyData} (p : Post ec K W σ (ρN K H) Q H Hf (.ok (.list ds))) (hs : Same Hf H) {vs : List V} (r : RpAll K Hf vs ds) {l : Addr} (n : H l = none) : Q (.ref l) (upd H l (.lst vs)) :=
  p _ _ _ (Ext.fresh hs n) ⟨l, rfl, n, hs.free n, .inl ⟨vs, ds, upd_same, rfl, r⟩⟩

/-! ### len -/
def dLen : PyData → R PyData
  | .list xs => .ok (.int (xs.length : Nat))
  | .tuple xs => .ok (.int (xs.length : Nat))
  | .str x => if x.length ≤ sizeLine then .ok (.int (x.length : Nat)) else .bad
  | _ => .bad
theorem cd_len : CallD ec X W (.builtin "len") dLen := by
  intro pins s σ H Hf x dx v Q I hs rx wx p
  cases dx with
  | list xs =>
    obtain ⟨a, vs, rfl, h1, r1⟩ := wx.list_inv hs
    exact call_len_seq pins s σ H [.ref a] [v] Q I (.cons rx .nil) ⟨a, vs, rfl, .inl h1, by rw [r1.length]; exact p.here hs (.int _)⟩
  | tuple xs =>
    obtain ⟨a, vs, rfl, h1, r1⟩ := wx.tuple_inv hs
    exact call_len_seq pins s σ H [.ref a] [v] Q I (.cons rx .nil) ⟨a, vs, rfl, .inr h1, by rw [r1.length]; exact p.here hs (.int _)⟩
  | str z =>
    have e := wx.str_inv
    subst e
    unfold dLen at p
    by_cases hz : z.length ≤ sizeLine
    · simp only [hz, if_true] at p
      exact call_len_str pins s σ H _ [v] Q I (.cons rx .nil) ⟨z, rfl, hz, p.here hs (.int _)⟩
    · simp only [hz, if_false] at p
      exact p.elim
  | _ => exact p.elim

/-! ### all, any -/
def boolsD : List PyData → Option (List Bool)
  | [] => some []
  | .bool b :: r => (boolsD r).map (b :: ·)
  | _ :: _ => none
theorem boolsD_rp {K : PySem.W.Frag} {H : Hp} : ∀ {vs : List V} {ds : List PyData} {bs : List Bool}, RpAll K H vs ds → boolsD ds = some bs → vs = bs.map V.bl
  | _, _, _, .nil, e => by
    unfold boolsD at e
    injection e with e
    subst e
    rfl
  | _, d :: ds, bs, .cons h t, e => by
    cases h with
    | bl b =>
      unfold boolsD at e
      cases q : boolsD ds with
      | none => rw [q] at e; cases e
      | some bs' =>
        rw [q] at e
        injection e with e
        subst e
        rw [List.map_cons, boolsD_rp t q]
    | _ => cases e
def dAll : PyData → R PyData
  | .list ds => match boolsD ds with
    | some bs => .ok (.bool (bs.all id))
    | none => .bad
  | _ => .bad
def dAny : PyData → R PyData
  | .list ds => match boolsD ds with
    | some bs => .ok (.bool (bs.any id))
    | none => .bad
  | _ => .bad
theorem cd_all (hc : X.calm = true) : CallD ec X W (.builtin "all") dAll := CallD.of (cr_all hc) fun σ H Hf x dx Q hs wx p => by
  cases dx with
  | list xs =>
    obtain ⟨a, vs, rfl, h1, r1⟩ := wx.list_inv hs
    unfold dAll at p
    cases q : boolsD xs with
    | none => simp only [q] at p; exact p.elim
    | some bs =>
      simp only [q] at p
      rw [boolsD_rp r1 q] at h1
      exact ⟨a, bs, rfl, h1, p.here hs (.bl _)⟩
  | _ => exact p.elim
theorem cd_any (hc : X.calm = true) : CallD ec X W (.builtin "any") dAny := CallD.of (cr_any hc) fun σ H Hf x dx Q hs wx p => by
  cases dx with
  | list xs =>
    obtain ⟨a, vs, rfl, h1, r1⟩ := wx.list_inv hs
    unfold dAny at p
    cases q : boolsD xs with
    | none => simp only [q] at p; exact p.elim
    | some bs =>
      simp only [q] at p
      rw [boolsD_rp r1 q] at h1
      exact ⟨a, bs, rfl, h1, p.here hs (.bl _)⟩
  | _ => exact p.elim

/-! ### list(x), tuple(x) -/
def dToList : PyData → R PyData
  | .list ds => .ok (.list ds)
  | .tuple ds => .ok (.list ds)
  | _ => .bad
def dToTup : PyData → R PyData
  | .list ds => .ok (.tuple ds)
  | .tuple ds => .ok (.tuple ds)
  | _ => .bad
theorem cn_list : CallN ec X W (.type "list") dToList := CallN.of call_list_of fun σ H Hf x dx Q hs wx p => by
  cases dx with
  | list xs =>
    obtain ⟨a, vs, rfl, h1, r1⟩ := wx.list_inv hs
    exact ⟨a, vs, rfl, .inl h1, fun l n => new_list p hs r1 n⟩
  | tuple xs =>
    obtain ⟨a, vs, rfl, h1, r1⟩ := wx.tuple_inv hs
    exact ⟨a, vs, rfl, .inr h1, fun l n => new_list p hs r1 n⟩
  | _ => exact p.elim
theorem cd_tuple : CallD ec X W (.type "tuple") dToTup := CallD.of call_tuple_ofF fun σ H Hf x dx Q hs wx p => by
  cases dx with
  | list xs =>
    obtain ⟨a, vs, rfl, h1, r1⟩ := wx.list_inv hs
    refine ⟨a, vs, rfl, .inl ⟨h1, fun l o n od => ?_⟩⟩
    have x := Ext.add hs (o := .frz o (.tup vs)) n
    exact p _ _ _ x (.tup (.of od) (r1.mono x.sf))
  | tuple xs =>
    have wx' := wx
    obtain ⟨a, vs, rfl, h1, r1⟩ := wx.tuple_inv hs
    refine ⟨a, vs, rfl, .inr ⟨h1, ?_⟩⟩
    rcases wx' with wx' | ⟨_, _, _, a⟩
    · exact p.here hs wx'
    · exfalso
      rcases a with ⟨xs, ds', h, e, a⟩ | ⟨_, _, _, e, _⟩ | ⟨_, _, _, _, _, _, _, _, _, _, _, _, e, _⟩ <;> cases e
  | _ => exact p.elim

/-! ### sorted -/
def isTup1 : PyData → Bool
  | .tuple (_ :: _) => true
  | _ => false
def isTup : PyData → Bool
  | .tuple _ => true
  | _ => false
def sortOk (ds : List PyData) : Bool := ds.all PyData.plain && (ds.all fun a => ds.all fun b => PySem.W.alike a b) && (ds.all isTup1 || ds.all fun d => !isNone d && !isTup d) && ds.all fun d => decide (d.depth ≤ 64)
def dLeB (a b : PyData) : Bool := !PySem.W.dataLt b a
def sortD (ds : List PyData) : List PyData := ds.mergeSort dLeB
def dSorted : PyData → R PyData
  | .list ds => if sortOk ds then .ok (.list (sortD ds)) else .bad
  | _ => .bad
theorem zip_each {K : PySem.W.Frag} {H : Hp} : ∀ {vs : List V} {ds : List PyData} {its : List Value}, RpAll K H vs ds → Vals vs its → PySem.W.EachIs (fun (u : Value) (b : V × PyData) => RelV b.1 u) its (vs.zip ds)
  | _, _, _, .nil, .nil => .nil
  | _, _, _, .cons h t, .cons r s => .cons r (zip_each t s)
theorem zip_snd {K : PySem.W.Frag} {H : Hp} {vs : List V} {ds : List PyData} (r : RpAll K H vs ds) : (vs.zip ds).map Prod.snd = ds := List.map_snd_zip (by rw [r.length]; exact Nat.le_refl _)
theorem zip_rp {K : PySem.W.Frag} {H : Hp} : ∀ {vs : List V} {ds : List PyData}, RpAll K H vs ds → ∀ b ∈ vs.zip ds, Rp K H b.1 b.2
  | _, _, .nil => fun b hb => by cases hb
  | _, _, .cons h t => fun b hb => by
    rcases List.mem_cons.mp hb with e | hb
    · rw [e]; exact h
    · exact zip_rp t b hb
theorem rp_of_pairs {K : PySem.W.Frag} {H : Hp} : ∀ {bs : List (V × PyData)}, (∀ b ∈ bs, Rp K H b.1 b.2) → RpAll K H (bs.map Prod.fst) (bs.map Prod.snd)
  | [], _ => .nil
  | b :: bs, h => .cons (h b (List.mem_cons_self ..)) (rp_of_pairs fun c hc => h c (List.mem_cons_of_mem _ hc))
theorem vals_of_each : ∀ {out : List Value} {bs : List (V × PyData)}, PySem.W.EachIs (fun (u : Value) (b : V × PyData) => RelV b.1 u) out bs → Vals (bs.map Prod.fst) out
  | _, _, .nil => .nil
  | _, _, .cons r t => .cons r (vals_of_each t)
theorem each_reads {pins : List (Addr × Obj)} {s : Shared} {σ : St} {H : Hp} (I : Inv X pins σ H s) : ∀ {vs : List V} {ds : List PyData} {its : List Value}, RpAll X.K H vs ds → Vals vs its → (∀ d ∈ ds, d.plain = true) →
    PySem.W.EachIs (fun (u : Value) (b : V × PyData) => ∃ as, Reads s.heap u b.2 as) its (vs.zip ds)
  | _, _, _, .nil, .nil, _ => .nil
  | _, _, _, .cons h t, .cons r q, p => .cons (Dp.reads I _ _ _ (Rp.dp _ _ (p _ (List.mem_cons_self ..)) h) r) (each_reads I t q fun d hd => p d (List.mem_cons_of_mem _ hd))
theorem sortOk_of {ds : List PyData} (h : sortOk ds = true) : (∀ d ∈ ds, d.plain = true) ∧ PySem.W.AllAlike ds ∧ PySem.W.Sortable ds ∧ ∀ d ∈ ds, d.depth ≤ 64 := by
  unfold sortOk at h
  simp only [Bool.and_eq_true, Bool.or_eq_true, List.all_eq_true, decide_eq_true_eq] at h
  obtain ⟨⟨⟨h1, h2⟩, h3⟩, h4⟩ := h
  refine ⟨h1, h2, ?_, h4⟩
  rcases h3 with h3 | h3
  · refine .inl fun d hd => ?_
    have q := h3 d hd
    cases d with
    | tuple xs => cases xs with
      | nil => cases q
      | cons x r => exact ⟨x, r, rfl⟩
    | _ => cases q
  · refine .inr fun d hd => ?_
    have q := h3 d hd
    refine ⟨fun e => ?_, fun xs e => ?_⟩
    · subst e; simp [isNone] at q
    · subst e; simp [isTup] at q
theorem cn_sorted (hu : Rm X) : CallN ec X W (.builtin "sorted") dSorted := by
  intro pins s σ H Hf x dx v Q I hs rx wx p
  have hu' : X.A.units + 150 < cLine := hu
  cases dx with
  | list ds =>
    unfold dSorted at p
    by_cases hc : sortOk ds = true
    · simp only [hc, if_true] at p
      obtain ⟨h1, h2, h3, h4⟩ := sortOk_of hc
      obtain ⟨a, vs, rfl, hq, r1⟩ := wx.list_inv hs
      cases rx
      obtain ⟨its, rv, pl, hz⟩ := I.list hq
      have es := zip_snd r1
      have hlen : (vs.zip ds).length = its.length := by rw [List.length_zip, ← r1.length, Nat.min_self]; exact rv.length
      have hb : ∀ b ∈ vs.zip ds, b.2 ∈ ds := fun b hb => by rw [← es]; exact List.mem_map_of_mem hb
      refine PySem.W.sorted_data (enc := Prod.snd) pl.isList (zip_each r1 rv) (each_reads I (r1.mono hs) rv h1) (by rw [es]; exact h2) (by rw [es]; exact h3) (by rw [hlen, ← rv.length]; exact hz)
        (fun b hb' => by have := h4 _ (hb b hb'); omega) fun out hl he => ?_
      have rv2 := vals_of_each he
      have r2 : RpAll X.K Hf (((vs.zip ds).mergeSort (PySem.W.dataLe false Prod.snd)).map Prod.fst) (sortD ds) := by
        have q := rp_of_pairs (K := X.K) (H := Hf) (bs := (vs.zip ds).mergeSort (PySem.W.dataLe false Prod.snd)) fun b hb => zip_rp r1 b ((List.mergeSort_perm _ _).mem_iff.mp hb)
        have em : ((vs.zip ds).mergeSort (PySem.W.dataLe false Prod.snd)).map Prod.snd = sortD ds := (PySem.W.sort_maps (r := PySem.W.dataLe false Prod.snd) (s := dLeB) Prod.snd (l := vs.zip ds) (fun _ _ _ _ => rfl)).trans (by rw [es]; rfl)
        rw [em] at q
        exact q
      obtain ⟨ep, he'⟩ := PyProof.Rows.sortedAll_at s.heap its (List.toArray out)
      have hn : H (s.heap.objs.size + 1) = none := I.hok.fresh (Nat.le_succ _)
      refine ⟨.ref _, _, I.laid (t' := s.toks) (o := .lst (((vs.zip ds).mergeSort (PySem.W.dataLe false Prod.snd)).map Prod.fst)) (fun _ _ => PyProof.Rows.sortedAll_old) (Nat.le_succ _) ⟨?_, out, ep, rv2, he'⟩, rfl, new_list p hs r2 hn⟩
      rw [List.length_map, List.length_mergeSort, hlen, ← rv.length]
      exact hz
    · simp only [hc] at p
      exact p.elim
  | _ => exact p.elim

/-! ### numbers -/
def dAbs : PyData → R PyData
  | .int i => .ok (.int (if i < 0 then -i else i))
  | _ => .bad
theorem cd_abs : CallD ec X W (.builtin "abs") dAbs := CallD.of call_abs fun σ H Hf x dx Q hs wx p => by
  cases dx with
  | int i =>
    have e := wx.int_inv
    subst e
    exact ⟨i, rfl, p.here hs (.int _)⟩
  | _ => exact p.elim
def dInt : PyData → R PyData
  | .int i => .ok (.int i)
  | .bool k => .ok (.int (if k then 1 else 0))
  | _ => .bad
theorem cd_int : CallD ec X W (.type "int") dInt := CallD.of call_int1 fun σ H Hf x dx Q hs wx p => by
  cases dx with
  | int i =>
    have e := wx.int_inv
    subst e
    exact .inl ⟨i, rfl, p.here hs (.int _)⟩
  | bool k =>
    have e := wx.bool_inv
    subst e
    exact .inr ⟨k, rfl, p.here hs (.int _)⟩
  | _ => exact p.elim

/-! ### two arguments -/
/-- f(a, b) of a built-in function, both weak -/
def Call2D (ec : EC) (X : Cx) (W : WX) (f : Value) (g : PyData → PyData → R PyData) : Prop :=
  ∀ (pins : List (Addr × Obj)) (s : Shared) (σ : St) (H Hf : Hp) (x y : V) (dx dy : PyData) (v u : Value) (Q : VK), Inv X pins σ H s → Same Hf H → RelV x v → RelV y u → RpW X.K H Hf x dx → RpW X.K H Hf y dy →
    Post ec X.K W σ (ρV X.K) Q H Hf (g dx dy) → wpAny (model X.prog X.w) X.A (call f [v, u]) (EP X pins σ Q) X.xe s
section
variable {x : Str} {p : Pos} {g : PyData → PyData → R PyData} {T : String}
theorem de_bf2 (hc : Call2D ec X W (.builtin T) g) (hm : X.mg x = none) (ha : DW ec X W O a fa) (hb : DW ec X W O b fb) (hv : bootBuiltins x = some (.builtin T)) (hg : Gl X x := by rfl) (hn : x ≠ "__name__" := by decide) (hdb : (x == ("__debug__" : Str)) = false := by decide)
    (he : starEach [a, b] X.env = (false, eval a X.env) :: starEach [b] X.env := by rfl) (he2 : starEach [b] X.env = (false, eval b X.env) :: starEach [] X.env := by rfl) (hpl : (backTo pos (starEach [b] X.env)).any (·.1) = false := by rfl) : DE ec X W O (.Call (.Name x p) [a, b] [] pos) (d2 g fa fb) := by
  refine ⟨fun pins s σ H Q I h => ?_⟩
  refine wpAny_Call_Name_kw (ld_blt I hg hm hv ?_ hn hdb)
  obtain ⟨H0, Hf0, Hf, η, S, q⟩ := h
  refine PyProof.Rows.callWith_builtin1 (thn ((pa_cons ha (pa_cons hb pa_nil he2) he).run pos pins s σ H (fun vs H2 => ∃ v u Hf2 d d', vs = [v, u] ∧ Ext H Hf H2 Hf2 ∧ RpW X.K H2 Hf2 v d ∧ RpW X.K H2 Hf2 u d' ∧ Post ec X.K W σ (ρV X.K) Q H2 Hf2 (g d d')) I
    ⟨H0, Hf0, Hf, η, S, q.bindI.imp fun v H1 ⟨Hf1, d, x1, r1, p1⟩ => ⟨H0, Hf0, Hf1, η, S.step x1, p1.bindI.imp fun u H2 ⟨Hf2, d', x2, r2, p2⟩ => ⟨v, u, Hf2, d, d', rfl, x1.trans x2, r1.ext x2, r2, p2⟩⟩⟩) fun us s1 ⟨vs, H1, I1, r1, v, u, Hf1, d, d', e1, x1, w1, w2, p1⟩ => ?_) he hpl
  subst e1
  cases r1 with
  | cons r rr =>
    cases rr with
    | cons r' rr =>
      cases rr
      exact hc pins s1 σ H1 Hf1 v u d d' _ _ Q I1 x1.sub r r' w1 w2 p1
end
def dMax2 : PyData → PyData → R PyData
  | .int i, .int j => .ok (.int (if j > i then j else i))
  | _, _ => .bad
def dMin2 : PyData → PyData → R PyData
  | .int i, .int j => .ok (.int (if j < i then j else i))
  | _, _ => .bad
theorem c2_max (hc : X.calm = true) : Call2D ec X W (.builtin "max") dMax2 := by
  intro pins s σ H Hf x y dx dy v u Q I hs rx ry wx wy p
  unfold dMax2 at p
  split at p
  · have e := wx.int_inv
    have e' := wy.int_inv
    subst e e'
    exact call_max2 hc pins s σ H _ _ Q I (.cons rx (.cons ry .nil)) ⟨_, _, rfl, p.here hs (.int _)⟩
  · exact p.elim
theorem c2_min (hc : X.calm = true) : Call2D ec X W (.builtin "min") dMin2 := by
  intro pins s σ H Hf x y dx dy v u Q I hs rx ry wx wy p
  unfold dMin2 at p
  split at p
  · have e := wx.int_inv
    have e' := wy.int_inv
    subst e e'
    exact call_min2 hc pins s σ H _ _ Q I (.cons rx (.cons ry .nil)) ⟨_, _, rfl, p.here hs (.int _)⟩
  · exact p.elim

/-! ### isinstance(x, T), T a built-in class -/
inductive TyN where
  | int | bool | str | tuple | list
def TyN.s : TyN → String
  | .int => "int"
  | .bool => "bool"
  | .str => "str"
  | .tuple => "tuple"
  | .list => "list"
def tyName : PyData → Option String
  | .none => some "NoneType"
  | .bool _ => some "bool"
  | .int _ => some "int"
  | .str _ => some "str"
  | .tuple _ => some "tuple"
  | .list _ => some "list"
  | .dict [] => some "dict"
  | .dict _ => none
def isTy : TyN → PyData → Bool
  | .int, .int _ => true
  | .int, .bool _ => true
  | .bool, .bool _ => true
  | .str, .str _ => true
  | .tuple, .tuple _ => true
  | .list, .list _ => true
  | _, _ => false
def dIsi (T : TyN) : PyData → R PyData := fun d => match tyName d with
  | some _ => .ok (.bool (isTy T d))
  | none => .bad
def tyTab (T : TyN) (n : String) : Bool := n == T.s || (T.s == "int" && n == "bool")
theorem kit_tab (T : TyN) : ∀ n ∈ ["NoneType", "bool", "int", "str", "tuple", "list", "dict"], kitB n T.s = some (tyTab T n) := by cases T <;> decide +kernel
theorem ty_tab (T : TyN) {d : PyData} {n : String} (h : tyName d = some n) : n ∈ ["NoneType", "bool", "int", "str", "tuple", "list", "dict"] ∧ tyTab T n = isTy T d := by
  cases d with
  | dict kvs => cases kvs with
    | nil => cases h; exact ⟨by decide, by cases T <;> rfl⟩
    | cons _ _ => cases h
  | none => cases h; exact ⟨by decide, by cases T <;> rfl⟩
  | bool _ => cases h; exact ⟨by decide, by cases T <;> rfl⟩
  | int _ => cases h; exact ⟨by decide, by cases T <;> rfl⟩
  | str _ => cases h; exact ⟨by decide, by cases T <;> rfl⟩
  | tuple _ => cases h; exact ⟨by decide, by cases T <;> rfl⟩
  | list _ => cases h; exact ⟨by decide, by cases T <;> rfl⟩
theorem kit_all {K : PySem.W.Frag} (T : TyN) (d : PyData) (n : String) (h : tyName d = some n) : PySem.W.kitOne K (.type n) (.type T.s) = some (isTy T d) := by
  obtain ⟨h1, h2⟩ := ty_tab T h
  rw [← h2]
  exact kit_ty (kit_tab T n h1)
theorem tyx_of {pins : List (Addr × Obj)} {s : Shared} {σ : St} {H Hf : Hp} {x : V} {dx : PyData} {n : String} (I : Inv X pins σ H s) (hs : Same Hf H) (wx : RpW X.K H Hf x dx) (h : tyName dx = some n) : TyX X.K H x (.type n) := by
  have r := wx.full hs
  cases r with
  | non => cases h; exact .base .non
  | bl b => cases h; exact .base (.bl b)
  | int i => cases h; exact .base (.int i)
  | str z => cases h; exact .base (.str z)
  | lst q r =>
    cases h
    rcases q with q | ⟨o, q⟩
    · exact .base (.lst q)
    · exact .base (.frz q)
  | tup q r =>
    cases h
    rcases q.sq with (q | ⟨o, q⟩) | ⟨o, its, n, q, c, _⟩
    · exact .base (.tup q)
    · exact .fTuple q
    · exact .kTuple q c
  | dK q r =>
    cases r with
    | nil => cases h; exact .base (.dK q)
    | cons _ _ => cases h
  | dN _ _ _ a4 _ _ _ a8 =>
    cases a8 with
    | nil => exact absurd rfl a4
    | cons _ _ _ _ _ _ => cases h
  | fn z => cases h
  | exc0 => cases h
  | exc1 => cases h
theorem de_isi (T : TyN) {p1 p2 : Pos} {t : Str} (hm : X.mg "isinstance" = none) (hm2 : X.mg t = none) (ha : DW ec X W O e f) (hv2 : bootBuiltins t = some (.type T.s)) (hg : Gl X "isinstance" := by rfl) (hg2 : Gl X t := by rfl)
    (hn2 : t ≠ "__name__" := by decide) (hdb2 : (t == ("__debug__" : Str)) = false := by decide)
    (he : starEach [e, .Name t p2] X.env = (false, eval e X.env) :: starEach [.Name t p2] X.env := by rfl) (he2 : starEach [.Name t p2] X.env = (false, eval (.Name t p2) X.env) :: starEach [] X.env := by rfl)
    (hpl : (backTo pos (starEach [.Name t p2] X.env)).any (·.1) = false := by rfl) :
    DE ec X W O (.Call (.Name "isinstance" p1) [e, .Name t p2] [] pos) (d1 (dIsi T) f) := by
  refine ⟨fun pins s σ H Q I h => ?_⟩
  refine wpAny_Call_Name_kw (ld_blt I hg hm (by decide +kernel : bootBuiltins "isinstance" = some (.builtin "isinstance")) ?_)
  obtain ⟨H0, Hf0, Hf, η, S, q⟩ := h
  have hb : PE X (.Name t p2) (tC (.ty T.s)) := pe_bltn hg2 hm2 hv2 rfl hn2 hdb2
  refine PyProof.Rows.callWith_builtin1 (thn ((pa_cons ha (pa_cons hb pa_nil he2) he).run pos pins s σ H (fun vs H2 => ∃ v Hf2 d, vs = [v, .ty T.s] ∧ Ext H Hf H2 Hf2 ∧ RpW X.K H2 Hf2 v d ∧ Post ec X.K W σ (ρV X.K) Q H2 Hf2 (dIsi T d)) I
    ⟨H0, Hf0, Hf, η, S, q.bindI.imp fun v H1 ⟨Hf1, d, x1, r1, p1⟩ => ⟨v, Hf1, d, rfl, x1, r1, p1⟩⟩) fun us s1 ⟨vs, H1, I1, r1, v, Hf1, d, e1, x1, w1, p1⟩ => ?_) he hpl
  subst e1
  unfold dIsi at p1
  cases q2 : tyName d with
  | none => simp only [q2] at p1; exact p1.elim
  | some n =>
    simp only [q2] at p1
    exact call_isi pins s1 σ H1 _ us Q I1 r1 ⟨v, .ty T.s, .type n, .type T.s, isTy T d, rfl, .ty _, tyx_of I1 x1.sub w1 q2, kit_all T d n q2, p1.here x1.sub (.bl _)⟩
end
end DL
end

section
set_option Elab.async false
set_option linter.all false
set_option maxRecDepth 100000
set_option maxHeartbeats 4000000
namespace DL
open PySem PySem.Spec PyProof.Rows L2

/-! ### what is walked -/
/-- the iterator J yields the data ds; w: only while nothing that stood is changed -/
def ItOk (K : PySem.W.Frag) (w : Bool) (J : It) (ds : List PyData) (H1 Hf1 : Hp) : Prop :=
  ds.length ≤ sizeLine ∧ ∀ i H Hf, Same Hf1 Hf → Same Hf H → (w = true → Same H1 H) →
    (ds.length ≤ i → J.stop i H) ∧ ∀ d, ds[i]? = some d → J.go i H ∧ ∀ x H', J.yld i H x H' → ∃ Hf', Ext H Hf H' Hf' ∧ Rp K Hf' x d
abbrev ρI (K : PySem.W.Frag) (w : Bool) : Hp → Hp → It → List PyData → Prop := fun H Hf J ds => ItOk K w J ds H Hf
def DI (ec : EC) (X : Cx) (W : WX) (O : List Nat) (w : Bool) (tg e : Expr) (f : DEnv → R (List PyData)) : Prop := PI X tg e (tD ec X.K W O (ρI X.K w) f)
section
variable {ec : EC} {X : Cx} {W : WX} {O : List Nat} {e a b tg : Expr} {es : List Expr} {f fa fb : DEnv → R PyData} {pos : Pos}
theorem PI.imp {t t' : TI} (h : PI X tg e t) (i : ∀ σ H Q, t' σ H Q → t σ H Q) : PI X tg e t' := ⟨fun pins s σ H Q I q => h.run pins s σ H Q I (i σ H Q q)⟩
theorem ItOk.strong {K : PySem.W.Frag} {J : It} {ds : List PyData} {H Hf : Hp} (w : Bool) (h : ItOk K false J ds H Hf) : ItOk K w J ds H Hf := ⟨h.1, fun i H' Hf' a b _ => h.2 i H' Hf' a b fun z => Bool.noConfusion z⟩

/-- the signs of a text -/
def signsD (x : Str) : List PyData := x.cps.toList.map fun c => .str ⟨#[c]⟩
/-- what a walk over a list, a tuple, a text yields -/
def dItems : PyData → R (List PyData)
  | .list ds => .ok ds
  | .tuple ds => .ok ds
  | .str x => if x.length ≤ sizeLine then .ok (signsD x) else .bad
  | _ => .bad
theorem itl_ok {K : PySem.W.Frag} {a : Addr} {xs : List V} {ds : List PyData} {H1 Hf1 : Hp} {w : Bool} (hs : Same Hf1 H1) (h : SqL K H1 a xs) (hf : w = false → SqL K Hf1 a xs) (r : RpAll K Hf1 xs ds) (hz : xs.length ≤ sizeLine) : ItOk K w (Itl K a) ds H1 Hf1 := by
  refine ⟨by rw [← r.length]; exact hz, fun i H Hf s1 s2 s3 => ?_⟩
  have q : SqL K H a xs := by
    cases w with
    | false => exact s2.seq (s1.seq (hf rfl))
    | true => exact (s3 rfl).seq h
  refine ⟨fun hi => ⟨xs, q, by rw [r.length]; exact hi⟩, fun d e => ?_⟩
  obtain ⟨v, e1, r1⟩ := r.get e
  refine ⟨⟨xs, v, q, e1⟩, fun x H' y => ?_⟩
  obtain ⟨rfl, y⟩ := y
  have e2 := y xs q
  rw [e1] at e2
  cases e2
  exact ⟨Hf, Ext.refl s2, r1.mono s1⟩
theorem itt_ok {K : PySem.W.Frag} {a : Addr} {xs : List V} {ds : List PyData} {H1 Hf1 : Hp} {w : Bool} (hs : Same Hf1 H1) (hf : SqT K Hf1 a xs) (r : RpAll K Hf1 xs ds) (hz : xs.length ≤ sizeLine) : ItOk K w (Itt K a) ds H1 Hf1 := by
  refine ⟨by rw [← r.length]; exact hz, fun i H Hf s1 s2 s3 => ?_⟩
  have q : SqT K H a xs := Same.tup s2 (Same.tup s1 hf)
  refine ⟨fun hi => ⟨xs, q, by rw [r.length]; exact hi⟩, fun d e => ?_⟩
  obtain ⟨v, e1, r1⟩ := r.get e
  refine ⟨⟨xs, v, q, e1⟩, fun x H' y => ?_⟩
  obtain ⟨rfl, y⟩ := y
  have e2 := y xs q
  rw [e1] at e2
  cases e2
  exact ⟨Hf, Ext.refl s2, r1.mono s1⟩
theorem its_ok {K : PySem.W.Frag} {x : Str} {H1 Hf1 : Hp} {w : Bool} (hz : x.length ≤ sizeLine) : ItOk K w (Its x) (signsD x) H1 Hf1 := by
  have hl : (signsD x).length = x.cps.size := by unfold signsD; rw [List.length_map, Array.length_toList]
  refine ⟨by rw [hl]; exact hz, fun i H Hf s1 s2 s3 => ⟨fun hi => by rw [hl] at hi; exact hi, fun d e => ?_⟩⟩
  unfold signsD at e
  rw [List.getElem?_map, Array.getElem?_toList] at e
  cases q : x.cps[i]? with
  | none => rw [q] at e; cases e
  | some c =>
    rw [q] at e
    have e' : PyData.str ⟨#[c]⟩ = d := Option.some.inj e
    subst e'
    refine ⟨(Array.getElem?_eq_some_iff.mp q).1, fun v H' y => ?_⟩
    obtain ⟨rfl, c', e1, rfl⟩ := y
    rw [q] at e1
    cases e1
    exact ⟨Hf, Ext.refl s2, .str _⟩
def dIt (f : DEnv → R PyData) : DEnv → R (List PyData) := fun η => (f η).bind dItems
/-- for .. in e: e settled -/
theorem di_any (h : DE ec X W O e f) : DI ec X W O false tg e (dIt f) := by
  refine ⟨fun pins s σ H R I q => ?_⟩
  obtain ⟨H0, Hf0, Hf, η, S, p⟩ := q
  refine thn (h.run pins s σ H _ I ⟨H0, Hf0, Hf, η, S, p.bindI⟩) fun v s1 ⟨x, H1, I1, r1, Hf1, d, x1, rp, p1⟩ => ?_
  cases d with
  | list ds =>
    obtain ⟨a, xs, rfl, hq, r⟩ := Rp.list_inv rp
    cases r1
    obtain ⟨its, rv, pl, hz⟩ := I1.list (x1.sub.seq hq)
    refine wpAny_pyIter_list pl.isList (pi_one (tk := s1.toks) I1 _ (turn_list a _) ⟨_, Heap.get?_push_size _ rfl, rfl, rfl⟩ ?_)
    exact p1.here x1.sub (itl_ok x1.sub (x1.sub.seq hq) (fun _ => hq) r hz)
  | tuple ds =>
    obtain ⟨a, xs, rfl, hq, r⟩ := Rp.tuple_inv rp
    cases r1
    obtain ⟨its, rv, pl, hz⟩ := I1.tuple (Same.tup x1.sub hq)
    refine wpAny_pyIter_tuple (show s1.heap.IsTuple a its.toArray from pl) (pi_one (tk := s1.toks) I1 _ (turn_tuple a _) ⟨_, Heap.get?_push_size _ rfl, rfl, rfl⟩ ?_)
    exact p1.here x1.sub (itt_ok x1.sub hq r hz)
  | str z =>
    cases rp
    unfold dItems at p1
    by_cases hz : z.length ≤ sizeLine
    · simp only [hz, if_true] at p1
      obtain ⟨t, rfl⟩ := r1
      have q := p1.here x1.sub (its_ok hz)
      cases ha : z.cps.all (· < 128)
      · exact wpAny_pyIter_wide ha (pi_one (tk := s1.toks) I1 _ (turn_str _ z t "str_iterator" (.inr rfl)) ⟨_, Heap.get?_push_size _ rfl, rfl, rfl⟩ q)
      · exact wpAny_pyIter_ascii ha (pi_one (tk := s1.toks) I1 _ (turn_str _ z t "str_ascii_iterator" (.inl rfl)) ⟨_, Heap.get?_push_size _ rfl, rfl, rfl⟩ q)
    · simp only [hz, if_false] at p1
      exact p1.elim
  | _ => exact p1.elim
/-- .. in a comprehension: e may be owned -/
theorem di_w (h : DW ec X W O e f) : DI ec X W O true tg e (dIt f) := by
  refine ⟨fun pins s σ H R I q => ?_⟩
  obtain ⟨H0, Hf0, Hf, η, S, p⟩ := q
  refine thn (h.run pins s σ H _ I ⟨H0, Hf0, Hf, η, S, p.bindI⟩) fun v s1 ⟨x, H1, I1, r1, Hf1, d, x1, rp, p1⟩ => ?_
  cases d with
  | list ds =>
    obtain ⟨a, xs, rfl, hq, r⟩ := rp.list_inv x1.sub
    cases r1
    obtain ⟨its, rv, pl, hz⟩ := I1.list hq
    refine wpAny_pyIter_list pl.isList (pi_one (tk := s1.toks) I1 _ (turn_list a _) ⟨_, Heap.get?_push_size _ rfl, rfl, rfl⟩ ?_)
    exact p1.here x1.sub (itl_ok x1.sub hq (fun z => Bool.noConfusion z) r hz)
  | tuple ds =>
    rcases rp with rp | ⟨_, _, _, a⟩
    · obtain ⟨a, xs, rfl, hq, r⟩ := Rp.tuple_inv rp
      cases r1
      obtain ⟨its, rv, pl, hz⟩ := I1.tuple (Same.tup x1.sub hq)
      refine wpAny_pyIter_tuple (show s1.heap.IsTuple a its.toArray from pl) (pi_one (tk := s1.toks) I1 _ (turn_tuple a _) ⟨_, Heap.get?_push_size _ rfl, rfl, rfl⟩ ?_)
      exact p1.here x1.sub (itt_ok x1.sub hq r hz)
    · exfalso
      rcases a with ⟨xs, ds', h, e, a⟩ | ⟨_, _, _, e, _⟩ | ⟨_, _, _, _, _, _, _, _, _, _, _, _, e, _⟩ <;> cases e
  | str z =>
    have e := rp.str_inv
    subst e
    unfold dItems at p1
    by_cases hz : z.length ≤ sizeLine
    · simp only [hz, if_true] at p1
      obtain ⟨t, rfl⟩ := r1
      have q := p1.here x1.sub (its_ok hz)
      cases ha : z.cps.all (· < 128)
      · exact wpAny_pyIter_wide ha (pi_one (tk := s1.toks) I1 _ (turn_str _ z t "str_iterator" (.inr rfl)) ⟨_, Heap.get?_push_size _ rfl, rfl, rfl⟩ q)
      · exact wpAny_pyIter_ascii ha (pi_one (tk := s1.toks) I1 _ (turn_str _ z t "str_ascii_iterator" (.inl rfl)) ⟨_, Heap.get?_push_size _ rfl, rfl, rfl⟩ q)
    · simp only [hz, if_false] at p1
      exact p1.elim
  | _ => exact p1.elim

/-! ### range, zip -/
def rangeD (lo : Int) (n : Nat) : List PyData := (List.range n).map fun (k : Nat) => .int (lo + (k : Int))
theorem itr_ok {K : PySem.W.Frag} {lo : Int} {n : Nat} {H1 Hf1 : Hp} {w : Bool} (hn : n ≤ sizeLine) : ItOk K w (Itr lo n) (rangeD lo n) H1 Hf1 := by
  have hl : (rangeD lo n).length = n := by simp [rangeD]
  refine ⟨by rw [hl]; exact hn, fun i H Hf s1 s2 s3 => ⟨fun hi => by rw [hl] at hi; exact hi, fun d e => ?_⟩⟩
  have hi : i < n := by
    have := (List.getElem?_eq_some_iff.mp e).1
    rw [hl] at this
    exact this
  refine ⟨hi, fun x H' y => ?_⟩
  obtain ⟨rfl, rfl⟩ := y
  unfold rangeD at e
  rw [List.getElem?_map, List.getElem?_range hi] at e
  cases e
  exact ⟨Hf, Ext.refl s2, .int _⟩
def rLine : Int := 16777216
def dRange1 (f : DEnv → R PyData) : DEnv → R (List PyData) := fun η => (f η).bind fun d => match d with
  | .int j => if -rLine ≤ j ∧ j ≤ rLine then .ok (rangeD 0 j.toNat) else .bad
  | _ => .bad
def dRange2 (f g : DEnv → R PyData) : DEnv → R (List PyData) := fun η => (f η).bind fun d => (g η).bind fun d' => match d, d' with
  | .int i, .int j => if -rLine ≤ i ∧ i ≤ rLine ∧ 0 ≤ j ∧ j ≤ rLine ∧ j - i ≤ rLine then .ok (rangeD i (j - i).toNat) else .bad
  | _, _ => .bad
theorem di_range1 {w : Bool} {p : Pos} (hm : X.mg "range" = none) (ha : DE ec X W O e f) (hg : Gl X "range" := by rfl) (hs : starEach [e] X.env = [(false, eval e X.env)] := by rfl) : DI ec X W O w tg (.Call (.Name "range" p) [e] [] pos) (dRange1 f) :=
  PI.imp (pi_range1 hg hm (pa_cons ha pa_nil hs) hs) fun σ H Q ⟨H0, Hf0, Hf, η, S, p⟩ => ⟨H0, Hf0, Hf, η, S, p.bindI.imp fun v H1 ⟨Hf1, d, x1, r1, p1⟩ => by
    cases r1 with
    | int j =>
      simp only at p1
      by_cases h : -rLine ≤ j ∧ j ≤ rLine
      · rw [if_pos h] at p1
        have hr : rLine = 16777216 := rfl
        refine ⟨j, rfl, by omega, by omega, p1.here x1.sub (itr_ok ?_)⟩
        have : sizeLine = 16777216 := sizeLine_eq
        omega
      · rw [if_neg h] at p1; exact p1.elim
    | _ => exact p1.elim⟩
theorem di_range2 {w : Bool} {p : Pos} (hm : X.mg "range" = none) (ha : DE ec X W O a fa) (hb : DE ec X W O b fb) (hg : Gl X "range" := by rfl) (hs : starEach [a, b] X.env = [(false, eval a X.env), (false, eval b X.env)] := by rfl) (hs2 : starEach [b] X.env = [(false, eval b X.env)] := by rfl) :
    DI ec X W O w tg (.Call (.Name "range" p) [a, b] [] pos) (dRange2 fa fb) :=
  PI.imp (pi_range2 hg hm (pa_cons ha (pa_cons hb pa_nil hs2) (by rw [hs, hs2])) hs hs2) fun σ H Q ⟨H0, Hf0, Hf, η, S, p⟩ => ⟨H0, Hf0, Hf, η, S, p.bindI.imp fun v H1 ⟨Hf1, d, x1, r1, p1⟩ => ⟨H0, Hf0, Hf1, η, S.step x1, p1.bindI.imp fun u H2 ⟨Hf2, d', x2, r2, p2⟩ => by
    cases r1 with
    | int i =>
      cases r2 with
      | int j =>
        simp only at p2
        by_cases h : -rLine ≤ i ∧ i ≤ rLine ∧ 0 ≤ j ∧ j ≤ rLine ∧ j - i ≤ rLine
        · rw [if_pos h] at p2
          have hr : rLine = 16777216 := rfl
          refine ⟨i, j, rfl, by omega, p2.here x2.sub (itr_ok ?_)⟩
          have : sizeLine = 16777216 := sizeLine_eq
          omega
        · rw [if_neg h] at p2; exact p2.elim
      | _ => exact p2.elim
    | _ => exact p2.elim⟩⟩
def zipD (xs ys : List PyData) : List PyData := List.zipWith (fun x y => .tuple [x, y]) xs ys
def dZip (f g : DEnv → R PyData) : DEnv → R (List PyData) := fun η => (f η).bind fun d => (g η).bind fun d' => match d, d' with
  | .list xs, .list ys => if xs.length ≤ sizeLine then .ok (zipD xs ys) else .bad
  | .tuple xs, .tuple ys => if xs.length ≤ sizeLine then .ok (zipD xs ys) else .bad
  | _, _ => .bad
theorem zip_get {xs ys : List PyData} {i : Nat} {d : PyData} (e : (zipD xs ys)[i]? = some d) : ∃ x y, xs[i]? = some x ∧ ys[i]? = some y ∧ d = .tuple [x, y] := by
  unfold zipD at e
  rw [List.getElem?_zipWith] at e
  cases h1 : xs[i]? with
  | none => rw [h1] at e; cases e
  | some x =>
    cases h2 : ys[i]? with
    | none => rw [h1, h2] at e; cases e
    | some y => rw [h1, h2] at e; cases e; exact ⟨x, y, rfl, rfl, rfl⟩
theorem zip_new {K : PySem.W.Frag} {H Hf : Hp} {T : Addr} {x y : V} {dx dy : PyData} (s2 : Same Hf H) (n : H T = none) {o : Obj} (od : o.dict = none) (rx : Rp K Hf x dx) (ry : Rp K Hf y dy) : ∃ Hf', Ext H Hf (upd H T (.frz o (.tup [x, y]))) Hf' ∧ Rp K Hf' (.ref T) (.tuple [dx, dy]) := by
  have x' := Ext.add s2 (o := .frz o (.tup [x, y])) n
  exact ⟨_, x', .tup (.of od) (.cons (rx.mono x'.sf) (.cons (ry.mono x'.sf) .nil))⟩
theorem itz_ok {K : PySem.W.Frag} {a b : Addr} {xs ys : List V} {ds es : List PyData} {H1 Hf1 : Hp} {w : Bool} (hz : ds.length ≤ sizeLine) (ha : SqL K Hf1 a xs) (hb : SqL K Hf1 b ys) (ra : RpAll K Hf1 xs ds) (rb : RpAll K Hf1 ys es) : ItOk K w (ItzF K a b) (zipD ds es) H1 Hf1 := by
  refine ⟨by unfold zipD; rw [List.length_zipWith]; omega, fun i H Hf s1 s2 s3 => ?_⟩
  have qa : SqL K H a xs := s2.seq (s1.seq ha)
  have qb : SqL K H b ys := s2.seq (s1.seq hb)
  refine ⟨fun hi => ⟨xs, ys, qa, qb, ?_⟩, fun d e => ?_⟩
  · unfold zipD at hi
    rw [List.length_zipWith] at hi
    rw [ra.length, rb.length]
    omega
  · obtain ⟨x, y, e1, e2, rfl⟩ := zip_get e
    obtain ⟨vx, f1, r1⟩ := ra.get e1
    obtain ⟨vy, f2, r2⟩ := rb.get e2
    refine ⟨⟨xs, ys, vx, vy, qa, qb, f1, f2⟩, fun v H' y => ?_⟩
    obtain ⟨T, o, x', y', rfl, n, od, rfl, g1, g2⟩ := y
    have g1 := g1 xs qa
    have g2 := g2 ys qb
    rw [f1] at g1
    rw [f2] at g2
    cases g1
    cases g2
    exact zip_new s2 n od (r1.mono s1) (r2.mono s1)
theorem itzT_ok {K : PySem.W.Frag} {a b : Addr} {xs ys : List V} {ds es : List PyData} {H1 Hf1 : Hp} {w : Bool} (hz : ds.length ≤ sizeLine) (ha : SqT K Hf1 a xs) (hb : SqT K Hf1 b ys) (ra : RpAll K Hf1 xs ds) (rb : RpAll K Hf1 ys es) : ItOk K w (ItzTF K a b) (zipD ds es) H1 Hf1 := by
  refine ⟨by unfold zipD; rw [List.length_zipWith]; omega, fun i H Hf s1 s2 s3 => ?_⟩
  have qa : SqT K H a xs := Same.tup s2 (Same.tup s1 ha)
  have qb : SqT K H b ys := Same.tup s2 (Same.tup s1 hb)
  refine ⟨fun hi => ⟨xs, ys, qa, qb, ?_⟩, fun d e => ?_⟩
  · unfold zipD at hi
    rw [List.length_zipWith] at hi
    rw [ra.length, rb.length]
    omega
  · obtain ⟨x, y, e1, e2, rfl⟩ := zip_get e
    obtain ⟨vx, f1, r1⟩ := ra.get e1
    obtain ⟨vy, f2, r2⟩ := rb.get e2
    refine ⟨⟨xs, ys, vx, vy, qa, qb, f1, f2⟩, fun v H' y => ?_⟩
    obtain ⟨T, o, x', y', rfl, n, od, rfl, g1, g2⟩ := y
    have g1 := g1 xs qa
    have g2 := g2 ys qb
    rw [f1] at g1
    rw [f2] at g2
    cases g1
    cases g2
    exact zip_new s2 n od (r1.mono s1) (r2.mono s1)
theorem di_zip {w : Bool} {p tpos : Pos} {elts : List Expr} {kk : Nat} (hm : X.mg "zip" = none) (ha : DE ec X W O a fa) (hb : DE ec X W O b fb) (hg : Gl X "zip" := by rfl)
    (hs : starEach [a, b] X.env = (false, eval a X.env) :: starEach [b] X.env := by rfl) (hs2 : starEach [b] X.env = (false, eval b X.env) :: starEach [] X.env := by rfl) (hpl : (backTo pos (starEach [b] X.env)).any (·.1) = false := by rfl) :
    DI ec X W O w (.Tuple elts kk tpos) (.Call (.Name "zip" p) [a, b] [] pos) (dZip fa fb) :=
  PI.imp (pi_zipF hg hm (pa_cons ha (pa_cons hb pa_nil hs2) hs) hs hpl) fun σ H Q ⟨H0, Hf0, Hf, η, S, p⟩ => ⟨H0, Hf0, Hf, η, S, p.bindI.imp fun v H1 ⟨Hf1, d, x1, r1, p1⟩ => ⟨H0, Hf0, Hf1, η, S.step x1, p1.bindI.imp fun u H2 ⟨Hf2, d', x2, r2, p2⟩ => by
    have r1' := Rp.mono x2.sf r1
    cases d with
    | list xs =>
      cases d' with
      | list ys =>
        simp only at p2
        by_cases h : xs.length ≤ sizeLine
        · rw [if_pos h] at p2
          obtain ⟨a1, vs1, rfl, h1, q1⟩ := Rp.list_inv r1'
          obtain ⟨a2, vs2, rfl, h2, q2⟩ := Rp.list_inv r2
          exact ⟨a1, a2, vs1, vs2, rfl, .inl ⟨x2.sub.seq h1, x2.sub.seq h2, p2.here x2.sub (itz_ok h h1 h2 q1 q2)⟩⟩
        · rw [if_neg h] at p2; exact p2.elim
      | _ => exact p2.elim
    | tuple xs =>
      cases d' with
      | tuple ys =>
        simp only at p2
        by_cases h : xs.length ≤ sizeLine
        · rw [if_pos h] at p2
          obtain ⟨a1, vs1, rfl, h1, q1⟩ := Rp.tuple_inv r1'
          obtain ⟨a2, vs2, rfl, h2, q2⟩ := Rp.tuple_inv r2
          exact ⟨a1, a2, vs1, vs2, rfl, .inr ⟨Same.tup x2.sub h1, Same.tup x2.sub h2, p2.here x2.sub (itzT_ok h h1 h2 q1 q2)⟩⟩
        · rw [if_neg h] at p2; exact p2.elim
      | _ => exact p2.elim
    | _ => cases d' <;> exact p2.elim⟩⟩

/-! ### targets -/
def wipeD (η : DEnv) : List Nat → DEnv
  | [] => η
  | v :: vs => (wipeD η vs).set v none
theorem wipeD_get (η : DEnv) : ∀ (vs : List Nat) (k : Nat), (wipeD η vs)[k]? = if k ∈ vs then (η[k]?).map (fun _ => none) else η[k]?
  | [], k => by simp [wipeD]
  | v :: vs, k => by
    unfold wipeD
    by_cases h : v = k
    · subst h
      rw [if_pos (List.mem_cons_self ..), List.getElem?_set]
      have e := wipeD_get η vs v
      simp only [if_true]
      split
      · rename_i hl
        have hl' : v < η.length := by
          by_cases hm : v ∈ vs
          · rw [if_pos hm] at e
            cases q : η[v]? with
            | none => rw [q, List.getElem?_eq_getElem hl] at e; cases e
            | some _ => exact (List.getElem?_eq_some_iff.mp q).1
          · rw [if_neg hm] at e
            rw [List.getElem?_eq_getElem hl] at e
            exact (List.getElem?_eq_some_iff.mp e.symm).1
        rw [List.getElem?_eq_getElem hl']
        rfl
      · rename_i hl
        rw [List.getElem?_eq_none (by omega)] at e
        cases q : η[v]? with
        | none => rfl
        | some _ => rw [q] at e; split at e <;> cases e
    · rw [List.getElem?_set_ne h, wipeD_get η vs k]
      have : (k ∈ v :: vs) ↔ k ∈ vs := by
        constructor
        · intro q
          rcases List.mem_cons.mp q with q | q
          · exact absurd q.symm h
          · exact q
        · exact List.mem_cons_of_mem _
      simp only [this]
theorem wipe_get (σ : St) : ∀ (vs : List Nat) (k : Nat), (wipe σ vs)[k]? = if k ∈ vs then (σ[k]?).map (fun _ => none) else σ[k]?
  | [], k => by simp [wipe]
  | v :: vs, k => by
    unfold wipe
    by_cases h : v = k
    · subst h
      rw [if_pos (List.mem_cons_self ..), List.getElem?_set]
      simp only [if_true, wipe_length]
      split
      · rename_i hl
        rw [List.getElem?_eq_getElem hl]
        rfl
      · rename_i hl
        rw [List.getElem?_eq_none (by omega)]
        rfl
    · rw [List.getElem?_set_ne h, wipe_get σ vs k]
      have : (k ∈ v :: vs) ↔ k ∈ vs := by
        constructor
        · intro q
          rcases List.mem_cons.mp q with q | q
          · exact absurd q.symm h
          · exact q
        · exact List.mem_cons_of_mem _
      simp only [this]
theorem wipeD_length (η : DEnv) : ∀ vs : List Nat, (wipeD η vs).length = η.length
  | [] => rfl
  | v :: vs => by unfold wipeD; rw [List.length_set, wipeD_length η vs]
theorem wipe_congr {σ σ' : St} {vs : List Nat} (hl : σ'.length = σ.length) (h : ∀ k, k ∉ vs → σ'[k]? = σ[k]?) : wipe σ' vs = wipe σ vs := by
  apply List.ext_getElem?
  intro k
  rw [wipe_get, wipe_get]
  by_cases hk : k ∈ vs
  · rw [if_pos hk, if_pos hk]
    by_cases hl' : k < σ.length
    · rw [List.getElem?_eq_getElem hl', List.getElem?_eq_getElem (by omega)]
      rfl
    · rw [List.getElem?_eq_none (by omega), List.getElem?_eq_none (by omega)]
  · rw [if_neg hk, if_neg hk, h k hk]
theorem wipe_wipe (σ : St) (vs : List Nat) : wipe (wipe σ vs) vs = wipe σ vs := wipe_congr (wipe_length _ _) fun k hk => by rw [wipe_get, if_neg hk]
theorem SR.wipe {K : PySem.W.Frag} {H0 Hf0 H Hf : Hp} {η : DEnv} {σ : St} (S : SR K H0 Hf0 O η σ H Hf) (vs : List Nat) : SR K H0 Hf0 O (wipeD η vs) (L2.wipe σ vs) H Hf where
  len := by rw [wipeD_length, wipe_length]; exact S.len
  ext := S.ext
  val := fun i d h e => by
    rw [wipeD_get] at e
    split at e
    · cases q : η[i]? with
      | none => rw [q] at e; cases e
      | some _ => rw [q] at e; cases e
    · rename_i hn
      obtain ⟨v, a, b⟩ := S.val i d h e
      exact ⟨v, by rw [wipe_get, if_neg hn]; exact a, b⟩
  own := fun i d h e => by
    rw [wipeD_get] at e
    split at e
    · cases q : η[i]? with
      | none => rw [q] at e; cases e
      | some _ => rw [q] at e; cases e
    · rename_i hn
      obtain ⟨p, a, b⟩ := S.own i d h e
      exact ⟨p, by rw [wipe_get, if_neg hn]; exact a, b⟩
  dis := fun i j d d' p hi hj hij e1 e2 a b => by
    rw [wipeD_get] at e1 e2
    split at e1
    · cases q : η[i]? with
      | none => rw [q] at e1; cases e1
      | some _ => rw [q] at e1; cases e1
    · rename_i hn
      split at e2
      · cases q : η[j]? with
        | none => rw [q] at e2; cases e2
        | some _ => rw [q] at e2; cases e2
      · rename_i hn2
        rw [wipe_get, if_neg hn] at a
        rw [wipe_get, if_neg hn2] at b
        exact S.dis i j d d' p hi hj hij e1 e2 a b
/-- a slot gets a settled value -/
theorem SR.set {K : PySem.W.Frag} {H0 Hf0 H Hf : Hp} {η : DEnv} {σ : St} (S : SR K H0 Hf0 O η σ H Hf) {i : Nat} (hi : i ∉ O) {v : V} {d : PyData} (r : Rp K Hf v d) : SR K H0 Hf0 O (η.set i (some d)) (σ.set i (some v)) H Hf where
  len := by rw [List.length_set, List.length_set]; exact S.len
  ext := S.ext
  val := fun j d' h e => by
    rw [List.getElem?_set] at e ⊢
    by_cases hj : i = j
    · subst hj
      rw [if_pos rfl] at e ⊢
      split at e
      · rename_i hl
        rw [if_pos (by rw [← S.len]; exact hl)]
        cases e
        exact ⟨v, rfl, r⟩
      · cases e
    · rw [if_neg hj] at e ⊢
      exact S.val j d' h e
  own := fun j d' h e => by
    have hj : i ≠ j := fun z => hi (z ▸ h)
    rw [List.getElem?_set_ne hj] at e ⊢
    exact S.own j d' h e
  dis := fun i' j d1 d2 p h1 h2 h3 e1 e2 a b => by
    have hi' : i ≠ i' := fun z => hi (z ▸ h1)
    have hj : i ≠ j := fun z => hi (z ▸ h2)
    rw [List.getElem?_set_ne hi'] at e1 a
    rw [List.getElem?_set_ne hj] at e2 b
    exact S.dis i' j d1 d2 p h1 h2 h3 e1 e2 a b
structure TgOk (K : PySem.W.Frag) (O : List Nat) (g : TG) (is : List Nat) (t : PyData → DEnv → R DEnv) : Prop where
  run : ∀ (v : V) (d : PyData) (σ : St) (H Hf H0 Hf0 : Hp) (η : DEnv) (Q : St → Hp → Prop), SR K H0 Hf0 O η σ H Hf → Rp K Hf v d →
    (∃ η', t d η = .ok η' ∧ ∀ σ', wipe σ' is = wipe σ is → SR K H0 Hf0 O η' σ' H Hf → Q σ' H) → g v σ H Q
  wiped : ∀ d η, t d (wipeD η is) = t d η
def tgN (i : Nat) : PyData → DEnv → R DEnv := fun d η => .ok (η.set i (some d))
def setMany : DEnv → List Nat → List PyData → DEnv
  | η, i :: is, d :: ds => setMany (η.set i (some d)) is ds
  | η, _, _ => η
def tgT (is : List Nat) : PyData → DEnv → R DEnv := fun d η => match d with
  | .tuple ds => if ds.length = is.length then .ok (setMany η is ds) else .bad
  | _ => .bad
theorem tg_name {K : PySem.W.Frag} {i : Nat} (hi : i ∉ O) : TgOk K O (gName i) [i] (tgN i) where
  run := fun v d σ H Hf H0 Hf0 η Q S r ⟨η', e, q⟩ => by
    injection e with e
    subst e
    refine q _ (wipe_congr (List.length_set ..) fun k hk => ?_) (S.set hi r)
    rw [List.getElem?_set_ne]
    intro z
    exact hk (by rw [z]; exact List.mem_cons_self ..)
  wiped := fun d η => by
    show R.ok _ = R.ok _
    congr 1
    show ((wipeD η []).set i none).set i (some d) = _
    rw [List.set_set]
    rfl
/-- a, b, .. -/
def gNames : List Nat → TGs
  | [] => gNil
  | i :: is => gCons (gName i) (gNames is)
theorem setMany_congr : ∀ (is : List Nat) (ds : List PyData) (a b : DEnv), ds.length = is.length → a.length = b.length → (∀ k, k ∉ is → a[k]? = b[k]?) → setMany a is ds = setMany b is ds
  | [], [], a, b, _, _, h => by
    unfold setMany
    exact List.ext_getElem? fun k => h k (by simp)
  | i :: is, d :: ds, a, b, hl, hab, h => by
    unfold setMany
    refine setMany_congr is ds _ _ (by simpa using hl) (by rw [List.length_set, List.length_set]; exact hab) fun k hk => ?_
    rw [List.getElem?_set, List.getElem?_set, hab]
    by_cases e : i = k
    · rw [if_pos e, if_pos e]
    · rw [if_neg e, if_neg e]
      exact h k fun q => by
        rcases List.mem_cons.mp q with q | q
        · exact e q.symm
        · exact hk q
  | [], _ :: _, _, _, h, _, _ => by cases h
  | _ :: _, [], _, _, h, _, _ => by cases h
theorem names_run {K : PySem.W.Frag} {H0 Hf0 H Hf : Hp} : ∀ (is : List Nat) (vs : List V) (ds : List PyData) (η : DEnv) (σ : St) (Q : St → Hp → Prop), (∀ i ∈ is, i ∉ O) → SR K H0 Hf0 O η σ H Hf → RpAll K Hf vs ds → ds.length = is.length →
    (∀ σ' : St, σ'.length = σ.length → (∀ k, k ∉ is → σ'[k]? = σ[k]?) → SR K H0 Hf0 O (setMany η is ds) σ' H Hf → Q σ' H) → gNames is vs σ H Q
  | [], _, _, η, σ, Q, _, S, .nil, _, q => ⟨rfl, q σ rfl (fun _ _ => rfl) (by unfold setMany; exact S)⟩
  | i :: is, v :: vs, d :: ds, η, σ, Q, hO, S, .cons r rs, hl, q => by
    refine ⟨v, vs, rfl, names_run is vs ds (η.set i (some d)) (σ.set i (some v)) Q (fun j hj => hO j (List.mem_cons_of_mem _ hj)) (S.set (hO i (List.mem_cons_self ..)) r) rs (by simpa using hl) fun σ' h1 h2 h3 => ?_⟩
    refine q σ' (by rw [h1, List.length_set]) (fun k hk => ?_) h3
    rw [h2 k fun z => hk (List.mem_cons_of_mem _ z), List.getElem?_set_ne]
    intro z
    exact hk (by rw [z]; exact List.mem_cons_self ..)
  | [], _, _, _, _, _, _, _, .cons _ _, h, _ => by cases h
  | _ :: _, _, _, _, _, _, _, _, .nil, h, _ => by cases h
theorem tg_tup {K : PySem.W.Frag} {is : List Nat} {n : Nat} (hn : is.length = n) (hi : ∀ i ∈ is, i ∉ O) : TgOk K O (gTup K n (gNames is)) is (tgT is) where
  run := fun v d σ H Hf H0 Hf0 η Q S r ⟨η', e, q⟩ => by
    unfold tgT at e
    cases d with
    | tuple ds =>
      simp only at e
      by_cases h : ds.length = is.length
      · rw [if_pos h] at e
        injection e with e
        subst e
        obtain ⟨a, xs, rfl, h1, r1⟩ := Rp.tuple_inv r
        exact ⟨a, xs, rfl, Same.tup S.sub h1, by rw [r1.length, h, hn], names_run is xs ds η σ Q hi S r1 h fun σ' h1 h2 h3 => q σ' (wipe_congr h1 h2) h3⟩
      · rw [if_neg h] at e; cases e
    | _ => cases e
  wiped := fun d η => by
    unfold tgT
    cases d with
    | tuple ds =>
      simp only
      by_cases h : ds.length = is.length
      · rw [if_pos h, if_pos h]
        congr 1
        exact setMany_congr is ds _ _ h (wipeD_length _ _) fun k hk => by rw [wipeD_get, if_neg hk]
      · rw [if_neg h, if_neg h]
    | _ => rfl
end
end DL
end

section
set_option Elab.async false
set_option linter.all false
set_option maxRecDepth 100000
set_option maxHeartbeats 4000000
namespace DL
open PySem PySem.Spec PyProof.Rows L2

/-! ### list comprehensions -/
def lcGo (tg : PyData → DEnv → R DEnv) (c : DEnv → R Bool) (el : DEnv → R PyData) (η : DEnv) : List PyData → R (List PyData)
  | [] => .ok []
  | d :: ds => (tg d η).bind fun η' => (c η').bind fun b => if b then (el η').bind fun y => (lcGo tg c el η ds).bind fun r => .ok (y :: r) else lcGo tg c el η ds
def dLc (it : DEnv → R (List PyData)) (tg : PyData → DEnv → R DEnv) (c : DEnv → R Bool) (el : DEnv → R PyData) : DEnv → R PyData := fun η => (it η).bind fun ds => match lcGo tg c el η ds with
  | .ok r => .ok (.list r)
  | _ => .bad
def cT : DEnv → R Bool := fun _ => .ok true
theorem Ext.poke {H Hf H' Hf' : Hp} (x : Ext H Hf H' Hf') {p : Addr} {o : HO} (n : H p = none) (n' : Hf' p = none) : Ext H Hf (upd H' p o) Hf' where
  same := fun b u e => by rw [upd_ne (ne_of_none e n)]; exact x.same b u e
  sf := x.sf
  sub := fun b u e => by rw [upd_ne (ne_of_none e n')]; exact x.sub b u e
  new := x.new
theorem Ext.unsettled {H Hf H' Hf' : Hp} (x : Ext H Hf H' Hf') {p : Addr} {o : HO} (h : H p = some o) (n : Hf p = none) : Hf' p = none := by
  cases q : Hf' p with
  | none => rfl
  | some u =>
    rcases x.new p u q with z | z
    · rw [n] at z; cases z
    · rw [h] at z; cases z
abbrev noW : WX := fun _ _ _ _ => False
section
variable {ec : EC} {X : Cx} {W : WX} {O : List Nat} {e a b tg : Expr} {es : List Expr} {f fa fb : DEnv → R PyData} {pos : Pos}
theorem lc_read {K : PySem.W.Frag} {it : DEnv → R (List PyData)} {g : TG} {is : List Nat} {t : PyData → DEnv → R DEnv} {tt : TT} {c : DEnv → R Bool} {el : DEnv → R PyData} (T : TgOk K O g is t)
    (htt : ∀ σ H Q, tD ec K noW O ρB c σ H Q → tt σ H Q) (σ : St) (H : Hp) (Q : VK) (q : ∃ H0 Hf0 Hf η, SR K H0 Hf0 O η σ H Hf ∧ Post ec K W σ (ρN K H) Q H Hf (dLc it t c el η)) :
    tLc (tD ec K W O (ρI K true) it) g tt (tD ec K noW O (ρV K) el) is σ H Q := by
  obtain ⟨H0, Hf0, Hf, η, S, p⟩ := q
  refine ⟨H0, Hf0, Hf, η, S, p.bindI.imp fun J H1 ⟨Hf1, ds, x1, hJ, p1⟩ => fun D nD => ?_⟩
  cases hr : lcGo t c el η ds with
  | ex c' fl => rw [hr] at p1; exact p1.elim
  | bad => rw [hr] at p1; exact p1.elim
  | ok r =>
    rw [hr] at p1
    have S1 := S.step x1
    refine ⟨fun i m H' => m = ds.length - i ∧ i ≤ ds.length ∧ ∃ Hf' acc rs r2, Ext H1 Hf1 H' Hf' ∧ H' D = some (.lst acc) ∧ Hf' D = none ∧ RpAll K Hf' acc rs ∧ acc.length ≤ i ∧ lcGo t c el η (ds.drop i) = .ok r2 ∧ r = rs ++ r2,
      ⟨ds.length, by simp, Nat.zero_le _, Hf1, [], [], r, Ext.fresh x1.sub nD, upd_same, x1.sub.free nD, .nil, Nat.le_refl _, hr, rfl⟩, ?_⟩
    rintro i m H' ⟨rfl, hi, Hf', acc, rs, r2, x2, hD, nD', ra, la, hl, rfl⟩
    obtain ⟨j1, j2⟩ := hJ.2 i H' Hf' x2.sf x2.sub fun _ => x2.same
    by_cases hlt : i < ds.length
    · rw [List.drop_eq_getElem_cons hlt] at hl
      obtain ⟨hgo, hy⟩ := j2 _ (List.getElem?_eq_getElem hlt)
      unfold lcGo at hl
      cases ht : t ds[i] η with
      | ex c' fl => rw [ht] at hl; cases hl
      | bad => rw [ht] at hl; cases hl
      | ok η' =>
        rw [ht, R.bind_ok] at hl
        cases hcc : c η' with
        | ex c' fl => rw [hcc] at hl; cases hl
        | bad => rw [hcc] at hl; cases hl
        | ok b =>
          rw [hcc, R.bind_ok] at hl
          refine .inr ⟨hgo, fun H'' => ∃ Hf' acc rs r2, Ext H1 Hf1 H'' Hf' ∧ H'' D = some (.lst acc) ∧ Hf' D = none ∧ RpAll K Hf' acc rs ∧ acc.length ≤ i + 1 ∧ lcGo t c el η (ds.drop (i + 1)) = .ok r2 ∧ rs ++ r2 = _,
            fun H'' ⟨Hf2, acc2, rs2, r3, y1, y2, y3, y4, y5, y6, y7⟩ => ⟨ds.length - (i + 1), by omega, rfl, hlt, Hf2, acc2, rs2, r3, y1, y2, y3, y4, y5, y6, y7.symm⟩, fun x H'' y => ?_⟩
          obtain ⟨Hf'', x3, rx⟩ := hy x H'' y
          refine T.run x ds[i] (wipe σ is) H'' Hf'' H0 Hf0 (wipeD η is) _ ((S1.step (x2.trans x3)).wipe is) rx ⟨η', (T.wiped _ _).trans ht, fun σ2 h1 S2 => ⟨h1.trans (wipe_wipe σ is), htt _ _ _ ⟨H0, Hf0, Hf'', η', S2, ?_⟩⟩⟩
          rw [hcc]
          intro b' H3 Hf3 x4 eb
          have eb : b' = b := eb
          subst eb
          have x5 := (x2.trans x3).trans x4
          have d5 : H3 D = some (.lst acc) := (x3.trans x4).same _ _ hD
          have n5 : Hf3 D = none := (x3.trans x4).unsettled hD nD'
          have r5 := ra.mono (x3.trans x4).sf
          cases b' with
          | false =>
            rw [if_neg Bool.false_ne_true]
            exact ⟨Hf3, acc, rs, r2, x5, d5, n5, r5, Nat.le_succ_of_le la, hl, rfl⟩
          | true =>
            rw [if_pos rfl]
            rw [if_pos rfl] at hl
            refine ⟨H0, Hf0, Hf3, η', S2.step x4, ?_⟩
            cases he : el η' with
            | ex c' fl => rw [he] at hl; cases hl
            | bad => rw [he] at hl; cases hl
            | ok y =>
              rw [he, R.bind_ok] at hl
              cases hr2 : lcGo t c el η (ds.drop (i + 1)) with
              | ex c' fl => rw [hr2] at hl; cases hl
              | bad => rw [hr2] at hl; cases hl
              | ok r3 =>
                rw [hr2, R.bind_ok] at hl
                injection hl with hl
                subst hl
                intro v H4 Hf4 x6 rv
                have n6 : Hf4 D = none := x6.unsettled d5 n5
                refine ⟨acc, x6.same _ _ d5, ?_, Hf4, acc ++ [v], rs ++ [y], r3, (x5.trans x6).poke nD n6, upd_same, n6, RpAll.append (r5.mono x6.sf) (.cons rv .nil), ?_, rfl, by simp⟩
                · exact Nat.lt_of_le_of_lt la (Nat.lt_of_lt_of_le hlt hJ.1)
                · rw [List.length_append]
                  show acc.length + 1 ≤ i + 1
                  omega
    · have ei : i = ds.length := by omega
      subst ei
      rw [List.drop_length] at hl
      unfold lcGo at hl
      injection hl with hl
      subst hl
      rw [List.append_nil] at p1
      exact .inl ⟨j1 (Nat.le_refl _), p1 _ _ _ x2 ⟨D, rfl, x1.same.free nD, nD', .inl ⟨acc, rs, hD, rfl, ra⟩⟩⟩
theorem dn_lc0 {it : DEnv → R (List PyData)} {g : TG} {t : PyData → DEnv → R DEnv} {el : DEnv → R PyData} {elt iter : Expr} {scope : Scope} {own : List (Str × Nat)} (hc : X.calm = true) (hN : X.N.Nodup) (hi : DI ec X W O true tg iter it) (ok : BlkOk X.N X.env.scope scope own)
    (T : TgOk X.K O g (own.map (·.2)) t)
    (hg : ∀ (s : Shared) (H : Hp) (C : Addr) (cl : List (Str × Addr)) (fp : List Addr), PG (X.blk s H scope (compEnvC scope cl C X.env) fp) tg g)
    (he : ∀ (s : Shared) (H : Hp) (C : Addr) (cl : List (Str × Addr)) (fp : List Addr), DE ec (X.blk s H scope (compEnvC scope cl C X.env) fp) noW O elt el) (hs : ∀ x, foldedSetIterable iter X.env x = pure x := by intro _; rfl) :
    DN ec X W O (.ListComp elt [⟨tg, iter, [], 0⟩] scope pos) (dLc it t cT el) :=
  PE.imp (pe_lc (te := tD ec X.K noW O (ρV X.K) el) hc hN hi ok hg (fun _ _ _ _ _ => pts_nil) he hs) fun σ H Q q => lc_read T (fun σ H Q ⟨H0, Hf0, Hf, η, S, p⟩ => p.here S.sub rfl) σ H Q q
theorem dn_lc1 {it : DEnv → R (List PyData)} {g : TG} {t : PyData → DEnv → R DEnv} {c : DEnv → R Bool} {el : DEnv → R PyData} {elt iter te : Expr} {scope : Scope} {own : List (Str × Nat)} (hc : X.calm = true) (hN : X.N.Nodup) (hi : DI ec X W O true tg iter it) (ok : BlkOk X.N X.env.scope scope own)
    (T : TgOk X.K O g (own.map (·.2)) t)
    (hg : ∀ (s : Shared) (H : Hp) (C : Addr) (cl : List (Str × Addr)) (fp : List Addr), PG (X.blk s H scope (compEnvC scope cl C X.env) fp) tg g)
    (ht : ∀ (s : Shared) (H : Hp) (C : Addr) (cl : List (Str × Addr)) (fp : List Addr), DT ec (X.blk s H scope (compEnvC scope cl C X.env) fp) noW O te c)
    (he : ∀ (s : Shared) (H : Hp) (C : Addr) (cl : List (Str × Addr)) (fp : List Addr), DE ec (X.blk s H scope (compEnvC scope cl C X.env) fp) noW O elt el) (hs : ∀ x, foldedSetIterable iter X.env x = pure x := by intro _; rfl) :
    DN ec X W O (.ListComp elt [⟨tg, iter, [te], 0⟩] scope pos) (dLc it t c el) :=
  PE.imp (pe_lc (te := tD ec X.K noW O (ρV X.K) el) (tt := tD ec X.K noW O ρB c) hc hN hi ok hg (fun s H C cl fp => pts_one (ht s H C cl fp)) he hs) fun σ H Q q => lc_read T (fun σ H Q q => q) σ H Q q

/-! ### slices -/
abbrev ρO : Hp → Hp → Option Int → Option Int → Prop := fun _ _ a b => a = b
def DO (ec : EC) (X : Cx) (W : WX) (O : List Nat) (e : Option Expr) (f : DEnv → R (Option Int)) : Prop := PO X e (tD ec X.K W O ρO f)
def dNo : DEnv → R (Option Int) := fun _ => .ok none
def dPart (f : DEnv → R PyData) : DEnv → R (Option Int) := fun η => (f η).bind fun d => match d with
  | .int i => .ok (some i)
  | _ => .bad
theorem PO.imp {o : Option Expr} {t t' : TO} (h : PO X o t) (i : ∀ σ H Q, t' σ H Q → t σ H Q) : PO X o t' := ⟨fun pins s σ H Q I q => h.run pins s σ H Q I (i σ H Q q)⟩
theorem do_none : DO ec X W O none dNo := PO.imp po_none fun σ H Q ⟨H0, Hf0, Hf, η, S, p⟩ => p.here S.sub rfl
theorem do_some (h : DW ec X W O e f) : DO ec X W O (some e) (dPart f) := PO.imp (po_some h) fun σ H Q ⟨H0, Hf0, Hf, η, S, p⟩ => ⟨H0, Hf0, Hf, η, S, p.bindI.imp fun v H1 ⟨Hf1, d, x1, r1, p1⟩ => by
  cases d with
  | int i => exact ⟨i, r1.int_inv, p1.here x1.sub rfl⟩
  | _ => exact p1.elim⟩
def cutD (xs : List PyData) (lo hi : Option Int) : List PyData := (xs.drop (HT.sIx xs.length 0 lo)).take (HT.sIx xs.length xs.length hi - HT.sIx xs.length 0 lo)
def dCut (d : PyData) (lo hi : Option Int) : R PyData := match d with
  | .list xs => .ok (.list (cutD xs lo hi))
  | .tuple xs => .ok (.tuple (cutD xs lo hi))
  | .str x => if x.length ≤ sizeLine then .ok (.str (cutS x lo hi)) else .bad
  | _ => .bad
def dSl (f : DEnv → R PyData) (lo hi : DEnv → R (Option Int)) : DEnv → R PyData := fun η => (f η).bind fun d => (lo η).bind fun l => (hi η).bind fun h => dCut d l h
theorem cut_rp {K : PySem.W.Frag} {H : Hp} {vs : List V} {ds : List PyData} (r : RpAll K H vs ds) (lo hi : Option Int) : RpAll K H (cutV vs lo hi) (cutD ds lo hi) := by
  unfold cutV cutD
  rw [r.length]
  exact (r.drop _).take _
theorem RpW.tup_strong {K : PySem.W.Frag} {H Hf : Hp} {v : V} {ds : List PyData} (h : RpW K H Hf v (.tuple ds)) : Rp K Hf v (.tuple ds) := by
  rcases h with h | ⟨_, _, _, a⟩
  · exact h
  · exfalso
    rcases a with ⟨xs, ds', h, e, a⟩ | ⟨_, _, _, e, _⟩ | ⟨_, _, _, _, _, _, _, _, _, _, _, _, e, _⟩ <;> cases e
theorem cutV_whole {vs : List V} {lo hi : Option Int} (h : HT.sIx vs.length 0 lo = 0 ∧ HT.sIx vs.length vs.length hi = vs.length) : cutV vs lo hi = vs := by
  unfold cutV
  rw [h.1, h.2]
  simp
theorem cutD_whole {vs : List PyData} {lo hi : Option Int} (h : HT.sIx vs.length 0 lo = 0 ∧ HT.sIx vs.length vs.length hi = vs.length) : cutD vs lo hi = vs := by
  unfold cutD
  rw [h.1, h.2]
  simp
theorem de_slice {lo hi : Option Expr} {fl fh : DEnv → R (Option Int)} {p2 : Pos} (ha : DW ec X W O e f) (hl : DO ec X W O lo fl) (hh : DO ec X W O hi fh) : DE ec X W O (.Subscript e (.Slice lo hi none p2) pos) (dSl f fl fh) := by
  refine PE.imp (pe_slice (sl_list.or (sl_tupF.or sl_str)) ha hl hh) fun σ H Q ⟨H0, Hf0, Hf, η, S, p⟩ => ⟨H0, Hf0, Hf, η, S, p.bindI.imp fun x H1 ⟨Hf1, d, x1, w1, p1⟩ => ⟨H0, Hf0, Hf1, η, S.step x1, p1.bindI.imp fun l H2 ⟨Hf2, l', x2, e2, p2⟩ => ⟨H0, Hf0, Hf2, η, (S.step x1).step x2, p2.bindI.imp fun u H3 ⟨Hf3, u', x3, e3, p3⟩ => ?_⟩⟩⟩
  have e2 : l = l' := e2
  have e3 : u = u' := e3
  subst e2 e3
  have w3 := (w1.ext x2).ext x3
  cases d with
  | list xs =>
    obtain ⟨a, vs, rfl, h1, r1⟩ := w3.list_inv x3.sub
    refine .inl ⟨a, vs, rfl, h1, fun q n => ?_⟩
    have x := Ext.add x3.sub (o := .lst (cutV vs l u)) n
    exact p3 _ _ _ x (.lst (.of upd_same) ((cut_rp r1 l u).mono x.sf))
  | tuple xs =>
    have ws := w3.tup_strong
    obtain ⟨a, vs, rfl, h1, r1⟩ := w3.tuple_inv x3.sub
    refine .inr (.inl ⟨a, vs, rfl, h1, fun hw => ?_, fun _ q o n od => ?_⟩)
    · have hd : cutD xs l u = xs := cutD_whole (by rw [← r1.length]; exact hw)
      have p4 : Post ec X.K W σ (ρV X.K) Q H3 Hf3 (.ok (.tuple (cutD xs l u))) := p3
      rw [hd] at p4
      exact p4.here x3.sub ws
    · have x := Ext.add x3.sub (o := .frz o (.tup (cutV vs l u))) n
      exact p3 _ _ _ x (.tup (.of od) ((cut_rp r1 l u).mono x.sf))
  | str z =>
    have e := w3.str_inv
    subst e
    unfold dCut at p3
    by_cases hz : z.length ≤ sizeLine
    · simp only [hz, if_true] at p3
      exact .inr (.inr ⟨z, rfl, hz, p3.here x3.sub (.str _)⟩)
    · simp only [hz, if_false] at p3
      exact p3.elim
  | _ => exact p3.elim
end
end DL
end

section
set_option Elab.async false
set_option linter.all false
set_option maxRecDepth 100000
set_option maxHeartbeats 4000000
namespace DL
open PySem PySem.Spec PyProof.Rows L2

/-! ### the slots, further -/
section
variable {K : PySem.W.Frag} {H0 Hf0 H Hf H' Hf' Hf1 : Hp} {O O' : List Nat} {η : DEnv} {σ : St}
/-- some owned things are settled -/
theorem SR.less (S : SR K H0 Hf0 O η σ H Hf) (h : ∀ i ∈ O', i ∈ O) : ∃ Hf', Same Hf Hf' ∧ SR K H0 Hf0 O' η σ H Hf' := by
  classical
  let C : Addr → Prop := fun a => ∃ i d, i ∈ O ∧ i ∉ O' ∧ η[i]? = some (some d) ∧ σ[i]? = some (some (.ref a))
  let Hf' : Hp := fun a => if C a then H a else Hf a
  have sf : Same Hf Hf' := fun b o e => by
    show (if C b then H b else Hf b) = some o
    split
    · exact S.sub b o e
    · exact e
  have sub : Same Hf' H := fun b o e => by
    have e : (if C b then H b else Hf b) = some o := e
    split at e
    · exact e
    · exact S.sub b o e
  refine ⟨Hf', sf, S.len, ⟨S.ext.same, S.ext.sf.trans sf, sub, fun a o e => ?_⟩, fun i d hi e => ?_, fun i d hi e => ?_, fun i j d d' p hi hj => S.dis i j d d' p (h i hi) (h j hj)⟩
  · have e : (if C a then H a else Hf a) = some o := e
    split at e
    · rename_i hc
      obtain ⟨i, d, h1, h2, h3, h4⟩ := hc
      obtain ⟨p, a1, a2, a3⟩ := S.own i d h1 h3
      rw [h4] at a1
      cases a1
      exact .inr a2
    · exact S.ext.new a o e
  · by_cases ho : i ∈ O
    · obtain ⟨p, a1, a2, a3, a4⟩ := S.own i d ho e
      refine ⟨.ref p, a1, ?_⟩
      obtain ⟨o, b1, b2, b3, b4⟩ := a4.settle S.sub a3
      refine b4.mono fun b u q => ?_
      show (if C b then H b else Hf b) = some u
      unfold upd at q
      split at q
      · rename_i hb
        subst hb
        rw [if_pos ⟨i, d, ho, hi, e, a1⟩, b1]
        exact q
      · split
        · exact S.sub b u q
        · exact q
    · obtain ⟨v, a1, a2⟩ := S.val i d ho e
      exact ⟨v, a1, a2.mono sf⟩
  · obtain ⟨p, a1, a2, a3, a4⟩ := S.own i d (h i hi) e
    refine ⟨p, a1, a2, ?_, a4.ext rfl sf⟩
    show (if C p then H p else Hf p) = none
    rw [if_neg, a3]
    rintro ⟨j, d', h1, h2, h3, h4⟩
    have hij : i ≠ j := fun z => h2 (z ▸ hi)
    exact S.dis i j d d' p (h i hi) h1 hij e h3 a1 h4
/-- from here on what is settled now stays -/
theorem SR.rebase (S : SR K H0 Hf0 O η σ H Hf) : SR K H0 Hf O η σ H Hf := ⟨S.len, ⟨S.ext.same, Same.refl _, S.sub, fun _ _ e => .inl e⟩, S.val, S.own, S.dis⟩
theorem Ext.unbase (x : Ext H0 Hf0 H Hf) (y : Ext H0 Hf H' Hf') : Ext H0 Hf0 H' Hf' := ⟨y.same, x.sf.trans y.sf, y.sub, fun a o e => by
  rcases y.new a o e with z | z
  · exact x.new a o z
  · exact .inr z⟩
theorem SR.unbase (x : Ext H0 Hf0 H Hf) (S : SR K H0 Hf O η σ H' Hf') : SR K H0 Hf0 O η σ H' Hf' := ⟨S.len, x.unbase S.ext, S.val, S.own, S.dis⟩
/-- an owned thing is changed -/
theorem SR.write (S : SR K H0 Hf0 O η σ H Hf) {i : Nat} {d d' : PyData} {p : Addr} {o : HO} (hi : i ∈ O) (e : η[i]? = some (some d)) (hp : σ[i]? = some (some (.ref p))) (h0 : H0 p = none) (hf : Hf p = none) (ho : OwnAt K (upd H p o) Hf p d') :
    SR K H0 Hf0 O (η.set i (some d')) σ (upd H p o) Hf where
  len := by rw [List.length_set]; exact S.len
  ext := S.ext.poke h0 hf
  val := fun j dj hj ej => by
    have hij : i ≠ j := fun z => hj (z ▸ hi)
    rw [List.getElem?_set_ne hij] at ej
    exact S.val j dj hj ej
  own := fun j dj hj ej => by
    by_cases hij : i = j
    · subst hij
      rw [List.getElem?_set_self (List.getElem?_eq_some_iff.mp e).1] at ej
      cases ej
      exact ⟨p, hp, h0, hf, ho⟩
    · rw [List.getElem?_set_ne hij] at ej
      obtain ⟨q, a1, a2, a3, a4⟩ := S.own j dj hj ej
      have hq : q ≠ p := fun z => S.dis i j d dj p hi hj hij e ej hp (by rw [← z]; exact a1)
      exact ⟨q, a1, a2, a3, a4.ext (upd_ne hq) (Same.refl _)⟩
  dis := fun j k dj dk q hj hk hjk ej ek a b => by
    have get : ∀ {l : Nat} {dl : PyData}, (η.set i (some d'))[l]? = some (some dl) → ∃ dl', η[l]? = some (some dl') := fun {l dl} q => by
      by_cases hl : i = l
      · subst hl; exact ⟨d, e⟩
      · rw [List.getElem?_set_ne hl] at q; exact ⟨dl, q⟩
    obtain ⟨dj', ej'⟩ := get ej
    obtain ⟨dk', ek'⟩ := get ek
    exact S.dis j k dj' dk' q hj hk hjk ej' ek' a b
/-- a slot gets a settled value; it owned something, or nothing -/
theorem SR.setV (S : SR K H0 Hf0 O η σ H Hf) {i : Nat} {v : V} {d : PyData} (r : Rp K Hf v d) (hO : ∀ j ∈ O', j ∈ O ∧ j ≠ i) (hO2 : ∀ j ∈ O, j ≠ i → j ∈ O') : SR K H0 Hf0 O' (η.set i (some d)) (σ.set i (some v)) H Hf where
  len := by rw [List.length_set, List.length_set]; exact S.len
  ext := S.ext
  val := fun j d' h e => by
    rw [List.getElem?_set] at e ⊢
    by_cases hj : i = j
    · subst hj
      rw [if_pos rfl] at e ⊢
      split at e
      · rename_i hl
        rw [if_pos (by rw [← S.len]; exact hl)]
        cases e
        exact ⟨v, rfl, r⟩
      · cases e
    · rw [if_neg hj] at e ⊢
      exact S.val j d' (fun z => h (hO2 j z fun w => hj w.symm)) e
  own := fun j d' h e => by
    have hj : i ≠ j := fun z => (hO j h).2 z.symm
    rw [List.getElem?_set_ne hj] at e ⊢
    exact S.own j d' (hO j h).1 e
  dis := fun i' j d1 d2 p h1 h2 h3 e1 e2 a b => by
    have hi' : i ≠ i' := fun z => (hO i' h1).2 z.symm
    have hj : i ≠ j := fun z => (hO j h2).2 z.symm
    rw [List.getElem?_set_ne hi'] at e1 a
    rw [List.getElem?_set_ne hj] at e2 b
    exact S.dis i' j d1 d2 p (hO i' h1).1 (hO j h2).1 h3 e1 e2 a b
/-- a slot gets a new thing of its own -/
theorem SR.setN (S : SR K H0 Hf0 O η σ H Hf) {i : Nat} {p : Addr} {d : PyData} {B : Hp} (x : Ext B Hf1 H Hf) (S1 : SR K H0 Hf0 O η σ B Hf1) (n : B p = none) (hf : Hf p = none) (ho : OwnAt K H Hf p d) (hO : ∀ j ∈ O', j ≠ i → j ∈ O) (hO2 : ∀ j ∈ O, j ≠ i → j ∈ O') (hi : i ∈ O') :
    SR K H0 Hf0 O' (η.set i (some d)) (σ.set i (some (.ref p))) H Hf := by
  have h0 : H0 p = none := S1.ext.same.free n
  have others : ∀ (j : Nat) (dj : PyData) (q : Addr), j ∈ O → η[j]? = some (some dj) → σ[j]? = some (some (.ref q)) → q ≠ p := fun j dj q hj ej eq z => by
    subst z
    obtain ⟨q', a1, a2, a3, a4⟩ := S1.own j dj hj ej
    rw [eq] at a1
    cases a1
    obtain ⟨o, ho⟩ := a4.tracked
    rw [n] at ho
    cases ho
  refine ⟨by rw [List.length_set, List.length_set]; exact S.len, S.ext, fun j d' h e => ?_, fun j d' h e => ?_, fun j k dj dk q hj hk hjk ej ek a b => ?_⟩
  · have hj : i ≠ j := fun z => h (z ▸ hi)
    rw [List.getElem?_set_ne hj] at e ⊢
    exact S.val j d' (fun z => h (hO2 j z fun w => hj w.symm)) e
  · by_cases hj : i = j
    · subst hj
      have hl : i < η.length := by
        have := (List.getElem?_eq_some_iff.mp e).1
        rw [List.length_set] at this
        exact this
      rw [List.getElem?_set_self hl] at e
      cases e
      exact ⟨p, by rw [List.getElem?_set_self (by rw [← S.len]; exact hl)], h0, hf, ho⟩
    · rw [List.getElem?_set_ne hj] at e ⊢
      exact S.own j d' (hO j h fun w => hj w.symm) e
  · by_cases h1 : i = j
    · subst h1
      have h2 : i ≠ k := hjk
      have hl : i < σ.length := by
        have := (List.getElem?_eq_some_iff.mp a).1
        rw [List.length_set] at this
        exact this
      rw [List.getElem?_set_self hl] at a
      cases a
      rw [List.getElem?_set_ne h2] at ek b
      exact others k dk _ (hO k hk fun w => h2 w.symm) ek b rfl
    · rw [List.getElem?_set_ne h1] at ej a
      by_cases h2 : i = k
      · subst h2
        have hl : i < σ.length := by
          have := (List.getElem?_eq_some_iff.mp b).1
          rw [List.length_set] at this
          exact this
        rw [List.getElem?_set_self hl] at b
        cases b
        exact others j dj _ (hO j hj fun w => h1 w.symm) ej a rfl
      · rw [List.getElem?_set_ne h2] at ek b
        exact S.dis j k dj dk q (hO j hj fun w => h1 w.symm) (hO k hk fun w => h2 w.symm) hjk ej ek a b
end

/-! ### statements -/
inductive Fl where
  | nx (η : DEnv)
  | rt (d : PyData)
  | ex (c : String) (f : Option PyData) (η : DEnv)
  | bad
def PostS (ec : EC) (K : PySem.W.Frag) (W : WX) (H0 Hf0 : Hp) (O : List Nat) (D : Ends) : Fl → Prop
  | .nx η => ∀ σ H Hf, SR K H0 Hf0 O η σ H Hf → D.nx σ H
  | .rt d => ∀ v H Hf, Ext H0 Hf0 H Hf → Rp K Hf v d → D.rt v H
  | .ex c fl η => ∀ σ H Hf cls d, SR K H0 Hf0 [] η σ H Hf → ExRep ec K Hf H cls d c fl → W cls d σ H
  | .bad => False
def tS (ec : EC) (K : PySem.W.Frag) (W : WX) (O O' : List Nat) (f : DEnv → Fl) : TS := fun D σ H => ∃ H0 Hf0 Hf η, SR K H0 Hf0 O η σ H Hf ∧ PostS ec K W H0 Hf0 O' D (f η)
def DS (ec : EC) (X : Cx) (W : WX) (O O' : List Nat) (st : Stmt) (f : DEnv → Fl) : Prop := PS X st (tS ec X.K W O O' f)
def DSs (ec : EC) (X : Cx) (W : WX) (O O' : List Nat) (st : List Stmt) (f : DEnv → Fl) : Prop := PSs X st (tS ec X.K W O O' f)
/-- on from a result -/
def R.fl {α : Type} (η : DEnv) (r : R α) (g : α → Fl) : Fl := match r with
  | .ok a => g a
  | .ex c v => .ex c v η
  | .bad => .bad
def Fl.then (x : Fl) (g : DEnv → Fl) : Fl := match x with
  | .nx η => g η
  | .rt d => .rt d
  | .ex c f η => .ex c f η
  | .bad => .bad
@[simp] theorem R.fl_ok {α : Type} (η : DEnv) (a : α) (g : α → Fl) : (R.ok a).fl η g = g a := rfl
@[simp] theorem R.fl_ex {α : Type} (η : DEnv) (c : String) (v : Option PyData) (g : α → Fl) : (R.ex c v : R α).fl η g = .ex c v η := rfl
@[simp] theorem R.fl_bad {α : Type} (η : DEnv) (g : α → Fl) : (R.bad : R α).fl η g = .bad := rfl
@[simp] theorem Fl.then_nx (η : DEnv) (g : DEnv → Fl) : (Fl.nx η).then g = g η := rfl
@[simp] theorem Fl.then_rt (d : PyData) (g : DEnv → Fl) : (Fl.rt d).then g = .rt d := rfl
@[simp] theorem Fl.then_ex (c : String) (f : Option PyData) (η : DEnv) (g : DEnv → Fl) : (Fl.ex c f η).then g = .ex c f η := rfl
@[simp] theorem Fl.then_bad (g : DEnv → Fl) : (Fl.bad).then g = .bad := rfl
section
variable {ec : EC} {X : Cx} {W : WX} {O O1 O' : List Nat} {e a b tg : Expr} {es : List Expr} {st : Stmt} {sts : List Stmt} {f fa fb : DEnv → R PyData} {g h : DEnv → Fl} {pos : Pos}
theorem ExRep.mono {K : PySem.W.Frag} {Hf Hf' H : Hp} {cls : Value} {d : Option Addr} {c : String} {fl : Option PyData} (s : Same Hf Hf') (x : ExRep ec K Hf H cls d c fl) : ExRep ec K Hf' H cls d c fl := by
  obtain ⟨x1, x2⟩ := x
  refine ⟨x1, ?_⟩
  revert x2
  cases ec c with
  | none => cases fl <;> exact fun q => q
  | some o =>
    cases o with
    | none => cases fl <;> exact fun q => q
    | some f => cases fl with
      | none => exact fun q => q
      | some z => exact fun ⟨da, v, q1, q2, q3⟩ => ⟨da, v, q1, s _ _ q2, q3.mono s⟩
/-- from a statement's wish to its expression's -/
theorem PostS.exprI {K : PySem.W.Frag} {α β : Type} {ρ : Hp → Hp → α → β → Prop} {H0 Hf0 H Hf : Hp} {η : DEnv} {σ : St} {D : Ends} {r : R β} {k : β → Fl} (S : SR K H0 Hf0 O η σ H Hf) (p : PostS ec K W H0 Hf0 O' D (r.fl η k)) :
    Post ec K W σ ρ (fun a H1 => ∃ Hf1 b, r = .ok b ∧ Ext H Hf H1 Hf1 ∧ ρ H1 Hf1 a b ∧ PostS ec K W H0 Hf0 O' D (k b)) H Hf r := by
  cases r with
  | ok b => exact fun a H1 Hf1 x q => ⟨Hf1, b, rfl, x, q, p⟩
  | ex c fl =>
    intro H1 Hf1 cls d x q
    obtain ⟨Hf2, s, S2⟩ := (S.step x).less (O' := []) (fun i hi => by cases hi)
    exact p σ H1 Hf2 cls d S2 (q.mono s)
  | bad => exact p
theorem PostS.less {K : PySem.W.Frag} {H0 Hf0 : Hp} {D : Ends} {x : Fl} (p : PostS ec K W H0 Hf0 O' D x) (h : ∀ i ∈ O', i ∈ O1) : PostS ec K W H0 Hf0 O1 D x := by
  cases x with
  | nx η =>
    intro σ H Hf S
    obtain ⟨Hf', _, S'⟩ := S.less h
    exact p σ H Hf' S'
  | rt d => exact p
  | ex c f η => exact p
  | bad => exact p
/-- some things are settled ahead of, or behind, a statement -/
theorem ds_less {O2 O3 : List Nat} (d : DS ec X W O1 O2 st g) (h1 : ∀ i ∈ O1, i ∈ O := by decide) (h2 : ∀ i ∈ O3, i ∈ O2 := by decide) : DS ec X W O O3 st g := PS.imp d fun D σ H ⟨H0, Hf0, Hf, η, S, p⟩ => by
  obtain ⟨Hf', _, S'⟩ := S.less h1
  exact ⟨H0, Hf0, Hf', η, S', p.less h2⟩
theorem dss_less {O2 O3 : List Nat} (d : DSs ec X W O1 O2 sts g) (h1 : ∀ i ∈ O1, i ∈ O := by decide) (h2 : ∀ i ∈ O3, i ∈ O2 := by decide) : DSs ec X W O O3 sts g := PSs.imp d fun D σ H ⟨H0, Hf0, Hf, η, S, p⟩ => by
  obtain ⟨Hf', _, S'⟩ := S.less h1
  exact ⟨H0, Hf0, Hf', η, S', p.less h2⟩

def sNil : DEnv → Fl := fun η => .nx η
def sSeq (g h : DEnv → Fl) : DEnv → Fl := fun η => (g η).then h
theorem dss_nil : DSs ec X W O O [] sNil := PSs.imp pss_nil fun D σ H ⟨H0, Hf0, Hf, η, S, p⟩ => p σ H Hf S
theorem seq_read {K : PySem.W.Frag} {D : Ends} {σ : St} {H : Hp} (q : tS ec K W O O' (sSeq g h) D σ H) : tS ec K W O O1 g { D with nx := tS ec K W O1 O' h D } σ H := by
  obtain ⟨H0, Hf0, Hf, η, S, p⟩ := q
  refine ⟨H0, Hf0, Hf, η, S, ?_⟩
  unfold sSeq at p
  cases q : g η with
  | nx η' => rw [q] at p; exact fun σ' H' Hf' S' => ⟨H0, Hf0, Hf', η', S', p⟩
  | rt d => rw [q] at p; exact p
  | ex c f η' => rw [q] at p; exact p
  | bad => rw [q] at p; exact p
theorem dss_cons (h1 : DS ec X W O O1 st g) (h2 : DSs ec X W O1 O' sts h) : DSs ec X W O O' (st :: sts) (sSeq g h) := PSs.imp (pss_cons h1 h2) fun D σ H q => seq_read q
theorem dss_one (h1 : DS ec X W O O' st g) : DSs ec X W O O' [st] g := pss_one h1
def sPass : DEnv → Fl := fun η => .nx η
theorem ds_pass : DS ec X W O O (.Pass pos) sPass := PS.imp ps_pass fun D σ H ⟨H0, Hf0, Hf, η, S, p⟩ => p σ H Hf S

def sExpr (f : DEnv → R PyData) : DEnv → Fl := fun η => (f η).fl η fun _ => .nx η
def sRet (f : DEnv → R PyData) : DEnv → Fl := fun η => (f η).fl η fun d => .rt d
def sSet (i : Nat) (f : DEnv → R PyData) : DEnv → Fl := fun η => (f η).fl η fun d => .nx (η.set i (some d))
theorem ds_expr (he : DE ec X W O e f) (hs : swapsWith e none pos.line X.env = pure false := by rfl) : DS ec X W O O (.Expr e pos) (sExpr f) :=
  PS.imp (ps_expr he hs) fun D σ H ⟨H0, Hf0, Hf, η, S, p⟩ => ⟨H0, Hf0, Hf, η, S, (PostS.exprI S p).imp fun v H1 ⟨Hf1, d, _, x1, r1, p1⟩ => p1 σ H1 Hf1 (S.step x1)⟩
theorem ds_ret (he : DE ec X W O e f) : DS ec X W O O' (.Return (some e) pos) (sRet f) :=
  PS.imp (ps_ret he) fun D σ H ⟨H0, Hf0, Hf, η, S, p⟩ => ⟨H0, Hf0, Hf, η, S, (PostS.exprI S p).imp fun v H1 ⟨Hf1, d, _, x1, r1, p1⟩ => p1 v H1 Hf1 (S.ext.trans x1) r1⟩
/-- return x, x a name that owns: settled as it leaves -/
theorem ds_retW (i : Nat) (he : DE ec X W O1 e f) (h1 : ∀ i ∈ O1, i ∈ O := by decide) : DS ec X W O O' (.Return (some e) pos) (sRet f) := ds_less (ds_ret (O' := O') he) h1 (fun _ h => h)
theorem ds_set {i : Nat} {x : Str} {pos' : Pos} (hN : X.N.Nodup) (he : DE ec X W O e f) (hO : (O' == O.filter fun j => j != i) = true := by rfl) (hi : X.N[i]? = some x := by rfl) (hx : Loc X.env.scope x := by first | exact Or.inl rfl | exact Or.inr rfl)
    (hs : swapsWith e (some (.Name x pos')) pos.line X.env = pure false := by rfl) (hf : X.fn x = true ∨ X.env.scope.names.lookup x = some .local := by first | exact .inl rfl | exact .inr rfl) :
    DS ec X W O O' (.Assign [.Name x pos'] e pos) (sSet i f) :=
  PS.imp (ps_set (i := i) hN hi hx he hs hf) fun D σ H ⟨H0, Hf0, Hf, η, S, p⟩ => ⟨H0, Hf0, Hf, η, S, (PostS.exprI S p).imp fun v H1 ⟨Hf1, d, _, x1, r1, p1⟩ => by
    have hO : O' = O.filter fun j => j != i := eq_of_beq hO
    subst hO
    exact p1 _ H1 Hf1 ((S.step x1).setV r1 (fun j hj => by simpa using hj) (fun j hj hn => by simp [hj, hn]))⟩
/-- .. a new thing, the name's own from now on -/
theorem ds_own {i : Nat} {x : Str} {pos' : Pos} (hN : X.N.Nodup) (he : DN ec X W O e f) (hO : (O' == i :: O.filter fun j => j != i) = true := by rfl) (hi : X.N[i]? = some x := by rfl) (hx : Loc X.env.scope x := by first | exact Or.inl rfl | exact Or.inr rfl)
    (hs : swapsWith e (some (.Name x pos')) pos.line X.env = pure false := by rfl) (hf : X.fn x = true ∨ X.env.scope.names.lookup x = some .local := by first | exact .inl rfl | exact .inr rfl) :
    DS ec X W O O' (.Assign [.Name x pos'] e pos) (sSet i f) :=
  PS.imp (ps_set (i := i) hN hi hx he hs hf) fun D σ H ⟨H0, Hf0, Hf, η, S, p⟩ => ⟨H0, Hf0, Hf, η, S, (PostS.exprI S p).imp fun v H1 ⟨Hf1, d, _, x1, ⟨q, ev, n, nf, ho⟩, p1⟩ => by
    have hO : O' = i :: O.filter fun j => j != i := eq_of_beq hO
    subst hO ev
    exact p1 _ H1 Hf1 ((S.step x1).setN x1 S n nf ho (fun j hj hn => by
      rcases List.mem_cons.mp hj with z | z
      · exact absurd z hn
      · exact (List.mem_filter.mp z).1) (fun j hj hn => List.mem_cons_of_mem _ (by simp [hj, hn])) (List.mem_cons_self ..))⟩
def sUnp (t : PyData → DEnv → R DEnv) (f : DEnv → R PyData) : DEnv → Fl := fun η => (f η).fl η fun d => match t d η with
  | .ok η' => .nx η'
  | _ => .bad
/-- a, b = e -/
theorem ds_unp {gt : TG} {is : List Nat} {t : PyData → DEnv → R DEnv} (T : TgOk X.K O gt is t) (he : DE ec X W O e f) (hg : PG X tg gt) (hs : swapsWithSole [tg] e pos.line X.env = pure false := by rfl) (hw : swappedStores [tg] e X.env = pure none := by rfl)
    (h1 : (assignEach [tg] X.env).map (·.2) = [assign tg X.env] := by rfl) : DS ec X W O O (.Assign [tg] e pos) (sUnp t f) :=
  PS.imp (ps_asg he hg hs hw h1) fun D σ H ⟨H0, Hf0, Hf, η, S, p⟩ => ⟨H0, Hf0, Hf, η, S, (PostS.exprI S p).imp fun v H1 ⟨Hf1, d, _, x1, r1, p1⟩ => by
    cases q : t d η with
    | ok η' =>
      rw [q] at p1
      exact T.run v d σ H1 Hf1 H0 Hf0 η _ (S.step x1) r1 ⟨η', q, fun σ' _ S' => p1 σ' H1 Hf1 S'⟩
    | ex c fl => rw [q] at p1; exact p1.elim
    | bad => rw [q] at p1; exact p1.elim⟩
def sIf (c : DEnv → R Bool) (g h : DEnv → Fl) : DEnv → Fl := fun η => (c η).fl η fun b => if b then g η else h η
theorem ds_if {c : Expr} {fc : DEnv → R Bool} {s1 s2 : List Stmt} (hc : DT ec X W O c fc) (ha : DSs ec X W O O' s1 g) (hb : DSs ec X W O O' s2 h) : DS ec X W O O' (.If c s1 s2 pos) (sIf fc g h) :=
  PS.imp (ps_if hc ha hb) fun D σ H ⟨H0, Hf0, Hf, η, S, p⟩ => ⟨H0, Hf0, Hf, η, S, (PostS.exprI S p).imp fun b H1 ⟨Hf1, b', _, x1, r1, p1⟩ => by
    have r1 : b = b' := r1
    subst r1
    cases b with
    | true => exact ⟨H0, Hf0, Hf1, η, S.step x1, p1⟩
    | false => exact ⟨H0, Hf0, Hf1, η, S.step x1, p1⟩⟩

/-! ### loops -/
def forGo (t : PyData → DEnv → R DEnv) (body : DEnv → Fl) : List PyData → DEnv → Fl
  | [], η => .nx η
  | d :: ds, η => match t d η with
    | .ok η1 => (body η1).then (forGo t body ds)
    | _ => .bad
def sFor (it : DEnv → R (List PyData)) (t : PyData → DEnv → R DEnv) (body : DEnv → Fl) : DEnv → Fl := fun η => (it η).fl η fun ds => forGo t body ds η
theorem PostS.unbase {K : PySem.W.Frag} {H0 Hf0 H Hf : Hp} {D : Ends} {x : Fl} (b : Ext H0 Hf0 H Hf) (p : PostS ec K W H0 Hf0 O' D x) : PostS ec K W H0 Hf O' D x := by
  cases x with
  | nx η => exact fun σ H' Hf' S => p σ H' Hf' (S.unbase b)
  | rt d => exact fun v H' Hf' y r => p v H' Hf' (b.unbase y) r
  | ex c f η => exact fun σ H' Hf' cls d S r => p σ H' Hf' cls d (S.unbase b) r
  | bad => exact p
theorem PostS.imp {K : PySem.W.Frag} {H0 Hf0 : Hp} {D : Ends} {x : Fl} {nx : St → Hp → Prop} (p : PostS ec K W H0 Hf0 O' D x) (i : ∀ η σ H Hf, x = .nx η → SR K H0 Hf0 O' η σ H Hf → D.nx σ H → nx σ H) (D' : Ends) (hn : D'.nx = nx) (hr : D'.rt = D.rt) : PostS ec K W H0 Hf0 O' D' x := by
  cases x with
  | nx η => exact fun σ H Hf S => by rw [hn]; exact i η σ H Hf rfl S (p σ H Hf S)
  | rt d => exact fun v H Hf y r => by rw [hr]; exact p v H Hf y r
  | ex c f η => exact p
  | bad => exact p
theorem ds_for {it : DEnv → R (List PyData)} {gt : TG} {is : List Nat} {t : PyData → DEnv → R DEnv} {iter : Expr} {body : List Stmt} (hp : PassesOwn (model X.prog X.w) X.A X.env X.xe) (hc : X.calm = true) (T : TgOk X.K O gt is t) (hi : DI ec X W O false tg iter it) (hg : PG X tg gt) (hb : DSs ec X W O O body g)
    (hs : ∀ x, foldedSetIterable iter X.env x = pure x := by intro _; rfl) : DS ec X W O O (.For tg iter body [] pos) (sFor it t g) := by
  refine PS.imp (ps_for hp hc hi hg hb hs) fun D σ H ⟨H0, Hf0, Hf, η, S, p⟩ => ⟨H0, Hf0, Hf, η, S, (PostS.exprI S p).imp fun J H1 ⟨Hf1, ds, _, x1, hJ, p1⟩ => ?_⟩
  have S1 := S.step x1
  refine ⟨fun i m σ' H' => m = ds.length - i ∧ i ≤ ds.length ∧ ∃ Hf' η', SR X.K H0 Hf1 O η' σ' H' Hf' ∧ PostS ec X.K W H0 Hf1 O D (forGo t g (ds.drop i) η'), ⟨ds.length, by simp, Nat.zero_le _, Hf1, η, S1.rebase, (show PostS ec X.K W H0 Hf0 O D (forGo t g ds η) from p1).unbase S1.ext⟩, ?_⟩
  rintro i m σ' H' ⟨rfl, hi', Hf', η', S', p'⟩
  obtain ⟨j1, j2⟩ := hJ.2 i H' Hf' S'.ext.sf S'.sub fun z => Bool.noConfusion z
  by_cases hlt : i < ds.length
  · rw [List.drop_eq_getElem_cons hlt] at p'
    obtain ⟨hgo, hy⟩ := j2 _ (List.getElem?_eq_getElem hlt)
    refine .inr ⟨hgo, fun σ2 H2 => ∃ Hf2 η2, SR X.K H0 Hf1 O η2 σ2 H2 Hf2 ∧ PostS ec X.K W H0 Hf1 O D (forGo t g (ds.drop (i + 1)) η2), fun σ2 H2 ⟨Hf2, η2, q1, q2⟩ => ⟨ds.length - (i + 1), by omega, rfl, hlt, Hf2, η2, q1, q2⟩, fun x H'' y => ?_⟩
    obtain ⟨Hf'', x3, rx⟩ := hy x H'' y
    unfold forGo at p'
    cases ht : t ds[i] η' with
    | ex c' fl => rw [ht] at p'; exact p'.elim
    | bad => rw [ht] at p'; exact p'.elim
    | ok η1 =>
      rw [ht] at p'
      refine T.run x ds[i] σ' H'' Hf'' H0 Hf1 η' _ (S'.step x3) rx ⟨η1, ht, fun σ2 _ S2 => ⟨H0, Hf1, Hf'', η1, S2, ?_⟩⟩
      simp only at p'
      cases hg' : g η1 with
      | nx η2 => rw [hg'] at p'; exact fun σ3 H3 Hf3 S3 => ⟨Hf3, η2, S3, p'⟩
      | rt d => rw [hg'] at p'; exact p'
      | ex c f η2 => rw [hg'] at p'; exact p'
      | bad => rw [hg'] at p'; exact p'
  · have ei : i = ds.length := by omega
    subst ei
    rw [List.drop_length] at p'
    exact .inl ⟨j1 (Nat.le_refl _), p' σ' H' Hf' S'⟩
def whileGo (c : DEnv → R Bool) (body : DEnv → Fl) : Nat → DEnv → Fl
  | 0, _ => .bad
  | n + 1, η => (c η).fl η fun b => if b then (body η).then (whileGo c body n) else .nx η
def sWhile (n : Nat) (c : DEnv → R Bool) (body : DEnv → Fl) : DEnv → Fl := whileGo c body n
theorem ds_while (n : Nat) {c : Expr} {fc : DEnv → R Bool} {body : List Stmt} (hp : PassesOwn (model X.prog X.w) X.A X.env X.xe) (hc : DT ec X W O c fc) (hb : DSs ec X W O O body g) : DS ec X W O O (.While c body [] pos) (sWhile n fc g) := by
  refine PS.imp (ps_while hp hc hb) fun D σ H ⟨H0, Hf0, Hf, η, S, p⟩ => ⟨fun m σ' H' => ∃ Hf' η', SR X.K H0 Hf0 O η' σ' H' Hf' ∧ PostS ec X.K W H0 Hf0 O D (whileGo fc g m η'), ⟨n, Hf, η, S, p⟩, ?_⟩
  rintro m σ' H' ⟨Hf', η', S', p'⟩
  cases m with
  | zero => exact p'.elim
  | succ m =>
    unfold whileGo at p'
    refine ⟨H0, Hf0, Hf', η', S', (PostS.exprI S' p').imp fun b H1 ⟨Hf1, b', _, x1, r1, p1⟩ => ?_⟩
    have r1 : b = b' := r1
    subst r1
    cases b with
    | false => exact p1 σ' H1 Hf1 (S'.step x1)
    | true =>
      refine ⟨fun σ2 H2 => ∃ Hf2 η2, SR X.K H0 Hf0 O η2 σ2 H2 Hf2 ∧ PostS ec X.K W H0 Hf0 O D (whileGo fc g m η2), fun σ2 H2 q => ⟨m, Nat.lt_succ_self _, q⟩, H0, Hf0, Hf1, η', S'.step x1, ?_⟩
      have p1 : PostS ec X.K W H0 Hf0 O D ((g η').then (whileGo fc g m)) := p1
      cases hg' : g η' with
      | nx η2 => rw [hg'] at p1; exact fun σ3 H3 Hf3 S3 => ⟨Hf3, η2, S3, p1⟩
      | rt d => rw [hg'] at p1; exact p1
      | ex c f η2 => rw [hg'] at p1; exact p1
      | bad => rw [hg'] at p1; exact p1
end
end DL
end

section
set_option Elab.async false
set_option linter.all false
set_option maxRecDepth 100000
set_option maxHeartbeats 4000000
namespace DL
open PySem PySem.Spec PyProof.Rows L2
section
variable {ec : EC} {X : Cx} {W : WX} {O O1 O' : List Nat} {e a b tg : Expr} {es : List Expr} {st : Stmt} {sts : List Stmt} {f fa fb : DEnv → R PyData} {g h : DEnv → Fl} {pos : Pos}

/-! ### y = [..] -/
theorem ds_asgN {i : Nat} {te : TE} (h : PS X st (tAsg te (gName i))) (i1 : ∀ σ H Q, (∃ H0 Hf0 Hf η, SR X.K H0 Hf0 O η σ H Hf ∧ Post ec X.K W σ (ρN X.K H) Q H Hf (f η)) → te σ H Q) (hO : (O' == i :: O.filter fun j => j != i) = true := by rfl) : DS ec X W O O' st (sSet i f) :=
  PS.imp h fun D σ H ⟨H0, Hf0, Hf, η, S, p⟩ => i1 σ H _ ⟨H0, Hf0, Hf, η, S, (PostS.exprI S p).imp fun v H1 ⟨Hf1, d, _, x1, ⟨q, ev, n, nf, ho⟩, p1⟩ => by
    have hO : O' = i :: O.filter fun j => j != i := eq_of_beq hO
    subst hO ev
    exact p1 _ H1 Hf1 ((S.step x1).setN x1 S n nf ho (fun j hj hn => by
      rcases List.mem_cons.mp hj with z | z
      · exact absurd z hn
      · exact (List.mem_filter.mp z).1) (fun j hj hn => List.mem_cons_of_mem _ (by simp [hj, hn])) (List.mem_cons_self ..))⟩
theorem ds_asgV {i : Nat} {te : TE} (h : PS X st (tAsg te (gName i))) (i1 : ∀ σ H Q, (∃ H0 Hf0 Hf η, SR X.K H0 Hf0 O η σ H Hf ∧ Post ec X.K W σ (ρV X.K) Q H Hf (f η)) → te σ H Q) (hO : (O' == O.filter fun j => j != i) = true := by rfl) : DS ec X W O O' st (sSet i f) :=
  PS.imp h fun D σ H ⟨H0, Hf0, Hf, η, S, p⟩ => i1 σ H _ ⟨H0, Hf0, Hf, η, S, (PostS.exprI S p).imp fun v H1 ⟨Hf1, d, _, x1, r1, p1⟩ => by
    have hO : O' = O.filter fun j => j != i := eq_of_beq hO
    subst hO
    exact p1 _ H1 Hf1 ((S.step x1).setV r1 (fun j hj => by simpa using hj) (fun j hj hn => by simp [hj, hn]))⟩
section
variable {i : Nat} {y : Str} {py spos : Pos} {it : DEnv → R (List PyData)} {gt : TG} {t : PyData → DEnv → R DEnv} {c : DEnv → R Bool} {el : DEnv → R PyData} {elt iter te : Expr} {scope : Scope} {own : List (Str × Nat)}
theorem sl0 (hc : X.calm = true) (hN : X.N.Nodup) (hy : X.N[i]? = some y) (hyl : X.env.scope.names.lookup y = some .local) (hsw : swapsWith (.ListComp elt [⟨tg, iter, [], 0⟩] scope pos) (some (.Name y py)) spos.line X.env = pure true)
    (hi : DI ec X W O true tg iter it) (ok : BlkOk X.N X.env.scope scope own)
    (hg : ∀ (s : Shared) (H : Hp) (C : Addr) (cl : List (Str × Addr)) (fp : List Addr), PG (X.blk s H scope (compEnvC scope cl C X.env) fp) tg gt)
    (he : ∀ (s : Shared) (H : Hp) (C : Addr) (cl : List (Str × Addr)) (fp : List Addr), DE ec (X.blk s H scope (compEnvC scope cl C X.env) fp) noW O elt el) (hs : ∀ x, foldedSetIterable iter X.env x = pure x := by intro _; rfl) :
    PS X (.Assign [.Name y py] (.ListComp elt [⟨tg, iter, [], 0⟩] scope pos) spos) (tAsg (tLc (tD ec X.K W O (ρI X.K true) it) gt tYes (tD ec X.K noW O (ρV X.K) el) (own.map (·.2))) (gName i)) :=
  ps_setLc hc hN hy hyl hsw hi ok hg (fun _ _ _ _ _ => pts_nil) he hs
theorem sl1 (hc : X.calm = true) (hN : X.N.Nodup) (hy : X.N[i]? = some y) (hyl : X.env.scope.names.lookup y = some .local) (hsw : swapsWith (.ListComp elt [⟨tg, iter, [te], 0⟩] scope pos) (some (.Name y py)) spos.line X.env = pure true)
    (hi : DI ec X W O true tg iter it) (ok : BlkOk X.N X.env.scope scope own)
    (hg : ∀ (s : Shared) (H : Hp) (C : Addr) (cl : List (Str × Addr)) (fp : List Addr), PG (X.blk s H scope (compEnvC scope cl C X.env) fp) tg gt)
    (ht : ∀ (s : Shared) (H : Hp) (C : Addr) (cl : List (Str × Addr)) (fp : List Addr), DT ec (X.blk s H scope (compEnvC scope cl C X.env) fp) noW O te c)
    (he : ∀ (s : Shared) (H : Hp) (C : Addr) (cl : List (Str × Addr)) (fp : List Addr), DE ec (X.blk s H scope (compEnvC scope cl C X.env) fp) noW O elt el) (hs : ∀ x, foldedSetIterable iter X.env x = pure x := by intro _; rfl) :
    PS X (.Assign [.Name y py] (.ListComp elt [⟨tg, iter, [te], 0⟩] scope pos) spos) (tAsg (tLc (tD ec X.K W O (ρI X.K true) it) gt (tD ec X.K noW O ρB c) (tD ec X.K noW O (ρV X.K) el) (own.map (·.2))) (gName i)) :=
  ps_setLc hc hN hy hyl hsw hi ok hg (fun s H C cl fp => pts_one (ht s H C cl fp)) he hs
theorem lc_read0 {K : PySem.W.Frag} {is : List Nat} (T : TgOk K O gt is t) (σ : St) (H : Hp) (Q : VK) (q : ∃ H0 Hf0 Hf η, SR K H0 Hf0 O η σ H Hf ∧ Post ec K W σ (ρN K H) Q H Hf (dLc it t cT el η)) :
    tLc (tD ec K W O (ρI K true) it) gt tYes (tD ec K noW O (ρV K) el) is σ H Q := lc_read T (fun σ H Q ⟨H0, Hf0, Hf, η, S, p⟩ => p.here S.sub rfl) σ H Q q
theorem settled {K : PySem.W.Frag} {σ : St} {H : Hp} {Q : VK} (q : ∃ H0 Hf0 Hf η, SR K H0 Hf0 O η σ H Hf ∧ Post ec K W σ (ρV K) Q H Hf (f η)) : ∃ H0 Hf0 Hf η, SR K H0 Hf0 O η σ H Hf ∧ Post ec K W σ (ρN K H) Q H Hf (f η) := by
  obtain ⟨H0, Hf0, Hf, η, S, p⟩ := q
  exact ⟨H0, Hf0, Hf, η, S, p.settle⟩
end

/-! ### x.append(e), x.extend(e), x.pop(..) of an owned list -/
theorem SR.own_list {K : PySem.W.Frag} {H0 Hf0 H Hf : Hp} {η : DEnv} {σ : St} (S : SR K H0 Hf0 O η σ H Hf) {i : Nat} {ds : List PyData} (hi : i ∈ O) (e : η[i]? = some (some (.list ds))) :
    ∃ p xs, σ[i]? = some (some (.ref p)) ∧ H0 p = none ∧ Hf p = none ∧ H p = some (.lst xs) ∧ RpAll K Hf xs ds := by
  obtain ⟨p, a1, a2, a3, a4⟩ := S.own i _ hi e
  rcases a4 with ⟨xs, ds', h, e, a⟩ | ⟨_, _, _, e, _⟩ | ⟨_, _, _, _, _, _, _, _, _, _, _, _, e, _⟩
  · cases e
    exact ⟨p, xs, a1, a2, a3, h, a⟩
  · cases e
  · cases e
def listAt (η : DEnv) (i : Nat) : Option (List PyData) := match η[i]? with
  | some (some (.list ds)) => some ds
  | _ => none
theorem listAt_of {η : DEnv} {i : Nat} {ds : List PyData} (h : listAt η i = some ds) : η[i]? = some (some (.list ds)) := by
  unfold listAt at h
  split at h
  · rename_i q
    cases h
    exact q
  · cases h
def sApp (i : Nat) (f : DEnv → R PyData) : DEnv → Fl := fun η => match listAt η i with
  | some ds => (f η).fl η fun d => if ds.length < sizeLine then .nx (η.set i (some (.list (ds ++ [d])))) else .bad
  | none => .bad
theorem ds_app {i : Nat} {x : Str} {p0 apos cpos : Pos} (ha : DE ec X W O e f) (hi : i ∈ O := by decide) (hN : X.N[i]? = some x := by rfl) (hv : Vis X.env.scope x := by first | exact Or.inl rfl | exact Or.inr (Or.inl rfl))
    (hd : (x == ("__debug__" : Str)) = false := by decide) (hcd : (x == ("__classdict__" : Str)) = false := by decide)
    (hbase : attributeBase (.Name x p0) "append" X.env (eval (.Name x p0) X.env) = eval (.Name x p0) X.env := by rfl)
    (hfew : ((backTo cpos (starEach [e] X.env)).all (fun x => !x.1) && (backToKw cpos (keywordEach [] X.env)).all (fun x => x.1.isSome)
      && decide ([e].length + ([] : List Keyword).length + (if ([] : List Keyword).isEmpty then 0 else 1) < 30)) = true := by rfl)
    (hline : (apos.endLine == cpos.line) = true := by rfl) (hs : starEach [e] X.env = (false, eval e X.env) :: starEach [] X.env := by rfl) (hplain : (backTo cpos (starEach [] X.env)).any (·.1) = false := by rfl)
    (hsw : swapsWith (.Call (.Attribute (.Name x p0) "append" apos) [e] [] cpos) none pos.line X.env = pure false := by rfl) :
    DS ec X W O O (.Expr (.Call (.Attribute (.Name x p0) "append" apos) [e] [] cpos) pos) (sApp i f) := by
  refine PS.imp (ps_expr (pe_bm PySem.F.plainAttrs_list PySem.F.slot_list_append PySem.F.type_list_append mt_append (pe_var hN hv hd hcd) (pa_cons ha pa_nil hs) hbase hfew hline hs hplain) hsw) fun D σ H ⟨H0, Hf0, Hf, η, S, p⟩ => ?_
  unfold sApp at p
  cases q : listAt η i with
  | none => rw [q] at p; exact p.elim
  | some ds =>
    simp only [q] at p
    obtain ⟨l, xs, a1, a2, a3, a4, a5⟩ := S.own_list hi (listAt_of q)
    refine ⟨.ref l, a1, .inl ⟨rfl, xs, .of a4⟩, H0, Hf0, Hf, η, S, (PostS.exprI S p).imp fun v H1 ⟨Hf1, d, _, x1, r1, p1⟩ => ?_⟩
    by_cases hz : ds.length < sizeLine
    · rw [if_pos hz] at p1
      have S1 := S.step x1
      have n1 : Hf1 l = none := x1.unsettled a4 a3
      have a5' := a5.mono x1.sf
      refine ⟨l, xs, v, rfl, rfl, x1.same _ _ a4, by rw [a5.length]; exact hz, ?_⟩
      exact p1 _ _ Hf1 (S1.write hi (listAt_of q) a1 a2 n1 (.inl ⟨_, _, upd_same, rfl, RpAll.append a5' (.cons r1 .nil)⟩))
    · rw [if_neg hz] at p1
      exact p1.elim
theorem mt_ext2 : MtR X "list.extend" (fun x vs H Q => ∃ l b xs zs, x = .ref l ∧ vs = [.ref b] ∧ H l = some (.lst xs) ∧ Rd H b (.lst zs) ∧ xs.length + zs.length ≤ sizeLine ∧ Q .non (upd H l (.lst (xs ++ zs)))) := by
  intro pins s σ H x vs v us Q I rx rv h
  obtain ⟨l, b, xs, zs, rfl, rfl, hH, hB, hz, q⟩ := h
  cases rx
  obtain ⟨u, rfl, ru⟩ := vals1 rv
  cases ru
  obtain ⟨z, its, n, r, hl, e1⟩ := I.lstM hH
  obtain ⟨z2, its2, n2, r2, e2⟩ := hB.ok I.hok
  have hl2 := r2.length
  have hsz : its.toArray.size + its2.toArray.size ≤ sizeLine := by simp only [List.size_toArray]; omega
  have hlong : ¬ (!its.toArray.isEmpty && Builtin.List.listTooLong (its.toArray.size + its2.toArray.size)) = true := by rw [notLongL hsz, Bool.and_false]; exact Bool.false_ne_true
  refine call_meets PySem.F.slot_list_extend ⟨_, e1, rfl⟩ PySem.F.entry_list_extend (PySem.F.args_list_extend_2 _ _)
    (AutoSeq1.list_extend_list_list_0 l its.toArray n b its2.toArray n2 hlong (by simp only [List.size_toArray]; omega) (by omega)) ⟨e1, e2, ?_⟩
  exact ⟨.non, _, I.lset (its' := its ++ its2) hH e1 (by simp) (r.append r2) (by rw [List.length_append]; omega), rfl, q⟩
def sExt (i : Nat) (f : DEnv → R PyData) : DEnv → Fl := fun η => match listAt η i with
  | some ds => (f η).fl η fun d => match d with
    | .list es => if ds.length + es.length ≤ sizeLine then .nx (η.set i (some (.list (ds ++ es)))) else .bad
    | _ => .bad
  | none => .bad
theorem ds_ext {i : Nat} {x : Str} {p0 apos cpos : Pos} (ha : DW ec X W O e f) (hi : i ∈ O := by decide) (hN : X.N[i]? = some x := by rfl) (hv : Vis X.env.scope x := by first | exact Or.inl rfl | exact Or.inr (Or.inl rfl))
    (hd : (x == ("__debug__" : Str)) = false := by decide) (hcd : (x == ("__classdict__" : Str)) = false := by decide)
    (hbase : attributeBase (.Name x p0) "extend" X.env (eval (.Name x p0) X.env) = eval (.Name x p0) X.env := by rfl)
    (hfew : ((backTo cpos (starEach [e] X.env)).all (fun x => !x.1) && (backToKw cpos (keywordEach [] X.env)).all (fun x => x.1.isSome)
      && decide ([e].length + ([] : List Keyword).length + (if ([] : List Keyword).isEmpty then 0 else 1) < 30)) = true := by rfl)
    (hline : (apos.endLine == cpos.line) = true := by rfl) (hs : starEach [e] X.env = (false, eval e X.env) :: starEach [] X.env := by rfl) (hplain : (backTo cpos (starEach [] X.env)).any (·.1) = false := by rfl)
    (hsw : swapsWith (.Call (.Attribute (.Name x p0) "extend" apos) [e] [] cpos) none pos.line X.env = pure false := by rfl) :
    DS ec X W O O (.Expr (.Call (.Attribute (.Name x p0) "extend" apos) [e] [] cpos) pos) (sExt i f) := by
  refine PS.imp (ps_expr (pe_bm PySem.F.plainAttrs_list PySem.F.slot_list_extend PySem.F.type_list_extend mt_ext2 (pe_var hN hv hd hcd) (pa_cons ha pa_nil hs) hbase hfew hline hs hplain) hsw) fun D σ H ⟨H0, Hf0, Hf, η, S, p⟩ => ?_
  unfold sExt at p
  cases q : listAt η i with
  | none => rw [q] at p; exact p.elim
  | some ds =>
    simp only [q] at p
    obtain ⟨l, xs, a1, a2, a3, a4, a5⟩ := S.own_list hi (listAt_of q)
    refine ⟨.ref l, a1, .inl ⟨rfl, xs, .of a4⟩, H0, Hf0, Hf, η, S, (PostS.exprI S p).imp fun v H1 ⟨Hf1, d, _, x1, r1, p1⟩ => ?_⟩
    cases d with
    | list es =>
      simp only at p1
      by_cases hz : ds.length + es.length ≤ sizeLine
      · rw [if_pos hz] at p1
        have S1 := S.step x1
        have n1 : Hf1 l = none := x1.unsettled a4 a3
        have a5' := a5.mono x1.sf
        obtain ⟨b, zs, rfl, h1, r2⟩ := RpW.list_rd r1 x1.sub
        refine ⟨l, b, xs, zs, rfl, rfl, x1.same _ _ a4, h1, by rw [a5.length, r2.length]; exact hz, ?_⟩
        exact p1 _ _ Hf1 (S1.write hi (listAt_of q) a1 a2 n1 (.inl ⟨_, _, upd_same, rfl, RpAll.append a5' r2⟩))
      · rw [if_neg hz] at p1
        exact p1.elim
    | _ => exact p1.elim
/-- x.append(y.pop(e)) -/
def sAppPop (i j : Nat) (f : DEnv → R PyData) : DEnv → Fl := fun η => match listAt η i, listAt η j with
  | some ds, some es => (f η).fl η fun d => match d with
    | .int k => match ixN es.length k with
      | some m => match es[m]? with
        | some y => if ds.length < sizeLine ∧ es.length ≤ sizeLine then .nx ((η.set j (some (.list (es.eraseIdx m)))).set i (some (.list (ds ++ [y])))) else .bad
        | none => .bad
      | none => .bad
    | _ => .bad
  | _, _ => .bad
theorem ds_appPop {i j : Nat} {x y : Str} {p0 p1 apos cpos apos1 cpos1 : Pos} (ha : DW ec X W O e f) (hij : i ≠ j := by decide) (hi : i ∈ O := by decide) (hj : j ∈ O := by decide) (hN : X.N[i]? = some x := by rfl) (hN1 : X.N[j]? = some y := by rfl)
    (hv : Vis X.env.scope x := by first | exact Or.inl rfl | exact Or.inr (Or.inl rfl)) (hv1 : Vis X.env.scope y := by first | exact Or.inl rfl | exact Or.inr (Or.inl rfl))
    (hd : (x == ("__debug__" : Str)) = false := by decide) (hcd : (x == ("__classdict__" : Str)) = false := by decide) (hd1 : (y == ("__debug__" : Str)) = false := by decide) (hcd1 : (y == ("__classdict__" : Str)) = false := by decide)
    (hbase : attributeBase (.Name x p0) "append" X.env (eval (.Name x p0) X.env) = eval (.Name x p0) X.env := by rfl)
    (hbase1 : attributeBase (.Name y p1) "pop" X.env (eval (.Name y p1) X.env) = eval (.Name y p1) X.env := by rfl)
    (hfew : ((backTo cpos (starEach [.Call (.Attribute (.Name y p1) "pop" apos1) [e] [] cpos1] X.env)).all (fun x => !x.1) && (backToKw cpos (keywordEach [] X.env)).all (fun x => x.1.isSome)
      && decide ([Expr.Call (.Attribute (.Name y p1) "pop" apos1) [e] [] cpos1].length + ([] : List Keyword).length + (if ([] : List Keyword).isEmpty then 0 else 1) < 30)) = true := by rfl)
    (hfew1 : ((backTo cpos1 (starEach [e] X.env)).all (fun x => !x.1) && (backToKw cpos1 (keywordEach [] X.env)).all (fun x => x.1.isSome)
      && decide ([e].length + ([] : List Keyword).length + (if ([] : List Keyword).isEmpty then 0 else 1) < 30)) = true := by rfl)
    (hline : (apos.endLine == cpos.line) = true := by rfl) (hline1 : (apos1.endLine == cpos1.line) = true := by rfl)
    (hs : starEach [.Call (.Attribute (.Name y p1) "pop" apos1) [e] [] cpos1] X.env = (false, eval (.Call (.Attribute (.Name y p1) "pop" apos1) [e] [] cpos1) X.env) :: starEach [] X.env := by rfl)
    (hs1 : starEach [e] X.env = (false, eval e X.env) :: starEach [] X.env := by rfl) (hplain : (backTo cpos (starEach [] X.env)).any (·.1) = false := by rfl) (hplain1 : (backTo cpos1 (starEach [] X.env)).any (·.1) = false := by rfl)
    (hsw : swapsWith (.Call (.Attribute (.Name x p0) "append" apos) [.Call (.Attribute (.Name y p1) "pop" apos1) [e] [] cpos1] [] cpos) none pos.line X.env = pure false := by rfl) :
    DS ec X W O O (.Expr (.Call (.Attribute (.Name x p0) "append" apos) [.Call (.Attribute (.Name y p1) "pop" apos1) [e] [] cpos1] [] cpos) pos) (sAppPop i j f) := by
  refine PS.imp (ps_expr (pe_bm PySem.F.plainAttrs_list PySem.F.slot_list_append PySem.F.type_list_append mt_append (pe_var hN hv hd hcd)
    (pa_cons (pe_bm PySem.F.plainAttrs_list PySem.F.slot_list_pop PySem.F.type_list_pop mt_popAt (pe_var hN1 hv1 hd1 hcd1) (pa_cons ha pa_nil hs1) hbase1 hfew1 hline1 hs1 hplain1) pa_nil hs) hbase hfew hline hs hplain) hsw) fun D σ H ⟨H0, Hf0, Hf, η, S, p⟩ => ?_
  unfold sAppPop at p
  cases q : listAt η i with
  | none => rw [q] at p; exact p.elim
  | some ds =>
    cases q' : listAt η j with
    | none => rw [q, q'] at p; exact p.elim
    | some es =>
      simp only [q, q'] at p
      obtain ⟨l, xs, a1, a2, a3, a4, a5⟩ := S.own_list hi (listAt_of q)
      obtain ⟨l', xs', b1, b2, b3, b4, b5⟩ := S.own_list hj (listAt_of q')
      refine ⟨.ref l, a1, .inl ⟨rfl, xs, .of a4⟩, .ref l', b1, .inl ⟨rfl, xs', .of b4⟩, H0, Hf0, Hf, η, S, (PostS.exprI S p).imp fun v H1 ⟨Hf1, d, _, x1, r1, p1⟩ => ?_⟩
      cases d with
      | int k =>
        simp only at p1
        cases qk : ixN es.length k with
        | none => simp only [qk] at p1; exact p1.elim
        | some m =>
          simp only [qk] at p1
          cases qm : es[m]? with
          | none => simp only [qm] at p1; exact p1.elim
          | some y' =>
            simp only [qm] at p1
            by_cases hz : ds.length < sizeLine ∧ es.length ≤ sizeLine
            · rw [if_pos hz] at p1
              have S1 := S.step x1
              have n1 : Hf1 l' = none := x1.unsettled b4 b3
              have n2 : Hf1 l = none := x1.unsettled a4 a3
              have a5' := a5.mono x1.sf
              have b5' := b5.mono x1.sf
              obtain ⟨vy, e1, e2⟩ := b5'.get qm
              obtain ⟨h1, h2, h3, h4⟩ := ixN_seq qk
              have hlen : xs'.length = es.length := b5.length
              have hn : l ≠ l' := fun z => S.dis i j _ _ l hi hj hij (listAt_of q) (listAt_of q') a1 (by rw [z]; exact b1)
              have hk := hz.2
              have hsl : sizeLine = 16777216 := sizeLine_eq
              have S2 := S1.write (o := .lst (xs'.eraseIdx m)) hj (listAt_of q') b1 b2 n1 (.inl ⟨_, _, upd_same, rfl, b5'.eraseIdx m⟩)
              have ei : (η.set j (some (.list (es.eraseIdx m))))[i]? = some (some (.list ds)) := by
                rw [List.getElem?_set_ne (Ne.symm hij)]
                exact listAt_of q
              have S3 := S2.write (o := .lst (xs ++ [vy])) hi ei a1 a2 n2 (.inl ⟨_, _, upd_same, rfl, RpAll.append a5' (.cons e2 .nil)⟩)
              refine ⟨l', xs', k, m, vy, rfl, by rw [r1.int_inv], x1.same _ _ b4, by omega, by omega, by rw [hlen]; exact h1, e1, l, xs, vy, rfl, rfl, ?_, by rw [a5.length]; exact hz.1, p1 _ _ Hf1 S3⟩
              rw [upd_ne hn]
              exact x1.same _ _ a4
            · rw [if_neg hz] at p1
              exact p1.elim
      | _ => exact p1.elim

/-! ### raise X('..'), X without fields -/
def sRaise (c : String) : DEnv → Fl := fun η => .ex c none η
structure ExcC (ec : EC) (K : PySem.W.Frag) (mg : Str → Option Value) (c : String) : Prop where
  at_ : mg (Str.ofString c) = some (.ref (He.ga K (Str.ofString c)))
  ex : PySem.W.excIn K (He.ga K (Str.ofString c)) He.veBase "ValueError.__new__" = true
  kp : PySem.W.keepIn K (.ref (He.ga K (Str.ofString c))) = true
  sub : PySem.W.subIn K (.ref (He.ga K (Str.ofString c))) (.type "BaseException") = some true
  ty : PySem.W.typeIn K (.ref (He.ga K (Str.ofString c))) = some (.type "type")
  ec : ec c = some none
theorem ds_raise {c : String} {m : Str} {j : Nat} {p p2 : Pos} (C : ExcC ec X.K X.mg c) (hc : X.calm = true) (tk : Takes X W) (hg : Gl X (Str.ofString c) := by rfl) (hdb : (Str.ofString c == ("__debug__" : Str)) = false := by decide) {pos' : Pos} :
    DS ec X W O O' (.Raise (some (.Call (.Name (Str.ofString c) p) [.Constant (.str m) j p2] [] pos)) none pos') (sRaise c) :=
  PS.imp (ps_raise hc tk (pmk_own PySem.F.excBase_ValueError C.ex C.at_ C.kp (raises_own C.sub C.ty) hg hdb)) fun D σ H ⟨H0, Hf0, Hf, η, S, p⟩ => by
    obtain ⟨Hf2, s, S2⟩ := S.less (O' := []) (fun i hi => by cases hi)
    exact p σ H Hf2 _ _ S2 ⟨rfl, by rw [C.ec]⟩

/-! ### a def -/
def startD (N : List Str) (ds : List PyData) : DEnv := ds.map some ++ List.replicate (N.length - ds.length) none
def runF : Fl → R PyData
  | .nx _ => .ok .none
  | .rt d => .ok d
  | .ex c f _ => .ex c f
  | .bad => .bad
theorem start_sr {K : PySem.W.Frag} {H Hf : Hp} {N : List Str} {vs : List V} {ds : List PyData} (hs : Same Hf H) (r : RpAll K Hf vs ds) : SR K H Hf [] (startD N ds) (L2.start N vs) H Hf where
  len := by unfold startD L2.start; rw [List.length_append, List.length_append, List.length_map, List.length_map, List.length_replicate, List.length_replicate, r.length]
  ext := Ext.refl hs
  val := fun i d _ e => by
    unfold startD at e
    by_cases hi : i < ds.length
    · rw [List.getElem?_append_left (by rw [List.length_map]; exact hi), List.getElem?_map] at e
      cases q : ds[i]? with
      | none => rw [q] at e; cases e
      | some d' =>
        rw [q] at e
        cases e
        obtain ⟨v, e1, e2⟩ := r.get q
        refine ⟨v, ?_, e2⟩
        unfold L2.start
        rw [List.getElem?_append_left (by rw [List.length_map, r.length]; exact hi), List.getElem?_map, e1]
        rfl
    · rw [List.getElem?_append_right (by rw [List.length_map]; omega), List.getElem?_replicate] at e
      split at e <;> cases e
  own := fun i d h => by cases h
  dis := fun i j d d' p h => by cases h
theorem fok_of {P : Program} {w : World} {K : PySem.W.Frag} {mg : Str → Option Value} {base : Heap} {x : Str} {params : Arguments} {bd : List Stmt} {scope : Scope} {N ps : List Str} {fd : FuncData} {k : Nat} {m : List PyData → R PyData} {g : DEnv → Fl} {O' : List Nat}
    (F : FunD K x x params bd scope [] [] (He.ga K x) fd) (at_ : mg x = some (.ref (He.ga K x))) (S : FnScope N ps scope)
    (hb : ∀ (kV doc pm : Value) (an : Option Addr) (cdv ct : Value) (us : List Value), us.length = ps.length → bindArgs (PySem.W.fnOf x x params bd scope .none kV doc pm an cdv ct) ⟨us, []⟩ = pure (ps.zip us))
    (body : ∀ (cdv : Value) (A : Around) (outer : List Env) (s : Shared) (H : Hp) (E : XK), Room k (cxOf (L2.CX P w) P w K mg base N x scope (He.ga K x) cdv A outer s H E).A →
      Takes (cxOf (L2.CX P w) P w K mg base N x scope (He.ga K x) cdv A outer s H E) (fun c d _ H => E c d H) →
      PassesOwn (model P w) (cxOf (L2.CX P w) P w K mg base N x scope (He.ga K x) cdv A outer s H E).A (cxOf (L2.CX P w) P w K mg base N x scope (He.ga K x) cdv A outer s H E).env (cxOf (L2.CX P w) P w K mg base N x scope (He.ga K x) cdv A outer s H E).xe →
      DSs ec (cxOf (L2.CX P w) P w K mg base N x scope (He.ga K x) cdv A outer s H E) (fun c d _ H => E c d H) [] O' bd g)
    (hm : ∀ ds, ds.length = ps.length → m ds = runF (g (startD N ds))) : FOk ec P w K mg base (k + 1) x ps.length m := by
  refine ⟨⟨fd, ps, rfl, ?_, F.bindsN hb⟩, F.kp, at_⟩
  refine F.ok S (fun vs H Q E ⟨Hf, ds, hs, r, hl, p⟩ => by rw [r.length]; exact hl) fun cdv A outer s H vs Q E hr ⟨Hf, ds, hs, r, hl, p⟩ => ?_
  refine ⟨_, body cdv A outer s H E hr (takes_of rfl rfl rfl rfl) (passes_of rfl), H, Hf, Hf, startD N ds, start_sr hs r, ?_⟩
  rw [hm ds hl] at p
  cases q : g (startD N ds) with
  | nx η => rw [q] at p; exact fun σ' H' Hf' S' => p .non H' Hf' S'.ext .non
  | rt d => rw [q] at p; exact fun v H' Hf' y r' => p v H' Hf' y r'
  | ex c fl η => rw [q] at p; exact fun σ' H' Hf' cls d S' r' => p H' Hf' cls d S'.ext r'
  | bad => rw [q] at p; exact p

/-! ### the law's end -/
/-- the facts of the head: the hand layer's, and one test more -/
def obsX (fa : List He.Fa) (fn : List He.DefD) (more : PySem.W.Frag → Bool) (K : PySem.W.Frag) : Bool × He.AlD := (more K, He.obsD fa fn K)
/-- what the module's names reach, and the statics -/
def asX (g : Addr → Option Obj) (n : Nat) : List Addr := He.asD g n ++ [cStatics]
def hookX (n : Nat) (fa : List He.Fa) (fn : List He.DefD) (more : PySem.W.Frag → Bool) : PySem.W.Hook where
  α := Bool × He.AlD
  obs := fun s => obsX fa fn more (He.frG s.heap.get? (asX s.heap.get? n))
  val := fun _ => (true, He.valD fn)
  says := fun _ h => ∃ K : PySem.W.Frag, K.In h ∧ obsX fa fn more K = (true, He.valD fn)
  of := fun _ _ e => ⟨_, He.frG_in, e⟩
  keeps := fun _ _ _ ⟨K, hK, c⟩ k => ⟨K, PySem.W.Frag.In.keeps hK k, c⟩
theorem obsX_eq {n : Nat} {fa : List He.Fa} {fn : List He.DefD} {more : PySem.W.Frag → Bool} {g : Addr → Option Obj} {s : Shared} (h : ∀ a, g a = s.heap.get? a) : obsX fa fn more (He.frG g (asX g n)) = (hookX n fa fn more).obs s := by
  have e : g = s.heap.get? := funext h
  rw [e]
  rfl
/-- no list stands in the written part -/
def noLists (K : PySem.W.Frag) : Bool := K.all fun p => !(p.2.cls == .type "list")
theorem frag_mem {a : Addr} {o : Obj} : ∀ K : List (Addr × Obj), K.lookup a = some o → (a, o) ∈ K
  | [], h => by cases h
  | (b, u) :: K, h => by
    rw [List.lookup_cons] at h
    by_cases hb : a = b
    · subst hb
      rw [beq_self_eq_true] at h
      cases h
      exact List.mem_cons_self ..
    · rw [beq_false_of_ne hb] at h
      exact List.mem_cons_of_mem _ (frag_mem K h)
theorem noLists_rd {K : PySem.W.Frag} (h : noLists K = true) {H : Hp} {a : Addr} {xs : List V} (q : SqL K H a xs) : Rd H a (.lst xs) := by
  rcases q with q | ⟨o, its, n, q, c, _⟩
  · exact q
  · exfalso
    have m : (a, o) ∈ K := frag_mem K q
    have z := List.all_eq_true.mp h _ m
    rw [c] at z
    simp at z
theorem fn_law {P : Program} {w : World} {K : PySem.W.Frag} {mg : Str → Option Value} {base : Heap} {k n : Nat} {f : Addr} {fd : FuncData} {ps : List Str} {m : List PyData → R PyData} (F : FnOk P w K mg base (L2.CX P w) k f fd ps (spD ec K n m)) :
    FnOk P w K mg base CX0 k f fd ps (fun vs H Q _ => spD ec K n m vs H Q fun _ _ _ => False) := by
  refine ⟨fun vs H Q E h => F.len vs H Q _ h, fun A outer s H args us vs Q E hr e0 hb hv hs => codeAny_mono (F.run A outer s H args us vs Q (fun _ _ _ => False) hr e0 hb hv hs) fun r s' hq => ?_⟩
  cases r with
  | error e =>
    obtain ⟨_, _, _, _, _, _, _, _, _, _, _, _, z⟩ := hq
    exact z.elim
  | ok fl => cases fl <;> exact hq
theorem law_sp {K : PySem.W.Frag} (hK : noLists K = true) {m : List PyData → R PyData} (hm : ∀ ns : List Int, ns.length ≤ 63 → m [.list (ns.map PyData.int)] = .ok (.bool true)) (H : Hp) (a : Addr) (ns : List Int) (hl : ns.length ≤ 63) (hS : SqL K H a (ns.map V.int)) :
    spD ec K 1 m [.ref a] H (fun v _ => v = .bl true) fun _ _ _ => False := by
  refine ⟨H, [.list (ns.map PyData.int)], Same.refl _, .cons (.lst (noLists_rd hK hS) (RpAll.ints ns)) .nil, rfl, ?_⟩
  rw [hm ns hl]
  intro v H' Hf' x r
  cases r
  rfl
end
end DL
end

section
set_option Elab.async false
set_option linter.all false
set_option maxRecDepth 100000
set_option maxHeartbeats 4000000
namespace DL
open PySem PySem.Spec PyProof.Rows L2
section
variable {ec : EC} {X : Cx} {W : WX} {O O1 O' : List Nat} {e a b tg : Expr} {es : List Expr} {f fa fb : DEnv → R PyData} {g : DEnv → Fl} {pos : Pos}

/-! ### list(range(n)) -/
def dListRg (f : DEnv → R PyData) : DEnv → R PyData := fun η => (f η).bind fun d => match d with
  | .int j => if -rLine ≤ j ∧ j ≤ rLine then .ok (.list (rangeD 0 j.toNat)) else .bad
  | _ => .bad
theorem rgV_rp {K : PySem.W.Frag} {H : Hp} (j : Int) : RpAll K H (rgV 0 j) (rangeD 0 j.toNat) := by
  unfold rgV rangeD
  rw [Int.sub_zero]
  generalize List.range j.toNat = l
  induction l with
  | nil => exact .nil
  | cons x l ih => exact .cons (.int _) ih
theorem rg_ok {j : Int} (h : -rLine ≤ j ∧ j ≤ rLine) : RgOk 0 j := by
  have hr : rLine = 16777216 := rfl
  refine ⟨by decide, by decide, by omega, by omega, by omega⟩
theorem dn_listRg1 {p p2 pos2 : Pos} (hc : X.calm = true) (hm : X.mg "list" = none) (hm2 : X.mg "range" = none) (ha : DW ec X W O e f) (hg : Gl X "list" := by rfl) (hg2 : Gl X "range" := by rfl)
    (na2 : starEach [e] X.env = (false, eval e X.env) :: starEach [] X.env := by rfl)
    (na : starEach [.Call (.Name "range" p2) [e] [] pos2] X.env = (false, eval (.Call (.Name "range" p2) [e] [] pos2) X.env) :: starEach [] X.env := by rfl) :
    DN ec X W O (.Call (.Name "list" p) [.Call (.Name "range" p2) [e] [] pos2] [] pos) (dListRg f) :=
  PE.imp (pe_listRg hc hg hm (prg_1 hg2 hm2 ha na2) na) fun σ H Q ⟨H0, Hf0, Hf, η, S, p⟩ => ⟨H0, Hf0, Hf, η, S, p.bindI.imp fun v H1 ⟨Hf1, d, x1, r1, p1⟩ => by
    cases d with
    | int j =>
      simp only at p1
      by_cases h : -rLine ≤ j ∧ j ≤ rLine
      · rw [if_pos h] at p1
        refine ⟨j, r1.int_inv, rg_ok h, fun q n => ?_⟩
        exact p1 _ _ _ (Ext.fresh x1.sub n) ⟨q, rfl, x1.same.free n, x1.sub.free n, .inl ⟨_, _, upd_same, rfl, rgV_rp j⟩⟩
      · rw [if_neg h] at p1; exact p1.elim
    | _ => exact p1.elim⟩

/-! ### x.index(y), y is there -/
def firstAt (d : PyData) : List PyData → Nat → Option Nat
  | [], _ => none
  | z :: zs, i => if PyData.eqv z d = true then some i else firstAt d zs (i + 1)
theorem firstAt_of {d : PyData} : ∀ {ds : List PyData} {i j : Nat}, firstAt d ds i = some j → ∃ k z, j = i + k ∧ ds[k]? = some z ∧ PyData.eqv z d = true ∧ ∀ m z', m < k → ds[m]? = some z' → PyData.eqv z' d = false
  | [], _, _, h => by cases h
  | z :: zs, i, j, h => by
    unfold firstAt at h
    by_cases q : PyData.eqv z d = true
    · rw [if_pos q] at h
      cases h
      exact ⟨0, z, rfl, rfl, q, fun m z' h => absurd h (Nat.not_lt_zero _)⟩
    · rw [if_neg q] at h
      obtain ⟨k, y, e1, e2, e3, e4⟩ := firstAt_of h
      refine ⟨k + 1, y, by omega, e2, e3, fun m z' hm hz => ?_⟩
      cases m with
      | zero =>
        have hz' := Option.some.inj (show some z = some z' from hz)
        subst hz'
        simpa using q
      | succ m => exact e4 m z' (by omega) hz
def idxOk (a : PyData) (ys : List PyData) : Bool := SeqAt.shaped (.list ys) && SeqAt.shaped a && a.plain && PyData.plainAll ys
def dIndex : PyData → PyData → R PyData := fun x y => match x with
  | .list ds => if idxOk y ds then match firstAt y ds 0 with
    | some j => .ok (.int (j : Nat))
    | none => .bad else .bad
  | .tuple ds => if idxOk y ds then match firstAt y ds 0 with
    | some j => .ok (.int (j : Nat))
    | none => .bad else .bad
  | _ => .bad
theorem idxOk_of {a : PyData} {ys : List PyData} (h : idxOk a ys = true) : SeqAt.shaped (.list ys) = true ∧ SeqAt.shaped a = true ∧ a.plain = true ∧ PyData.plainAll ys = true := by
  unfold idxOk at h
  simp only [Bool.and_eq_true] at h
  exact ⟨h.1.1.1, h.1.1.2, h.1.2, h.2⟩
/-- o.index(e), o a list -/
def dIdx (fa fb : DEnv → R PyData) : DEnv → R PyData := fun η => (fa η).bind fun x => match x with
  | .list ds => (fb η).bind fun y => dIndex (.list ds) y
  | _ => .bad
theorem de_index {o : Expr} {apos cpos : Pos} (hu : Rm X) (ho : DW ec X W O o fa) (he : DW ec X W O e fb)
    (hbase : attributeBase o "index" X.env (eval o X.env) = eval o X.env := by rfl)
    (hfew : ((backTo cpos (starEach [e] X.env)).all (fun x => !x.1) && (backToKw cpos (keywordEach [] X.env)).all (fun x => x.1.isSome)
      && decide ([e].length + ([] : List Keyword).length + (if ([] : List Keyword).isEmpty then 0 else 1) < 30)) = true := by rfl)
    (hline : (apos.endLine == cpos.line) = true := by rfl) (hs : starEach [e] X.env = (false, eval e X.env) :: starEach [] X.env := by rfl) (hplain : (backTo cpos (starEach [] X.env)).any (·.1) = false := by rfl) :
    DE ec X W O (.Call (.Attribute o "index" apos) [e] [] cpos) (dIdx fa fb) := by
  have hu' : X.A.units + 150 < cLine := hu
  refine PE.imp (pe_bm PySem.F.plainAttrs_list PySem.F.slot_list_index PySem.F.type_list_index (mt_indexD (X := X) (by omega)) ho (pa_w he hs) hbase hfew hline hs hplain) fun σ H Q ⟨H0, Hf0, Hf, η, S, q⟩ => ⟨H0, Hf0, Hf, η, S, q.bindI.imp fun v H1 ⟨Hf1, d, x1, w1, p1⟩ => ?_⟩
  cases d with
  | list ds =>
    obtain ⟨a, xs, rfl, hq, r⟩ := RpW.list_inv w1 x1.sub
    refine ⟨.inl ⟨rfl, xs, hq⟩, H0, Hf0, Hf1, η, S.step x1, p1.bindI.imp fun y H2 ⟨Hf2, dy, x2, w2, p2⟩ => ?_⟩
    have p2' : Post ec X.K W σ (ρV X.K) Q H2 Hf2 (if idxOk dy ds then match firstAt dy ds 0 with
      | some j => .ok (.int (j : Nat))
      | none => .bad else .bad) := p2
    by_cases hc : idxOk dy ds = true
    · rw [if_pos hc] at p2'
      obtain ⟨h1, h2, h3, h4⟩ := idxOk_of hc
      cases hf : firstAt dy ds 0 with
      | none => simp only [hf] at p2'; exact p2'.elim
      | some j =>
        simp only [hf] at p2'
        obtain ⟨k, z, e1, e2, e3, e4⟩ := firstAt_of hf
        rw [Nat.zero_add] at e1
        subst e1
        exact ⟨a, y, dy, ds, j, z, rfl, rfl, Rp.dp (.list ds) _ (by simpa [PyData.plain] using h4) ((RpW.ext w1 x2).full x2.sub), Rp.dp dy y h3 (w2.full x2.sub), h1, h2, e2, e3, e4, p2'.here x2.sub (.int _)⟩
    · rw [if_neg hc] at p2'; exact p2'.elim
  | _ => exact p1.elim
end

/-! ### a def that calls itself: at level 0 nothing is promised -/
theorem fok_bad {ec : EC} {P : Program} {w : World} {K : PySem.W.Frag} {mg : Str → Option Value} {base : Heap} {x : Str} {params : Arguments} {bd : List Stmt} {scope : Scope} {N ps : List Str} {fd : FuncData} {k : Nat} {m : List PyData → R PyData}
    (F : FunD K x x params bd scope [] [] (He.ga K x) fd) (at_ : mg x = some (.ref (He.ga K x))) (S : FnScope N ps scope)
    (hb : ∀ (kV doc pm : Value) (an : Option Addr) (cdv ct : Value) (us : List Value), us.length = ps.length → bindArgs (PySem.W.fnOf x x params bd scope .none kV doc pm an cdv ct) ⟨us, []⟩ = pure (ps.zip us))
    (hm : ∀ ds, m ds = .bad) : FOk ec P w K mg base k x ps.length m :=
  have z : ∀ {vs : List V} {H : Hp} {Q : VK} {E : XK}, ¬ spD ec K ps.length m vs H Q E := fun ⟨_, _, _, _, _, p⟩ => by rw [hm] at p; exact p
  ⟨⟨fd, ps, rfl, ⟨fun _ _ _ _ h => (z h).elim, fun _ _ _ _ _ _ _ _ _ _ _ _ _ h => (z h).elim⟩, F.bindsN hb⟩, F.kp, at_⟩
/-- a def's promise, its function object named -/
theorem fnok_of {ec : EC} {P : Program} {w : World} {K : PySem.W.Frag} {mg : Str → Option Value} {base : Heap} {x : Str} {params : Arguments} {bd : List Stmt} {scope : Scope} {N ps : List Str} {fd : FuncData} {k : Nat} {m : List PyData → R PyData} {g : DEnv → Fl} {O' : List Nat}
    (F : FunD K x x params bd scope [] [] (He.ga K x) fd) (S : FnScope N ps scope)
    (body : ∀ (cdv : Value) (A : Around) (outer : List Env) (s : Shared) (H : Hp) (E : XK), Room k (cxOf (L2.CX P w) P w K mg base N x scope (He.ga K x) cdv A outer s H E).A →
      Takes (cxOf (L2.CX P w) P w K mg base N x scope (He.ga K x) cdv A outer s H E) (fun c d _ H => E c d H) →
      PassesOwn (model P w) (cxOf (L2.CX P w) P w K mg base N x scope (He.ga K x) cdv A outer s H E).A (cxOf (L2.CX P w) P w K mg base N x scope (He.ga K x) cdv A outer s H E).env (cxOf (L2.CX P w) P w K mg base N x scope (He.ga K x) cdv A outer s H E).xe →
      DSs ec (cxOf (L2.CX P w) P w K mg base N x scope (He.ga K x) cdv A outer s H E) (fun c d _ H => E c d H) [] O' bd g)
    (hm : ∀ ds, ds.length = ps.length → m ds = runF (g (startD N ds))) : FnOk P w K mg base (L2.CX P w) (k + 1) (He.ga K x) fd ps (spD ec K ps.length m) := by
  refine F.ok S (fun vs H Q E ⟨Hf, ds, hs, r, hl, p⟩ => r.length.trans hl) fun cdv A outer s H vs Q E hr ⟨Hf, ds, hs, r, hl, p⟩ => ⟨_, body cdv A outer s H E hr (takes_of rfl rfl rfl rfl) (passes_of rfl), H, Hf, Hf, startD N ds, start_sr hs r, ?_⟩
  rw [hm ds hl] at p
  cases q : g (startD N ds) with
  | nx η => rw [q] at p; exact fun _ H' Hf' T => p .non H' Hf' T.ext .non
  | rt d => rw [q] at p; exact p
  | ex c fl η => rw [q] at p; exact fun _ H' Hf' cls d T r' => p H' Hf' cls d T.ext r'
  | bad => rw [q] at p; exact p
end DL
end

section
set_option Elab.async false
set_option linter.all false
set_option maxRecDepth 100000
set_option maxHeartbeats 4000000
namespace DL
open PySem PySem.Spec PyProof.Rows L2

/-! ### own exception classes with a field -/
def oexB (K : PySem.W.Frag) (C : Addr) : Bool := (match K.lookup C with
  | some ⟨.type "type", _, .cls cd, sl⟩ => (match cd.mro, sl.toList with
    | .ref C' :: bm, [_, _, _, _, some (.builtin n), _] => C' == C && n == "ValueError.__new__" && !cd.hasDel && cd.hasDict && PySem.HandSPX.refsVE bm
    | _, _ => false)
  | _ => false) && decide (PySem.W.findIn K (.ref C) "__setattr__" = some (some (.builtin "object.__setattr__"))) && decide (PySem.W.subIn K (.ref C) (.type "BaseException") = some true) &&
  decide (PySem.W.typeIn K (.ref C) = some (.type "type")) && PySem.W.keepIn K (.ref C)
theorem oexB_ok {K : PySem.W.Frag} {C : Addr} (q : oexB K C = true) : OexC K C := by
  unfold oexB at q
  simp only [Bool.and_eq_true, decide_eq_true_eq] at q
  obtain ⟨⟨⟨⟨q, q1⟩, q2⟩, q3⟩, q4⟩ := q
  refine ⟨?_, q1, q2, q3, q4⟩
  split at q
  · rename_i dd cd sl ho
    split at q
    · rename_i C' bm k0 k1 k2 k3 n k5 hm hs
      simp only [Bool.and_eq_true, beq_iff_eq, Bool.not_eq_true'] at q
      obtain ⟨⟨⟨⟨e1, e2⟩, e3⟩, e4⟩, e5⟩ := q
      obtain ⟨nm, bs, mro, ns, qn, hd, sn, sub, ab, col, del⟩ := cd
      dsimp only at hm e3 e4
      subst hm e1 e2 e3 e4
      have hsl : sl = #[k0, k1, k2, k3, some (.builtin "ValueError.__new__"), k5] := by
        obtain ⟨l⟩ := sl
        simp only at hs
        rw [hs]
      subst hsl
      exact ⟨nm, qn, ns, bs, bm, sn, sub, ab, col, dd, k0, k1, k2, k3, k5, ho, e5⟩
    · cases q
  · cases q
/-- what the text says of the class c, with the field f -/
structure ExcF (ec : EC) (K : PySem.W.Frag) (mg : Str → Option Value) (c f : String) : Prop where
  at_ : mg (Str.ofString c) = some (.ref (He.ga K (Str.ofString c)))
  oex : OexC K (He.ga K (Str.ofString c))
  ini : PySem.W.findIn K (.ref (He.ga K (Str.ofString c))) "__init__" = some (some (.ref (He.ma K (He.ga K (Str.ofString c)) "__init__")))
  ty : PySem.W.typeIn K (.ref (He.ma K (He.ga K (Str.ofString c)) "__init__")) = some (.type "function")
  no : PySem.W.findIn K (.ref (He.ga K (Str.ofString c))) (Str.ofString f) = some none
  ec : ec c = some (some (Str.ofString f))
def exfB (K : PySem.W.Frag) (c f : Str) : Bool := oexB K (He.ga K c) && decide (PySem.W.findIn K (.ref (He.ga K c)) "__init__" = some (some (.ref (He.ma K (He.ga K c) "__init__")))) &&
  decide (PySem.W.typeIn K (.ref (He.ma K (He.ga K c) "__init__")) = some (.type "function")) && decide (PySem.W.findIn K (.ref (He.ga K c)) f = some none)
theorem exfB_ok {ec : EC} {K : PySem.W.Frag} {mg : Str → Option Value} {c f : String} (q : exfB K (Str.ofString c) (Str.ofString f) = true) (at_ : mg (Str.ofString c) = some (.ref (He.ga K (Str.ofString c)))) (he : ec c = some (some (Str.ofString f))) : ExcF ec K mg c f := by
  unfold exfB at q
  simp only [Bool.and_eq_true, decide_eq_true_eq] at q
  exact ⟨at_, oexB_ok q.1.1.1, q.1.1.2, q.1.2, q.2, he⟩
/-- the base class, whose __init__ is ValueError's -/
structure ExcBs (K : PySem.W.Frag) (mg : Str → Option Value) (x : Str) : Prop where
  at_ : mg x = some (.ref (He.ga K x))
  rd : PySem.W.readsIn K (He.ga K x) (.type "type") = true
  ga : PySem.W.specialIn K (.ref (He.ga K x)) "__getattribute__" = some (some (.builtin "type.__getattribute__"))
  fc : PySem.W.findCls K (.ref (He.ga K x)) (.type "type") "__init__" = some (.val (.builtin "ValueError.__init__"))
def exbB (K : PySem.W.Frag) (x : Str) : Bool := PySem.W.readsIn K (He.ga K x) (.type "type") && decide (PySem.W.specialIn K (.ref (He.ga K x)) "__getattribute__" = some (some (.builtin "type.__getattribute__"))) &&
  (match PySem.W.findCls K (.ref (He.ga K x)) (.type "type") "__init__" with
    | some (.val (.builtin n)) => n == "ValueError.__init__"
    | _ => false)
theorem exbB_ok {K : PySem.W.Frag} {mg : Str → Option Value} {x : Str} (q : exbB K x = true) (at_ : mg x = some (.ref (He.ga K x))) : ExcBs K mg x := by
  unfold exbB at q
  simp only [Bool.and_eq_true, decide_eq_true_eq] at q
  refine ⟨at_, q.1.1, q.1.2, ?_⟩
  have q := q.2
  split at q
  · rename_i n e
    rw [e, beq_iff_eq.mp q]
  · cases q
section
variable {X : Cx} {e o : Expr} {es : List Expr} {ta : TA} {p1 p2 pos : Pos}
/-- B.__init__(self, ..), B such a base class -/
theorem pe_binit {x : Str} {pl : Sem Bool} (B : ExcBs X.K X.mg x) (hg : Gl X x) (ha : PA X (e :: es) ta)
    (hc : eval (.Call (.Attribute (.Name x p1) "__init__" p2) (e :: es) [] pos) X.env = (do
      let ov ← eval (.Name x p1) X.env
      standAt p2.atName
      let (f, first) ← holding [ov] (getMethod ov "__init__" pl)
      callWith pos f first (backTo pos (starEach (e :: es) X.env)) (backToKw pos (keywordEach [] X.env))) := by rfl)
    (hdb : (x == ("__debug__" : Str)) = false := by decide) (he : starEach (e :: es) X.env = (false, eval e X.env) :: starEach es X.env := by rfl) (hpl : (backTo pos (starEach es X.env)).any (·.1) = false := by rfl) :
    PE X (.Call (.Attribute (.Name x p1) "__init__" p2) (e :: es) [] pos) (tVeI X.K ta) := by
  refine ⟨fun pins s σ H Q I h => PySem.W.methodCall_KW (ld_glob I hg B.at_ ?_ hdb) hc⟩
  refine PySem.W.method_cls I.kIn B.ga (PySem.W.cls_value I.kIn B.rd B.fc (by decide +kernel) ?_)
  show wpAny _ _ (callWith pos (Value.builtin "ValueError.__init__") [] (backTo pos (starEach (e :: es) X.env)) []) _ _ _
  refine PyProof.Rows.callWith_method1 (thn (ha.run pos pins _ σ H _ (I.tok _) h) fun us s1 ⟨vs, H1, I1, r1, a, C, ws, ev, hl, T, ea, q⟩ => ?_) he hpl
  subst ev
  cases r1 with
  | cons ra rw' =>
    cases ra
    exact oinit_ok T I1 ea (by rw [← Paired.length rw', sizeLine_eq]; omega) fun s' J => ⟨.non, H1, J, rfl, q⟩
end
/-- what such an __init__ does: self.f = its argument -/
def spIni (C : Addr) (f : Str) : Sp := fun vs H Q _ => ∃ (a : Addr) (v : V), vs = [.ref a, v] ∧ H a = some (exo a C none) ∧ ∀ dx, H dx = none → dx ≠ a → Q .non (upd (upd H dx (exd dx [(f, v)])) a (exo a C (some dx)))
def InitOk (P : Program) (w : World) (K : PySem.W.Frag) (mg : Str → Option Value) (base : Heap) (c f : String) : Prop :=
  ∃ (fd : FuncData) (ps : List Str), FnOk P w K mg base CX0 1 (He.ma K (He.ga K (Str.ofString c)) "__init__") fd ps (spIni (He.ga K (Str.ofString c)) (Str.ofString f)) ∧ Binds K fd ps []
/-- def __init__(self, g): B.__init__(self, 'm'); self.f = g -/
theorem initOk_of {ec : EC} {P : Program} {w : World} {K : PySem.W.Frag} {mg : Str → Option Value} {base : Heap} {c f : String} {b q m x0 x1 : Str} {params : Arguments} {scope : Scope} {fd : FuncData} {j : Nat} {p1 p2 p3 p4 p5 p6 p7 p8 p9 p10 : Pos}
    (F : FunD K "__init__" q params [.Expr (.Call (.Attribute (.Name b p1) "__init__" p2) [.Name x0 p3, .Constant (.str m) j p4] [] p5) p6, .Assign [.Attribute (.Name x0 p7) (Str.ofString f) p8] (.Name x1 p9) p10] scope [] [] (He.ma K (He.ga K (Str.ofString c)) "__init__") fd)
    (B : ExcBs K mg b) (E : ExcF ec K mg c f) (S : FnScope [x0, x1] [x0, x1] scope)
    (hb : ∀ (kV doc pm : Value) (an : Option Addr) (cdv ct : Value) (us : List Value), us.length = [x0, x1].length → bindArgs (PySem.W.fnOf "__init__" q params [.Expr (.Call (.Attribute (.Name b p1) "__init__" p2) [.Name x0 p3, .Constant (.str m) j p4] [] p5) p6, .Assign [.Attribute (.Name x0 p7) (Str.ofString f) p8] (.Name x1 p9) p10] scope .none kV doc pm an cdv ct) ⟨us, []⟩ = pure ([x0, x1].zip us))
    (tree : ∀ (cdv : Value) (A : Around) (outer : List Env) (s : Shared) (H : Hp) (E : XK), PSs (cxOf CX0 P w K mg base [x0, x1] q scope (He.ma K (He.ga K (Str.ofString c)) "__init__") cdv A outer s H E)
      [.Expr (.Call (.Attribute (.Name b p1) "__init__" p2) [.Name x0 p3, .Constant (.str m) j p4] [] p5) p6, .Assign [.Attribute (.Name x0 p7) (Str.ofString f) p8] (.Name x1 p9) p10]
      (tSeq (tDrop (tVeI K (tCons (tVar 0) (tCons (tC (.str m)) tNil)))) (tOst K (Str.ofString f) (tVar 0) (tVar 1)))) : InitOk P w K mg base c f := by
  refine ⟨fd, [x0, x1], ?_, F.bindsN hb⟩
  refine F.ok S (fun vs H Q E ⟨a, v, h, _⟩ => by rw [h]; rfl) fun cdv A outer s H vs Q E' hr ⟨a, v, hv, ha, hq⟩ => ⟨_, tree cdv A outer s H E', ?_⟩
  subst hv
  refine ⟨.ref a, rfl, a, _, [.str m], rfl, by show 1 ≤ 1000; decide, E.oex, ha, v, rfl, .ref a, rfl, a, _, rfl, E.oex, E.no, .inl ⟨ha, fun dx n ne => hq dx n ne⟩⟩
section
variable {ec : EC} {X : Cx} {W : WX} {O O1 O' : List Nat} {e a b tg : Expr} {es : List Expr} {f fa fb : DEnv → R PyData} {g : DEnv → Fl} {pos : Pos}
def sRaiseF (c : String) (f : DEnv → R PyData) : DEnv → Fl := fun η => (f η).fl η fun d => .ex c (some d) η
theorem ds_raiseF {c fl : String} {k : Nat} {p pos' : Pos} (E : ExcF ec X.K X.mg c fl) (F : InitOk X.prog X.w X.K X.mg X.base c fl) (hc : X.calm = true) (hr : Room k X.A) (tk : Takes X W) (ha : DE ec X W O e f) (hk : 2 ≤ k := by decide) (hg : Gl X (Str.ofString c) := by rfl)
    (hdb : (Str.ofString c == ("__debug__" : Str)) = false := by decide) (he : starEach [e] X.env = (false, eval e X.env) :: starEach [] X.env := by rfl) (hpl : (backTo pos (starEach [] X.env)).any (·.1) = false := by rfl) :
    DS ec X W O O' (.Raise (some (.Call (.Name (Str.ofString c) p) [e] [] pos)) none pos') (sRaiseF c f) := by
  obtain ⟨fd, ps, F1, hb⟩ := F
  refine PS.imp (ps_raise hc tk (pmk_oex E.oex E.ini E.ty F1 (hr.mono hk) hb .nil pass0 hg E.at_ (pa_cons ha pa_nil he) hdb he hpl)) fun D σ H ⟨H0, Hf0, Hf, η, S, p⟩ => ⟨H0, Hf0, Hf, η, S, (PostS.exprI S p).imp fun v H1 ⟨Hf1, d, _, x1, r1, p1⟩ => ⟨by show 1 ≤ 1000; decide, fun a n => ⟨a, v, rfl, upd_same, fun dx nd ne => ⟨rfl, dx, [(Str.ofString fl, v)], upd_same, ?_, ?_, ?_⟩⟩⟩⟩
  · rw [upd_ne ne, upd_same]
  · rw [upd_ne ne] at nd; exact nd
  · have nd1 : H1 dx = none := by rw [upd_ne ne] at nd; exact nd
    have eh : upd (del (upd (upd (upd H1 a (exo a (He.ga X.K (Str.ofString c)) none)) dx (exd dx [(Str.ofString fl, v)])) a (exo a (He.ga X.K (Str.ofString c)) (some dx))) a) dx (.xd [(Str.ofString fl, v)]) = upd H1 dx (.xd [(Str.ofString fl, v)]) := by
      funext z
      by_cases hz : z = dx
      · rw [hz, upd_same, upd_same]
      · rw [upd_ne hz, upd_ne hz]
        by_cases ha' : z = a
        · rw [ha', del_same, n]
        · rw [del_ne ha', upd_ne ha', upd_ne hz, upd_ne ha']
    show W _ _ σ (upd (del _ a) dx _)
    rw [eh]
    have x2 := Ext.add x1.sub (o := .xd [(Str.ofString fl, v)]) nd1
    obtain ⟨Hf2, s, S2⟩ := ((S.step x1).step x2).less (O' := []) (fun i hi => by cases hi)
    exact p1 σ _ Hf2 _ _ S2 ⟨rfl, by rw [E.ec]; exact ⟨dx, v, rfl, s _ _ upd_same, r1.mono (x2.sf.trans s)⟩⟩
end
end DL
end

section
set_option Elab.async false
set_option linter.all false
set_option maxRecDepth 100000
set_option maxHeartbeats 4000000
namespace DL
open PySem PySem.Spec PyProof.Rows L2

/-! ### a caught exception, kept -/
theorem exK_ok {P : Program} {w : World} {H : Hp} {h : Heap} {a : Addr} {cls : Value} {d : Option Addr} {oe : Obj} {vs : Array Value} (e : h.get? a = some oe) (z : Zc cls d oe) (f : oe.data = .fields vs) : ObjOk P w H h a (exK a cls d) :=
  ⟨⟨oe, vs, e, z, f⟩, ⟨oe, e⟩, fun h1 h2 ⟨o, v, e1, e2, e3⟩ k => ⟨o, v, k o e1, e2, e3⟩⟩
/-- a thing that was not tracked is tracked from now on -/
theorem Inv.track {X : Cx} {pins : List (Addr × Obj)} {σ : St} {H : Hp} {s : Shared} {a : Addr} {o : HO} (I : L2.Inv X pins σ H s) (n : H a = none) (ok : ObjOk X.prog X.w (upd H a o) s.heap a o) (n0 : X.s_0.heap.get? a = none)
    (nl : a ≠ X.env.locals) (nc : ∀ v, ¬ s.heap.IsCell a v) (np : ∀ p ∈ X.pn ++ pins, p.1 ≠ a) : L2.Inv X pins σ (upd H a o) s := by
  have far : ∀ {b : Addr} {u : HO}, H b = some u → b ≠ a := fun q => ne_of_none q n
  refine ⟨I.ok, I.os, I.bare, ⟨I.base.keep, I.base.slot, fun b ob q m hx => ?_, I.base.there, fun b xs q => ?_, fun b ob u q => ?_, fun b ps q => ?_⟩, I.loc, I.cell, (upd_ne (Ne.symm nl)).trans I.free, fun x c hc => ?_, fun p hp => ?_, fun b u q => ?_, I.len⟩
  · rw [upd_ne (fun z => by rw [z, n0] at q; cases q)]
    exact I.base.free b ob q m hx
  · have q' := I.base.tups b xs q
    rw [upd_ne (far q')]; exact q'
  · have q' := I.base.frzs b ob u q
    rw [upd_ne (far q')]; exact q'
  · obtain ⟨more, q'⟩ := I.base.tbls b ps q
    exact ⟨more, by rw [upd_ne (far q')]; exact q'⟩
  · obtain ⟨v, hv⟩ := I.cell x c hc
    rw [upd_ne (fun z => nc v (by rw [← z]; exact hv))]
    exact I.freeC x c hc
  · obtain ⟨e1, e2, e3⟩ := I.pin p hp
    exact ⟨e1, by rw [upd_ne (np p hp)]; exact e2, e3⟩
  · by_cases hb : b = a
    · subst hb
      rw [upd_same] at q
      cases q
      exact ok
    · rw [upd_ne hb] at q
      exact (I.hok b u q).stay (fun _ _ _ z => z) (fun c hc => by rw [upd_ne (far hc)]; exact hc) (fun c xs hc => by rw [upd_ne (far hc)]; exact hc)

/-- what the clause 'except x as n: y = n' wishes of an exception of the body -/
def wKeep (K : PySem.W.Frag) (c : Value) (i j : Nat) (Wout : WX) (D : Ends) : WX := fun cls d σ H => ∃ b, PySem.W.exmOne K cls c = some b ∧
  (b = true → ∀ a, H a = none → D.nx (((σ.set i (some (.ref a))).set j (some (.ref a))).set i none) (upd H a (exK a cls d))) ∧ (b = false → Wout cls d σ H)
theorem notFrame {l : List Env} {B h : Heap} {a : Addr} {o : Obj} {vs : Array Value} (ff : h.FunFrames B l) (e : h.get? a = some o) (dd : o.data = .fields vs) : a ∉ frs l := fun hm => by
  obtain ⟨_, o', e', hnf⟩ := ff.mem hm
  rw [e] at e'
  cases e'
  exact hnf _ dd
section
variable {X : Cx} {x n y : Str} {c : Value} {i j : Nat} {body : List Stmt} {np yp mp ap pos pos' : Pos} {tb : WX → TS} {Wout : WX}
theorem ps_try_keep (hex : X.ex = []) (hs : X.stack = X.env :: X.outer) (hf : X.env.frame = some X.env.locals) (hN : X.N.Nodup) (hi : X.N[i]? = some n) (hj : X.N[j]? = some y) (hln : X.env.kindOf n = some .local) (hly : Loc X.env.scope y) (hc : Names X x c) (tk : Takes X Wout)
    (hsw : swapsWith (.Name n mp) (some (.Name y yp)) ap.line X.env = pure false) (hfy : X.fn y = true ∨ X.env.scope.names.lookup y = some .local) (hd : (n == ("__debug__" : Str)) = false) (hcd : (n == ("__classdict__" : Str)) = false)
    (hb : ∀ (W : WX) (pn : List (Addr × Obj)) (xe : Value → Shared → Prop), Takes (X.tr pn xe) W → PassesOwn (model X.prog X.w) X.A X.env xe → PSs (X.tr pn xe) body (tb W)) :
    PS X (.Try body [.ExceptHandler (some (.Name x np)) (some n) [.Assign [.Name y yp] (.Name n mp) ap] pos'] [] [] pos) (fun D σ H => tb (wKeep X.K c i j Wout D) D σ H) := by
  refine ⟨fun pins s σ H D I h => wpAny_Try_except ?_⟩
  have good := I.ok
  have hfr : X.A.frames = some (X.env :: X.outer) := by rw [good.frames, hs]
  have hloc : Loc X.env.scope n := .inl hln
  refine wpAny_mono ((hb (wKeep X.K c i j Wout D) (X.pn ++ pins) (fun e s₁ => wpAny (model X.prog X.w) X.A (noteFrame e X.env) (fun _ s₂ => wpAny (model X.prog X.w) X.A (setFlight e none) (fun _ s₃ =>
    wpAny (model X.prog X.w) X.A (handleBy e X.env [.ExceptHandler (some (.Name x np)) (some n) [.Assign [.Name y yp] (.Name n mp) ap] pos']) (SP X pins D) X.xe s₃) X.xe s₂) X.xe s₁) (fun u t xx => ?_) PassesOwn.looking).run [] s σ H D (I.toTry _) h) (fun fl s1 hsp => ?_) (fun e s1 he => he)
  · obtain ⟨a, G, sI, pins', τ, H', cls, d, rfl, J', nb, up, sky, na, os, ag, b, hb1, hyes, hno⟩ := xx
    have J : L2.Inv X pins τ H' sI := J'.ofTry good
    have sky2 : Sky G (X.env :: X.outer) a (Zc cls d) X.env.locals t.heap := by rw [← hs]; exact sky
    have hGa : G.get? a = none := by
      rcases sky with q | q | q
      · exact q.2.1
      · exact q.2.1
      · exact q.2.1
    show wpAny _ _ (noteFrame (.ref a) X.env) _ _ _
    refine Sky.land Zc.steady hfr hf sky2 fun k3 fl3 up3 => ?_
    have J3 : L2.Inv X pins τ H' { t with heap := k3 } := J.landed nb fl3.1 (up.trans up3) os ag
    obtain ⟨o3, v3, he3, hz3, hd3⟩ := fl3.there
    have nfr : a ∉ frs (X.env :: X.outer) := notFrame fl3.2.2.1 he3 hd3
    have nL : a ≠ X.env.locals := fun z => nfr (List.mem_filterMap.mpr ⟨X.env, List.mem_cons_self, by rw [hf, z]⟩)
    have nF : a ∉ X.fs := fun hm => nfr (by
      obtain ⟨e, he, q⟩ := List.mem_filterMap.mp hm
      exact List.mem_filterMap.mpr ⟨e, List.mem_cons_of_mem _ he, q⟩)
    have nI : sI.heap.get? a = none := by
      cases q : sI.heap.get? a with
      | none => rfl
      | some o =>
        have q2 := nb a o q (by rw [hs]; exact nfr)
        rw [hGa] at q2
        cases q2
    refine wpAny_handleBy_cons (codeAny_handlers_test ?_) (by intro q; cases q)
    have LM := PySem.W.exm_one (M := model X.prog X.w) J3.kIn (show PySem.W.Looks (model X.prog X.w) k3 (typeOf (.ref a)) cls from fun A Q E s k q => wpAny_typeOf_ref (k _ _ he3) (by rw [hz3.1]; exact q)) hb1
    have S3 := J3.suite he3 hd3 na nL nF
    have test : ∀ {Q E : Value → Shared → Prop}, Q c { t with heap := k3 } → wpAny (model X.prog X.w) (X.A.mark (some (.ref a))) (eval (.Name x np) X.env) Q E { t with heap := k3 } := fun {Q E} q => by
      obtain ⟨hg, hdbg, hm | ⟨hm, hv, hnn⟩⟩ := hc
      · exact ld_glob (X := X.suite a ((a, o3) :: (X.pn ++ pins))) S3 hg hm q hdbg
      · exact ld_blt (X := X.suite a ((a, o3) :: (X.pn ++ pins))) S3 hg hm hv q hnn hdbg
    refine test (LM.here ?_)
    cases b with
    | true =>
      refine codeAny_handlers_suite_as (HandSPX.lands_againZ fl3 fun k4 fl4 up4 => ?_)
      have J4 : L2.Inv X pins τ H' { t with heap := k4 } := J.landed nb fl4.1 ((up.trans up3).trans up4) os ag
      obtain ⟨o4, v4, he4, hz4, hd4⟩ := fl4.there
      have S4 := J4.suite he4 hd4 na nL nF
      refine store_ok (X := X.suite a ((a, o4) :: (X.pn ++ pins))) (v := .ref a) S4 hN hi hloc rfl (fun s5 S5 => ?_) (.inr hln)
      have hil : i < τ.length := by rw [J.len]; exact (List.getElem?_eq_some_iff.mp hi).1
      have suite : PSs (X.suite a ((a, o4) :: (X.pn ++ pins))) [.Assign [.Name y yp] (.Name n mp) ap] (tAsg (tVar i) (gName j)) := pss_one (ps_set (i := j) hN hj hly (pe_var hi (.inl hln) hd hcd) hsw hfy)
      refine wpAny_mono (suite.run [] s5 _ H' { nx := fun σ6 H6 => σ6 = (τ.set i (some (.ref a))).set j (some (.ref a)) ∧ H6 = H', rt := fun _ _ => False } S5 ⟨.ref a, List.getElem?_set_self hil, rfl, rfl⟩) (fun fl s6 hsp => ?_) (fun _ _ z => False.elim z)
      cases fl with
      | next =>
        obtain ⟨σ6, H6, S6, rfl, rfl⟩ := hsp
        have hp6 : s6.heap.get? a = some o4 := (S6.pin (a, o4) (List.mem_append_left _ List.mem_cons_self)).1
        have J6 := S6.unsuite good
        have T6 : L2.Inv X pins ((τ.set i (some (.ref a))).set j (some (.ref a))) (upd H6 a (exK a cls d)) s6 := by
          refine Inv.track J6 na (exK_ok hp6 hz4 hd4) ?_ nL (fun v hv => ?_) (fun p hp e => ?_)
          · cases q : X.s_0.heap.get? a with
            | none => rfl
            | some o =>
              exfalso
              obtain ⟨o', q'⟩ := J.base.there a o q (by rw [hex]; exact List.not_mem_nil)
              rw [nI] at q'
              cases q'
          · obtain ⟨o', e1, e2⟩ := hv
            rw [hp6] at e1
            cases e1
            rw [hd4] at e2
            cases e2
          · have e1 := (J.pin p hp).1
            rw [e, nI] at e1
            cases e1
        exact gone_ok T6 hN hi hln fun s7 J7 => ⟨_, _, J7, hyes rfl a na⟩
      | brk =>
        obtain ⟨σ6, H6, S6, q6⟩ := hsp
        exact q6.elim
      | cont =>
        obtain ⟨σ6, H6, S6, q6⟩ := hsp
        exact q6.elim
      | ret u =>
        obtain ⟨v6, σ6, H6, S6, r6, q6⟩ := hsp
        exact q6.elim
    | false =>
      show wpAny _ X.A (handleBy (.ref a) X.env []) _ _ _
      obtain ⟨k1, k2, k5, oe, vs, T, oT, ts', he, hz, hd', h1, hr⟩ := id fl3
      refine wpAny_handleBy_nil ?_
      unfold PySem.passOn
      refine wpAny_bind (wpAny_field he hd' h1 ?_)
      rw [if_neg (show ¬ ((Value.ref T == Value.none) = true) from by simp)]
      have fin : wpAny (model X.prog X.w) X.A (setFlight (.ref a) X.env.frame) (fun _ s4 => wpAny (model X.prog X.w) X.A (throw (.ref a) : Sem Flow) (SP X pins D) X.xe s4) X.xe { t with heap := k3 } := by
        rw [hf]
        exact HandSPX.setFlight_upZ fl3 fun k4 hh4 up4 => wpAny_throw (tk _ _ ⟨a, G, sI, pins, τ, H', cls, d, rfl, J, nb, (up.trans up3).trans up4, .inr (.inr (by rw [hs]; exact hh4)), na, os, ag, hno rfl⟩)
      first
        | exact wpAny_bind (wpAny_pure (wpAny_bind fin))
        | exact wpAny_bind fin
  · cases fl with
    | next => obtain ⟨σ1, H1, J1, q⟩ := hsp; exact wpAny_execs_nil ⟨σ1, H1, J1.ofTry good, q⟩
    | brk => obtain ⟨σ1, H1, J1, q⟩ := hsp; exact ⟨σ1, H1, J1.ofTry good, q⟩
    | cont => obtain ⟨σ1, H1, J1, q⟩ := hsp; exact ⟨σ1, H1, J1.ofTry good, q⟩
    | ret u => obtain ⟨v, σ1, H1, J1, r, q⟩ := hsp; exact ⟨v, σ1, H1, J1.ofTry good, r, q⟩
end
end DL
end

section
set_option linter.all false
set_option maxRecDepth 100000
set_option maxHeartbeats 4000000
namespace DL
open PySem PySem.Spec PyProof.Rows L2
open PySem.W PySem.Calls
/-! ### isinstance of a kept exception -/
theorem findObj_dataG {K : Frag} {C : Addr} {od : Option Obj} {name : Str} {a g : Value} (hc : (clsIn K C).isSome = true) (ha : findIn K (.ref C) name = some (some a)) (hg : specialIn K a "__get__" = some (some g)) (ht : takesIn K a = some true) : findObj K C od name = some (.bind g a) := by
  cases od with
  | none => exact findObj_dataN hc ha hg ht
  | some o => exact findObj_data hc ha hg ht
section
variable {prog : Program} {w : World} {A : Around} {E : Value → Shared → Prop} {s : Shared} {K : Frag} {x D : Addr} {ox : Obj} {od : Option Obj}
theorem exc_class {Q : Option Value → Shared → Prop} (T : L2.ExcC K D) (X : K.In s.heap) (I : InstAt s.heap x ox D od) (h : Q (some (.ref D)) { s with toks := s.toks + 1 }) : wpAny (model prog w) A (getAttr? (.ref x) "__class__") Q E s := by
  have hf : findObj K D od "__class__" = some (.bind (.builtin "getset_descriptor.__get__") (.builtin "object.__class__")) := findObj_dataG (by obtain ⟨cd, hc, _⟩ := any_some T.hd; rw [hc]; rfl) T.ha T.hn T.ht
  obtain ⟨hp, g, d, t, os⟩ := s
  have LT := I.type (M := model prog w); have LG := looks_findIn (M := model prog w) X T.hg; have LK := looks_findIn (M := model prog w) X T.hk; have LF := looks_find (M := model prog w) X I hf
  have sub : Looks (model prog w) hp (isInstance (.ref x) (.type "BaseException")) true := LT.andThen (looks_subIn X T.hs)
  have e0 : (Value.builtin "BaseException.__getattribute__" == Value.builtin "object.__getattribute__") = false := by decide +kernel
  unfold getAttr? getAttrBy? getAttrBy
  refine wpAny_bind (wpAny_mkText (wpAny_bind (wpAny_attempt (wpAny_holding (wpAny_bind (LT.at (wpAny_bind (LG.at ?_))))))))
  show wpAny _ _ (if (onTheHeap (Value.ref D) && Value.builtin "BaseException.__getattribute__" == Value.builtin "object.__getattribute__") = true then _ else _) _ _ _
  rw [show (onTheHeap (Value.ref D) && Value.builtin "BaseException.__getattribute__" == Value.builtin "object.__getattribute__") = false from by rw [e0]; rfl, if_neg Bool.false_ne_true]; unfold getAttrByItsOwn hookBefore; refine wpAny_bind ?_
  rw [if_pos (show onTheHeap (Value.ref D) = true from rfl)]; refine LK.at ?_; refine wpAny_bind (wpAny_attempt (wpAny_holding ?_)); unfold callGetattribute
  rw [show (false && onTheHeap (Value.builtin "BaseException.__getattribute__")) = false from rfl, if_neg Bool.false_ne_true]; unfold boundAndCalled; rw [PySem.F.excAttr_ValueError.ga.bind (.ref x)]; refine wpAny_bind (wpAny_pure ?_)
  show wpAny _ _ (call (.builtin "BaseException.__getattribute__") [.ref x, .str "__class__" t]) _ _ _
  refine wpAny_call (codeAny_call_builtin PySem.F.excAttr_ValueError.ga.plain PySem.F.entry_bexc_ga (@check_slot (model prog w) _ _ ⟨hp, g, d, t + 1, os⟩ "BaseException.__getattribute__" "BaseException" "__getattribute__" (.ref x) [.str "__class__" t] [] _ (by decide +kernel) (by decide +kernel) sub (PySem.F.args_bexc_ga (.ref x) (.str "__class__" t)) ?_))
  unfold Builtin.«object.__getattribute__»
  refine wpAny_bind (wpAny_of_eq (a := ((Value.ref x : Value), [Value.str "__class__" t])) (by first | rfl | (simp only [slotArgs]; rfl)) (wpAny_bind (wpAny_pure (wpAny_bind (LT.at (wpAny_bind (LF.at ?_)))))))
  show wpAny _ _ (holding [Value.builtin "object.__class__"] (call (.builtin "getset_descriptor.__get__") [.builtin "object.__class__", .ref x, .ref D]) >>= ret) _ _ _
  refine wpAny_bind (wpAny_holding (wpAny_call (class_get (s := ⟨hp, g, d, t + 1, os⟩) (ox := ox) (od := od) X I T.hm (wpAny_pure ?_))))
  show wpAny _ _ (handedOut (.ref D)) _ _ _; rw [handedOut_of (v := .ref D) rfl]
  first
    | exact wpAny_pure (wpAny_pure h)
    | exact wpAny_pure h
    | exact wpAny_pure (wpAny_bind (wpAny_pure (wpAny_pure h)))
theorem exc_kit (T : L2.ExcC K D) : KitX K (.ref x) (.ref D) (fun h => ∃ ox od, InstAt h x ox D od) := by
  obtain ⟨cdD, hcD, _⟩ := any_some T.hd
  unfold clsIn at hcD
  split at hcD
  · rename_i c' d' cd' sl' ho
    exact ⟨fun _ _ _ ⟨_, _, I⟩ => I.type, fun _ _ X _ A' Q' E' s' k q => by unfold isType loadHead; exact wpAny_bind (wpAny_loadPart (k _ _ (X _ _ ho)) (wpAny_pure q)),
      fun h tp dd its n sl X htp => Bool.eq_false_iff.mpr (fun q => by
        have e : D = tp := Value.ref.inj (beq_iff_eq.mp q)
        rw [← e, X _ _ ho] at htp
        cases htp), fun X ⟨_, _, I⟩ k => exc_class T X I k⟩
  · cases hcD
end

/-! ### try: BODY except B as n: y = n -/
abbrev ExcMt (K : PySem.W.Frag) (ec : EC) (b : Value) : Prop := ∀ c, ec c ≠ none → PySem.W.exmOne K (.ref (He.ga K (Str.ofString c))) b = some true
/-- the exception's data: its class, its field's name and value -/
def exDat (ec : EC) (c : String) (fl : Option PyData) : PyData := match ec c, fl with
  | some (some f), some x => excD (Str.ofString c) (some (f, x))
  | _, _ => excD (Str.ofString c) none
def sTry (ec : EC) (i j : Nat) (g : DEnv → Fl) : DEnv → Fl := fun η => match g η with
  | .ex c fl η' => .nx (((η'.set i none).set j (some (exDat ec c fl))).set i none)
  | x => x
theorem exRep_rp {ec : EC} {K : PySem.W.Frag} {Hf H : Hp} {cls : Value} {d : Option Addr} {c : String} {fl : Option PyData} {a : Addr} (x : ExRep ec K Hf H cls d c fl) (s : Same Hf H) (n : H a = none) :
    ∃ Hf', Ext H Hf (upd H a (exK a cls d)) Hf' ∧ Rp K Hf' (.ref a) (exDat ec c fl) := by
  obtain ⟨rfl, x2⟩ := x
  unfold exDat
  cases he : ec c with
  | none => rw [he] at x2; cases fl <;> exact x2.elim
  | some o =>
    rw [he] at x2
    cases o with
    | none => cases fl with
      | none =>
        subst x2
        exact ⟨_, Ext.add s n, .exc0 upd_same⟩
      | some z => exact x2.elim
    | some f => cases fl with
      | none => exact x2.elim
      | some z =>
        obtain ⟨da, v, rfl, q2, q3⟩ := x2
        have x := Ext.add s (o := exK a (.ref (He.ga K (Str.ofString c))) (some da)) n
        exact ⟨_, x, .exc1 upd_same (x.sf _ _ q2) (q3.mono x.sf)⟩
section
variable {ec : EC} {X : Cx} {W : WX} {O O1 O' : List Nat} {e a b tg : Expr} {es : List Expr} {f fa fb : DEnv → R PyData} {g : DEnv → Fl} {pos : Pos}
/-- a slot is forgotten -/
theorem SR.drop {K : PySem.W.Frag} {H0 Hf0 H Hf : Hp} {η : DEnv} {σ : St} (S : SR K H0 Hf0 [] η σ H Hf) (i : Nat) : SR K H0 Hf0 [] (η.set i none) (σ.set i none) H Hf where
  len := by rw [List.length_set, List.length_set]; exact S.len
  ext := S.ext
  val := fun j d h e => by
    by_cases hj : i = j
    · subst hj
      rw [List.getElem?_set] at e
      simp only [if_true] at e
      split at e <;> cases e
    · rw [List.getElem?_set_ne hj] at e ⊢
      exact S.val j d h e
  own := fun _ _ h => by cases h
  dis := fun _ _ _ _ _ h => by cases h
theorem ds_try {x n y : Str} {i j : Nat} {body : List Stmt} {np yp mp ap pos' : Pos} (hb : ∀ (W' : WX) (pn : List (Addr × Obj)) (xe : Value → Shared → Prop), Takes (X.tr pn xe) W' → PassesOwn (model X.prog X.w) X.A X.env xe → DSs ec (X.tr pn xe) W' O O1 body g)
    (hm : X.mg x = some (.ref (He.ga X.K x))) (mt : ExcMt X.K ec (.ref (He.ga X.K x))) (hN : X.N.Nodup) (tk : Takes X W) (hij : i ≠ j := by decide)
    (hg : Gl X x := by rfl) (hdx : (x == ("__debug__" : Str)) = false := by decide) (hex : X.ex = [] := by rfl) (hs : X.stack = X.env :: X.outer := by rfl) (hf : X.env.frame = some X.env.locals := by rfl) (hi : X.N[i]? = some n := by rfl) (hj : X.N[j]? = some y := by rfl)
    (hln : X.env.kindOf n = some .local := by rfl) (hly : Loc X.env.scope y := by first | exact Or.inl rfl | exact Or.inr rfl)
    (hsw : swapsWith (.Name n mp) (some (.Name y yp)) ap.line X.env = pure false := by rfl) (hfy : X.fn y = true ∨ X.env.scope.names.lookup y = some .local := by first | exact .inl rfl | exact .inr rfl) (hd : (n == ("__debug__" : Str)) = false := by decide) (hcd : (n == ("__classdict__" : Str)) = false := by decide) :
    DS ec X W O [] (.Try body [.ExceptHandler (some (.Name x np)) (some n) [.Assign [.Name y yp] (.Name n mp) ap] pos'] [] [] pos) (sTry ec i j g) := by
  refine PS.imp (ps_try_keep (i := i) (j := j) (Wout := W) hex hs hf hN hi hj hln hly ⟨hg, hdx, .inl hm⟩ tk hsw hfy hd hcd (tb := fun W' => tS ec X.K W' O [] g) fun W' pn xe tk' ps' => dss_less (O1 := O) (O2 := O1) (O3 := []) (hb W' pn xe tk' ps') (fun _ h => h) (fun _ h => nomatch h)) fun D σ H ⟨H0, Hf0, Hf, η, S, p⟩ => ⟨H0, Hf0, Hf, η, S, ?_⟩
  unfold sTry at p
  cases q : g η with
  | nx η' =>
    rw [q] at p
    intro σ' H' Hf' S'
    obtain ⟨Hf2, _, S2⟩ := S'.less (O' := []) (fun i hi => by cases hi)
    exact p σ' H' Hf2 S2
  | rt d => rw [q] at p; exact p
  | bad => rw [q] at p; exact p
  | ex c fl η' =>
    rw [q] at p
    intro σ' H' Hf' cls d S' r
    have hc : ec c ≠ none := fun z => by
      obtain ⟨_, r2⟩ := r
      rw [z] at r2
      cases fl <;> exact r2
    refine ⟨true, by rw [r.1]; exact mt c hc, fun _ a n => ?_, fun z => by cases z⟩
    obtain ⟨Hf2, x2, rp⟩ := exRep_rp r S'.sub n
    have S2 := S'.step x2
    have S3 := (((S2.drop i).set (O := []) (i := j) (fun z => nomatch z) rp).drop i)
    refine p _ _ Hf2 ?_
    have e : ((σ'.set i (some (.ref a))).set j (some (.ref a))).set i none = ((σ'.set i none).set j (some (.ref a))).set i none := by
      rw [List.set_comm _ _ hij, List.set_set, List.set_comm _ _ hij, List.set_set]
    rw [e]
    exact S3

/-! ### isinstance(e, C), C an own class or an error's base; e.f -/
/-- the own exception classes' names -/
abbrev Kn (cs : List String) (c : Str) : Bool := cs.any fun s => Str.ofString s == c
theorem kn_of {cs : List String} {c : Str} (h : Kn cs c = true) : ∃ s ∈ cs, Str.ofString s = c := by
  obtain ⟨s, h1, h2⟩ := List.any_eq_true.mp h
  exact ⟨s, h1, beq_iff_eq.mp h2⟩
/-- what is asked of the class c: whether it is under C -/
structure IsF (K : PySem.W.Frag) (cs : List String) (C : Value) (sub : Str → Bool) : Prop where
  non : PySem.W.kitOne K (.type "NoneType") C = some false
  exc : ∀ s ∈ cs, L2.ExcC K (He.ga K (Str.ofString s)) ∧ PySem.W.kitOne K (.ref (He.ga K (Str.ofString s))) C = some (sub (Str.ofString s))
def dIsC (cs : List String) (sub : Str → Bool) : PyData → R PyData
  | .none => .ok (.bool false)
  | .dict ((.bool true, .str c) :: _) => if Kn cs c then .ok (.bool (sub c)) else .bad
  | _ => .bad
theorem rp_exc {K : PySem.W.Frag} {Hf : Hp} {v : V} {c : Str} {r : List (PyData × PyData)} (h : Rp K Hf v (.dict ((.bool true, .str c) :: r))) :
    ∃ a, v = .ref a ∧ ((Hf a = some (exK a (.ref (He.ga K c)) none) ∧ r = []) ∨ ∃ d f w x, Hf a = some (exK a (.ref (He.ga K c)) (some d)) ∧ Hf d = some (.xd [(f, w)]) ∧ Rp K Hf w x ∧ r = [(.str f, x)]) := by
  generalize hd : PyData.dict ((.bool true, .str c) :: r) = d at h
  cases h with
  | dK q kv =>
    cases kv with
    | nil => cases hd
    | @cons k _ _ _ _ _ _ => cases k <;> cases hd
  | dN _ _ _ _ _ _ _ es =>
    cases es with
    | nil => cases hd
    | @cons k _ _ _ _ _ _ _ hk _ _ _ _ =>
      obtain ⟨ks, rfl⟩ := hk
      simp only [NestedKey.data] at hd
      cases hd
  | fn z => cases hd
  | exc0 q => cases hd; exact ⟨_, rfl, .inl ⟨q, rfl⟩⟩
  | exc1 q q2 q3 => cases hd; exact ⟨_, rfl, .inr ⟨_, _, _, _, q, q2, q3, rfl⟩⟩
  | _ => cases hd
theorem own_exc {K : PySem.W.Frag} {H Hf : Hp} {p : Addr} {c : Str} {r : List (PyData × PyData)} (h : OwnAt K H Hf p (.dict ((.bool true, .str c) :: r))) : False := by
  rcases h with ⟨xs, ds', h, e, a⟩ | ⟨kvs, ds, h, e, a⟩ | ⟨_, _, _, ds, ks, _, _, _, hne, _, _, _, e, a⟩
  · cases e
  · injection e with e
    subst e
    generalize hd : (PyData.bool true, PyData.str c) :: r = d at a
    cases a with
    | nil => cases hd
    | @cons k _ _ _ _ _ _ => cases k <;> cases hd
  · injection e with e
    subst e
    generalize hd : (PyData.bool true, PyData.str c) :: r = d at a
    cases a with
    | nil => cases hd
    | @cons k _ _ _ _ _ _ _ hk _ _ _ _ =>
      obtain ⟨ks, rfl⟩ := hk
      simp only [NestedKey.data] at hd
      cases hd
theorem exc_inst {pins : List (Addr × Obj)} {σ : St} {H : Hp} {s : Shared} {a D : Addr} {d : Option Addr} (I : L2.Inv X pins σ H s) (h : H a = some (exK a (.ref D) d)) (hd : ∀ dd, d = some dd → ∃ fs, H dd = some (.xd fs)) :
    ∃ ox od, PySem.W.InstAt s.heap a ox D od ∧ ox.dict = d ∧ ∀ dd fs, d = some dd → H dd = some (.xd fs) → ∃ (o : Obj) (mA : Str → Option Value), od = some o ∧ (∀ f, RelO (fs.lookup f) (mA f)) ∧ ∀ f, PySem.W.lookIn f o = some (mA f) := by
  have x : ObjOk X.prog X.w H s.heap a (.ext fun h => ∃ oe vs, h.get? a = some oe ∧ Zc (.ref D) d oe ∧ oe.data = .fields vs) := I.hok a _ h
  obtain ⟨⟨oe, vs, e1, ⟨z1, z2⟩, e3⟩, _⟩ := x
  cases d with
  | none => exact ⟨oe, none, ⟨e1, z1, by unfold PySem.W.notCls; rw [e3] <;> rfl, by rw [z2]; trivial⟩, z2, fun _ _ z => by cases z⟩
  | some dd =>
    obtain ⟨fs, hfs⟩ := hd dd rfl
    obtain ⟨mA, hns, hr⟩ : ObjOk X.prog X.w H s.heap dd (.xd fs) := I.hok dd _ hfs
    obtain ⟨od, ho, hl⟩ := lookIn_ns hns
    refine ⟨oe, some od, ⟨e1, z1, by unfold PySem.W.notCls; rw [e3] <;> rfl, by rw [z2]; exact ho⟩, z2, fun d2 fs2 hd2 hf2 => ?_⟩
    cases hd2
    rw [hfs] at hf2
    cases hf2
    exact ⟨od, mA, rfl, hr, hl⟩
theorem de_isiV {p1 p2 : Pos} {t : Str} {cs : List String} {sub : Str → Bool} {cv : V} {C : Value} (hm : X.mg "isinstance" = none) (ha : DW ec X W O e f) (hb : PE X (.Name t p2) (tC cv)) (hcv : ∀ u, RelV cv u → u = C) (F : IsF X.K cs C sub) (hg : Gl X "isinstance" := by rfl)
    (he : starEach [e, .Name t p2] X.env = (false, eval e X.env) :: starEach [.Name t p2] X.env := by rfl) (he2 : starEach [.Name t p2] X.env = (false, eval (.Name t p2) X.env) :: starEach [] X.env := by rfl)
    (hpl : (backTo pos (starEach [.Name t p2] X.env)).any (·.1) = false := by rfl) :
    DE ec X W O (.Call (.Name "isinstance" p1) [e, .Name t p2] [] pos) (d1 (dIsC cs sub) f) := by
  refine ⟨fun pins s σ H Q I h => wpAny_Call_Name_kw (ld_blt I hg hm (by decide +kernel : bootBuiltins "isinstance" = some (.builtin "isinstance")) ?_)⟩
  obtain ⟨H0, Hf0, Hf, η, S, q⟩ := h
  refine PyProof.Rows.callWith_builtin1 (thn ((pa_cons ha (pa_cons hb pa_nil he2) he).run pos pins s σ H (fun vs H2 => ∃ v Hf2 d, vs = [v, cv] ∧ Ext H Hf H2 Hf2 ∧ RpW X.K H2 Hf2 v d ∧ Post ec X.K W σ (ρV X.K) Q H2 Hf2 (dIsC cs sub d)) I
    ⟨H0, Hf0, Hf, η, S, q.bindI.imp fun v H1 ⟨Hf1, d, x1, r1, p1⟩ => ⟨v, Hf1, d, rfl, x1, r1, p1⟩⟩) fun us s1 ⟨vs, H1, I1, r1, v, Hf1, d, e1, x1, w1, p1⟩ => ?_) he hpl
  subst e1
  cases r1 with
  | cons rx rr =>
    cases rr with
    | cons rt rr =>
      cases rr
      have ec' := hcv _ rt
      subst ec'
      cases d with
      | none =>
        have e := w1.none_inv
        subst e
        obtain ⟨P, Z, p, hx⟩ := kit_of I1 rx (.base .non)
        exact PySem.W.kia_one Z I1.kIn p F.non hx fun tk => ⟨.bl false, H1, I1.tok tk, rfl, p1.here x1.sub (.bl _)⟩
      | dict kvs =>
        cases kvs with
        | nil => exact p1.elim
        | cons kv r =>
          obtain ⟨k, z⟩ := kv
          cases k with
          | bool k =>
            cases k with
            | true =>
              cases z with
              | str c =>
                have p1' : Post ec X.K W σ (ρV X.K) Q H1 Hf1 (if Kn cs c then .ok (.bool (sub c)) else .bad) := p1
                by_cases hk : Kn cs c = true
                · rw [if_pos hk] at p1'
                  obtain ⟨sn, hs, rfl⟩ := kn_of hk
                  obtain ⟨a, rfl, hh⟩ := rp_exc (w1.full x1.sub)
                  cases rx
                  obtain ⟨T, e⟩ := F.exc sn hs
                  have J : ∃ ox od, PySem.W.InstAt s1.heap a ox (He.ga X.K (Str.ofString sn)) od := by
                    rcases hh with ⟨hh, _⟩ | ⟨d, f', w', x', hh, hd', _⟩
                    · obtain ⟨ox, od, J, _⟩ := exc_inst I1 hh (fun _ z => by cases z)
                      exact ⟨ox, od, J⟩
                    · obtain ⟨ox, od, J, _⟩ := exc_inst I1 hh (fun dd z => by cases z; exact ⟨_, hd'⟩)
                      exact ⟨ox, od, J⟩
                  exact PySem.W.kia_one (exc_kit T) I1.kIn J e (fun z => nomatch z) fun tk => ⟨.bl _, H1, I1.tok tk, rfl, p1'.here x1.sub (.bl _)⟩
                · rw [if_neg hk] at p1'; exact p1'.elim
              | _ => exact p1.elim
            | false => exact p1.elim
          | _ => exact p1.elim
      | _ => exact p1.elim
theorem de_isiO {p1 p2 : Pos} {t : Str} {cs : List String} {sub : Str → Bool} (hm : X.mg "isinstance" = none) (hm2 : X.mg t = some (.ref (He.ga X.K t))) (F : IsF X.K cs (.ref (He.ga X.K t)) sub) (ha : DW ec X W O e f) (hg2 : Gl X t := by rfl) (hdb2 : (t == ("__debug__" : Str)) = false := by decide) (hg : Gl X "isinstance" := by rfl)
    (he : starEach [e, .Name t p2] X.env = (false, eval e X.env) :: starEach [.Name t p2] X.env := by rfl) (he2 : starEach [.Name t p2] X.env = (false, eval (.Name t p2) X.env) :: starEach [] X.env := by rfl)
    (hpl : (backTo pos (starEach [.Name t p2] X.env)).any (·.1) = false := by rfl) : DE ec X W O (.Call (.Name "isinstance" p1) [e, .Name t p2] [] pos) (d1 (dIsC cs sub) f) :=
  de_isiV (cv := .ref (He.ga X.K t)) hm ha (pe_glob hg2 hm2 rfl hdb2) (fun _ r => r) F hg he he2 hpl
theorem de_isiB {p1 p2 : Pos} {t : Str} {T : String} {cs : List String} {sub : Str → Bool} (hm : X.mg "isinstance" = none) (hm2 : X.mg t = none) (hv2 : bootBuiltins t = some (.type T)) (F : IsF X.K cs (.type T) sub) (ha : DW ec X W O e f) (hg2 : Gl X t := by rfl) (hn2 : t ≠ "__name__" := by decide) (hdb2 : (t == ("__debug__" : Str)) = false := by decide) (hg : Gl X "isinstance" := by rfl)
    (he : starEach [e, .Name t p2] X.env = (false, eval e X.env) :: starEach [.Name t p2] X.env := by rfl) (he2 : starEach [.Name t p2] X.env = (false, eval (.Name t p2) X.env) :: starEach [] X.env := by rfl)
    (hpl : (backTo pos (starEach [.Name t p2] X.env)).any (·.1) = false := by rfl) : DE ec X W O (.Call (.Name "isinstance" p1) [e, .Name t p2] [] pos) (d1 (dIsC cs sub) f) :=
  de_isiV (cv := .ty T) hm ha (pe_bltn hg2 hm2 hv2 rfl hn2 hdb2) (fun _ r => r) F hg he he2 hpl
structure FldF (K : PySem.W.Frag) (cs : List String) (n : Str) : Prop where
  exc : ∀ s ∈ cs, XfC K (He.ga K (Str.ofString s)) ∧ PySem.W.findIn K (.ref (He.ga K (Str.ofString s))) n = some none
def dFld (cs : List String) (n : Str) : PyData → R PyData
  | .dict [(.bool true, .str c), (.str f, x)] => if Kn cs c ∧ f = n then .ok x else .bad
  | _ => .bad
theorem de_fld {n : Str} {cs : List String} (F : FldF X.K cs n) (he : DW ec X W O e f) (hb : attributeBase e n X.env (eval e X.env) = eval e X.env := by rfl) : DE ec X W O (.Attribute e n pos) (d1 (dFld cs n) f) := by
  refine ⟨fun pins s σ H Q I h => attr_of hb ?_⟩
  obtain ⟨H0, Hf0, Hf, η, S, q⟩ := h
  refine thn (he.run pins s σ H _ I ⟨H0, Hf0, Hf, η, S, q.bindI⟩) fun u s1 ⟨v, H1, I1, rx, Hf1, d, x1, w1, p1⟩ => ?_
  unfold dFld at p1
  split at p1
  · rename_i c f' x
    by_cases hk : Kn cs c = true ∧ f' = n
    · rw [if_pos hk] at p1
      obtain ⟨hk, rfl⟩ := hk
      obtain ⟨sn, hs, rfl⟩ := kn_of hk
      have r1 : Rp X.K Hf1 v (.dict [(.bool true, .str (Str.ofString sn)), (.str f', x)]) := by
        rcases w1 with w1 | ⟨p, rfl, _, w1⟩
        · exact w1
        · exact (own_exc w1).elim
      obtain ⟨T, hno⟩ := F.exc sn hs
      obtain ⟨a, rfl, hh⟩ := rp_exc r1
      cases rx
      rcases hh with ⟨_, z⟩ | ⟨d, g', w', x', hh, hd', rx', z⟩
      · cases z
      · cases z
        obtain ⟨ox, od, J, _, hl⟩ := exc_inst I1 (x1.sub _ _ hh) (fun dd z => by cases z; exact ⟨_, x1.sub _ _ hd'⟩)
        obtain ⟨o, mA, rfl, hr, hlk⟩ := hl d _ rfl (x1.sub _ _ hd')
        have l : List.lookup f' [(f', w')] = some w' := by simp [List.lookup]
        obtain ⟨u', hu, ru⟩ := RelO.some_of (v := w') (o := mA f') (by rw [← l]; exact hr f')
        exact HandSPX.exc_get I1.kIn J T.ga T.gg T.exC (PySem.W.findObj_own T.hdC hno rfl (by rw [hlk, hu])) (handed_of ru) ⟨w', H1, I1.tok _, ru, p1.here x1.sub rx'⟩
    · rw [if_neg hk] at p1; exact p1.elim
  · exact p1.elim
end

/-! ### the tests that the head makes for these -/
abbrev ECs := List (String × Option Str)
def ecOf (l : ECs) : EC := fun c => l.lookup c
theorem ecOf_mem {l : ECs} {c : String} (h : ecOf l c ≠ none) : c ∈ l.map (·.1) := by
  unfold ecOf at h
  induction l with
  | nil => exact absurd rfl h
  | cons p l ih =>
    rw [List.lookup_cons] at h
    by_cases hc : c = p.1
    · rw [hc]; exact List.mem_cons_self ..
    · rw [beq_false_of_ne hc] at h
      exact List.mem_cons_of_mem _ (ih h)
def exkB (K : PySem.W.Frag) (D : Addr) : Bool := decide (PySem.W.findIn K (.ref D) "__getattribute__" = some (some (.builtin "BaseException.__getattribute__"))) && decide (PySem.W.findIn K (.ref D) "__getattr__" = some none) &&
  decide (PySem.W.subIn K (.ref D) (.type "BaseException") = some true) && PySem.W.hasDictIn K D && decide (PySem.W.findIn K (.ref D) "__class__" = some (some (.builtin "object.__class__"))) &&
  decide (PySem.W.specialIn K (.builtin "object.__class__") "__get__" = some (some (.builtin "getset_descriptor.__get__"))) && decide (PySem.W.takesIn K (.builtin "object.__class__") = some true) && decide (PySem.W.mroIn K D (.type "object") = some true)
theorem exkB_ok {K : PySem.W.Frag} {D : Addr} (h : exkB K D = true) : L2.ExcC K D := by
  unfold exkB at h
  simp only [Bool.and_eq_true, decide_eq_true_eq] at h
  obtain ⟨⟨⟨⟨⟨⟨⟨h1, h2⟩, h3⟩, h4⟩, h5⟩, h6⟩, h7⟩, h8⟩ := h
  exact ⟨h1, h2, h3, h4, h5, h6, h7, h8⟩
def isB (K : PySem.W.Frag) (cs : List String) (C : Value) (sub : Str → Bool) : Bool := decide (PySem.W.kitOne K (.type "NoneType") C = some false) &&
  cs.all fun s => exkB K (He.ga K (Str.ofString s)) && decide (PySem.W.kitOne K (.ref (He.ga K (Str.ofString s))) C = some (sub (Str.ofString s)))
theorem isB_ok {K : PySem.W.Frag} {cs : List String} {C : Value} {sub : Str → Bool} (h : isB K cs C sub = true) : IsF K cs C sub := by
  unfold isB at h
  rw [Bool.and_eq_true, List.all_eq_true] at h
  refine ⟨of_decide_eq_true h.1, fun s hs => ?_⟩
  have q := h.2 s hs
  rw [Bool.and_eq_true] at q
  exact ⟨exkB_ok q.1, of_decide_eq_true q.2⟩
def fldB (K : PySem.W.Frag) (cs : List String) (n : Str) : Bool := cs.all fun s => xfB K (He.ga K (Str.ofString s)) && decide (PySem.W.findIn K (.ref (He.ga K (Str.ofString s))) n = some none)
theorem fldB_ok {K : PySem.W.Frag} {cs : List String} {n : Str} (h : fldB K cs n = true) : FldF K cs n := by
  unfold fldB at h
  rw [List.all_eq_true] at h
  refine ⟨fun s hs => ?_⟩
  have q := h s hs
  rw [Bool.and_eq_true] at q
  exact ⟨xfB_ok q.1, of_decide_eq_true q.2⟩
def mtB (K : PySem.W.Frag) (cs : List String) (b : Value) : Bool := cs.all fun s => decide (PySem.W.exmOne K (.ref (He.ga K (Str.ofString s))) b = some true)
theorem mtB_ok {K : PySem.W.Frag} {l : ECs} {b : Value} (h : mtB K (l.map (·.1)) b = true) : ExcMt K (ecOf l) b := fun c hc => of_decide_eq_true (List.all_eq_true.mp h c (ecOf_mem hc))
end DL
end

section
set_option Elab.async false
set_option linter.all false
set_option maxRecDepth 100000
set_option maxHeartbeats 4000000
/-! A set whose elements stand in the heap (tuples of any kind of key), up to 76 of them: what is found, what is put in. -/
namespace DS
open PySem PySem.Spec PyProof.Rows L2
section
variable {P : Program} {w : World} {K : Type} [DecidableEq K]
/-- what a set asks of its elements, beyond what a dict asks of its keys -/
structure Els (knd : HeapKind P w K) : Prop where
  st : knd.Stays
  ofA : ∀ {A : Around} {E : Value → Shared → Prop} {s : Shared} {k : K} {b : Addr} {Q : Bool → Shared → Prop}, knd.is s.heap k b → Q false s → wpAny (model P w) A (ofAClassStatement 8 (.ref b)) Q E s
  byV : ∀ {A : Around} {E : Value → Shared → Prop} {s : Shared} {k : K} {b : Addr} {Q : Bool → Shared → Prop}, knd.is s.heap k b → Q true s → wpAny (model P w) A (hashByValue 8 (.ref b)) Q E s
def rows (knd : HeapKind P w K) (L : List (Addr × K)) : List (Int × Value) := L.map fun p => (knd.hash p.2, Value.ref p.1)
abbrev hs (knd : HeapKind P w K) (L : List (Addr × K)) : List Int := L.map fun p => knd.hash p.2
theorem rows_len (knd : HeapKind P w K) (L : List (Addr × K)) : (rows knd L).length = L.length := List.length_map _
/-- at a stands the set of the elements L -/
structure SetH (knd : HeapKind P w K) (h : Heap) (a : Addr) (L : List (Addr × K)) (es : Array (Int × Value)) (ep : Nat) (t : SetTable) : Prop where
  ob : ∃ o, h.get? a = some o ∧ o.ExactSet ∧ o.data = .set es ep t
  rw_ : es.toList = rows knd L
  tab : TabOk t (hs knd L)
  nd : (L.map (·.2)).Nodup
  els : ∀ p ∈ L, knd.is h p.2 p.1
  pl : t.plain = true
  led : w.params.followText "set-order" = true ∨ t.led = true
  room : L.length * 5 < t.mask * 3
variable {knd : HeapKind P w K} {A : Around} {E : Value → Shared → Prop} {s : Shared} {a : Addr} {L : List (Addr × K)} {es : Array (Int × Value)} {ep : Nat} {t : SetTable}
theorem size_of {es : Array (Int × Value)} (h : es.toList = rows knd L) : es.size = L.length := by
  rw [← Array.length_toList, h, rows_len]
theorem fits_of (h1 : t.place.size = es.size) (h2 : t.dummies = #[]) (h3 : es.size ≤ t.mask) : t.fits es.size = true := by
  unfold SetTable.fits SetTable.fill
  rw [h2, Bool.and_eq_true, beq_iff_eq, decide_eq_true_eq]
  exact ⟨h1, by show t.place.size + 0 ≤ t.mask; omega⟩
theorem SetH.psz (R : SetH knd s.heap a L es ep t) : t.place.size = es.size := by
  rw [R.tab.sz, size_of R.rw_, List.length_map]
theorem SetH.fits (R : SetH knd s.heap a L es ep t) : t.fits es.size = true := by
  have := R.room
  have := size_of R.rw_
  exact fits_of R.psz R.tab.dm (by omega)
theorem SetH.at (R : SetH knd s.heap a L es ep t) {i : Nat} {p : Addr × K} (h : L[i]? = some p) : es[i]? = some (knd.hash p.2, Value.ref p.1) := by
  rw [← Array.getElem?_toList, R.rw_, rows, List.getElem?_map, h]; rfl
theorem SetH.few (R : SetH knd s.heap a L es ep t) : L.length ≤ 76 := by
  have := R.room
  rcases R.tab.mok with e | e | e <;> rw [e] at this <;> omega
/-- the n-th look of a search for the hash h -/
abbrev look (m : Nat) (h : Int) (n : Nat) : SetTable.Probe := nth m (runAt m (SetTable.bits h % (m + 1)) (SetTable.bits h)) n
theorem dummy_adv (m : Nat) (p : SetTable.Probe) (h : p.dummy = none) : (adv m p).dummy = none := by
  unfold adv; split <;> exact h
theorem dummy_nth (m : Nat) : ∀ (n : Nat) (p : SetTable.Probe), p.dummy = none → (nth m p n).dummy = none
  | 0, _, h => h
  | n + 1, p, h => dummy_nth m n _ (dummy_adv m p h)
/-- a search among such elements tells nothing to the program -/
theorem unseen (X : Els knd) {k : K} {b : Addr} (hk : knd.is s.heap k b) {ys : List Value} (hy : ∀ y ∈ ys, ∃ k' c, y = Value.ref c ∧ knd.is s.heap k' c) {Q : Bool → Shared → Prop} (h : Q false s) :
    wpAny (model P w) A (searchCouldBeSeen (.ref b) ys) Q E s := by
  unfold searchCouldBeSeen
  refine wpAny_bind (wpAny_forIn_list _ (fun rest r s' => r.1 = none ∧ s' = s ∧ ∀ y ∈ rest, ∃ k' c, y = Value.ref c ∧ knd.is s.heap k' c) _ ?_ ?_ _ _ ⟨rfl, rfl, hy⟩)
  · rintro v rest r s' ⟨_, rfl, hall⟩
    obtain ⟨k', c, rfl, hc⟩ := hall v (List.mem_cons_self ..)
    have more : ∀ y ∈ rest, ∃ k' c, y = Value.ref c ∧ knd.is s'.heap k' c := fun u hu => hall u (List.mem_cons_of_mem _ hu)
    dsimp only
    by_cases hv : (b == c || (carriedByValue (.ref b) && carriedByValue (.ref c))) = true
    · exact wp_if_pos hv (wpAny_pure ⟨rfl, rfl, more⟩)
    · refine wp_if_neg hv (wpAny_bind (knd.quiet hk ?_))
      simp only [Bool.not_true, Bool.false_eq_true, if_false]
      refine wpAny_bind (knd.quiet hc ?_)
      simp only [Bool.not_true, Bool.false_eq_true, if_false]
      refine wpAny_bind (X.ofA hk ?_)
      simp only [Bool.false_eq_true, if_false]
      refine wpAny_bind (X.ofA hc ?_)
      simp only [Bool.false_eq_true, if_false]
      exact wpAny_pure ⟨rfl, rfl, more⟩
  · rintro ⟨r1, r2⟩ s' ⟨hr, rfl, _⟩
    simp only at hr
    subst hr
    exact wpAny_pure h
/-- a search from its c-th look on; K0 is the first look at an empty slot -/
theorem seek (X : Els knd) (R : SetH knd s.heap a L es ep t) {x : Addr} {k : K} (hx : knd.is s.heap k x) (hu : knd.room A) {K0 : Nat} (hf : K0 < 10 * SetTable.turns t.mask)
    (he : way t.mask (knd.hash k) K0 ∉ t.place.toList) (hb : ∀ c, c < K0 → way t.mask (knd.hash k) c ∈ t.place.toList) {Q : SetFound → Shared → Prop}
    (yes : k ∈ L.map (·.2) → Q (.there none) s) (no : k ∉ L.map (·.2) → Q (.free (way t.mask (knd.hash k) K0) false) s) (f : Nat) :
    ∀ (c : Nat) (st : Option SetTable.Probe), st.getD (t.probeStart (knd.hash k)) = look t.mask (knd.hash k) c → c ≤ K0 → K0 - c < f →
      (∀ (i : Nat) p, L[i]? = some p → p.2 = k → ∃ d, c ≤ d ∧ d < K0 ∧ t.place.toList[i]? = some (way t.mask (knd.hash k) d)) →
      wpAny (model P w) A (setSearchFrom a (.ref x) (knd.hash k) true f st) Q E s := by
  induction f with
  | zero => intro c st _ _ hlt; exact absurd hlt (Nat.not_lt_zero _)
  | succ f ih =>
    intro c st hst hc hlt hre
    obtain ⟨o, ho, hex, hd⟩ := R.ob
    let hashAt : Nat → Int := fun i => (es[i]?.map (·.1)).getD 0
    have hA : ∀ (i : Nat) p, L[i]? = some p → hashAt i = knd.hash p.2 := fun i p hp => by show (es[i]?.map (·.1)).getD 0 = _; rw [R.at hp]; rfl
    have step : ∀ q, nth t.mask (look t.mask (knd.hash k) c) q = look t.mask (knd.hash k) (c + q) := fun q => (nth_add t.mask c _ q).symm
    have stepj : ∀ q, (nth t.mask (look t.mask (knd.hash k) c) q).j = way t.mask (knd.hash k) (c + q) := fun q => congrArg SetTable.Probe.j (step q)
    have hcK : c + (K0 - c) = K0 := by omega
    rw [setSearchFrom_succ]
    refine wpAny_bind (wpAny_setState_of ho hd R.fits ?_)
    dsimp only
    refine wp_if_neg (by unfold SetTable.gaveWay; rw [mask_odd R.tab.mok]; decide) ?_
    try refine wpAny_bind (wpAny_pure ?_)
    rcases go_spec t R.tab.ris R.tab.dm hashAt (knd.hash k) (10 * SetTable.turns t.mask) (K0 - c) (look t.mask (knd.hash k) c) (dummy_nth _ _ _ rfl) (by omega)
      (fun q hq => by rw [stepj]; exact hb _ (by omega)) (by rw [stepj, hcK]; exact he) with ⟨q, i, hq, hi, hh, hno, hpr⟩ | ⟨hno, hpr⟩
    · have e1 : t.probe (fun i => (es[i]?.map (·.1)).getD 0) (knd.hash k) (st.getD (t.probeStart (knd.hash k))) = some (.candidate (way t.mask (knd.hash k) (c + q)) i (look t.mask (knd.hash k) (c + (q + 1)))) := by
        rw [hst, ← stepj, ← step]; exact hpr
      rw [e1]
      dsimp only
      rw [stepj] at hi
      have hil : i < L.length := by
        have h1 := (List.getElem?_eq_some_iff.mp hi).1
        have h2 := R.psz
        have h3 := size_of R.rw_
        rw [Array.length_toList] at h1
        omega
      obtain ⟨p, hp⟩ : ∃ p, L[i]? = some p := ⟨_, List.getElem?_eq_getElem hil⟩
      have hpL := List.mem_of_getElem? hp
      have hsl : t.slot (way t.mask (knd.hash k) (c + q)) = .live i := slot_live R.tab.ris hi
      have tail : wpAny (model P w) A (searchRest a (.ref x) (knd.hash k) true f es t (way t.mask (knd.hash k) (c + q)) i (look t.mask (knd.hash k) (c + (q + 1)))) Q E s := by
        unfold searchRest
        rw [R.at hp]
        dsimp only
        refine wpAny_bind (wpAny_holding (knd.eqBool hu (R.els p hpL) hx (wpAny_bind (wpAny_setState_of ho hd R.fits ?_))))
        dsimp only
        by_cases hkk : p.2 = k
        · exact wp_if_pos (by simp [hkk]) (wpAny_pure (yes (List.mem_map.mpr ⟨p, hpL, hkk⟩)))
        · refine wp_if_neg (by simp [hkk]) ?_
          try refine wpAny_bind (wpAny_pure ?_)
          rw [sameMem]
          dsimp only
          simp only [if_true, hsl, R.at hp]
          refine wpAny_bind (wpAny_isSame_ref_self (wpAny_bind (wpAny_pure ?_)))
          simp only [if_true]
          refine wp_if_neg (by simp [hkk]) (ih (c + (q + 1)) _ rfl (by omega) (by omega) fun i0 p0 h0 hk0 => ?_)
          obtain ⟨d, d1, d2, d3⟩ := hre i0 p0 h0 hk0
          refine ⟨d, ?_, d2, d3⟩
          rcases Nat.lt_trichotomy d (c + q) with z | z | z
          · exact absurd ((hA i0 p0 h0).trans (congrArg knd.hash hk0)) (hno (d - c) i0 (by omega) (by rw [stepj, show c + (d - c) = d by omega]; exact d3))
          · rw [z] at d3
            have s0 := slot_live R.tab.ris d3
            rw [hsl] at s0
            injection s0 with s0
            subst s0
            rw [hp] at h0
            cases h0
            exact absurd hk0 hkk
          · omega
      by_cases hl : t.led = true
      · refine wp_if_neg (by simp [hl]) ?_
        try refine wpAny_bind (wpAny_pure ?_)
        exact tail
      · refine wp_if_pos (by simp [hl]) (wpAny_bind (unseen X hx (fun y hy => ?_) ?_))
        · obtain ⟨e, he', rfl⟩ := List.mem_map.mp hy
          have he2 : e ∈ es.toList := by
            have : e ∈ es ∧ e.1 = knd.hash k := by simpa using he'
            simpa using this.1
          rw [R.rw_] at he2
          obtain ⟨p2, hp2, rfl⟩ := List.mem_map.mp he2
          exact ⟨p2.2, p2.1, rfl, R.els p2 hp2⟩
        · refine wp_if_neg (by decide) ?_
          try refine wpAny_bind (wpAny_pure ?_)
          exact tail
    · have e1 : t.probe (fun i => (es[i]?.map (·.1)).getD 0) (knd.hash k) (st.getD (t.probeStart (knd.hash k))) = some (.empty (way t.mask (knd.hash k) K0) none) := by
        have : way t.mask (knd.hash k) K0 = (nth t.mask (look t.mask (knd.hash k) c) (K0 - c)).j := by rw [stepj, hcK]
        rw [hst, this]; exact hpr
      rw [e1]
      dsimp only
      refine wpAny_pure (no fun hm => ?_)
      obtain ⟨p0, h0, hk0⟩ := List.mem_map.mp hm
      obtain ⟨i0, hi0, e0⟩ := List.getElem_of_mem h0
      have h00 : L[i0]? = some p0 := by rw [List.getElem?_eq_getElem hi0, e0]
      obtain ⟨d, d1, d2, d3⟩ := hre i0 p0 h00 hk0
      exact hno (d - c) i0 (by omega) (by rw [stepj, show c + (d - c) = d by omega]; exact d3) ((hA i0 p0 h00).trans (congrArg knd.hash hk0))
/-- the search that goes ahead of putting in -/
theorem found_at (X : Els knd) (R : SetH knd s.heap a L es ep t) {x : Addr} {k : K} (hx : knd.is s.heap k x) (hu : knd.room A) {Q : SetFound → Shared → Prop}
    (yes : k ∈ L.map (·.2) → Q (.there none) s)
    (no : ∀ K0, k ∉ L.map (·.2) → way t.mask (knd.hash k) K0 ∉ t.place.toList → (∀ c, c < K0 → way t.mask (knd.hash k) c ∈ t.place.toList) → Q (.free (way t.mask (knd.hash k) K0) false) s) :
    wpAny (model P w) A (setSearch a (.ref x) (knd.hash k) true) Q E s := by
  have hroom := R.room
  obtain ⟨K0, hf, he, hb⟩ := R.tab.first (by rw [List.length_map]; omega) (knd.hash k)
  have big : K0 < 100000 := by
    unfold SetTable.turns at hf
    rcases R.tab.mok with e | e | e <;> rw [e] at hf <;> omega
  unfold setSearch
  refine seek X R hx hu hf he hb yes (fun hn => no K0 hn he hb) 100000 0 none rfl (Nat.zero_le _) (by omega) fun i p hp hk => ?_
  have h1 : (hs knd L)[i]? = some (knd.hash k) := by rw [List.getElem?_map, hp, ← hk]; rfl
  have h2 : i < t.place.toList.length := by
    have := (List.getElem?_eq_some_iff.mp hp).1
    rw [Array.length_toList, R.psz, size_of R.rw_]; exact this
  have h3 := List.getElem?_eq_getElem h2
  obtain ⟨c, hc, e⟩ := R.tab.before he h1 h3
  exact ⟨c, Nat.zero_le _, hc, by rw [h3, e]⟩
theorem is_same (X : Els knd) {h h' : Heap} {k : K} {b : Addr} {o : Obj} (hb : knd.is h k b) (ho : h.get? a = some o) (hd : o.data = .set es ep t) (sb : Heap.SameBut a h h') : knd.is h' k b :=
  X.st.stays (fun c oc vs n hc hdc => by
    refine (sb.2 c fun e => ?_).trans hc
    subst e
    rw [ho] at hc
    cases hc
    rw [hd] at hdc
    cases hdc) hb
theorem filterMap_all {α β : Type} (f : α → Option β) (g : α → β) : ∀ l : List α, (∀ x ∈ l, f x = some (g x)) → l.filterMap f = l.map g
  | [], _ => rfl
  | x :: l, h => by rw [List.filterMap_cons_some (h x (List.mem_cons_self ..)), List.map_cons, filterMap_all f g l fun y hy => h y (List.mem_cons_of_mem _ hy)]
/-- the rows in another order -/
theorem reorder (hr : es.toList = rows knd L) (order : Array Nat) (hp : order.toList.Perm (List.range L.length)) :
    ∃ L2, (order.filterMap (es[·]?)).toList = rows knd L2 ∧ L2.Perm L ∧ hs knd L2 = order.toList.map fun i => (es.map (·.1)).getD i 0 := by
  cases L with
  | nil =>
    have : order.toList = [] := by simpa using hp.length_eq
    have e : order = #[] := by simpa using this
    subst e
    exact ⟨[], by simp [rows], List.Perm.refl _, rfl⟩
  | cons p0 Lt =>
    generalize hL : p0 :: Lt = L at hr hp
    have inr : ∀ i ∈ order.toList, i < L.length := fun i hi => List.mem_range.mp (hp.mem_iff.mp hi)
    let g : Nat → Addr × K := fun i => L.getD i p0
    have hg : ∀ i, i < L.length → L[i]? = some (g i) := fun i hi => by show _ = some (L.getD i p0); rw [List.getD_eq_getElem?_getD, List.getElem?_eq_getElem hi]; rfl
    have he : ∀ i, i < L.length → es[i]? = some (knd.hash (g i).2, Value.ref (g i).1) := fun i hi => by
      rw [← Array.getElem?_toList, hr, rows, List.getElem?_map, hg i hi]; rfl
    refine ⟨order.toList.map g, ?_, ?_, ?_⟩
    · have : (order.filterMap (es[·]?)).toList = order.toList.filterMap (fun i => es[i]?) := by simp
      rw [this, filterMap_all _ (fun i => (knd.hash (g i).2, Value.ref (g i).1)) _ fun i hi => he i (inr i hi), rows, List.map_map]
      rfl
    · have h1 : (List.range L.length).map g = L := List.ext_getElem (by simp) fun i h2 h3 => by
        rw [List.getElem_map, List.getElem_range]
        have := hg i h3
        rw [List.getElem?_eq_getElem h3] at this
        exact (Option.some.inj this).symm
      rw [← h1]
      have := hp.map g
      rwa [h1] at this ⊢
    · show (order.toList.map g).map (fun p => knd.hash p.2) = _
      rw [List.map_map]
      refine List.map_congr_left fun i hi => ?_
      have h5 : (es.map (·.1))[i]? = some (knd.hash (g i).2) := by rw [Array.getElem?_map, he i (inr i hi)]; rfl
      show knd.hash (g i).2 = _
      rw [Array.getD_eq_getD_getElem?, h5]; rfl
end
end DS
end

section
set_option Elab.async false
set_option linter.all false
set_option maxRecDepth 100000
set_option maxHeartbeats 4000000
/-! Putting an element into a set whose elements stand in the heap. -/
namespace DS
open PySem PySem.Spec PyProof.Rows L2
section
variable {P : Program} {w : World} {K : Type} [DecidableEq K] {knd : HeapKind P w K} {A : Around} {E : Value → Shared → Prop} {s : Shared} {a : Addr} {L : List (Addr × K)} {es : Array (Int × Value)} {ep : Nat} {t : SetTable}
/-- the table laid anew in another size -/
theorem relay (X : Els knd) {o : Obj} (ho : s.heap.get? a = some o) (hex : o.ExactSet) (hd : o.data = .set es ep t) (hr : es.toList = rows knd L) (hp : t.place.size = es.size) (hdm : t.dummies = #[]) (hfl : es.size ≤ t.mask)
    (nd : (L.map (·.2)).Nodup) (els : ∀ p ∈ L, knd.is s.heap p.2 p.1) (pl : t.plain = true) (ld : w.params.followText "set-order" = true ∨ t.led = true) {wanted M : Nat}
    (hw : SetTable.sizeAbove wanted - 1 = M) (hM : MaskOk M) (h128 : SetTable.sizeAbove wanted ≤ 128) (hn : L.length * 5 < M * 3) {Q : Unit → Shared → Prop}
    (hQ : ∀ h' L' es' ep' t', Heap.SameBut a s.heap h' → SetH knd h' a L' es' ep' t' → L'.Perm L → Q () { s with heap := h' }) : wpAny (model P w) A (setRelay a wanted) Q E s := by
  have hsz := size_of hr
  obtain ⟨t', order, e, hpm, T, em, el, epl, ed⟩ := relaid_ok t (hs := es.map (·.1)) (wanted := wanted) hw hM (by rw [Array.size_map]; omega)
  rw [Array.size_map, hsz] at hpm
  obtain ⟨L2, r1, r2, r3⟩ := reorder hr order hpm
  rw [← r3] at T
  have hs2 : (order.filterMap (es[·]?)).size = es.size := by rw [size_of r1, r2.length_eq, hsz]
  have hM127 : M ≤ 127 := by
    rcases hM with z | z | z <;> omega
  rw [setRelay_eq]
  refine wpAny_bind (wpAny_setState_of ho hd (fits_of hp hdm hfl) ?_)
  dsimp only
  refine wp_if_neg (by rw [sizeLine_eq]; omega) ?_
  try refine wpAny_bind (wpAny_pure ?_)
  rw [e]
  dsimp only
  refine wpAny_bind (wp_if_neg (by rw [hs2]; simp) ?_)
  try refine wpAny_bind (wpAny_pure ?_)
  refine wpAny_pure ?_
  dsimp only
  refine wpAny_storeSet_of ho hd ?_ (by rw [hs2, hsz, sizeLine_eq]; omega)
  have sb : Heap.SameBut a s.heap (s.heap.update a (Obj.putSet (order.filterMap (es[·]?)) t')) := Heap.SameBut.update ..
  exact hQ _ L2 _ (ep + 1) t' sb ⟨⟨_, store_at ho hd, ⟨hex.1, hex.2.1, hex.2.2⟩, rfl⟩, r1, T, (r2.map (·.2)).nodup_iff.mpr nd, fun p hp2 => is_same X (els p (r2.mem_iff.mp hp2)) ho hd sb, by rw [epl]; exact pl, by rw [el]; exact ld,
    by rw [r2.length_eq, em]; exact hn⟩ r2
/-- put in, the hash known -/
theorem put_hashed (X : Els knd) (R : SetH knd s.heap a L es ep t) {x : Addr} {k : K} (hx : knd.is s.heap k x) (hu : knd.room A) (hfew : L.length < 76) {Q : Bool → Shared → Prop}
    (hQ : ∀ b h' L' es' ep' t', Heap.SameBut a s.heap h' → SetH knd h' a L' es' ep' t' → (k ∈ L.map (·.2) → L' = L) → (k ∉ L.map (·.2) → L'.Perm ((x, k) :: L)) → Q b { s with heap := h' }) :
    wpAny (model P w) A (setAddHashed a (.ref x) (knd.hash k)) Q E s := by
  obtain ⟨o, ho, hex, hd⟩ := R.ob
  have hsz := size_of R.rw_
  have hroom := R.room
  unfold setAddHashed
  refine wpAny_holding ?_
  rw [show (100000 : Nat) = 99999 + 1 from rfl, setAddHashedIn_succ]
  refine wpAny_bind (wpAny_setState_of ho hd R.fits ?_)
  dsimp only
  refine wp_if_neg (by simp [byScan, Value.scannable]) ?_
  try refine wpAny_bind (wpAny_pure ?_)
  refine wpAny_bind (found_at X R hx hu (fun hm => ?_) fun K0 hm hK hb => ?_)
  · dsimp only
    exact wpAny_pure (hQ false s.heap L es ep t (Heap.SameBut.refl a s.heap) R (fun _ => rfl) fun z => absurd hm z)
  dsimp only
  refine wpAny_bind (wpAny_setState_of ho hd R.fits ?_)
  dsimp only
  obtain ⟨q1, q2, q3, q4, q5, q6, q7, q8, q9⟩ := R.tab.put hK hb
  rw [List.length_map] at q9
  have hp1 : (t.put (way t.mask (knd.hash k) K0)).1.plain = true := by rw [q6]; exact R.pl
  generalize hpt : t.put (way t.mask (knd.hash k) K0) = pt at q1 q3 q4 q5 q6 q7 q8 q9 hp1 ⊢
  obtain ⟨t1, j⟩ := pt
  dsimp only at q1 q3 q4 q5 q6 q7 q8 q9 hp1 ⊢
  subst q1
  generalize hj : SetTable.below t.place (way t.mask (knd.hash k) K0) = j at q2 q3 ⊢
  let L1 : List (Addr × K) := L.take j ++ (x, k) :: L.drop j
  have pm : L1.Perm ((x, k) :: L) := put_perm L j (x, k)
  have hlen : L1.length = L.length + 1 := pm.length_eq
  have hr1 : (SetTable.insertAt es j (knd.hash k, Value.ref x)).toList = rows knd L1 := by
    rw [SetTable.toList_insertAt, R.rw_]
    show _ = (L.take j ++ (x, k) :: L.drop j).map _
    rw [List.map_append, List.map_cons, List.map_take, List.map_drop]; rfl
  have T1 : TabOk t1 (hs knd L1) := by
    have e : hs knd L1 = (hs knd L).take j ++ knd.hash k :: (hs knd L).drop j := by
      show (L.take j ++ (x, k) :: L.drop j).map _ = _
      rw [List.map_append, List.map_cons, List.map_take, List.map_drop]
    rw [e]; exact q3
  have nd1 : (L1.map (·.2)).Nodup := (pm.map (·.2)).nodup_iff.mpr (by rw [List.map_cons]; exact List.nodup_cons.mpr ⟨hm, R.nd⟩)
  have hsz1 := size_of hr1
  clear_value L1
  generalize SetTable.insertAt es j (knd.hash k, Value.ref x) = es1 at hr1 hsz1 ⊢
  first
    | (refine wpAny_bind ?_; refine wp_if_pos hp1 ?_; refine X.byV hx ?_)
    | refine wp_if_pos hp1 (wpAny_bind (X.byV hx ?_))
  simp only [if_true]
  have few1 : L1.length ≤ 76 := by omega
  refine wpAny_bind (wpAny_storeSet_of ho hd ?_ (by rw [hsz1, sizeLine_eq]; omega))
  have sb : Heap.SameBut a s.heap (s.heap.update a (Obj.putSet es1 t1)) := Heap.SameBut.update ..
  have ho1 := store_at (es' := es1) (t' := t1) ho hd
  generalize s.heap.update a (Obj.putSet es1 t1) = h1 at sb ho1 ⊢
  have els1 : ∀ p ∈ L1, knd.is h1 p.2 p.1 := fun p hp => by
    rcases List.mem_cons.mp (pm.mem_iff.mp hp) with e | hp
    · rw [e]; exact is_same X hx ho hd sb
    · exact is_same X (R.els p hp) ho hd sb
  have ld1 : w.params.followText "set-order" = true ∨ t1.led = true := by rw [q5]; exact R.led
  have full_iff : t1.tooFull = decide ((L.length + 1) * 5 ≥ t.mask * 3) := by
    unfold SetTable.tooFull
    rw [q9, q4]
  by_cases hf : t1.tooFull = true
  · have hfull : (L.length + 1) * 5 ≥ t.mask * 3 := by rw [full_iff] at hf; simpa using hf
    first
      | (refine wpAny_bind ?_; refine wp_if_pos (by simp [hf]) ?_)
      | (refine wp_if_pos (by simp [hf]) ?_; refine wpAny_bind ?_)
    rw [hsz]
    have go : ∀ M, SetTable.sizeAbove (SetTable.grown (L.length + 1)) - 1 = M → MaskOk M → SetTable.sizeAbove (SetTable.grown (L.length + 1)) ≤ 128 → (L.length + 1) * 5 < M * 3 →
        wpAny (model P w) A (setRelay a (SetTable.grown (L.length + 1))) (fun _ s' => wpAny (model P w) A (pure true) Q E s') E { s with heap := h1 } := fun M a1 a2 a3 a4 =>
      relay X (s := { s with heap := h1 }) ho1 ⟨hex.1, hex.2.1, hex.2.2⟩ rfl hr1 (by rw [T1.sz, List.length_map, hsz1]) T1.dm (by rw [hsz1, q4, hlen]; rcases R.tab.mok with e | e | e <;> rw [e] at hroom ⊢ <;> omega) nd1 els1 hp1 ld1 a1 a2 a3 (by rw [hlen]; exact a4)
        fun h2 L2 es2 ep2 t2 sb2 R2 pm2 => wpAny_pure (hQ true h2 L2 es2 ep2 t2 (sb.trans sb2) R2 (fun z => absurd z hm) fun _ => pm2.trans pm)
    rcases R.tab.mok with e | e | e
    · have e2 : L.length = 4 := by rw [e] at hroom hfull; omega
      exact go 31 (by rw [e2, size_20]) (.inr (.inl rfl)) (by rw [e2, size_20]; decide) (by omega)
    · have e2 : L.length = 18 := by rw [e] at hroom hfull; omega
      exact go 127 (by rw [e2, size_76]) (.inr (.inr rfl)) (by rw [e2, size_76]; decide) (by omega)
    · rw [e] at hfull; omega
  · first
      | refine wp_if_neg (by simp [hf]) ?_
      | (refine wpAny_bind ?_; refine wp_if_neg (by simp [hf]) ?_; refine wpAny_pure ?_)
    have hnot : ¬ (L.length + 1) * 5 ≥ t.mask * 3 := by rw [full_iff] at hf; simpa using hf
    exact wpAny_pure (hQ true h1 L1 es1 (ep + 1) t1 sb ⟨⟨_, ho1, ⟨hex.1, hex.2.1, hex.2.2⟩, rfl⟩, hr1, T1, nd1, els1, hp1, ld1, by rw [hlen, q4]; omega⟩ (fun z => absurd z hm) fun _ => pm)
end
end DS
end

section
set_option Elab.async false
set_option linter.all false
set_option maxRecDepth 100000
set_option maxHeartbeats 4000000
/-! set(xs), xs a list or a tuple: the loop and the call, whatever the elements are. -/
namespace DS
open PySem PySem.Spec PyProof.Rows L2
section
variable {P : Program} {w : World} {A : Around} {E : Value → Shared → Prop} {s : Shared}
abbrev freshSet (w : World) : Obj := { cls := .type "set", dict := none, data := .set #[] 0 (.fresh 0 0 (!w.params.followText "set-order")) }
/-- the loop of set.update: SP i says what stands at S behind i items -/
theorem upd_loop {I : Addr} {fp wr : List Addr} {G : Array GenState → Array GenState → Prop} {n : Nat} {Pv : Nat → Value → Prop} {St : Nat → Shared → Prop} {R : Result → Shared → Prop}
    (W : WalksS P w A.in1 I fp wr G n Pv St) (S : Addr) (hSf : S ∉ fp) (items : List Value) (hval : ∀ i v, Pv i v → items[i]? = some v) (h0 : Heap) (hS0 : h0.get? S = none) (hw0 : ∀ b ∈ wr, h0.get? b = none) (SP : Nat → Heap → Prop)
    (keep : ∀ i h h', SP i h → (∀ b o, h0.get? b = some o → h.get? b = some o) → (∀ o, h.get? S = some o → h'.get? S = some o) → (∀ b o, h0.get? b = some o → h'.get? b = some o) → SP i h')
    (add : ∀ (i : Nat) (v : Value) (s : Shared) (Q : Bool → Shared → Prop), items[i]? = some v → SP i s.heap → (∀ b o, h0.get? b = some o → s.heap.get? b = some o) →
      (∀ b h' tk, Heap.SameBut S s.heap h' → SP (i + 1) h' → s.toks ≤ tk → Q b { s with heap := h', toks := tk }) → wpAny (model P w) A.in1 (setAdd S v) Q (fun e s => R (.error e) s) s) :
    ∀ (k i : Nat) (s : Shared), n - i = k → i ≤ n → St i s → (∀ b o, h0.get? b = some o → s.heap.get? b = some o) → SP i s.heap →
      (∀ s', Moved (S :: wr) G s s' → SP n s'.heap → (∀ b o, h0.get? b = some o → s'.heap.get? b = some o) → R (.ok (.ret .none)) s') →
      codeAny (model P w) A (.builtin "set.update.loop" ⟨[.ref S, .ref I], []⟩) R s := by
  have hSw : S ∉ wr := fun h => hSf (W.sub _ h)
  have more : ∀ b ∈ wr, b ∈ S :: wr := fun b hb => List.mem_cons_of_mem _ hb
  have kp : ∀ {s s' : Shared}, Moved wr G s s' → (∀ b o, h0.get? b = some o → s.heap.get? b = some o) → ∀ b o, h0.get? b = some o → s'.heap.get? b = some o := fun hm q b o e =>
    hm.heap b o (fun hb => by rw [hw0 b hb] at e; cases e) (q b o e)
  intro k
  induction k with
  | zero =>
    intro i s hk hi hst hkp hsp hR
    obtain rfl : i = n := by omega
    refine codeAny_builtin F.entry_set_update_loop ?_
    rw [Around.under_plainId F.plain_set_update_loop _]
    show wpAny _ A.in1 (pyNext (.ref I) >>= _) _ _ s
    refine wpAny_bind (W.done s _ _ hst fun s' hm => ?_)
    show wpAny _ A.in1 (ret Value.none) _ _ s'
    exact wpAny_pure (hR s' (hm.mono more) (keep _ _ _ hsp hkp (fun o e => hm.heap S o hSw e) (kp hm hkp)) (kp hm hkp))
  | succ k ih =>
    intro i s hk hi hst hkp hsp hR
    refine codeAny_builtin F.entry_set_update_loop ?_
    rw [Around.under_plainId F.plain_set_update_loop _]
    show wpAny _ A.in1 (pyNext (.ref I) >>= _) _ _ s
    refine wpAny_bind (W.item i s _ _ (by omega) hst fun v s' hP hst' hm => ?_)
    have hkp' := kp hm hkp
    have hsp' := keep _ _ _ hsp hkp (fun o e => hm.heap S o hSw e) hkp'
    show wpAny _ A.in1 (holding [v] (setAdd S v) >>= _) _ _ s'
    refine wpAny_bind (wpAny_holding (add i v s' _ (hval i v hP) hsp' hkp' fun b h' tk sb sp2 htk => ?_))
    have hkp2 : ∀ b o, h0.get? b = some o → h'.get? b = some o := fun b o e => (sb.2 b (fun z => by rw [z, hS0] at e; cases e)).trans (hkp' b o e)
    refine wpAny_pure ⟨plainId_quiet F.plain_set_update_loop _, ih (i + 1) _ (by omega) (by omega) (W.frame _ s' _ _ hst' htk fun b hb o e => ?_) hkp2 sp2 fun s'' hm2 sp3 hkp3 => ?_⟩
    · rw [sb.2 b (fun h : b = S => hSf (by rw [← h]; exact hb))]; exact e
    · refine hR s'' (Moved.trans W.gtrans ((hm.mono more).then_heap htk fun b o hb e => ?_) hm2) sp3 hkp3
      rw [sb.2 b (fun h : b = S => hb (by rw [h]; exact List.mem_cons_self ..))]; exact e
end
end DS
end

section
set_option Elab.async false
set_option linter.all false
set_option maxRecDepth 100000
set_option maxHeartbeats 4000000
/-! set(xs): the call. -/
namespace DS
open PySem PySem.Spec PyProof.Rows L2
section
variable {P : Program} {w : World} {A : Around} {E : Value → Shared → Prop} {s : Shared}
/-- how SP grows: kept when the heap grows, and by one item's adding -/
structure Grow (P : Program) (w : World) (A : Around) (S : Addr) (h0 : Heap) (items : List Value) (SP : Nat → Heap → Prop) : Prop where
  keep : ∀ i h h', SP i h → (∀ b o, h0.get? b = some o → h.get? b = some o) → (∀ o, h.get? S = some o → h'.get? S = some o) → (∀ b o, h0.get? b = some o → h'.get? b = some o) → SP i h'
  add : ∀ (i : Nat) (v : Value) (s : Shared) (E : Value → Shared → Prop) (Q : Bool → Shared → Prop), items[i]? = some v → SP i s.heap → (∀ b o, h0.get? b = some o → s.heap.get? b = some o) →
      (∀ b h' tk, Heap.SameBut S s.heap h' → SP (i + 1) h' → s.toks ≤ tk → Q b { s with heap := h', toks := tk }) → wpAny (model P w) A (setAdd S v) Q E s
  start : ∀ h, h.get? S = some (freshSet w) → SP 0 h
set_option maxHeartbeats 8000000 in
theorem call_set_of {l : Addr} {items : Array Value} {Q : Value → Shared → Prop} (hh : A.handled = none) (hl : s.heap.IsList l items ∨ s.heap.IsTuple l items) (SP : Nat → Heap → Prop)
    (G : ∀ A' : Around, A'.units = A.units + 3 → Grow P w A' s.heap.objs.size s.heap items.toList SP)
    (h : ∀ (h' : Heap) (tk : Nat), SP items.size h' → (∀ b o, s.heap.get? b = some o → h'.get? b = some o) → Q (.ref s.heap.objs.size) { s with heap := h', toks := tk }) :
    wpAny (model P w) A (call (.type "set") [.ref l]) Q E s := by
  obtain ⟨T, od, nl, osl, hol, hs1, hs2, hne⟩ : ∃ T od nl osl, s.heap.get? l = some { cls := .type T, dict := od, data := .seq items nl, slots := osl } ∧ isSubtype (.type T) (.type "set") = pure false ∧ isSubtype (.type T) (.type "frozenset") = pure false ∧ (Value.type T == Value.type "dict") = false := by
    rcases hl with ⟨⟨ocls, odict, odata, oslots⟩, ho, hc, n, hd⟩ | ⟨⟨ocls, odict, odata, oslots⟩, ho, hc, n, hd⟩
    · simp only at hc hd; subst hc hd
      exact ⟨"list", odict, n, oslots, ho, PySem.F.sub_list_set, PySem.F.sub_list_frozenset, by decide⟩
    · simp only at hc hd; subst hc hd
      exact ⟨"tuple", odict, n, oslots, ho, PySem.F.sub_tuple_set, PySem.F.sub_tuple_frozenset, by decide⟩
  have hS0 : s.heap.get? s.heap.objs.size = none := by
    cases q : s.heap.get? s.heap.objs.size with
    | none => rfl
    | some o => exact absurd (Heap.lt_size q) (Nat.lt_irrefl _)
  obtain ⟨c, tl, hmro⟩ := F.called_set.mro
  have hmade := F.called_set.made
  have hsub := F.called_set.sub
  refine wpAny_call (codeAny_of_tree ?_)
  show wpAny _ _ (callAny (.type "set") _) _ _ _
  refine wpAny_pure ⟨Code.quiet_builtin _ (by decide +kernel), codeAny_builtin F.entry_type_call ?_⟩
  rw [Around.under_plain (weight_type_call_type "set" [.ref l] []) rfl]
  have h1 := F.called_set.notType
  have h2 := F.called_set.canCreate
  have hct := F.typeCall_set_1 (.ref l)
  repeat (any_goals (first | assumption | wp_step))
  refine codeAny_mono (code_set_led1 (.ref l) (E := E) (Q₁ := fun obj s₁ => obj = .ref s.heap.objs.size ∧ s₁ = { s with heap := s.heap.push (freshSet w) }) ⟨rfl, rfl⟩) fun r s₁ hr => ?_
  cases r with
  | error e => exact hr
  | ok fl =>
    cases fl with
    | ret obj =>
      obtain ⟨rfl, rfl⟩ := hr
      have hS : (s.heap.push (freshSet w)).get? s.heap.objs.size = some (freshSet w) := Heap.get?_push_size _ rfl
      have hT : Shared.TypeIs { s with heap := s.heap.push (freshSet w) } (.ref s.heap.objs.size) "set" := ⟨_, hS, rfl⟩
      have hli := F.called_set.init.lookup
      have hbi := F.called_set.init.bind (.ref s.heap.objs.size)
      repeat (any_goals (first | assumption | wp_step))
      refine codeAny_mono (codeAny_call_builtin (R := wants (fun r s₂ => r = .none ∧ ∃ h' tk, s₂ = { s with heap := h', toks := tk } ∧ SP items.size h' ∧
          (∀ b o, s.heap.get? b = some o → h'.get? b = some o)) E) F.called_set.init.plain F.entry_set_init (check_set_init_1 hT ?_)) fun r₂ s₂ hr₂ => ?_
      · have hol' : (s.heap.push (freshSet w)).get? l = some { cls := .type T, dict := od, data := .seq items nl, slots := osl } := Heap.get?_push_of_some _ hol
        unfold Builtin.«set.__init__» noKeywords Builtin.Frozenset.updateFrom
        generalize hPI : pyIter = PI
        wp_walk
        subst hPI
        have hlS : l < s.heap.objs.size := Heap.lt_size hol
        have hneI : l ≠ (s.heap.push (freshSet w)).objs.size := by
          rw [Heap.size_push]; exact Nat.ne_of_lt (Nat.lt_succ_of_lt hlS)
        have hSf : s.heap.objs.size ∉ [(s.heap.push (freshSet w)).objs.size, l] := by
          rw [Heap.size_push]; simp only [List.mem_cons, List.mem_singleton, List.not_mem_nil, or_false, not_or]
          exact ⟨Nat.ne_of_lt (Nat.lt_succ_self _), Nat.ne_of_gt hlS⟩
        have hw0 : ∀ b ∈ [(s.heap.push (freshSet w)).objs.size], s.heap.get? b = none := fun b hb => by
          rw [List.mem_singleton.mp hb, Heap.size_push]
          cases q : s.heap.get? (s.heap.objs.size + 1) with
          | none => rfl
          | some o => exact absurd (Heap.lt_size q) (Nat.not_lt.mpr (Nat.le_succ _))
        have hval : ∀ (i : Nat) (v : Value), items[i]? = some v → items.toList[i]? = some v := fun i v hv => by rw [Array.getElem?_toList]; exact hv
        rcases hl with hl | hl
        · refine wpAny_pyIter_list (hl.push _) ?_
          refine wpAny_bind (wpAny_runValue ?_)
          have hh3 : A.in1.in1.in1.handled = none := by simp [hh]
          have g := G A.in1.in1.in1 (by simp)
          refine upd_loop ((Walks.list hh3 _ l hneI items).toS) s.heap.objs.size hSf items.toList hval s.heap hS0 hw0 SP g.keep (fun i v s Q a b c d => g.add i v s _ Q a b c d) (items.size - 0) 0 _ (by omega) (Nat.zero_le _)
            ⟨⟨_, Heap.get?_push_size _ rfl, rfl, rfl⟩, (hl.push _).push _⟩ (fun b o e => Heap.get?_push_of_some _ (Heap.get?_push_of_some _ e)) (g.start _ (Heap.get?_push_of_some _ hS)) ?_
          intro s' hm sp hkp
          obtain ⟨h', g2, d', tk', os'⟩ := s'
          have eg : g2 = s.gens := hm.gens
          have ed : d' = s.drawn := hm.drawn
          have eo : os' = s.os := hm.os
          subst eg; subst ed; subst eo
          show wpAny _ _ _ _ _ _
          refine wpAny_pure ?_
          show wpAny _ _ (ret Value.none) _ _ _
          exact wpAny_pure ⟨rfl, h', tk', rfl, sp, hkp⟩
        · refine wpAny_pyIter_tuple (hl.push _) ?_
          refine wpAny_bind (wpAny_runValue ?_)
          have hh3 : A.in1.in1.in1.handled = none := by simp [hh]
          have g := G A.in1.in1.in1 (by simp)
          refine upd_loop ((Walks.tuple hh3 _ l hneI items).toS) s.heap.objs.size hSf items.toList hval s.heap hS0 hw0 SP g.keep (fun i v s Q a b c d => g.add i v s _ Q a b c d) (items.size - 0) 0 _ (by omega) (Nat.zero_le _)
            ⟨⟨_, Heap.get?_push_size _ rfl, rfl, rfl⟩, (hl.push _).push _⟩ (fun b o e => Heap.get?_push_of_some _ (Heap.get?_push_of_some _ e)) (g.start _ (Heap.get?_push_of_some _ hS)) ?_
          intro s' hm sp hkp
          obtain ⟨h', g2, d', tk', os'⟩ := s'
          have eg : g2 = s.gens := hm.gens
          have ed : d' = s.drawn := hm.drawn
          have eo : os' = s.os := hm.os
          subst eg; subst ed; subst eo
          show wpAny _ _ _ _ _ _
          refine wpAny_pure ?_
          show wpAny _ _ (ret Value.none) _ _ _
          exact wpAny_pure ⟨rfl, h', tk', rfl, sp, hkp⟩
      · cases r₂ with
        | error e => exact hr₂
        | ok fl₂ =>
          cases fl₂ with
          | ret r =>
            obtain ⟨rfl, h', tk, rfl, sp, hk'⟩ := hr₂
            repeat (any_goals (first | assumption | wp_step))
            exact h _ _ sp hk'
          | _ => exact hr₂.elim
    | _ => exact hr.elim
end
end DS
end

section
set_option Elab.async false
set_option linter.all false
set_option maxRecDepth 100000
set_option maxHeartbeats 4000000
/-! Data that are keys: tuples of whole numbers, or of truths, of any depth to 8; the kind of these. -/
namespace DS
open PySem PySem.Spec PyProof.Rows L2
mutual
/-- the key that data is whose atoms are truths (b) or whole numbers -/
def keyd (b : Bool) : PyData → Option NestedKey
  | .int i => if b = true then none else some (.num i)
  | .bool c => if b = true then some (.num (if c = true then 1 else 0)) else none
  | .tuple xs => (keyds b xs).map .tup
  | _ => none
def keyds (b : Bool) : List PyData → Option (List NestedKey)
  | [] => some []
  | x :: xs => (keyd b x).bind fun k => (keyds b xs).map fun ks => k :: ks
end
mutual
/-- a key without a text -/
def nt : NestedKey → Bool
  | .none => false
  | .num _ => true
  | .text _ => false
  | .tup ks => nts ks
def nts : List NestedKey → Bool
  | [] => true
  | k :: ks => nt k && nts ks
end
theorem keyds_cons {b : Bool} {x : PyData} {xs : List PyData} {ks : List NestedKey} (h : keyds b (x :: xs) = some ks) : ∃ k ks', keyd b x = some k ∧ keyds b xs = some ks' ∧ ks = k :: ks' := by
  unfold keyds at h
  cases h1 : keyd b x with
  | none => rw [h1] at h; cases h
  | some k =>
    cases h2 : keyds b xs with
    | none => rw [h1, h2] at h; cases h
    | some ks' => rw [h1, h2] at h; cases h; exact ⟨k, ks', rfl, rfl, rfl⟩
theorem keyd_tup {b : Bool} {xs : List PyData} {k : NestedKey} (h : keyd b (.tuple xs) = some k) : ∃ ks, keyds b xs = some ks ∧ k = .tup ks := by
  unfold keyd at h
  cases h2 : keyds b xs with
  | none => rw [h2] at h; cases h
  | some ks => rw [h2] at h; cases h; exact ⟨ks, rfl, rfl⟩
mutual
theorem keyd_inj {b : Bool} : ∀ {d e : PyData} {k : NestedKey}, keyd b d = some k → keyd b e = some k → d = e
  | .int i, e, k, h1, h2 => by
    cases b with
    | true => simp [keyd] at h1
    | false =>
      cases e with
      | int j => simp [keyd] at h1 h2; rw [← h2] at h1; cases h1; rfl
      | tuple ys => obtain ⟨ks, _, rfl⟩ := keyd_tup h2; simp [keyd] at h1
      | _ => simp [keyd] at h2
  | .bool c, e, k, h1, h2 => by
    cases b with
    | false => simp [keyd] at h1
    | true =>
      cases e with
      | bool c2 => simp [keyd] at h1 h2; rw [← h2] at h1; have h1 := NestedKey.num.inj h1; cases c <;> cases c2 <;> first | rfl | (exact absurd h1 (by decide))
      | tuple ys => obtain ⟨ks, _, rfl⟩ := keyd_tup h2; simp [keyd] at h1
      | _ => simp [keyd] at h2
  | .tuple xs, e, k, h1, h2 => by
    obtain ⟨ks, a1, rfl⟩ := keyd_tup h1
    cases e with
    | tuple ys =>
      obtain ⟨ks2, a2, e2⟩ := keyd_tup h2
      cases e2
      rw [keyds_inj a1 a2]
    | int j => cases b <;> simp [keyd] at h2
    | bool j => cases b <;> simp [keyd] at h2
    | _ => simp [keyd] at h2
  | .none, _, _, h1, _ => by simp [keyd] at h1
  | .str _, _, _, h1, _ => by simp [keyd] at h1
  | .list _, _, _, h1, _ => by simp [keyd] at h1
  | .dict _, _, _, h1, _ => by simp [keyd] at h1
theorem keyds_inj {b : Bool} : ∀ {xs ys : List PyData} {ks : List NestedKey}, keyds b xs = some ks → keyds b ys = some ks → xs = ys
  | [], ys, ks, h1, h2 => by
    cases ys with
    | nil => rfl
    | cons y ys => obtain ⟨_, _, _, _, e⟩ := keyds_cons h2; simp [keyds] at h1; rw [h1] at e; cases e
  | x :: xs, ys, ks, h1, h2 => by
    obtain ⟨k, ks', a1, a2, rfl⟩ := keyds_cons h1
    cases ys with
    | nil => simp [keyds] at h2
    | cons y ys =>
      obtain ⟨k2, ks2, b1, b2, e⟩ := keyds_cons h2
      cases e
      rw [keyd_inj a1 b1, keyds_inj a2 b2]
end
mutual
theorem keyd_eqv {b : Bool} : ∀ {d e : PyData} {k j : NestedKey}, keyd b d = some k → keyd b e = some j → PyData.eqv d e = true → k = j
  | .int i, e, k, j, h1, h2, q => by
    cases b with
    | true => simp [keyd] at h1
    | false =>
      cases e with
      | int i2 => simp [keyd] at h1 h2; simp [PyData.eqv] at q; rw [← h1, ← h2, q]
      | tuple ys => simp [PyData.eqv] at q
      | _ => simp [keyd] at h2
  | .bool c, e, k, j, h1, h2, q => by
    cases b with
    | false => simp [keyd] at h1
    | true =>
      cases e with
      | bool c2 => simp [keyd] at h1 h2; simp [PyData.eqv] at q; rw [← h1, ← h2, q]
      | tuple ys => simp [PyData.eqv] at q
      | _ => simp [keyd] at h2
  | .tuple xs, e, k, j, h1, h2, q => by
    obtain ⟨ks, a1, rfl⟩ := keyd_tup h1
    cases e with
    | tuple ys =>
      obtain ⟨ks2, a2, rfl⟩ := keyd_tup h2
      rw [PyData.eqv] at q
      rw [keyds_eqv a1 a2 q]
    | _ => simp [PyData.eqv] at q
  | .none, _, _, _, h1, _, _ => by simp [keyd] at h1
  | .str _, _, _, _, h1, _, _ => by simp [keyd] at h1
  | .list _, _, _, _, h1, _, _ => by simp [keyd] at h1
  | .dict _, _, _, _, h1, _, _ => by simp [keyd] at h1
theorem keyds_eqv {b : Bool} : ∀ {xs ys : List PyData} {ks js : List NestedKey}, keyds b xs = some ks → keyds b ys = some js → PyData.eqvAll xs ys = true → ks = js
  | [], ys, ks, js, h1, h2, q => by
    cases ys with
    | nil => simp [keyds] at h1 h2; rw [h1, h2]
    | cons y ys => simp [PyData.eqvAll] at q
  | x :: xs, ys, ks, js, h1, h2, q => by
    obtain ⟨k, ks', a1, a2, rfl⟩ := keyds_cons h1
    cases ys with
    | nil => simp [PyData.eqvAll] at q
    | cons y ys =>
      obtain ⟨k2, ks2, b1, b2, rfl⟩ := keyds_cons h2
      rw [PyData.eqvAll, Bool.and_eq_true] at q
      rw [keyd_eqv a1 b1 q.1, keyds_eqv a2 b2 q.2]
end
mutual
theorem keyd_nt {b : Bool} : ∀ {d : PyData} {k : NestedKey}, keyd b d = some k → nt k = true
  | .int i, k, h => by cases b <;> simp [keyd] at h; rw [← h]; rfl
  | .bool c, k, h => by cases b <;> simp [keyd] at h; rw [← h]; rfl
  | .tuple xs, k, h => by obtain ⟨ks, a, rfl⟩ := keyd_tup h; rw [nt]; exact keyds_nt a
  | .none, _, h => by simp [keyd] at h
  | .str _, _, h => by simp [keyd] at h
  | .list _, _, h => by simp [keyd] at h
  | .dict _, _, h => by simp [keyd] at h
theorem keyds_nt {b : Bool} : ∀ {xs : List PyData} {ks : List NestedKey}, keyds b xs = some ks → nts ks = true
  | [], ks, h => by simp [keyds] at h; rw [h]; rfl
  | x :: xs, ks, h => by obtain ⟨k, ks', a1, a2, rfl⟩ := keyds_cons h; rw [nts, keyd_nt a1, keyds_nt a2]; rfl
end
section
variable {P : Program} {w : World}
mutual
theorem ofA_key {A : Around} {s : Shared} : ∀ (k : NestedKey) (v : Value) (n : Nat), NestedIs s.heap k v → k.depth ≤ n → ∀ (E : Value → Shared → Prop) (Q : Bool → Shared → Prop), Q false s → wpAny (model P w) A (ofAClassStatement n v) Q E s
  | .none, v, n, h, _, E, Q, q => by cases h; cases n <;> exact wpAny_pure q
  | .num i, v, n, h, _, E, Q, q => by cases h <;> cases n <;> exact wpAny_pure q
  | .text x, v, n, h, _, E, Q, q => by cases h; cases n <;> exact wpAny_pure q
  | .tup ks, v, 0, h, hd, E, Q, q => by rw [NestedKey.depth] at hd; omega
  | .tup ks, v, n + 1, h, hd, E, Q, q => by
    rw [NestedKey.depth] at hd
    cases h with
    | @tup a o vs m _ ho hc hda hi =>
      have hT : s.TypeIs (.ref a) "tuple" := ⟨o, ho, hc⟩
      unfold ofAClassStatement
      refine wpAny_bind (wpAny_typeOf hT ?_)
      dsimp only
      have e : (("tuple" : String) == "tuple") = true := by decide
      simp only [e, if_true, Bool.not_true, Bool.false_eq_true, if_false]
      try refine wpAny_bind (wpAny_pure ?_)
      try simp only [Bool.not_true, Bool.false_eq_true, if_false]
      show wpAny _ _ (seqItems? (.ref a) >>= _) _ _ s
      refine wpAny_bind (wpAny_seqItems ho hda ?_)
      dsimp only
      refine wpAny_bind ?_
      show wpAny _ _ (forIn vs _ _) _ _ s
      rw [← Array.forIn_toList]
      have all := ofA_keys (A := A) ks vs.toList n hi (by omega)
      refine wpAny_forIn_list _ (fun rest r s' => r.1 = none ∧ s' = s ∧ ∀ v ∈ rest, v ∈ vs.toList) _ ?_ ?_ _ _ ⟨rfl, rfl, fun v hv => hv⟩
      · rintro v rest r s' ⟨hr, rfl, hall⟩
        refine wpAny_bind (all v (hall v (List.mem_cons_self ..)) _ _ ?_)
        simp only [Bool.false_eq_true, if_false]
        exact wpAny_pure ⟨rfl, rfl, fun u hu' => hall u (List.mem_cons_of_mem _ hu')⟩
      · rintro ⟨r1, r2⟩ s' ⟨hr, rfl, _⟩
        simp only at hr
        subst hr
        exact wpAny_pure q
theorem ofA_keys {A : Around} {s : Shared} : ∀ (ks : List NestedKey) (vs : List Value) (n : Nat), NestedAll s.heap ks vs → NestedKey.depthAll ks ≤ n → ∀ v ∈ vs, ∀ (E : Value → Shared → Prop) (Q : Bool → Shared → Prop), Q false s → wpAny (model P w) A (ofAClassStatement n v) Q E s
  | [], vs, n, h, _, v, hv => by cases h; cases hv
  | k :: ks, vs, n, h, hd, v, hv => by
    rw [NestedKey.depthAll] at hd
    cases h with
    | @cons _ v0 _ vs' h1 h2 =>
      rcases List.mem_cons.mp hv with e | hv
      · rw [e]; exact ofA_key k v0 n h1 (by omega)
      · exact ofA_keys ks vs' n h2 (by omega) v hv
end
mutual
theorem byV_key {A : Around} {s : Shared} : ∀ (k : NestedKey) (v : Value) (n : Nat), NestedIs s.heap k v → nt k = true → k.depth ≤ n → ∀ (E : Value → Shared → Prop) (Q : Bool → Shared → Prop), Q true s → wpAny (model P w) A (hashByValue n v) Q E s
  | .none, v, n, h, ht, _, E, Q, q => by simp [nt] at ht
  | .num i, v, n, h, _, _, E, Q, q => by cases h <;> cases n <;> exact wpAny_pure q
  | .text x, v, n, h, ht, _, E, Q, q => by simp [nt] at ht
  | .tup ks, v, 0, h, _, hd, E, Q, q => by rw [NestedKey.depth] at hd; omega
  | .tup ks, v, n + 1, h, ht, hd, E, Q, q => by
    rw [NestedKey.depth] at hd
    rw [nt] at ht
    cases h with
    | @tup a o vs m _ ho hc hda hi =>
      have hT : s.TypeIs (.ref a) "tuple" := ⟨o, ho, hc⟩
      unfold hashByValue
      refine wpAny_bind (wpAny_specialOf hT PySem.F.slot_tuple_hash.lookup ?_)
      show wpAny _ _ (seqItems? (.ref a) >>= _) _ _ s
      refine wpAny_bind (wpAny_seqItems ho hda ?_)
      refine wpAny_bind ?_
      show wpAny _ _ (forIn vs _ _) _ _ s
      rw [← Array.forIn_toList]
      have all := byV_keys (A := A) ks vs.toList n hi ht (by omega)
      refine wpAny_forIn_list _ (fun rest r s' => r.1 = none ∧ s' = s ∧ ∀ v ∈ rest, v ∈ vs.toList) _ ?_ ?_ _ _ ⟨rfl, rfl, fun v hv => hv⟩
      · rintro v rest r s' ⟨hr, rfl, hall⟩
        refine wpAny_bind (all v (hall v (List.mem_cons_self ..)) _ _ ?_)
        simp only [Bool.not_true, Bool.false_eq_true, if_false]
        exact wpAny_pure ⟨rfl, rfl, fun u hu' => hall u (List.mem_cons_of_mem _ hu')⟩
      · rintro ⟨r1, r2⟩ s' ⟨hr, rfl, _⟩
        simp only at hr
        subst hr
        exact wpAny_pure q
theorem byV_keys {A : Around} {s : Shared} : ∀ (ks : List NestedKey) (vs : List Value) (n : Nat), NestedAll s.heap ks vs → nts ks = true → NestedKey.depthAll ks ≤ n → ∀ v ∈ vs, ∀ (E : Value → Shared → Prop) (Q : Bool → Shared → Prop), Q true s → wpAny (model P w) A (hashByValue n v) Q E s
  | [], vs, n, h, _, _, v, hv => by cases h; cases hv
  | k :: ks, vs, n, h, ht, hd, v, hv => by
    rw [NestedKey.depthAll] at hd
    rw [nts, Bool.and_eq_true] at ht
    cases h with
    | @cons _ v0 _ vs' h1 h2 =>
      rcases List.mem_cons.mp hv with e | hv
      · rw [e]; exact byV_key k v0 n h1 ht.1 (by omega)
      · exact byV_keys ks vs' n h2 ht.2 (by omega) v hv
end
/-- keys without texts, as a kind -/
def numKind (P : Program) (w : World) : HeapKind P w NestedKey where
  is := fun h k a => (nestedKind P w).is h k a ∧ nt k = true
  hash := (nestedKind P w).hash
  draws := (nestedKind P w).draws
  room := (nestedKind P w).room
  inj := fun hx hy => (nestedKind P w).inj hx.1 hy.1
  keeps := fun x ho hd hs => ⟨(nestedKind P w).keeps x.1 ho hd hs, x.2⟩
  pyHash := fun hu hk h => (nestedKind P w).pyHash hu hk.1 h
  eqBool := fun hu hx hy h => (nestedKind P w).eqBool hu hx.1 hy.1 h
  quiet := fun hk h => (nestedKind P w).quiet hk.1 h
theorem numEls (P : Program) (w : World) : Els (numKind P w) where
  st := ⟨fun hk x => ⟨(nestedKind_stays (prog := P) (w := w)).stays hk x.1, x.2⟩, fun x => (nestedKind_stays (prog := P) (w := w)).tuple x.1⟩
  ofA := fun hk q => ofA_key _ _ 8 hk.1.1 hk.1.2 _ _ q
  byV := fun hk q => byV_key _ _ 8 hk.1.1 hk.2 hk.1.2 _ _ q
end
section
variable {X : Cx} {pins : List (Addr × Obj)} {σ : L2.St} {H : Hp} {s : Shared}
mutual
/-- what stands for such data is that key in the heap -/
theorem is_key (I : Inv X pins σ H s) {b : Bool} : ∀ {d : PyData} {k : NestedKey} {v : V} {u : Value}, keyd b d = some k → DL.Rp X.K H v d → RelV v u → NestedIs s.heap k u
  | .int i, k, v, u, h, r, q => by
    cases b <;> simp [keyd] at h
    cases r
    obtain ⟨t, rfl⟩ := q
    rw [← h]; exact .int _ _
  | .bool c, k, v, u, h, r, q => by
    cases b <;> simp [keyd] at h
    cases r
    cases q
    rw [← h]; exact .bool rfl
  | .tuple xs, k, v, u, h, r, q => by
    obtain ⟨ks, a, rfl⟩ := keyd_tup h
    cases r with
    | tup hq hr =>
      cases q
      obtain ⟨its, rv, ⟨o, ho, hc, n, hd⟩, _⟩ := I.tuple hq.sq
      exact .tup ho hc hd (by simpa using is_keys I a hr rv)
  | .none, _, _, _, h, _, _ => by simp [keyd] at h
  | .str _, _, _, _, h, _, _ => by simp [keyd] at h
  | .list _, _, _, _, h, _, _ => by simp [keyd] at h
  | .dict _, _, _, _, h, _, _ => by simp [keyd] at h
theorem is_keys (I : Inv X pins σ H s) {b : Bool} : ∀ {ds : List PyData} {ks : List NestedKey} {vs : List V} {us : List Value}, keyds b ds = some ks → DL.RpAll X.K H vs ds → Vals vs us → NestedAll s.heap ks us
  | [], ks, vs, us, h, r, q => by
    simp [keyds] at h
    cases r
    cases q
    rw [h]; exact .nil
  | d :: ds, ks, vs, us, h, r, q => by
    obtain ⟨k, ks', a1, a2, rfl⟩ := keyds_cons h
    cases r with
    | cons r1 r2 =>
      cases q with
      | cons q1 q2 => exact .cons (is_key I a1 r1 q1) (is_keys I a2 r2 q2)
end
end
end DS
end

section
set_option Elab.async false
set_option linter.all false
set_option maxRecDepth 100000
set_option maxHeartbeats 4000000
/-! sorted(set(xs)) on data: what it tells. -/
namespace DS
open PySem PySem.Spec PyProof.Rows L2
/-- each once: the last of equal ones stays -/
def nubK (b : Bool) : List PyData → List PyData
  | [] => []
  | d :: ds => if (nubK b ds).any (fun x => decide (keyd b x = keyd b d)) then nubK b ds else d :: nubK b ds
def allK (b : Bool) (ds : List PyData) : Bool := ds.all fun d => (keyd b d).isSome
theorem allK_of {b : Bool} {ds : List PyData} (h : allK b ds = true) {d : PyData} (hd : d ∈ ds) : ∃ k, keyd b d = some k := by
  have := List.all_eq_true.mp h d hd
  exact Option.isSome_iff_exists.mp this
theorem nubK_mem {b : Bool} : ∀ {ds : List PyData}, allK b ds = true → ∀ {x : PyData}, x ∈ nubK b ds ↔ x ∈ ds
  | [], _, x => Iff.rfl
  | d :: ds, h, x => by
    have hd := allK_of h (List.mem_cons_self ..)
    have h' : allK b ds = true := by unfold allK at h ⊢; rw [List.all_cons, Bool.and_eq_true] at h; exact h.2
    have ih := fun {x} => nubK_mem h' (x := x)
    unfold nubK
    split
    · rename_i q
      obtain ⟨y, hy, e⟩ := List.any_eq_true.mp q
      rw [ih, List.mem_cons]
      refine ⟨.inr, fun z => z.elim (fun z => ?_) id⟩
      obtain ⟨k, hk⟩ := hd
      have e := of_decide_eq_true e
      rw [hk] at e
      rw [z, keyd_inj hk e]
      exact ih.mp hy
    · rw [List.mem_cons, List.mem_cons, ih]
theorem nubK_nodup {b : Bool} : ∀ {ds : List PyData}, (nubK b ds).Nodup
  | [] => List.nodup_nil
  | d :: ds => by
    unfold nubK
    split
    · exact nubK_nodup
    · rename_i q
      refine List.nodup_cons.mpr ⟨fun hm => q (List.any_eq_true.mpr ⟨d, hm, ?_⟩), nubK_nodup⟩
      simp
/-- all are tuples, keys of depth 8 at most -/
def allT (b : Bool) (ds : List PyData) : Bool := ds.all fun d => DL.isTup d && (match keyd b d with
  | some k => decide (k.depth ≤ 8)
  | none => false)
def allI (ds : List PyData) : Bool := ds.all fun d => match d with
  | .int _ => true
  | _ => false
/-- the way in which a set of them is known: their atoms, and whether they are tuples -/
def setWay (ds : List PyData) : Option (Bool × Bool) :=
  if allI ds = true ∧ ds.length ≤ 1000 then some (false, false) else if allT false ds = true ∧ ds.length ≤ 75 then some (false, true) else if allT true ds = true ∧ ds.length ≤ 75 then some (true, true) else none
def setOfD (ds : List PyData) : DL.R PyData := match setWay ds with
  | some (b, _) => .ok (.list (nubK b ds))
  | none => .bad
/-- what set(xs) is, as a list -/
def dSetL : PyData → DL.R PyData
  | .list ds => setOfD ds
  | .tuple ds => setOfD ds
  | _ => .bad
theorem allK_T {b : Bool} {ds : List PyData} (h : allT b ds = true) : allK b ds = true := List.all_eq_true.mpr fun d hd => by
  have := List.all_eq_true.mp h d hd
  rw [Bool.and_eq_true] at this
  cases q : keyd b d with
  | none => rw [q] at this; exact absurd this.2 (by decide)
  | some k => rfl
theorem allK_I {ds : List PyData} (h : allI ds = true) : allK false ds = true := List.all_eq_true.mpr fun d hd => by
  have := List.all_eq_true.mp h d hd
  cases d with
  | int i => rfl
  | _ => cases this
theorem setWay_of {ds : List PyData} {b c : Bool} (h : setWay ds = some (b, c)) : allK b ds = true ∧ ((c = false ∧ b = false ∧ allI ds = true ∧ ds.length ≤ 1000) ∨ (c = true ∧ allT b ds = true ∧ ds.length ≤ 75)) := by
  unfold setWay at h
  split at h
  · rename_i q; cases h; exact ⟨allK_I q.1, .inl ⟨rfl, rfl, q⟩⟩
  · split at h
    · rename_i q; cases h; exact ⟨allK_T q.1, .inr ⟨rfl, q⟩⟩
    · split at h
      · rename_i q; cases h; exact ⟨allK_T q.1, .inr ⟨rfl, q⟩⟩
      · cases h
/-- the set at a, its items' values in the order of its table -/
def SetRaw (w : World) (a : Addr) (vals : List Value) (h : Heap) : Prop := ∃ o es ep t, h.get? a = some o ∧ o.ExactSet ∧ o.data = .set es ep t ∧ es.toList.map (·.2) = vals ∧ es.size < scanBound ∧ t.fits es.size = true ∧ Ris t.place.toList ∧
  (w.params.followText "set-order" = true ∨ t.led = true)
def SetO (w : World) (a : Addr) (vals : List Value) : HO := .ext (SetRaw w a vals)
theorem setO_ok {P : Program} {w : World} {H : Hp} {h : Heap} {a : Addr} {vals : List Value} (R : SetRaw w a vals h) : ObjOk P w H h a (SetO w a vals) := by
  obtain ⟨o, es, ep, t, ho, r⟩ := id R
  refine ⟨R, ⟨o, ho⟩, fun h1 h2 ⟨o1, es1, ep1, t1, ho1, r1⟩ k => ⟨o1, es1, ep1, t1, k o1 ho1, r1⟩⟩
/-- v is a set whose items are those of the list d -/
def ρS (K : PySem.W.Frag) (w : World) : Hp → Hp → V → PyData → Prop := fun H Hf v d => ∃ a ds b, ∃ L : List (Value × V × PyData), v = .ref a ∧ d = .list ds ∧ allK b ds = true ∧ H a = some (SetO w a (L.map (·.1))) ∧
  (∀ p ∈ L, RelV p.2.1 p.1 ∧ DL.Rp K Hf p.2.1 p.2.2) ∧ (L.map (·.2.2)).Perm ds
section
variable {X : Cx} {pins : List (Addr × Obj)} {σ : L2.St} {H Hf : Hp} {s : Shared}
theorem zip_of {K : PySem.W.Frag} : ∀ {vs : List V} {ds : List PyData} {its : List Value}, DL.RpAll K Hf vs ds → Vals vs its → ∃ Z : List (Value × V × PyData), Z.map (·.1) = its ∧ Z.map (·.2.2) = ds ∧ ∀ z ∈ Z, RelV z.2.1 z.1 ∧ DL.Rp K Hf z.2.1 z.2.2
  | _, _, _, .nil, .nil => ⟨[], rfl, rfl, fun z hz => by cases hz⟩
  | _, _, _, .cons (v := v) (d := d) h t, .cons (b := u) r q => by
    obtain ⟨Z, z1, z2, z3⟩ := zip_of t q
    refine ⟨(u, v, d) :: Z, by rw [List.map_cons, z1], by rw [List.map_cons, z2], fun z hz => ?_⟩
    rcases List.mem_cons.mp hz with rfl | hz
    · exact ⟨r, h⟩
    · exact z3 z hz
end
end DS
end

section
set_option Elab.async false
set_option linter.all false
set_option maxRecDepth 100000
set_option maxHeartbeats 4000000
/-! set(xs), sorted(set(xs)) on data: the calls. -/
namespace DS
open PySem PySem.Spec PyProof.Rows L2
theorem lift_map {α β : Type} {f : α → β} {Z : List α} : ∀ {L : List β}, (∀ p ∈ L, ∃ z ∈ Z, f z = p) → ∃ Lz : List α, Lz.map f = L ∧ ∀ z ∈ Lz, z ∈ Z
  | [], _ => ⟨[], rfl, fun z hz => by cases hz⟩
  | p :: L, h => by
    obtain ⟨z, hz, e⟩ := h p (List.mem_cons_self ..)
    obtain ⟨Lz, e2, h2⟩ := lift_map fun q hq => h q (List.mem_cons_of_mem _ hq)
    refine ⟨z :: Lz, by rw [List.map_cons, e, e2], fun y hy => ?_⟩
    rcases List.mem_cons.mp hy with rfl | hy
    · exact hz
    · exact h2 y hy
def adr : Value → Addr
  | .ref a => a
  | _ => 0
theorem mem_take_succ {α : Type} {l : List α} {i : Nat} {x : α} (h : l[i]? = some x) {y : α} : y ∈ l.take (i + 1) ↔ y ∈ l.take i ∨ y = x := by
  rw [List.take_add_one, h]
  simp
section
variable {X : Cx} {pins : List (Addr × Obj)} {σ : L2.St} {H Hf : Hp} {s : Shared}
theorem run_set (hc : X.calm = true) (hu : X.A.units + 100 < cLine) (I : Inv X pins σ H s) (hs : Same Hf H) {xs : List V} {ds : List PyData} {its : List Value} {l : Addr} (r : DL.RpAll X.K Hf xs ds) (rv : Vals xs its)
    (hl : s.heap.IsList l its.toArray ∨ s.heap.IsTuple l its.toArray) {b c : Bool} (hw : setWay ds = some (b, c)) {Q : V → Hp → Prop}
    (h : ∀ a H', DL.Ext H Hf H' Hf → ρS X.K X.w H' Hf (.ref a) (.list (nubK b ds)) → Q (.ref a) H') :
    wpAny (model X.prog X.w) X.A (call (.type "set") [.ref l]) (EP X pins σ Q) X.xe s := by
  obtain ⟨hK, way⟩ := setWay_of hw
  obtain ⟨Z, z1, z2, z3⟩ := zip_of r rv
  have hn : H s.heap.objs.size = none := I.hok.fresh (Nat.le_refl _)
  have hlen : Z.length = ds.length := by rw [← z2, List.length_map]
  have fin : ∀ (h' : Heap) (tk : Nat), (∃ Lz : List (Value × V × PyData), SetRaw X.w s.heap.objs.size (Lz.map (·.1)) h' ∧ (∀ z ∈ Lz, RelV z.2.1 z.1 ∧ DL.Rp X.K Hf z.2.1 z.2.2) ∧ (Lz.map (·.2.2)).Nodup ∧ ∀ x, x ∈ Lz.map (·.2.2) ↔ x ∈ ds) → (∀ b o, s.heap.get? b = some o → h'.get? b = some o) →
      EP X pins σ Q (.ref s.heap.objs.size) { s with heap := h', toks := tk } := by
    rintro h' tk ⟨Lz, R, hz, nd, hm⟩ k
    refine ⟨.ref s.heap.objs.size, _, I.laid (t' := tk) k (Nat.le_refl _) (setO_ok R), rfl, h _ _ (DL.Ext.fresh hs hn) ⟨_, _, b, Lz, rfl, rfl, ?_, upd_same, hz, ?_⟩⟩
    · refine List.all_eq_true.mpr fun d hd => ?_
      exact List.all_eq_true.mp hK d ((nubK_mem hK).mp hd)
    · exact (List.perm_ext_iff_of_nodup nd nubK_nodup).mpr fun x => (hm x).trans (nubK_mem hK).symm
  have hzd : ∀ z ∈ Z, z.2.2 ∈ ds := fun z hz => by rw [← z2]; exact List.mem_map.mpr ⟨z, hz, rfl⟩
  rcases way with ⟨rfl, rfl, hI, hle⟩ | ⟨rfl, hT, hle⟩
  · -- whole numbers
    have hint : ∀ z ∈ Z, ∃ i t, z.1 = .int i t ∧ z.2.1 = .int i ∧ z.2.2 = .int i := fun z hz => by
      have a := List.all_eq_true.mp hI _ (hzd z hz)
      obtain ⟨b1, b2⟩ := z3 z hz
      obtain ⟨u, v, d⟩ := z
      cases d with
      | int i => cases b2; obtain ⟨t, e⟩ := b1; exact ⟨i, t, e, rfl, rfl⟩
      | _ => cases a
    let num : Value × V × PyData → Int := fun z => match z.2.2 with
      | .int i => i
      | _ => 0
    let ns : List Int := Z.map num
    refine call_set_of (I.ok.hd hc) hl (fun i h' => ∃ S n, SetR X.w h' s.heap.objs.size S n ∧ (∀ k, S k = true ↔ k ∈ ns.take i) ∧ n ≤ i) (fun A' hA => ⟨?_, ?_, ?_⟩) fun h' tk ⟨S, n, R, hS, _⟩ k => fin h' tk ?_ k
    · rintro i h1 h2 ⟨S, n, R, a⟩ _ k1 _
      exact ⟨S, n, R.at k1, a⟩
    · rintro i v s1 E Q1 hi ⟨S, n, R, hS, hle2⟩ hk hQ
      have hiz : ∃ z, Z[i]? = some z ∧ z.1 = v := by
        have : its[i]? = some v := by simpa using hi
        rw [← z1, List.getElem?_map] at this
        cases q : Z[i]? with
        | none => rw [q] at this; cases this
        | some z => rw [q] at this; exact ⟨z, rfl, Option.some.inj this⟩
      obtain ⟨z, hz, rfl⟩ := hiz
      obtain ⟨j, t, e1, e2, e3⟩ := hint z (List.mem_of_getElem? hz)
      have hnz : ns[i]? = some j := by
        show (Z.map num)[i]? = _
        rw [List.getElem?_map, hz]
        show some (num z) = _
        show some (match z.2.2 with | .int i => i | _ => 0) = _
        rw [e3]
      have hilt : i < Z.length := (List.getElem?_eq_some_iff.mp hz).1
      rw [e1]
      unfold setAdd
      refine wpAny_holding (wpAny_bind ((intKind X.prog X.w).pyHash (intKind_is X.prog X.w j t) ?_))
      refine setR_add_hashed (s := { s1 with toks := s1.toks + 1 }) R (by unfold scanBound; omega) fun h' sb R' => ?_
      refine hQ _ h' _ sb ⟨_, _, R', fun k => ?_, ?_⟩ (Nat.le_succ _)
      · rw [mem_take_succ hnz, Bool.or_eq_true, decide_eq_true_eq, hS]
      · split <;> omega
    · intro h' e
      refine ⟨fun _ => false, 0, ⟨_, #[], 0, _, e, ⟨rfl, rfl, rfl⟩, rfl, fun x hx => (by simp at hx), List.nodup_nil, fun k => (by simp), by decide, rfl, rfl, List.Pairwise.nil, ?_⟩, fun k => by simp, Nat.le_refl _⟩
      show _ ∨ (!X.w.params.followText "set-order") = true
      cases X.w.params.followText "set-order"
      · exact .inr rfl
      · exact .inl rfl
    · obtain ⟨o, es, ep, t, ho, hex, hd, hg, nd, hm, hb, hf, hnn, hr, hl2⟩ := R
      refine ⟨es.toList.map fun e => (e.2, V.int (keyOf e), PyData.int (keyOf e)), ⟨o, es, ep, t, ho, hex, hd, by rw [List.map_map]; rfl, hb, hf, hr, hl2⟩, fun z hz => ?_, ?_, fun x => ?_⟩
      · obtain ⟨e, he, rfl⟩ := List.mem_map.mp hz
        obtain ⟨k, tk, g1, _⟩ := hg e he
        refine ⟨⟨tk, ?_⟩, .int _⟩
        show e.2 = _
        unfold keyOf
        rw [g1]
      · rw [List.map_map]
        have : (es.toList.map ((fun x : Value × V × PyData => x.2.2) ∘ fun e => (e.2, V.int (keyOf e), PyData.int (keyOf e)))) = (es.toList.map keyOf).map PyData.int := by rw [List.map_map]; rfl
        rw [this]
        exact List.pairwise_map.mpr (List.Pairwise.imp (fun {a b} hab e => hab (PyData.int.inj e)) nd)
      · have hsz : (its.toArray).size = Z.length := by rw [List.size_toArray, ← z1, List.length_map]
        have mm : ∀ k, k ∈ es.toList.map keyOf ↔ k ∈ ns := fun k => by
          rw [← hm k, hS k, hsz, List.take_of_length_le (by show (Z.map num).length ≤ _; rw [List.length_map]; exact Nat.le_refl _)]
        constructor
        · intro hx
          obtain ⟨p, hp, rfl⟩ := List.mem_map.mp hx
          obtain ⟨e, he, rfl⟩ := List.mem_map.mp hp
          obtain ⟨z, hz, e2⟩ := List.mem_map.mp ((mm _).mp (List.mem_map.mpr ⟨e, he, rfl⟩))
          obtain ⟨j, t, _, _, e3⟩ := hint z hz
          have : num z = j := by show (match z.2.2 with | .int i => i | _ => 0) = j; rw [e3]
          show PyData.int (keyOf e) ∈ ds
          rw [← e2, this, ← e3]
          exact hzd z hz
        · intro hx
          rw [← z2] at hx
          obtain ⟨z, hz, rfl⟩ := List.mem_map.mp hx
          obtain ⟨j, t, _, _, e3⟩ := hint z hz
          have : num z = j := by show (match z.2.2 with | .int i => i | _ => 0) = j; rw [e3]
          obtain ⟨e, he, e4⟩ := List.mem_map.mp ((mm j).mpr (List.mem_map.mpr ⟨z, hz, this⟩))
          refine List.mem_map.mpr ⟨_, List.mem_map.mpr ⟨e, he, rfl⟩, ?_⟩
          show PyData.int (keyOf e) = _
          rw [e4, e3]
  · -- tuples
    have hkey : ∀ z ∈ Z, ∃ p k, z.1 = .ref p ∧ z.2.1 = .ref p ∧ keyd b z.2.2 = some k ∧ (numKind X.prog X.w).is s.heap k p := fun z hz => by
      have a := List.all_eq_true.mp hT _ (hzd z hz)
      obtain ⟨b1, b2⟩ := z3 z hz
      obtain ⟨u, v, d⟩ := z
      rw [Bool.and_eq_true] at a
      cases d with
      | tuple ys =>
        obtain ⟨k, hk⟩ := allK_of hK (hzd _ hz)
        have a2 := a.2
        simp only [hk] at a2
        have hd8 : k.depth ≤ 8 := by simpa using a2
        have q := is_key I hk (b2.mono hs) b1
        cases b2 with
        | tup hq hr =>
          cases b1
          exact ⟨_, k, rfl, rfl, hk, ⟨⟨q, hd8⟩, keyd_nt hk⟩⟩
      | _ => cases a.1
    let f : Value × V × PyData → Addr × NestedKey := fun z => (adr z.1, (keyd b z.2.2).getD .none)
    let ks : List (Addr × NestedKey) := Z.map f
    have hf : ∀ z ∈ Z, z.1 = .ref (f z).1 ∧ keyd b z.2.2 = some (f z).2 ∧ (numKind X.prog X.w).is s.heap (f z).2 (f z).1 := fun z hz => by
      obtain ⟨p, k, e1, e2, e3, e4⟩ := hkey z hz
      have a1 : (f z).1 = p := by show adr z.1 = p; rw [e1]; rfl
      have a2 : (f z).2 = k := by show (keyd b z.2.2).getD .none = k; rw [e3]; rfl
      rw [a1, a2]
      exact ⟨e1, e3, e4⟩
    have stay : ∀ {h1 h2 : Heap} {k : NestedKey} {p : Addr}, (numKind X.prog X.w).is h1 k p → (∀ c o, h1.get? c = some o → h2.get? c = some o) → (numKind X.prog X.w).is h2 k p := fun x k => (numEls X.prog X.w).st.stays (fun c o vs n e _ => k c o e) x
    have hks : ∀ p ∈ ks, (numKind X.prog X.w).is s.heap p.2 p.1 := fun p hp => by
      obtain ⟨z, hz, rfl⟩ := List.mem_map.mp hp
      exact (hf z hz).2.2
    refine call_set_of (I.ok.hd hc) hl (fun i h' => ∃ L es ep t, SetH (numKind X.prog X.w) h' s.heap.objs.size L es ep t ∧ (∀ p ∈ L, p ∈ ks.take i) ∧ (∀ p ∈ ks.take i, p.2 ∈ L.map (·.2)) ∧ L.length ≤ i) (fun A' hA => ⟨?_, ?_, ?_⟩) fun h' tk ⟨L, es, ep, t, R, g1, g2, _⟩ k => fin h' tk ?_ k
    · rintro i h1 h2 ⟨L, es, ep, t, R, g1, g2, g3⟩ k0 k1 k2
      obtain ⟨o, ho, r⟩ := R.ob
      exact ⟨L, es, ep, t, ⟨⟨o, k1 o ho, r⟩, R.rw_, R.tab, R.nd, fun p hp => stay (hks p (List.mem_of_mem_take (g1 p hp))) k2, R.pl, R.led, R.room⟩, g1, g2, g3⟩
    · rintro i v s1 E Q1 hi ⟨L, es, ep, t, R, g1, g2, g3⟩ hk hQ
      have hiz : ∃ z, Z[i]? = some z ∧ z.1 = v := by
        have : its[i]? = some v := by simpa using hi
        rw [← z1, List.getElem?_map] at this
        cases q : Z[i]? with
        | none => rw [q] at this; cases this
        | some z => rw [q] at this; exact ⟨z, rfl, Option.some.inj this⟩
      obtain ⟨z, hz, rfl⟩ := hiz
      have hnz : ks[i]? = some (f z) := by show (Z.map f)[i]? = _; rw [List.getElem?_map, hz]; rfl
      obtain ⟨e1, e2, e3⟩ := hf z (List.mem_of_getElem? hz)
      have hilt : i < Z.length := (List.getElem?_eq_some_iff.mp hz).1
      have hx := stay e3 hk
      have hroom : (numKind X.prog X.w).room A' := by show A'.units + 8 < cLine; omega
      rw [e1]
      unfold setAdd
      refine wpAny_holding (wpAny_bind ((numKind X.prog X.w).pyHash hroom hx ?_))
      refine put_hashed (s := { s1 with toks := s1.toks + (numKind X.prog X.w).draws (f z).2 }) (numEls X.prog X.w) R hx hroom (by omega) fun bb h' L' es' ep' t' sb R' c1 c2 => ?_
      refine hQ _ h' _ sb ⟨L', es', ep', t', R', ?_⟩ (Nat.le_add_right _ _)
      rcases Classical.em ((f z).2 ∈ L.map (·.2)) with q | q
      · rw [c1 q]
        refine ⟨fun p hp => (mem_take_succ hnz).mpr (.inl (g1 p hp)), fun p hp => ?_, by omega⟩
        rcases (mem_take_succ hnz).mp hp with hp | rfl
        · exact g2 p hp
        · exact q
      · have pm := c2 q
        refine ⟨fun p hp => ?_, fun p hp => ?_, by rw [pm.length_eq, List.length_cons]; omega⟩
        · rcases List.mem_cons.mp (pm.mem_iff.mp hp) with rfl | hp
          · exact (mem_take_succ hnz).mpr (.inr rfl)
          · exact (mem_take_succ hnz).mpr (.inl (g1 p hp))
        · rw [(pm.map (·.2)).mem_iff, List.map_cons]
          rcases (mem_take_succ hnz).mp hp with hp | rfl
          · exact List.mem_cons_of_mem _ (g2 p hp)
          · exact List.mem_cons_self ..
    · intro h' e
      refine ⟨[], #[], 0, _, ⟨⟨_, e, ⟨rfl, rfl, rfl⟩, rfl⟩, rfl, ⟨List.Pairwise.nil, rfl, rfl, .inl rfl, fun x hx => (by cases hx), fun i h j hi => (by simp at hi)⟩, List.nodup_nil, fun p hp => (by cases hp), rfl, ?_, (show 0 * 5 < 7 * 3 by decide)⟩, fun p hp => (by cases hp), fun p hp => (by simp at hp), Nat.le_refl _⟩
      show _ ∨ (!X.w.params.followText "set-order") = true
      cases X.w.params.followText "set-order"
      · exact .inr rfl
      · exact .inl rfl
    · have hsz : (its.toArray).size = Z.length := by rw [List.size_toArray, ← z1, List.length_map]
      have hall : ks.take its.toArray.size = ks := List.take_of_length_le (by show (Z.map f).length ≤ _; rw [List.length_map, hsz]; exact Nat.le_refl _)
      rw [hall] at g1 g2
      obtain ⟨Lz, e1, e2⟩ := lift_map (f := f) (Z := Z) (L := L) fun p hp => by
        obtain ⟨z, hz, e⟩ := List.mem_map.mp (g1 p hp)
        exact ⟨z, hz, e⟩
      obtain ⟨o, ho, hex, hd⟩ := R.ob
      have few := R.few (s := { s with heap := h' })
      refine ⟨Lz, ⟨o, es, ep, t, ho, hex, hd, ?_, by rw [size_of R.rw_]; unfold scanBound; omega, R.fits (s := { s with heap := h' }), R.tab.ris, R.led⟩, fun z hz => z3 z (e2 z hz), ?_, fun x => ?_⟩
      · rw [R.rw_, rows, ← e1, List.map_map, List.map_map]
        exact List.map_congr_left fun z hz => ((hf z (e2 z hz)).1).symm
      · have nd := R.nd
        rw [← e1, List.map_map] at nd
        refine List.pairwise_map.mpr (List.Pairwise.imp_of_mem (fun {y z} hy hz hne e => hne ?_) (List.pairwise_map.mp nd))
        show (f y).2 = (f z).2
        have a := (hf y (e2 y hy)).2.1
        rw [e, (hf z (e2 z hz)).2.1] at a
        exact (Option.some.inj a).symm
      · constructor
        · intro hx
          obtain ⟨z, hz, rfl⟩ := List.mem_map.mp hx
          exact hzd z (e2 z hz)
        · intro hx
          rw [← z2] at hx
          obtain ⟨z, hz, rfl⟩ := List.mem_map.mp hx
          obtain ⟨p, hp, e⟩ := List.mem_map.mp (g2 (f z) (List.mem_map.mpr ⟨z, hz, rfl⟩))
          rw [← e1] at hp
          obtain ⟨y, hy, rfl⟩ := List.mem_map.mp hp
          refine List.mem_map.mpr ⟨y, hy, keyd_inj (b := b) (k := (f z).2) ?_ (hf z hz).2.1⟩
          rw [← e]
          exact (hf y (e2 y hy)).2.1
end
end DS
end

section
set_option Elab.async false
set_option linter.all false
set_option maxRecDepth 100000
set_option maxHeartbeats 4000000
/-! sorted(set(xs)) on data: the expression. -/
namespace DS
open PySem PySem.Spec PyProof.Rows L2
theorem lt_tr {a b c : PyData} (h1 : PySem.W.dataLt a b = true) (h2 : PySem.W.dataLt b c = true) : PySem.W.dataLt a c = true := lex_trans _ _ _ h1 h2
theorem lt_irr (a : PyData) : PySem.W.dataLt a a = false := lex_irrefl _
theorem lt_tot {a b : PyData} (h1 : PySem.W.dataLt a b = false) (h2 : PySem.W.dataLt b a = false) : PySem.W.keyToks a = PySem.W.keyToks b := lex_total _ _ h1 h2
theorem le_tr (a b c : PyData) (h1 : DL.dLeB a b = true) (h2 : DL.dLeB b c = true) : DL.dLeB a c = true := by
  unfold DL.dLeB at *
  simp only [Bool.not_eq_true'] at h1 h2 ⊢
  cases q : PySem.W.dataLt c a with
  | false => rfl
  | true =>
    cases q2 : PySem.W.dataLt a b with
    | true => rw [lt_tr q q2] at h2; cases h2
    | false =>
      have e := lt_tot q2 h1
      unfold PySem.W.dataLt at q h2
      rw [← e] at h2
      rw [q] at h2; cases h2
theorem le_tot (a b : PyData) : (DL.dLeB a b || DL.dLeB b a) = true := by
  unfold DL.dLeB
  simp only [Bool.or_eq_true, Bool.not_eq_true']
  cases q : PySem.W.dataLt b a with
  | false => exact .inl rfl
  | true =>
    cases q2 : PySem.W.dataLt a b with
    | false => exact .inr rfl
    | true => have := lt_tr q q2; rw [lt_irr] at this; cases this
theorem le_anti {b : Bool} {x y : PyData} (hx : ∃ k, keyd b x = some k) (hy : ∃ k, keyd b y = some k) (al : PySem.W.alike x y = true) (h1 : DL.dLeB x y = true) (h2 : DL.dLeB y x = true) : x = y := by
  unfold DL.dLeB at h1 h2
  simp only [Bool.not_eq_true'] at h1 h2
  have e := lt_tot h2 h1
  obtain ⟨k, hk⟩ := hx
  obtain ⟨j, hj⟩ := hy
  cases q : PyData.eqv x y with
  | true =>
    have := keyd_eqv hk hj q
    subst this
    exact keyd_inj hk hj
  | false =>
    have t := (PySem.W.toks_eqv x y al).2 q [] [Sum.inl 0]
    rw [e, PySem.W.lex_pre, lex_irrefl] at t
    exact absurd (show true = false from t) (by decide)
theorem sortD_perm {b : Bool} {l r : List PyData} (pm : l.Perm r) (hK : allK b r = true) (al : PySem.W.AllAlike r) : DL.sortD l = DL.sortD r := by
  unfold DL.sortD
  refine List.Perm.eq_of_pairwise (le := fun a b => DL.dLeB a b = true) (fun x y hx hy h1 h2 => ?_) (List.pairwise_mergeSort le_tr le_tot l) (List.pairwise_mergeSort le_tr le_tot r) ((List.mergeSort_perm l _).trans (pm.trans (List.mergeSort_perm r _).symm))
  have mx : x ∈ r := pm.mem_iff.mp ((List.mergeSort_perm l _).mem_iff.mp hx)
  have my : y ∈ r := (List.mergeSort_perm r _).mem_iff.mp hy
  exact le_anti (allK_of hK mx) (allK_of hK my) (al x mx y my) h1 h2
section
variable {ec : DL.EC} {X : Cx} {W : WX} {pins : List (Addr × Obj)} {σ : L2.St} {H Hf : Hp} {s : Shared}
theorem each_of {α β : Type} {R : α → β → Prop} (f : β → α) : ∀ {bs : List β}, (∀ b ∈ bs, R (f b) b) → PySem.W.EachIs R (bs.map f) bs
  | [], _ => .nil
  | b :: bs, h => .cons (h b (List.mem_cons_self ..)) (each_of f fun c hc => h c (List.mem_cons_of_mem _ hc))
theorem vals_each : ∀ {out : List Value} {bs : List (Value × V × PyData)}, PySem.W.EachIs (fun (u : Value) (p : Value × V × PyData) => RelV p.2.1 u) out bs → Vals (bs.map (·.2.1)) out
  | _, _, .nil => .nil
  | _, _, .cons r t => .cons r (vals_each t)
theorem rp_each {K : PySem.W.Frag} : ∀ {bs : List (Value × V × PyData)}, (∀ p ∈ bs, DL.Rp K Hf p.2.1 p.2.2) → DL.RpAll K Hf (bs.map (·.2.1)) (bs.map (·.2.2))
  | [], _ => .nil
  | b :: bs, h => .cons (h b (List.mem_cons_self ..)) (rp_each fun c hc => h c (List.mem_cons_of_mem _ hc))
theorem run_sorted (hc : X.calm = true) (hu : DL.Rm X) (I : Inv X pins σ H s) (hs : Same Hf H) {v : V} {d : PyData} {u : Value} (rx : RelV v u) (r : ρS X.K X.w H Hf v d) {Q : V → Hp → Prop} (p : DL.Post ec X.K W σ (DL.ρN X.K H) Q H Hf (DL.dSorted d)) :
    wpAny (model X.prog X.w) X.A (call (.builtin "sorted") [u]) (EP X pins σ Q) X.xe s := by
  obtain ⟨a, ds, b, L, rfl, rfl, hK, ha, hL, pm⟩ := r
  cases rx
  have hu' : X.A.units + 150 < cLine := hu
  have R : SetRaw X.w a (L.map (·.1)) s.heap := (I.hok a _ ha).1
  obtain ⟨o, es, ep, t, ho, hex, hd, hv, hb, hf, hr, hl⟩ := R
  unfold DL.dSorted at p
  by_cases hso : DL.sortOk ds = true
  · simp only [hso, if_true] at p
    obtain ⟨h1, h2, h3, h4⟩ := DL.sortOk_of hso
    refine Calls.call_function_entry kind_sorted plain_sorted entry_sorted (args_sorted1 _) ?_
    unfold Builtin.«sorted»
    refine wpAny_bind (m := checkCount "sorted" 1 1 _) (wpAny_pure ?_)
    refine wpAny_bind (collect_set (A := X.A.in1) (I.ok.hd hc) ⟨o, ho, hex.1, hd⟩ hf hb hr hl fun s1 vs k1 hz g1 o1 pv => ?_)
    rw [hv] at pv
    obtain ⟨L', pL, eL⟩ := perm_lift (·.1) pv L rfl
    have inL : ∀ q ∈ L', q ∈ L := fun q hq => pL.mem_iff.mp hq
    have hsz : vs.length ≤ 4096 := by
      rw [pv.length_eq, ← hv, List.length_map, Array.length_toList]; unfold scanBound at hb; omega
    have hll : L'.length = vs.length := by rw [← eL, List.length_map]
    refine wpAny_bind (wpAny_newList ?_ (by rw [sizeLine_eq]; omega))
    have hoL : (s1.heap.push (seqObj "list" vs.toArray 0)).get? s1.heap.objs.size = some (seqObj "list" vs.toArray 0) := Heap.get?_push_size _ rfl
    have pd : (L'.map (·.2.2)).Perm ds := (pL.map (·.2.2)).trans pm
    have dsub : ∀ x ∈ L'.map (·.2.2), x ∈ ds := fun x hx => pd.mem_iff.mp hx
    have hal : PySem.W.AllAlike (L'.map (·.2.2)) := fun x hx y hy => h2 x (dsub x hx) y (dsub y hy)
    have hsk : PySem.W.Sortable (L'.map (·.2.2)) := h3.imp (fun q x hx => q x (dsub x hx)) (fun q x hx => q x (dsub x hx))
    have each_vs : ∀ {R : Value → Value × V × PyData → Prop}, (∀ q ∈ L', R q.1 q) → PySem.W.EachIs R vs L' := fun {R} h => by
      have q := each_of (R := R) (fun q : Value × V × PyData => q.1) h
      have e : L'.map (fun q : Value × V × PyData => q.1) = vs := eL
      rwa [e] at q
    have e1 : PySem.W.EachIs (fun (u : Value) (p : Value × V × PyData) => RelV p.2.1 u) vs L' := each_vs fun q hq => (hL q (inL q hq)).1
    have old : ∀ b u, s.heap.get? b = some u → (PySem.W.sortingHeap (s1.heap.push (seqObj "list" vs.toArray 0)) s1.heap.objs.size vs).get? b = some u := fun b u e => by
      have q := k1 b u e
      exact PySem.W.sortingHeap_old (Nat.ne_of_lt (Heap.lt_size q)) (Heap.get?_push_of_some _ q)
    have er : PySem.W.EachIs (fun v (p : Value × V × PyData) => ∃ as, Reads (PySem.W.sortingHeap (s1.heap.push (seqObj "list" vs.toArray 0)) s1.heap.objs.size vs) v p.2.2 as) vs L' := by
      refine each_vs fun q hq => ?_
      obtain ⟨q1, q2⟩ := hL q (inL q hq)
      obtain ⟨as, r⟩ := Dp.reads I _ _ _ (DL.Rp.dp _ _ (h1 _ (dsub _ (List.mem_map.mpr ⟨q, hq, rfl⟩))) (q2.mono hs)) q1
      exact ⟨as, PyProof.Rows.Reads.keeps old r⟩
    have hS := PySem.W.SortsAt.data (prog := X.prog) (w := X.w) (A := X.A.in1.in1) (s := { s1 with heap := PySem.W.sortingHeap (s1.heap.push (seqObj "list" vs.toArray 0)) s1.heap.objs.size vs })
      (PySem.W.each_map (R := fun v d => ∃ as, Reads (PySem.W.sortingHeap (s1.heap.push (seqObj "list" vs.toArray 0)) s1.heap.objs.size vs) v d as) (fun p : Value × V × PyData => p.2.2) er) hal hsk (fun d hd => by have := h4 d (dsub d hd); simp only [Around.in1_units]; omega)
    refine wpAny_bind (wpAny_holding (wpAny_call_entry slot_list_sort ⟨_, hoL, rfl⟩ entry_list_sort (PySem.W.list_sort_vals (s := { s1 with heap := s1.heap.push (seqObj "list" vs.toArray 0) }) hoL hS (by rw [sizeLine_eq]; omega) ⟨_, rfl, ?_⟩) (args_list_sort _)))
    have ee := PySem.W.sortVals_data (enc := fun p : Value × V × PyData => p.2.2) false e1 er hal
    generalize PySem.W.sortVals (PySem.W.dataKind (PySem.W.sortingHeap (s1.heap.push (seqObj "list" vs.toArray 0)) s1.heap.objs.size vs) (L'.map (·.2.2))) false vs vs = out at ee ⊢
    obtain ⟨c, hcc⟩ := sortedHeap_at (vs := vs) (out := List.toArray out) hoL
    have hp : s.heap.objs.size ≤ s1.heap.objs.size := hz
    have hn : H s1.heap.objs.size = none := I.hok.fresh hp
    have rv := vals_each ee
    have em : (L'.mergeSort (PySem.W.dataLe false fun p : Value × V × PyData => p.2.2)).map (·.2.2) = DL.sortD ds :=
      ((PySem.W.sort_maps (r := PySem.W.dataLe false fun p : Value × V × PyData => p.2.2) (s := DL.dLeB) (·.2.2) (l := L') (fun _ _ _ _ => rfl)).trans rfl).trans (sortD_perm pd hK h2)
    have r2 : DL.RpAll X.K Hf ((L'.mergeSort (PySem.W.dataLe false fun p : Value × V × PyData => p.2.2)).map (·.2.1)) (DL.sortD ds) := by
      rw [← em]
      exact rp_each fun q hq => (hL q (inL q ((List.mergeSort_perm _ _).mem_iff.mp hq))).2
    have kk : ∀ b u, s.heap.get? b = some u → (sortedHeap (s1.heap.push (seqObj "list" vs.toArray 0)) s1.heap.objs.size vs (List.toArray out)).get? b = some u := fun b u e => by
      have q := k1 b u e
      have hlt := Heap.lt_size q
      rw [sortedHeap_old (Nat.ne_of_lt hlt) (by rw [size_push']; exact Nat.lt_succ_of_lt hlt)]
      exact Heap.get?_push_of_some _ q
    refine wpAny_pure ⟨_, rfl, .ref s1.heap.objs.size, _, I.call' (ch := []) (H' := upd H s1.heap.objs.size (.lst ((L'.mergeSort (PySem.W.dataLe false fun p : Value × V × PyData => p.2.2)).map (·.2.1)))) o1 (Un.laid kk hp hn) (I.hok.laid kk hp ⟨?_, out, c, rv, hcc⟩) (by show AllBare s1.gens; rw [g1]; exact I.bare) (fun _ z => nomatch z), rfl, DL.new_list p hs r2 hn⟩
    rw [List.length_map, List.length_mergeSort, sizeLine_eq]; omega
  · simp only [hso] at p
    exact p.elim
end
end DS
end

section
set_option Elab.async false
set_option linter.all false
set_option maxRecDepth 100000
set_option maxHeartbeats 4000000
/-! sorted(set(x)). -/
namespace DL
open PySem PySem.Spec PyProof.Rows L2
def dSetL := DS.dSetL
def dSortSet : PyData → R PyData := fun x => (dSetL x).bind dSorted
section
variable {ec : EC} {X : Cx} {W : WX} {O : List Nat} {e : Expr} {f : DEnv → R PyData} {pos pos2 p p2 : Pos}
theorem pe_setD (hc : X.calm = true) (hu : Rm X) (hm : X.mg "set" = none) (ha : DW ec X W O e f) (hg : Gl X "set" := by rfl)
    (he : starEach [e] X.env = (false, eval e X.env) :: starEach [] X.env := by rfl) (hpl : (backTo pos (starEach [] X.env)).any (·.1) = false := by rfl) : PE X (.Call (.Name "set" p) [e] [] pos) (tD ec X.K W O (DS.ρS X.K X.w) (d1 dSetL f)) := by
  have hu' : X.A.units + 150 < cLine := hu
  refine ⟨fun pins s σ H Q I h => ?_⟩
  refine wpAny_Call_Name_kw (ld_blt I hg hm (by decide +kernel : bootBuiltins "set" = some (.type "set")) ?_)
  obtain ⟨H0, Hf0, Hf, η, S, q⟩ := h
  refine PyProof.Rows.callWith_type1 (thn ((pa_w ha he).run pos pins s σ H (fun vs H1 => ∃ v Hf1 d, vs = [v] ∧ Ext H Hf H1 Hf1 ∧ RpW X.K H1 Hf1 v d ∧ Post ec X.K W σ (DS.ρS X.K X.w) Q H1 Hf1 (dSetL d)) I
    ⟨H0, Hf0, Hf, η, S, q.bindI.imp fun v H1 ⟨Hf1, d, x1, r1, p1⟩ => ⟨v, Hf1, d, rfl, x1, r1, p1⟩⟩) fun us s1 ⟨vs, H1, I1, r1, v, Hf1, d, e1, x1, w1, p1⟩ => ?_) he hpl
  subst e1
  cases r1 with
  | cons r rr =>
    cases rr
    have go : ∀ (ds : List PyData), dSetL d = DS.setOfD ds → ∃ b c, DS.setWay ds = some (b, c) ∧ ∀ a H', Ext H1 Hf1 H' Hf1 → DS.ρS X.K X.w H' Hf1 (.ref a) (.list (DS.nubK b ds)) → Q (.ref a) H' := fun ds hd => by
      rw [hd] at p1
      unfold DS.setOfD at p1
      cases hw : DS.setWay ds with
      | none => simp only [hw] at p1; exact p1.elim
      | some bc =>
        obtain ⟨b, c⟩ := bc
        simp only [hw] at p1
        exact ⟨b, c, rfl, fun a H' x q => p1 _ _ _ x q⟩
    cases d with
    | list ds =>
      obtain ⟨b, c, hw, hQ⟩ := go ds rfl
      obtain ⟨a, xs, rfl, hq, r2⟩ := w1.list_inv x1.sub
      cases r
      obtain ⟨its, rv, pl, hz⟩ := I1.list hq
      exact DS.run_set hc (by omega) I1 x1.sub r2 rv (.inl pl.isList) hw hQ
    | tuple ds =>
      obtain ⟨b, c, hw, hQ⟩ := go ds rfl
      obtain ⟨a, xs, rfl, hq, r2⟩ := w1.tuple_inv x1.sub
      cases r
      obtain ⟨its, rv, pl, hz⟩ := I1.tuple hq
      exact DS.run_set hc (by omega) I1 x1.sub r2 rv (.inr pl) hw hQ
    | _ => exact p1.elim
theorem dn_sortSet (hc : X.calm = true) (hu : Rm X) (hm1 : X.mg "sorted" = none) (hm2 : X.mg "set" = none) (ha : DW ec X W O e f) (hg1 : Gl X "sorted" := by rfl) (hg2 : Gl X "set" := by rfl)
    (he : starEach [e] X.env = (false, eval e X.env) :: starEach [] X.env := by rfl) (hpl : (backTo pos2 (starEach [] X.env)).any (·.1) = false := by rfl)
    (he2 : starEach [.Call (.Name "set" p2) [e] [] pos2] X.env = (false, eval (.Call (.Name "set" p2) [e] [] pos2) X.env) :: starEach [] X.env := by rfl) (hpl2 : (backTo pos (starEach [] X.env)).any (·.1) = false := by rfl) :
    DN ec X W O (.Call (.Name "sorted" p) [.Call (.Name "set" p2) [e] [] pos2] [] pos) (d1 dSortSet f) := by
  refine ⟨fun pins s σ H Q I h => ?_⟩
  refine wpAny_Call_Name_kw (ld_blt I hg1 hm1 (by decide +kernel : bootBuiltins "sorted" = some (.builtin "sorted")) ?_)
  obtain ⟨H0, Hf0, Hf, η, S, q⟩ := h
  have q2 : Post ec X.K W σ (ρN X.K H) Q H Hf ((d1 dSetL f η).bind dSorted) := by
    have e : d1 dSortSet f η = (d1 dSetL f η).bind dSorted := by
      unfold d1 dSortSet
      cases f η <;> rfl
    rw [← e]; exact q
  refine PyProof.Rows.callWith_builtin1 (thn ((pa_cons (pe_setD hc hu hm2 ha hg2 he hpl) pa_nil he2).run pos pins s σ H (fun vs H1 => ∃ v Hf1 d, vs = [v] ∧ Ext H Hf H1 Hf1 ∧ DS.ρS X.K X.w H1 Hf1 v d ∧ Post ec X.K W σ (ρN X.K H) Q H1 Hf1 (dSorted d)) I
    ⟨H0, Hf0, Hf, η, S, q2.bindI.imp fun v H1 ⟨Hf1, d, x1, r1, p1⟩ => ⟨v, Hf1, d, rfl, x1, r1, p1⟩⟩) fun us s1 ⟨vs, H1, I1, r1, v, Hf1, d, e1, x1, w1, p1⟩ => ?_) he2 hpl2
  subst e1
  cases r1 with
  | cons r rr =>
    cases rr
    exact DS.run_sorted hc hu I1 x1.sub r w1 (p1.older x1)
end
end DL
end

section
set_option Elab.async false
set_option linter.all false
set_option maxRecDepth 100000
set_option maxHeartbeats 4000000
/-! x[::-1], x a list or a tuple. -/
namespace DS
open PySem PySem.Spec PyProof.Rows L2 HT
section
variable {prog : Program} {w : World} {A : Around} {E : Value → Shared → Prop} {s : Shared}
theorem pick_back (xs : Array Value) : (List.range xs.size).filterMap (fun (m : Nat) => xs[(((xs.size : Int) - 1) + (m : Int) * (-1)).toNat]?) = xs.toList.reverse := by
  have e : ∀ m ∈ List.range xs.size, (fun (m : Nat) => xs[(((xs.size : Int) - 1) + (m : Int) * (-1)).toNat]?) m = some (xs.getD (xs.size - 1 - m) .none) := fun m hm => by
    have := List.mem_range.mp hm
    show xs[(((xs.size : Int) - 1) + (m : Int) * (-1)).toNat]? = _
    rw [show (((xs.size : Int) - 1) + (m : Int) * (-1)).toNat = xs.size - 1 - m by omega, Array.getElem?_eq_getElem (by omega), Array.getD_eq_getD_getElem?, Array.getElem?_eq_getElem (by omega)]; rfl
  rw [filterMap_all _ (fun m => xs.getD (xs.size - 1 - m) .none) _ e]
  refine List.ext_getElem (by simp) fun i h1 h2 => ?_
  have hi : i < xs.size := by simpa using h1
  rw [List.getElem_map, List.getElem_range, List.getElem_reverse, Array.getD_eq_getD_getElem?, Array.getElem?_eq_getElem (by omega)]
  simp
theorem sliceApplied_back {sl : Addr} {vl vu vs : Value} {n : Nat} {Q : Int × Int × Nat → Shared → Prop} (hs : s.heap.IsSliceOf sl vl vu vs) (pl : IsPart vl none) (pu : IsPart vu none) (ps : IsPart vs (some (-1)))
    (h : Q ((n : Int) - 1, -1, n) s) : wpAny (model prog w) A (Builtin.Slice.sliceApplied (.ref sl) (pure (n : Int))) Q E s := by
  obtain ⟨os, hos, hcs, hds⟩ := id hs
  unfold Builtin.Slice.sliceApplied Builtin.Slice.sliceFields
  refine wpAny_bind (wpAny_bind (wpAny_field hos hds (x := vl) rfl (wpAny_bind (wpAny_field hos hds (x := vu) rfl (wpAny_bind (wpAny_field hos hds (x := vs) rfl (wpAny_pure ?_)))))))
  refine wpAny_bind (slicePart_ ps ?_)
  show wpAny _ _ (if ((-1 : Int) == 0) = true then _ else _) _ _ s
  rw [if_neg (by decide)]
  refine wpAny_bind (slicePart_ pl (wpAny_bind (slicePart_ pu (wpAny_bind (wpAny_pure ?_)))))
  show wpAny _ _ (match Builtin.Slice.sliceAdjust none none (-1) (n : Int) with | (lo, hi) => pure (lo, (-1 : Int), Builtin.Slice.slicePlaces lo hi (-1))) _ _ s
  have e1 : Builtin.Slice.sliceAdjust none none (-1) (n : Int) = ((n : Int) - 1, -1) := by
    unfold Builtin.Slice.sliceAdjust
    simp
  rw [e1]
  show wpAny _ _ (pure ((n : Int) - 1, (-1 : Int), Builtin.Slice.slicePlaces ((n : Int) - 1) (-1) (-1))) _ _ s
  have e2 : Builtin.Slice.slicePlaces ((n : Int) - 1) (-1) (-1) = n := by
    unfold Builtin.Slice.slicePlaces
    simp
    try split <;> omega
  rw [e2]
  exact wpAny_pure h
theorem getItem_tuple_back {t sl : Addr} {items : Array Value} {vl vu vs : Value} {Q : Value → Shared → Prop} (ht : IsTup s.heap t items) (hs : s.heap.IsSliceOf sl vl vu vs) (pl : IsPart vl none) (pu : IsPart vu none) (ps : IsPart vs (some (-1)))
    (h : Q (.ref s.heap.objs.size) { s with heap := s.heap.push { cls := .type "tuple", data := .seq items.toList.reverse.toArray } })
    (hsz : items.size ≤ sizeLine) : wpAny (model prog w) A (getItem (.ref t) (.ref sl)) Q E s := by
  have htake : sizeOk (.seq items.toList.reverse.toArray) := by
    show items.toList.reverse.toArray.size ≤ sizeLine
    rw [List.size_toArray, List.length_reverse, Array.length_toList]
    exact hsz
  obtain ⟨os, hos, hcs, hds⟩ := id hs
  have hTs : s.TypeIs (.ref sl) "slice" := ⟨os, hos, hcs⟩
  unfold getItem
  try with_reducible refine wpAny_holding ?_
  first | refine wpAny_bind (wpAny_pure ?_) | skip
  refine wpAny_bind (wpAny_sequenceKey ht.typeIs (by decide) ?_)
  refine wpAny_bind (wpAny_callSpecial?_slot (name := Str.ofString "__getitem__") ht.typeIs PyProof.Rows.slot_tuple_getitem
    (wpAny_call_entry PyProof.Rows.slot_tuple_getitem ht.typeIs entry_tuple_getitem ?_ (args_tuple_getitem _ _)))
  show wpAny _ _ (Builtin.Tuple.tupleItemsOf (.ref t) >>= _) _ _ s
  refine wpAny_bind (tupleItemsOf_ ht ?_)
  refine wpAny_bind (wpAny_typeOf hTs ?_)
  rw [if_pos (by decide)]
  refine wpAny_bind (sliceApplied_back hs pl pu ps ?_)
  show wpAny _ _ (if (((items.size : Int) - 1) == 0 && (-1 : Int) == 1 && items.size == items.size) = true then _ else _) _ _ s
  rw [if_neg (by simp), pick_back]
  first
    | exact wpAny_bind (m := Builtin.Tuple.tupleExact _) (wpAny_newObj_type (wpAny_pure ⟨_, rfl, wpAny_pure h⟩) htake)
    | exact wpAny_bind (m := Builtin.Tuple.tupleExact _) (wpAny_newObj_type (wpAny_bind (wpAny_pure (wpAny_pure ⟨_, rfl, wpAny_pure h⟩))) htake)
    | exact wpAny_bind (wpAny_bind (m := Builtin.Tuple.tupleExact _) (wpAny_newObj_type (wpAny_pure (wpAny_pure ⟨_, rfl, wpAny_pure h⟩)) htake))
    | exact wpAny_bind (wpAny_bind (m := Builtin.Tuple.tupleExact _) (wpAny_newObj_type (wpAny_pure ⟨_, rfl, wpAny_pure h⟩) htake))
end
end DS
namespace DL
open PySem PySem.Spec PyProof.Rows L2
def dRev : PyData → R PyData
  | .list ds => .ok (.list ds.reverse)
  | .tuple ds => .ok (.tuple ds.reverse)
  | _ => .bad
section
variable {ec : EC} {X : Cx} {W : WX} {O : List Nat} {e : Expr} {f : DEnv → R PyData} {k : Nat} {p1 p2 p3 pos : Pos}
theorem de_rev (ha : DW ec X W O e f) : DE ec X W O (.Subscript e (.Slice none none (some (.UnaryOp .USub (.Constant (.int 1) k p1) p2)) p3) pos) (d1 dRev f) := by
  refine ⟨fun pins s σ H Q I h => ?_⟩
  obtain ⟨H0, Hf0, Hf, η, S, q⟩ := h
  refine Subscript_ (thn (ha.run pins s σ H _ I ⟨H0, Hf0, Hf, η, S, q.bindI⟩) fun v s1 ⟨x, H1, I1, r1, Hf1, d, x1, w1, q1⟩ => ?_)
  have hst : PO X (some (.UnaryOp .USub (.Constant (.int 1) k p1) p2)) (tPart (tUn (rU fun i => .int (-i)) (tC (.int 1)))) := po_some (pe_un un_neg pe_int)
  refine wpAny_Slice (thn (po_none.run pins s1 σ H1 (fun o H2 => o = none ∧ H2 = H1) I1 ⟨rfl, rfl⟩) fun vl s2 ⟨l, H2, I2, pl, el, e2⟩ => ?_)
  subst el e2
  refine thn (po_none.run pins s2 σ H2 (fun o H3 => o = none ∧ H3 = H2) I2 ⟨rfl, rfl⟩) fun vu s3 ⟨u, H3, I3, pu, eu, e3⟩ => ?_
  subst eu e3
  refine thn (hst.run pins s3 σ H3 (fun o H4 => o = some (-1) ∧ H4 = H3) I3 ⟨1, rfl, -1, rfl, rfl, rfl⟩) fun vs s4 ⟨o, H4, I4, ps, eo, e4⟩ => ?_
  subst eo e4
  have I5 : Inv X pins σ H4 { s4 with heap := s4.heap.push { cls := .type "slice", data := .fields #[vl, vu, vs] } } := I4.kept (t' := s4.toks) fun b ob q => Heap.get?_push_of_some _ q
  have hsl : ({ s4 with heap := s4.heap.push { cls := .type "slice", data := .fields #[vl, vu, vs] } } : Shared).heap.IsSliceOf s4.heap.objs.size vl vu vs := Heap.IsSliceOf.new _ vl vu vs
  have hn := I5.hok.fresh (Nat.le_refl _)
  cases d with
  | list ds =>
    obtain ⟨a, xs, rfl, hx, r⟩ := w1.list_inv x1.sub
    cases r1
    obtain ⟨its, rv, ht, hz⟩ := I5.list hx
    have hlen := rv.length
    show wpAny (model X.prog X.w) X.A (subscriptTail e (.Slice none none (some (.UnaryOp .USub (.Constant (.int 1) k p1) p2)) p3) (.ref a) (.ref s4.heap.objs.size)) (EP X pins σ Q) X.xe { s4 with heap := s4.heap.push { cls := .type "slice", data := .fields #[vl, vu, vs] } }
    refine tail_any (ops := [.ref a, .ref s4.heap.objs.size]) ht.isList.typeIs (PySem.slot_list_getitem.lookup) ?_ (by with_unfolding_all rfl)
    refine wpAny_getItem_list_slice ht.isList hsl pl pu ps (by decide) ?_ (by rw [List.size_toArray]; omega)
    rw [PySem.W.krv_pick]
    have xx := Ext.add x1.sub (o := .lst xs.reverse) hn
    refine ⟨.ref _, _, I5.laid (t' := s4.toks) (o := .lst xs.reverse) (fun b ob q => Heap.get?_push_of_some _ q) (Nat.le_refl _) ?_, rfl, q1 _ _ _ xx (.lst (.of upd_same) (r.reverse.mono xx.sf))⟩
    exact ⟨by rw [List.length_reverse]; exact hz, _, 0, rv.reverse, Heap.get?_push_size _ rfl⟩
  | tuple ds =>
    obtain ⟨a, xs, rfl, hx, r⟩ := w1.tuple_inv x1.sub
    cases r1
    obtain ⟨its, rv, ht, hz⟩ := I5.tuple hx
    have hlen := rv.length
    show wpAny (model X.prog X.w) X.A (subscriptTail e (.Slice none none (some (.UnaryOp .USub (.Constant (.int 1) k p1) p2)) p3) (.ref a) (.ref s4.heap.objs.size)) (EP X pins σ Q) X.xe { s4 with heap := s4.heap.push { cls := .type "slice", data := .fields #[vl, vu, vs] } }
    refine tail_any (ops := [.ref a, .ref s4.heap.objs.size]) ht.typeIs (PySem.F.slot_tuple_getitem.lookup) ?_ (by with_unfolding_all rfl)
    refine DS.getItem_tuple_back ht hsl pl pu ps ?_ (by rw [List.size_toArray]; omega)
    have xx := Ext.add x1.sub (o := .frz (tobj its.reverse.toArray) (.tup xs.reverse)) hn
    rw [show its.toArray.toList = its by simp]
    exact ⟨.ref _, _, I5.tnewF (t' := s4.toks) rv.reverse (by rw [List.length_reverse]; exact hz), rfl, q1 _ _ _ xx (.tup (.of rfl) (r.reverse.mono xx.sf))⟩
  | _ => exact q1.elim
end
end DL
end

section
set_option Elab.async false
set_option linter.all false
set_option maxRecDepth 100000
set_option maxHeartbeats 4000000
/-! A def whose last parameter is None where it is not written. -/
namespace DL
open PySem PySem.Spec PyProof.Rows L2
/-- the def x of the module is m on data, its last parameter None where it is not written -/
structure FOkS (ec : EC) (P : Program) (w : World) (K : PySem.W.Frag) (mg : Str → Option Value) (base : Heap) (k : Nat) (x : Str) (n : Nat) (m : List PyData → R PyData) : Prop where
  ok : ∃ (fd : FuncData) (ps : List Str) (ds : List Value), ps.length = n + 1 ∧ FnOk P w K mg base (L2.CX P w) k (He.ga K x) fd ps (spD ec K (n + 1) m) ∧ Vals [.non] ds ∧ Binds K fd ps ds
  kp : PySem.W.keepIn K (.ref (He.ga K x)) = true
  at_ : mg x = some (.ref (He.ga K x))
/-- g' tells what g tells, and None behind it -/
def AppN (g g' : DEnv → R (List PyData)) : Prop := ∀ η, g' η = (g η).bind fun ds => .ok (ds ++ [.none])
theorem app_nil : AppN dNil (dCons (dC .none) dNil) := fun η => rfl
theorem app_cons {f : DEnv → R PyData} {g g' : DEnv → R (List PyData)} (h : AppN g g') : AppN (dCons f g) (dCons f g') := fun η => by
  show (f η).bind _ = ((f η).bind _).bind _
  cases f η with
  | ok d =>
    show (g' η).bind _ = ((g η).bind _).bind _
    rw [h η]
    cases g η <;> rfl
  | ex c fl => rfl
  | bad => rfl
section
variable {ec : EC} {X : Cx} {W : WX} {O : List Nat} {e : Expr} {es : List Expr} {pos : Pos}
theorem de_callS {k n : Nat} {x : Str} {m : List PyData → R PyData} {g g' : DEnv → R (List PyData)} {p : Pos} (F : FOkS ec X.prog X.w X.K X.mg X.base k x n m) (hr : Room k X.A) (tk : Takes X W) (ha : DAn ec X W O (e :: es) g) (ap : AppN g g') (hn : (e :: es).length = n := by rfl) (hg : Gl X x := by rfl)
    (hdb : (x == ("__debug__" : Str)) = false := by decide) (he : starEach (e :: es) X.env = (false, eval e X.env) :: starEach es X.env := by rfl) (hpl : (backTo pos (starEach es X.env)).any (·.1) = false := by rfl) :
    DE ec X W O (.Call (.Name x p) (e :: es) [] pos) (dCall m g') := by
  obtain ⟨fd, ps, dv, hps, hF, hd, hB⟩ := F.ok
  refine PE.imp (pe_callSD hF hr hg F.at_ F.kp hB hd (E := WE W) (fun σ => passAt tk σ) ha.1 hdb he hpl) fun σ H Q ⟨H0, Hf0, Hf, η, S, p⟩ => ⟨H0, Hf0, Hf, η, S, ?_⟩
  have p' : Post ec X.K W σ (ρV X.K) Q H Hf ((g η).bind fun ds => m (ds ++ [.none])) := by
    have e : dCall m g' η = (g η).bind fun ds => m (ds ++ [.none]) := by
      show (g' η).bind m = _
      rw [ap η]
      cases g η <;> rfl
    rw [← e]; exact p
  exact p'.bindE.imp fun vs H1 ⟨Hf1, ds, e1, x1, r1, p1⟩ => ⟨Hf1, ds ++ [.none], x1.sub, RpAll.append r1 (.cons .non .nil), by rw [List.length_append, (ha.2 η ds e1).trans hn]; rfl, p1.wish⟩
end
theorem fok_dfl {ec : EC} {P : Program} {w : World} {K : PySem.W.Frag} {mg : Str → Option Value} {base : Heap} {x : Str} {params : Arguments} {bd : List Stmt} {scope : Scope} {N ps : List Str} {fd : FuncData} {k n : Nat} {m : List PyData → R PyData} {g : DEnv → Fl} {O' : List Nat}
    (F : FunD K x x params bd scope [V.non] [] (He.ga K x) fd) (at_ : mg x = some (.ref (He.ga K x))) (S : FnScope N ps scope) (hn : ps.length = n + 1)
    (hb1 : ∀ (T : Addr) (kV doc pm : Value) (an : Option Addr) (cdv ct : Value) (us its : List Value), us.length = n + 1 → its.length = 1 →
      ∃ k, bindArgs (PySem.W.fnOf x x params bd scope (.ref T) kV doc pm an cdv ct) ⟨us, []⟩ = seqItems? (.ref T) >>= k ∧ k (some its.toArray) = pure (ps.zip (us ++ its.drop 1)))
    (hb0 : ∀ (T : Addr) (kV doc pm : Value) (an : Option Addr) (cdv ct : Value) (us its : List Value), us.length = n → its.length = 1 →
      ∃ k, bindArgs (PySem.W.fnOf x x params bd scope (.ref T) kV doc pm an cdv ct) ⟨us, []⟩ = seqItems? (.ref T) >>= k ∧ k (some its.toArray) = pure (ps.zip (us ++ its.drop 0)))
    (body : ∀ (cdv : Value) (A : Around) (outer : List Env) (s : Shared) (H : Hp) (E : XK), Room k (cxOf (L2.CX P w) P w K mg base N x scope (He.ga K x) cdv A outer s H E).A →
      Takes (cxOf (L2.CX P w) P w K mg base N x scope (He.ga K x) cdv A outer s H E) (fun c d _ H => E c d H) →
      PassesOwn (model P w) (cxOf (L2.CX P w) P w K mg base N x scope (He.ga K x) cdv A outer s H E).A (cxOf (L2.CX P w) P w K mg base N x scope (He.ga K x) cdv A outer s H E).env (cxOf (L2.CX P w) P w K mg base N x scope (He.ga K x) cdv A outer s H E).xe →
      DSs ec (cxOf (L2.CX P w) P w K mg base N x scope (He.ga K x) cdv A outer s H E) (fun c d _ H => E c d H) [] O' bd g)
    (hm : ∀ ds, ds.length = ps.length → m ds = runF (g (startD N ds))) : FOk ec P w K mg base (k + 1) x (n + 1) m ∧ FOkS ec P w K mg base (k + 1) x n m := by
  have hF : FnOk P w K mg base (L2.CX P w) (k + 1) (He.ga K x) fd ps (spD ec K (n + 1) m) := by
    refine F.ok S (fun vs H Q E ⟨Hf, ds, hs, r, hl, p⟩ => by rw [r.length, hl, hn]) fun cdv A outer s H vs Q E hr ⟨Hf, ds, hs, r, hl, p⟩ => ⟨_, body cdv A outer s H E hr (takes_of rfl rfl rfl rfl) (passes_of rfl), H, Hf, Hf, startD N ds, start_sr hs r, ?_⟩
    rw [hm ds (hl.trans hn.symm)] at p
    cases q : g (startD N ds) with
    | nx η => rw [q] at p; exact fun _ H' Hf' T => p .non H' Hf' T.ext .non
    | rt d => rw [q] at p; exact p
    | ex c fl η => rw [q] at p; exact fun _ H' Hf' cls d T r' => p H' Hf' cls d T.ext r'
    | bad => rw [q] at p; exact p
  obtain ⟨d1, v1, b1⟩ := F.binds1 (ps := ps) (n + 1) 1 (by simp) (by simp [hn]) hb1
  obtain ⟨d0, v0, b0⟩ := F.binds1 (ps := ps) n 0 (by simp) (by simp [hn]) hb0
  cases v1
  exact ⟨⟨⟨fd, ps, hn, hF, b1⟩, F.kp, at_⟩, ⟨⟨fd, ps, d0, hn, hF, v0, b0⟩, F.kp, at_⟩⟩
end DL
end

section
set_option Elab.async false
set_option linter.all false
set_option maxRecDepth 100000
set_option maxHeartbeats 4000000
/-! isinstance(x, (A, B, ..)), classes of exceptions. -/
namespace DL
open PySem PySem.Spec PyProof.Rows L2
/-- what is asked of the class c: whether it is under one of these -/
inductive IsFs (K : PySem.W.Frag) (cs : List String) : List Str → List (Str → Bool) → Prop
  | nil : IsFs K cs [] []
  | cons {t : Str} {f : Str → Bool} {ts : List Str} {fs : List (Str → Bool)} : IsF K cs (.ref (He.ga K t)) f → IsFs K cs ts fs → IsFs K cs (t :: ts) (f :: fs)
theorem kit_anyE {K : PySem.W.Frag} {cs : List String} {s : String} (hs : s ∈ cs) : ∀ {ts : List Str} {fs : List (Str → Bool)}, IsFs K cs ts fs → PySem.W.kitAny K (.ref (He.ga K (Str.ofString s))) (ts.map fun t => .ref (He.ga K t)) = some (fs.any fun f => f (Str.ofString s))
  | _, _, .nil => rfl
  | _, _, .cons (f := f) h r => by
    rw [List.map_cons, List.any_cons]
    refine kitAny_cons (h.exc s hs).2 (fun e => ?_) (fun e => by rw [e]; rfl)
    rw [kit_anyE hs r, e]; rfl
theorem kit_anyN {K : PySem.W.Frag} {cs : List String} : ∀ {ts : List Str} {fs : List (Str → Bool)}, IsFs K cs ts fs → PySem.W.kitAny K (.type "NoneType") (ts.map fun t => .ref (He.ga K t)) = some false
  | _, _, .nil => rfl
  | _, _, .cons h r => by
    rw [List.map_cons]
    exact kitAny_cons h.non (fun _ => kit_anyN r) (fun e => by cases e)
theorem refs_its {K : PySem.W.Frag} : ∀ {ts : List Str} {its : List Value}, Vals (ts.map fun t => V.ref (He.ga K t)) its → its = ts.map fun t => Value.ref (He.ga K t)
  | [], _, .nil => rfl
  | _ :: _, _, .cons r t => by cases r; rw [refs_its t]; rfl
section
variable {ec : EC} {X : Cx} {W : WX} {O : List Nat} {e : Expr} {f : DEnv → R PyData} {pos : Pos}
theorem de_isiM {p1 p2 : Pos} {kk : Nat} {es : List Expr} {ts : List Str} {fs : List (Str → Bool)} {cs : List String} {tt : TA} (hm : X.mg "isinstance" = none) (ha : DW ec X W O e f) (hb : PA X es tt) (ht : ∀ σ H Q, Q (ts.map fun t => V.ref (He.ga X.K t)) H → tt σ H Q) (F : IsFs X.K cs ts fs) (hne : ts ≠ [] := by decide) (hn : ts.length ≤ sizeLine := by decide) (hg : Gl X "isinstance" := by rfl)
    (he : starEach [e, .Tuple es kk p2] X.env = (false, eval e X.env) :: starEach [.Tuple es kk p2] X.env := by rfl) (he2 : starEach [.Tuple es kk p2] X.env = (false, eval (.Tuple es kk p2) X.env) :: starEach [] X.env := by rfl)
    (hpl : (backTo pos (starEach [.Tuple es kk p2] X.env)).any (·.1) = false := by rfl) :
    DE ec X W O (.Call (.Name "isinstance" p1) [e, .Tuple es kk p2] [] pos) (d1 (dIsC cs fun c => fs.any fun f => f c) f) := by
  refine ⟨fun pins s σ H Q I h => wpAny_Call_Name_kw (ld_blt I hg hm (by decide +kernel : bootBuiltins "isinstance" = some (.builtin "isinstance")) ?_)⟩
  obtain ⟨H0, Hf0, Hf, η, S, q⟩ := h
  refine PyProof.Rows.callWith_builtin1 (thn ((pa_cons ha (pa_cons (pe_tup (x1 := kk) hb) pa_nil he2) he).run pos pins s σ H (fun vs H2 => ∃ v Hf2 d tp, vs = [v, .ref tp] ∧ Ext H Hf H2 Hf2 ∧ H2 tp = some (.tup (ts.map fun t => V.ref (He.ga X.K t))) ∧ RpW X.K H2 Hf2 v d ∧ Post ec X.K W σ (ρV X.K) Q H2 Hf2 (dIsC cs (fun c => fs.any fun f => f c) d)) I
    ⟨H0, Hf0, Hf, η, S, q.bindI.imp fun v H1 ⟨Hf1, d, x1, r1, p1⟩ => ht _ _ _ ⟨by rw [List.length_map]; exact hn, fun q nq =>
      have xx : Ext H1 Hf1 (upd H1 q (.tup (ts.map fun t => V.ref (He.ga X.K t)))) Hf1 := Ext.fresh x1.sub nq
      ⟨v, Hf1, d, q, rfl, x1.trans xx, upd_same, r1.ext xx, p1.step xx⟩⟩⟩) fun us s1 ⟨vs, H1, I1, r1, v, Hf1, d, tp, e1, x1, htp, w1, p1⟩ => ?_) he hpl
  subst e1
  cases r1 with
  | cons rx rr =>
    cases rr with
    | cons rt rr =>
      cases rr
      cases rt
      obtain ⟨_, its, rv, o, h1, h2, n, h3⟩ := (show ObjOk X.prog X.w H1 s1.heap tp (.tup (ts.map fun t => V.ref (He.ga X.K t))) from I1.hok tp _ htp)
      have ei := refs_its rv
      subst ei
      obtain ⟨oc, od, dt, sl⟩ := o
      simp only at h2 h3
      subst h2 h3
      cases d with
      | none =>
        have e := w1.none_inv
        subst e
        obtain ⟨P, Z, p, hx⟩ := kit_of I1 rx (.base .non)
        exact PySem.W.kia_tup Z I1.kIn p h1 (kit_anyN F) hx fun tk => ⟨.bl false, H1, I1.tok tk, rfl, p1.here x1.sub (.bl _)⟩
      | dict kvs =>
        cases kvs with
        | nil => exact p1.elim
        | cons kv r =>
          obtain ⟨k, z⟩ := kv
          cases k with
          | bool k =>
            cases k with
            | true =>
              cases z with
              | str c =>
                have p1' : Post ec X.K W σ (ρV X.K) Q H1 Hf1 (if Kn cs c then .ok (.bool (fs.any fun f => f c)) else .bad) := p1
                by_cases hk : Kn cs c = true
                · rw [if_pos hk] at p1'
                  obtain ⟨sn, hs, rfl⟩ := kn_of hk
                  obtain ⟨a, rfl, hh⟩ := rp_exc (w1.full x1.sub)
                  cases rx
                  have J : ∃ ox od, PySem.W.InstAt s1.heap a ox (He.ga X.K (Str.ofString sn)) od := by
                    rcases hh with ⟨hh, _⟩ | ⟨d, f', w', x', hh, hd', _⟩
                    · obtain ⟨ox, od, J, _⟩ := exc_inst I1 hh (fun _ z => by cases z)
                      exact ⟨ox, od, J⟩
                    · obtain ⟨ox, od, J, _⟩ := exc_inst I1 hh (fun dd z => by cases z; exact ⟨_, hd'⟩)
                      exact ⟨ox, od, J⟩
                  cases F with
                  | nil => exact absurd rfl hne
                  | cons F1 Fr =>
                    obtain ⟨T, _⟩ := F1.exc sn hs
                    exact PySem.W.kia_tup (exc_kit T) I1.kIn J h1 (kit_anyE hs (.cons F1 Fr)) (fun z => nomatch z) fun tk => ⟨.bl _, H1, I1.tok tk, rfl, p1'.here x1.sub (.bl _)⟩
                · rw [if_neg hk] at p1'; exact p1'.elim
              | _ => exact p1.elim
            | false => exact p1.elim
          | _ => exact p1.elim
      | _ => exact p1.elim
end
end DL
end

section
set_option Elab.async false
set_option linter.all false
set_option maxRecDepth 100000
set_option maxHeartbeats 4000000
/-! Dicts whose keys are tuples (of whole numbers, of any depth to 8). -/
namespace DS
open PySem PySem.Spec PyProof.Rows L2
mutual
theorem keyd_data : ∀ {d : PyData} {k : NestedKey}, keyd false d = some k → k.data = d
  | .int i, k, h => by simp [keyd] at h; rw [← h]; rfl
  | .bool c, k, h => by simp [keyd] at h
  | .tuple xs, k, h => by obtain ⟨ks, a, rfl⟩ := keyd_tup h; rw [NestedKey.data, keyds_data a]
  | .none, _, h => by simp [keyd] at h
  | .str _, _, h => by simp [keyd] at h
  | .list _, _, h => by simp [keyd] at h
  | .dict _, _, h => by simp [keyd] at h
theorem keyds_data : ∀ {xs : List PyData} {ks : List NestedKey}, keyds false xs = some ks → NestedKey.datas ks = xs
  | [], ks, h => by simp [keyds] at h; rw [h]; rfl
  | x :: xs, ks, h => by obtain ⟨k, ks', a1, a2, rfl⟩ := keyds_cons h; rw [NestedKey.datas, keyd_data a1, keyds_data a2]
end
mutual
theorem data_inj : ∀ {a b : NestedKey}, a.data = b.data → a = b
  | .none, b, h => by cases b <;> simp [NestedKey.data] at h ⊢
  | .num i, b, h => by cases b <;> simp [NestedKey.data] at h ⊢; exact h
  | .text i, b, h => by cases b <;> simp [NestedKey.data] at h ⊢; exact h
  | .tup ks, b, h => by
    cases b with
    | tup js => simp only [NestedKey.data, PyData.tuple.injEq] at h; rw [datas_inj h]
    | _ => simp [NestedKey.data] at h
theorem datas_inj : ∀ {as bs : List NestedKey}, NestedKey.datas as = NestedKey.datas bs → as = bs
  | [], bs, h => by cases bs <;> simp [NestedKey.datas] at h ⊢
  | a :: as, bs, h => by
    cases bs with
    | nil => simp [NestedKey.datas] at h
    | cons b bs => simp only [NestedKey.datas, List.cons.injEq] at h; rw [data_inj h.1, datas_inj h.2]
end
mutual
theorem hash_nt (w w' : World) : ∀ {k : NestedKey}, nt k = true → k.hash w = k.hash w'
  | .none, h => by simp [nt] at h
  | .num i, _ => rfl
  | .text x, h => by simp [nt] at h
  | .tup ks, h => by rw [nt] at h; rw [NestedKey.hash, NestedKey.hash, hashes_nt w w' h]
theorem hashes_nt (w w' : World) : ∀ {ks : List NestedKey}, nts ks = true → NestedKey.hashes w ks = NestedKey.hashes w' ks
  | [], _ => rfl
  | k :: ks, h => by rw [nts, Bool.and_eq_true] at h; rw [NestedKey.hashes, NestedKey.hashes, hash_nt w w' h.1, hashes_nt w w' h.2]
end
section
variable {X : Cx} {pins : List (Addr × Obj)} {σ : L2.St} {H : Hp} {s : Shared}
mutual
theorem is_data (I : Inv X pins σ H s) : ∀ {k : NestedKey} {v : V} {u : Value}, DL.Rp X.K H v k.data → RelV v u → NestedIs s.heap k u
  | .none, v, u, r, q => by rw [NestedKey.data] at r; cases r; cases q; exact .none
  | .num i, v, u, r, q => by rw [NestedKey.data] at r; cases r; obtain ⟨t, rfl⟩ := q; exact .int _ _
  | .text x, v, u, r, q => by rw [NestedKey.data] at r; cases r; obtain ⟨t, rfl⟩ := q; exact .text _ _
  | .tup ks, v, u, r, q => by
    rw [NestedKey.data] at r
    obtain ⟨a, xs, rfl, hq, hr⟩ := r.tuple_inv
    cases q
    obtain ⟨its, rv, ⟨o, ho, hc, n, hd⟩, _⟩ := I.tuple hq
    exact .tup ho hc hd (by simpa using is_datas I hr rv)
theorem is_datas (I : Inv X pins σ H s) : ∀ {ks : List NestedKey} {vs : List V} {us : List Value}, DL.RpAll X.K H vs (NestedKey.datas ks) → Vals vs us → NestedAll s.heap ks us
  | [], vs, us, r, q => by rw [NestedKey.datas] at r; cases r; cases q; exact .nil
  | k :: ks, vs, us, r, q => by
    rw [NestedKey.datas] at r
    cases r with
    | cons r1 r2 =>
      cases q with
      | cons q1 q2 => exact .cons (is_data I r1 q1) (is_datas I r2 q2)
end
/-- the entries as the heap has them -/
abbrev xsOf (ks : List (NestedKey × Addr × V × Value)) : List (NestedKey × Addr × Value) := ks.map fun k => (k.1, k.2.1, k.2.2.2)
theorem es_is (I : Inv X pins σ H s) : ∀ {ks : List (NestedKey × Addr × V × Value)} {ds : List (PyData × PyData)}, DL.RpEs X.K H ks ds → ∀ x ∈ xsOf ks, (nestedKind X.prog X.w).is s.heap x.1 x.2.1
  | _, _, .nil, x, hx => by cases hx
  | _, _, .cons h1 _ h3 _ _ t, x, hx => by
    rcases List.mem_cons.mp hx with rfl | hx
    · exact ⟨is_data I h1 rfl, h3⟩
    · exact es_is I t x hx
/-- what stands for a dict of tuple keys, in the heap -/
theorem dict_at (I : Inv X pins σ H s) {o : Obj} {es : Array DictEntry} {ep : Nat} {a : Addr} {ks : List (NestedKey × Addr × V × Value)} {ds : List (PyData × PyData)} (h : H a = some (.ext (fun h => h.get? a = some o))) (h1 : o.ExactDict) (h2 : o.data = .dict es ep)
    (h3 : ∀ P w, es.toList = ks.map fun k => entryOfKey (nestedKind P w) (k.1, k.2.1, k.2.2.2)) (h4 : (ks.map (·.1)).Nodup) (h5 : DL.RpEs X.K H ks ds) : s.heap.DictOfH (nestedKind X.prog X.w) a (xsOf ks) := by
  have e : s.heap.get? a = some o := (I.hok a _ h).1
  exact ⟨o, es, ep, e, h1, h2, by rw [h3 X.prog X.w, List.map_map]; rfl, es_is I h5, by rw [List.map_map]; exact h4⟩
theorem dict_nil (I : Inv X pins σ H s) {a : Addr} (h : H a = some (.dK [])) : s.heap.DictOfH (nestedKind X.prog X.w) a [] ∧ (a == sysModules) = false := by
  obtain ⟨_, hs, vs, kv, o, es, ep, e1, e2, e3, e4, e5, e6⟩ := I.hok a _ h
  cases kv
  have : es.toList = [] := by
    have := e5.length
    exact List.eq_nil_of_length_eq_zero this
  exact ⟨⟨o, es, ep, e1, e2, e3, by rw [this]; rfl, fun x hx => (by cases hx), List.nodup_nil⟩, hs⟩
/-- the place of the key a, as data -/
def sameK (k : NestedKey) (e : PyData × PyData) : Bool := decide (keyd false e.1 = some k)
theorem es_find {k : NestedKey} {K : PySem.W.Frag} (hk : keyd false k.data = some k) : ∀ {ks : List (NestedKey × Addr × V × Value)} {ds : List (PyData × PyData)}, DL.RpEs K H ks ds →
    ((atKey (xsOf ks) k).isSome = ds.any (sameK k)) ∧ ∀ p, atKey (xsOf ks) k = some p → ∃ v d, ds.find? (sameK k) = some (k.data, d) ∧ RelV v p.2 ∧ DL.Rp K H v d
  | _, _, .nil => ⟨rfl, fun p h => by cases h⟩
  | _, _, .cons (k := j) (t := t) (v := v) (u := u) (kvs := kvs) (d := d) (ds := ds) h1 h2 h3 h4 h5 r => by
    have ih := es_find hk r
    have e : sameK k (j.data, d) = decide (j = k) := by
      unfold sameK
      rw [Bool.eq_iff_iff, decide_eq_true_eq, decide_eq_true_eq]
      constructor
      · intro q
        exact data_inj (keyd_data q).symm
      · rintro rfl; exact hk
    have e2 : atKey (xsOf ((j, t, v, u) :: kvs)) k = if j = k then some (t, u) else atKey (xsOf kvs) k := by
      unfold atKey
      show (((j, t, u) :: xsOf kvs).find? _).map _ = _
      rw [List.find?_cons]
      by_cases q : j = k
      · simp [q]
      · simp [q]
    rw [List.any_cons, e, e2]
    by_cases q : j = k
    · subst q
      rw [if_pos rfl]
      refine ⟨by simp, fun p hp => ?_⟩
      cases hp
      exact ⟨v, d, by rw [List.find?_cons, e]; simp, h4, h5⟩
    · rw [if_neg q]
      refine ⟨by rw [ih.1]; simp [q], fun p hp => ?_⟩
      obtain ⟨v', d', a1, a2, a3⟩ := ih.2 p hp
      exact ⟨v', d', by rw [List.find?_cons, e]; simp only [q, decide_false]; exact a1, a2, a3⟩
end
end DS
namespace DL
open PySem PySem.Spec PyProof.Rows L2
/-- the key that data is, to ask a dict -/
def tkey (d : PyData) : Option NestedKey := match d with
  | .tuple xs => (DS.keyd false (.tuple xs)).bind fun k => if k.depth ≤ 8 then some k else none
  | _ => none
theorem tkey_of {d : PyData} {k : NestedKey} (h : tkey d = some k) : ∃ xs, d = .tuple xs ∧ DS.keyd false d = some k ∧ k.depth ≤ 8 := by
  unfold tkey at h
  split at h
  · rename_i xs
    cases q : DS.keyd false (.tuple xs) with
    | none => rw [q] at h; cases h
    | some j =>
      rw [q] at h
      have h : (if j.depth ≤ 8 then some j else none) = some k := h
      split at h
      · cases h; exact ⟨xs, rfl, rfl, by assumption⟩
      · cases h
  · cases h
/-- a dict of tuple keys -/
def allTk (ds : List (PyData × PyData)) : Bool := ds.all fun e => isTup e.1
def dHas (neg : Bool) (a : PyData) (ds : List (PyData × PyData)) : R PyData := match tkey a with
  | some k => if allTk ds = true then .ok (.bool (neg ^^ ds.any (DS.sameK k))) else .bad
  | none => .bad
def dInA (neg : Bool) : PyData → PyData → R PyData := fun a b => match b with
  | .dict ds => dHas neg a ds
  | b => dInS neg a b
section
variable {ec : EC} {X : Cx} {W : WX} {O O' : List Nat} {e a b c : Expr} {f fa fb fc : DEnv → R PyData} {pos : Pos} {pins : List (Addr × Obj)} {σ : St} {H Hf : Hp} {s : Shared}
/-- what stands for a dict of tuple keys -/
theorem dict_inv {v : V} {ds : List (PyData × PyData)} (I : Inv X pins σ H s) (h : Rp X.K H v (.dict ds)) (ht : allTk ds = true) :
    ∃ a ks, v = .ref a ∧ (a == sysModules) = false ∧ s.heap.DictOfH (nestedKind X.prog X.w) a (DS.xsOf ks) ∧ RpEs X.K H ks ds := by
  generalize hd : PyData.dict ds = d at h
  cases h with
  | dK h r =>
    cases hd
    cases r with
    | nil => exact ⟨_, [], rfl, (DS.dict_nil I h).2, (DS.dict_nil I h).1, .nil⟩
    | @cons k _ _ _ _ _ _ =>
      unfold allTk at ht
      rw [List.all_cons, Bool.and_eq_true] at ht
      cases k <;> cases ht.1
  | dN h1 h2 h3 h4 h5 h6 h7 h8 =>
    cases hd
    exact ⟨_, _, rfl, h5, DS.dict_at I h1 h2 h3 h6 h7 h8, h8⟩
  | fn z => cases hd; unfold allTk at ht; cases ht
  | exc0 q => cases hd; unfold allTk at ht; cases ht
  | exc1 q q2 q3 => cases hd; unfold allTk at ht; cases ht
  | _ => cases hd
theorem key_is (I : Inv X pins σ H s) {v : V} {u : Value} {d : PyData} {k : NestedKey} (hk : tkey d = some k) (r : Rp X.K H v d) (q : RelV v u) : ∃ a, v = .ref a ∧ u = .ref a ∧ (nestedKind X.prog X.w).is s.heap k a := by
  obtain ⟨xs, rfl, h1, h2⟩ := tkey_of hk
  obtain ⟨a, ys, rfl, _⟩ := r.tuple_inv
  cases q
  exact ⟨a, rfl, rfl, DS.is_key I h1 r rfl, h2⟩
theorem od_inA (hu : Rm X) : OpD ec X W (compareOp .In) (dInA false) := by
  intro pins s σ H Hf x y dx dy v u Q I hs rx ry wx wy p
  have hu' : X.A.units + 150 < cLine := hu
  cases dy with
  | dict ds =>
    have p : Post ec X.K W σ (ρV X.K) Q H Hf (dHas false dx ds) := p
    unfold dHas at p
    cases hk : tkey dx with
    | none => simp only [hk] at p; exact p.elim
    | some k =>
      simp only [hk] at p
      by_cases ht : allTk ds = true
      · rw [if_pos ht] at p
        obtain ⟨a, ks, rfl, hsys, hd, re⟩ := dict_inv I (wy.full hs) ht
        cases ry
        obtain ⟨b, rfl, rfl, hb⟩ := key_is I hk (wx.full hs) rx
        obtain ⟨_, _, hk2, _⟩ := tkey_of hk
        have hf := DS.es_find (K := X.K) (k := k) (by rw [DS.keyd_data hk2]; exact hk2) re
        refine in_keyed (kvs := pairsH (DS.xsOf ks)) (by show X.A.in1.units + 8 < cLine; simp only [Around.in1_units]; omega) hb hsys ⟨_, hd, rfl⟩ ⟨.bl _, H, I.tok _, rfl, ?_⟩
        rw [valueAt_pairsH, Option.isSome_map, hf.1]
        have := p.here hs (.bl (false ^^ ds.any (DS.sameK k)))
        rwa [Bool.false_xor] at this
      · rw [if_neg ht] at p; exact p.elim
  | _ => exact od_inS hu pins s σ H Hf x y dx _ v u Q I hs rx ry wx wy p
theorem od_notInA (hu : Rm X) : OpD ec X W (compareOp .NotIn) (dInA true) := by
  intro pins s σ H Hf x y dx dy v u Q I hs rx ry wx wy p
  have hu' : X.A.units + 150 < cLine := hu
  cases dy with
  | dict ds =>
    have p : Post ec X.K W σ (ρV X.K) Q H Hf (dHas true dx ds) := p
    unfold dHas at p
    cases hk : tkey dx with
    | none => simp only [hk] at p; exact p.elim
    | some k =>
      simp only [hk] at p
      by_cases ht : allTk ds = true
      · rw [if_pos ht] at p
        obtain ⟨a, ks, rfl, hsys, hd, re⟩ := dict_inv I (wy.full hs) ht
        cases ry
        obtain ⟨b, rfl, rfl, hb⟩ := key_is I hk (wx.full hs) rx
        obtain ⟨_, _, hk2, _⟩ := tkey_of hk
        have hf := DS.es_find (K := X.K) (k := k) (by rw [DS.keyd_data hk2]; exact hk2) re
        refine notIn_keyed (kvs := pairsH (DS.xsOf ks)) (by show X.A.in1.units + 8 < cLine; simp only [Around.in1_units]; omega) hb hsys ⟨_, hd, rfl⟩ ⟨.bl _, H, I.tok _, rfl, ?_⟩
        rw [valueAt_pairsH, Option.isSome_map, hf.1]
        have := p.here hs (.bl (true ^^ ds.any (DS.sameK k)))
        rwa [Bool.true_xor] at this
      · rw [if_neg ht] at p; exact p.elim
  | _ => exact od_notInS hu pins s σ H Hf x y dx _ v u Q I hs rx ry wx wy p
/-! ### {} -/
theorem dn_dict0 : DN ec X W O (.Dict [] [] pos) (dC (.dict [])) := PE.imp pe_dnewK fun σ H Q ⟨H0, Hf0, Hf, η, S, p⟩ q n => by
  have x := Ext.fresh S.sub (o := .dK []) n
  exact p _ _ _ x ⟨q, rfl, n, S.sub.free n, .inr (.inl ⟨[], [], upd_same, rfl, .nil⟩)⟩
end
end DL
end

section
set_option Elab.async false
set_option linter.all false
set_option maxRecDepth 100000
set_option maxHeartbeats 4000000
/-! x[k] = v, x an owned dict, k a tuple. -/
namespace DL
open PySem PySem.Spec PyProof.Rows L2
def putD (ds : List (PyData × PyData)) (k v : PyData) : Option (List (PyData × PyData)) := match tkey k with
  | some j => if allTk ds = true ∧ ds.length < sizeLine then some (if ds.any (DS.sameK j) = true then ds.map (fun e => if DS.sameK j e = true then (e.1, v) else e) else ds ++ [(k, v)]) else none
  | none => none
def dictAt (η : DEnv) (i : Nat) : Option (List (PyData × PyData)) := match η[i]? with
  | some (some (.dict ds)) => some ds
  | _ => none
theorem dictAt_of {η : DEnv} {i : Nat} {ds : List (PyData × PyData)} (h : dictAt η i = some ds) : η[i]? = some (some (.dict ds)) := by
  unfold dictAt at h
  split at h
  · rename_i q
    cases h
    exact q
  · cases h
def sPutT (i : Nat) (fv fk : DEnv → R PyData) : DEnv → Fl := fun η => (fv η).fl η fun v => match dictAt η i with
  | some ds => (fk η).fl η fun k => match putD ds k v with
    | some ds' => .nx (η.set i (some (.dict ds')))
    | none => .bad
  | none => .bad
section
variable {K : PySem.W.Frag} {H Hf : Hp}
theorem es_keys : ∀ {ks : List (NestedKey × Addr × V × Value)} {ds : List (PyData × PyData)}, RpEs K H ks ds → ds.length = ks.length
  | _, _, .nil => rfl
  | _, _, .cons _ _ _ _ _ t => by rw [List.length_cons, List.length_cons, es_keys t]
theorem es_app {k : NestedKey} {t : Addr} {v : V} {u : Value} {d : PyData} (h1 : Rp K H (.ref t) k.data) (h2 : ∃ ks, k = .tup ks) (h3 : k.depth ≤ 8) (h4 : RelV v u) (h5 : Rp K H v d) :
    ∀ {ks : List (NestedKey × Addr × V × Value)} {ds : List (PyData × PyData)}, RpEs K H ks ds → RpEs K H (ks ++ [(k, t, v, u)]) (ds ++ [(k.data, d)])
  | _, _, .nil => .cons h1 h2 h3 h4 h5 .nil
  | _, _, .cons a b c d e r => .cons a b c d e (es_app h1 h2 h3 h4 h5 r)
theorem es_put {k : NestedKey} (hk : DS.keyd false k.data = some k) {v : V} {u : Value} {d : PyData} (h4 : RelV v u) (h5 : Rp K H v d) :
    ∀ {ks : List (NestedKey × Addr × V × Value)} {ds : List (PyData × PyData)}, RpEs K H ks ds → RpEs K H (ks.map fun z => if z.1 = k then (z.1, z.2.1, v, u) else z) (ds.map fun e => if DS.sameK k e = true then (e.1, d) else e)
  | _, _, .nil => .nil
  | _, _, .cons (k := j) (d := d0) a b c e f r => by
    rw [List.map_cons, List.map_cons]
    have q : DS.sameK k (j.data, d0) = decide (j = k) := by
      unfold DS.sameK
      rw [Bool.eq_iff_iff, decide_eq_true_eq, decide_eq_true_eq]
      constructor
      · intro q; exact DS.data_inj (DS.keyd_data q).symm
      · rintro rfl; exact hk
    rw [q]
    by_cases hj : j = k
    · simp only [hj, if_true, decide_true]
      exact .cons (hj ▸ a) (hj ▸ b) (hj ▸ c) h4 h5 (es_put hk h4 h5 r)
    · simp only [hj, if_false, decide_false, Bool.false_eq_true]
      exact .cons a b c e f (es_put hk h4 h5 r)
theorem xs_put {k : NestedKey} {v : V} {u : Value} (ks : List (NestedKey × Addr × V × Value)) : DS.xsOf (ks.map fun z => if z.1 = k then (z.1, z.2.1, v, u) else z) = (DS.xsOf ks).map (putAt k u) := by
  unfold DS.xsOf
  rw [List.map_map, List.map_map]
  refine List.map_congr_left fun z _ => ?_
  show (_, _, _) = putAt k u (z.1, z.2.1, z.2.2.2)
  unfold putAt
  by_cases h : z.1 = k
  · simp [h]
  · simp [h]
end
section
variable {ec : EC} {X : Cx} {W : WX} {O O' : List Nat} {e a b c : Expr} {f fa fb fc : DEnv → R PyData} {pos : Pos} {pins : List (Addr × Obj)} {σ : St} {H Hf : Hp} {s : Shared}
/-- an owned dict of tuple keys, and what its writing makes of it -/
theorem put_run (hu : Rm X) (I : Inv X pins σ H s) (hs : Same Hf H) {p : Addr} {ds ds' : List (PyData × PyData)} (hf : Hf p = none) (ow : OwnAt X.K H Hf p (.dict ds)) {kd vd : PyData} {kv v : V} {ku u : Value} (rk : Rp X.K Hf kv kd) (qk : RelV kv ku) (rv : Rp X.K Hf v vd) (qv : RelV v u)
    (hp : putD ds kd vd = some ds') {Q : Unit → Shared → Prop} {E : Value → Shared → Prop}
    (h : ∀ s' H', Inv X pins σ H' s' → (∃ o, H' = upd H p o) → OwnAt X.K H' Hf p (.dict ds') → Q () s') : wpAny (model X.prog X.w) X.A (setItem (.ref p) ku u) Q E s := by
  have hu' : X.A.units + 150 < cLine := hu
  unfold putD at hp
  cases hk : tkey kd with
  | none => rw [hk] at hp; cases hp
  | some k =>
    simp only [hk] at hp
    split at hp
    · rename_i hc
      obtain ⟨hall, hsz⟩ := hc
      cases hp
      obtain ⟨ys, hkd, hk2, hk8⟩ := tkey_of hk
      have hkdata := DS.keyd_data hk2
      have hk3 : DS.keyd false k.data = some k := by rw [hkdata]; exact hk2
      obtain ⟨t, rfl, rfl, hkey⟩ := key_is I hk (rk.mono hs) qk
      have hnt := DS.keyd_nt hk2
      have htup : ∃ js, k = .tup js := by
        subst hkd
        obtain ⟨js, _, rfl⟩ := DS.keyd_tup hk2
        exact ⟨js, rfl⟩
      have form : ∃ ks, s.heap.DictOfH (nestedKind X.prog X.w) p (DS.xsOf ks) ∧ (p == sysModules) = false ∧ RpEs X.K Hf ks ds ∧ (ks.map (·.1)).Nodup ∧ Mut (H p) ∧ ∀ z ∈ ks, ∀ w, z.1.hash X.w = z.1.hash w := by
        rcases ow with ⟨_, _, _, e, _⟩ | ⟨kvs, ds2, h1, e, r⟩ | ⟨o, es, ep, ds2, ks, h1, h2, h3, h4, h5, h6, h7, e, h8⟩
        · cases e
        · cases e
          cases r with
          | nil => exact ⟨[], (DS.dict_nil I h1).1, (DS.dict_nil I h1).2, .nil, List.nodup_nil, by rw [h1]; trivial, fun z hz => by cases hz⟩
          | @cons j _ _ _ _ _ _ =>
            unfold allTk at hall
            rw [List.all_cons, Bool.and_eq_true] at hall
            cases j <;> cases hall.1
        · cases e
          refine ⟨ks, DS.dict_at I h1 h2 h3 h6 h7 (h8.mono hs), h5, h8, h7, by rw [h1]; trivial, fun z hz w' => ?_⟩
          have q := (h6 X.prog X.w).symm.trans (h6 X.prog w')
          have := List.map_inj_left.mp q z hz
          exact congrArg DictEntry.hash this
      obtain ⟨ks, hd, hsys, hre, hnd, hmu, hhash⟩ := form
      have hf2 := DS.es_find hk3 hre
      have hlen := es_keys hre
      refine wpAny_setItem_heap (by show X.A.in1.units + 8 < cLine; simp only [Around.in1_units]; omega) hkey hd (fun h' hd' sb => ?_) (by rw [List.length_map]; omega)
      obtain ⟨o', es', ep', e1, e2, e3, e4, e5, e6⟩ := hd'
      let ks' : List (NestedKey × Addr × V × Value) := if ds.any (DS.sameK k) = true then ks.map (fun z => if z.1 = k then (z.1, z.2.1, v, u) else z) else ks ++ [(k, t, v, u)]
      have ex : DS.xsOf ks' = storedH (DS.xsOf ks) k t u := by
        show DS.xsOf (if ds.any (DS.sameK k) = true then _ else _) = _
        unfold storedH
        rw [hf2.1]
        by_cases q : ds.any (DS.sameK k) = true
        · rw [if_pos q, if_pos q, xs_put]
        · rw [if_neg q, if_neg q]
          unfold DS.xsOf
          rw [List.map_append]; rfl
      have er : RpEs X.K Hf ks' (if ds.any (DS.sameK k) = true then ds.map (fun e => if DS.sameK k e = true then (e.1, vd) else e) else ds ++ [(kd, vd)]) := by
        show RpEs X.K Hf (if ds.any (DS.sameK k) = true then _ else _) _
        by_cases q : ds.any (DS.sameK k) = true
        · rw [if_pos q, if_pos q]; exact es_put hk3 qv rv hre
        · rw [if_neg q, if_neg q, ← hkdata]
          exact es_app (by rw [hkdata]; exact rk) htup hk8 qv rv hre
      have eh : ∀ z ∈ ks', ∀ w', z.1.hash X.w = z.1.hash w' := fun z hz w' => by
        have hz : z ∈ (if ds.any (DS.sameK k) = true then ks.map (fun z => if z.1 = k then (z.1, z.2.1, v, u) else z) else ks ++ [(k, t, v, u)]) := hz
        split at hz
        · obtain ⟨y, hy, rfl⟩ := List.mem_map.mp hz
          have : (if y.1 = k then (y.1, y.2.1, v, u) else y).1 = y.1 := by split <;> rfl
          rw [this]
          exact hhash y hy w'
        · rcases List.mem_append.mp hz with hz | hz
          · exact hhash z hz w'
          · rw [List.mem_singleton] at hz
            rw [hz]
            exact DS.hash_nt X.w w' hnt
      have ent : ∀ P w, es'.toList = ks'.map fun z => entryOfKey (nestedKind P w) (z.1, z.2.1, z.2.2.2) := fun P w' => by
        rw [e4, ← ex]
        unfold DS.xsOf
        rw [List.map_map]
        refine List.map_congr_left fun z hz => ?_
        show (⟨z.1.hash X.w, .ref z.2.1, z.2.2.2⟩ : DictEntry) = ⟨z.1.hash w', .ref z.2.1, z.2.2.2⟩
        rw [eh z hz w']
      have enD : (ks'.map (·.1)).Nodup := by
        have := e6
        rw [← ex] at this
        unfold DS.xsOf at this
        rw [List.map_map] at this
        exact this
      have ene : ks' ≠ [] := by
        show (if ds.any (DS.sameK k) = true then _ else _) ≠ []
        by_cases q : ds.any (DS.sameK k) = true
        · rw [if_pos q]
          intro z
          have : ks = [] := by simpa using z
          rw [this] at hlen
          have : ds = [] := List.eq_nil_of_length_eq_zero hlen
          rw [this] at q; cases q
        · rw [if_neg q]; simp
      clear_value ks'
      refine h _ (upd H p (.ext fun h => h.get? p = some o')) (I.write (e := p) (t' := s.toks + (nestedKind X.prog X.w).draws k) hmu (.inl rfl) (fun b u' hb q => (sb.2 b hb).trans q) ⟨o', e1⟩ ⟨e1, ⟨o', e1⟩, fun h1 h2 q k2 => k2 o' q⟩) ⟨_, rfl⟩ ?_
      exact .inr (.inr ⟨o', es', ep', _, ks', upd_same, e2, e3, ene, hsys, ent, enD, rfl, er⟩)
    · cases hp
theorem ds_putT {i : Nat} {x : Str} {p0 pos' : Pos} {ke ve : Expr} {fk fv : DEnv → R PyData} (hu : Rm X) (hv : DE ec X W O ve fv) (hk : DE ec X W O ke fk) (hi : i ∈ O := by decide) (hN : X.N[i]? = some x := by rfl) (hvis : Vis X.env.scope x := by first | exact Or.inl rfl | exact Or.inr (Or.inl rfl))
    (hd : (x == ("__debug__" : Str)) = false := by decide) (hcd : (x == ("__classdict__" : Str)) = false := by decide)
    (hsw : swapsWith ve (some (.Subscript (.Name x p0) ke pos')) pos.line X.env = pure false := by rfl) :
    DS ec X W O O (.Assign [.Subscript (.Name x p0) ke pos'] ve pos) (sPutT i fv fk) := by
  refine ⟨fun pins s σ H D I h => ?_⟩
  obtain ⟨H0, Hf0, Hf, η, S, p⟩ := h
  unfold sPutT at p
  refine wpAny_Assign_Subscript (thn (hv.run pins s σ H _ I ⟨H0, Hf0, Hf, η, S, PostS.exprI S p⟩) fun r s1 ⟨v, H1, I1, qv, Hf1, vd, ev, x1, rv, p1⟩ => ?_) hsw
  have S1 := S.step x1
  cases q : dictAt η i with
  | none => simp only [q] at p1; exact p1.elim
  | some ds =>
    simp only [q] at p1
    obtain ⟨pp, a1, a2, a3, a4⟩ := S1.own i _ hi (dictAt_of q)
    refine thn ((pe_var hN hvis hd hcd).run pins s1 σ H1 (fun y H2 => y = .ref pp ∧ H2 = H1) I1 ⟨.ref pp, a1, rfl, rfl⟩) fun u s2 ⟨y, H2, I2, qy, ey, eH⟩ => ?_
    subst ey eH
    cases qy
    refine thn (hk.run pins s2 σ H2 _ I2 ⟨H0, Hf0, Hf1, η, S1, PostS.exprI S1 p1⟩) fun ku s3 ⟨kv, H3, I3, qk, Hf3, kd, ek, x3, rk, p3⟩ => ?_
    have S3 := S1.step x3
    cases hput : putD ds kd vd with
    | none => simp only [hput] at p3; exact p3.elim
    | some ds' =>
      simp only [hput] at p3
      obtain ⟨pp2, b1, b2, b3, b4⟩ := S3.own i _ hi (dictAt_of q)
      have : pp2 = pp := by rw [a1] at b1; cases b1; rfl
      subst this
      refine put_run hu I3 S3.sub b3 b4 rk qk (rv.mono x3.sf) qv hput fun s4 H4 I4 eo ow => ?_
      obtain ⟨o, rfl⟩ := eo
      exact ⟨σ, _, I4, p3 _ _ Hf3 (by
        have := S3.write (o := o) hi (dictAt_of q) b1 b2 b3 ow
        have e : σ.set i (some (.ref pp2)) = σ := by
          refine List.ext_getElem? fun j => ?_
          rw [List.getElem?_set]
          split
          · rename_i hj; subst hj
            split
            · exact b1.symm
            · rename_i hlt; rw [List.getElem?_eq_none (by omega)] at b1; cases b1
          · rfl
        first | exact this | (rw [e] at this; exact this))⟩
end
end DL
end

section
set_option Elab.async false
set_option linter.all false
set_option maxRecDepth 100000
/-! d[k], d a dict of tuple keys -/
namespace DL
open PySem PySem.Spec PyProof.Rows L2
def dIxA : PyData → PyData → R PyData := fun a b => match a with
  | .dict ds => match tkey b with
    | some k => if allTk ds = true then (match ds.find? (DS.sameK k) with
      | some e => .ok e.2
      | none => .bad) else .bad
    | none => .bad
  | a => dIxS a b
theorem RpW.dict_inv {K : PySem.W.Frag} {H Hf : Hp} {v : V} {ds : List (PyData × PyData)} (h : RpW K H Hf v (.dict ds)) (s : Same Hf H) (ht : allTk ds = true) (hn : ds ≠ []) :
    ∃ a o es ep ks, v = .ref a ∧ H a = some (.ext (fun h => h.get? a = some o)) ∧ o.ExactDict ∧ o.data = .dict es ep ∧ (a == sysModules) = false ∧
      (∀ P w, es.toList = ks.map fun k => entryOfKey (nestedKind P w) (k.1, k.2.1, k.2.2.2)) ∧ (ks.map (·.1)).Nodup ∧ RpEs K Hf ks ds := by
  have nk : ∀ {kvs : List (Key × V)}, RpKV K Hf kvs ds → False := fun r => by
    cases r with
    | nil => exact hn rfl
    | @cons k _ _ _ _ _ _ =>
      unfold allTk at ht
      rw [List.all_cons, Bool.and_eq_true] at ht
      cases k <;> cases ht.1
  rcases h with h | ⟨p, rfl, n, a⟩
  · generalize hd : PyData.dict ds = d at h
    cases h with
    | dK h r => cases hd; exact (nk r).elim
    | dN h1 h2 h3 h4 h5 h6 h7 h8 => cases hd; exact ⟨_, _, _, _, _, rfl, s _ _ h1, h2, h3, h5, h6, h7, h8⟩
    | fn z => cases hd; unfold allTk at ht; cases ht
    | exc0 q => cases hd; unfold allTk at ht; cases ht
    | exc1 q q2 q3 => cases hd; unfold allTk at ht; cases ht
    | _ => cases hd
  · rcases a with ⟨_, _, _, e, _⟩ | ⟨_, _, _, e, r⟩ | ⟨o, es, ep, ds', ks, h1, h2, h3, h4, h5, h6, h7, e, h8⟩
    · cases e
    · cases e; exact (nk r).elim
    · cases e; exact ⟨p, o, es, ep, ks, rfl, h1, h2, h3, h5, h6, h7, h8⟩
def rIxN (K : PySem.W.Frag) : R2 := fun x y H Q => ∃ (a : Addr) (o : Obj) (es : Array DictEntry) (ep : Nat) (ks : List (NestedKey × Addr × V × Value)) (ds : List (PyData × PyData)) (dy : PyData) (k : NestedKey) (t : Addr) (u : Value) (v : V),
  x = .ref a ∧ H a = some (.ext (fun h => h.get? a = some o)) ∧ o.ExactDict ∧ o.data = .dict es ep ∧
  (∀ P w, es.toList = ks.map fun k => entryOfKey (nestedKind P w) (k.1, k.2.1, k.2.2.2)) ∧ (ks.map (·.1)).Nodup ∧ RpEs K H ks ds ∧
  Rp K H y dy ∧ tkey dy = some k ∧ atKey (DS.xsOf ks) k = some (t, u) ∧ RelV v u ∧ Q v H
section
variable {ec : EC} {X : Cx} {W : WX} {O O' : List Nat} {e a b c : Expr} {f fa fb fc : DEnv → R PyData} {pos : Pos}
theorem ix_dN (hu : Rm X) : IxR X (rIxN X.K) := by
  intro value slice pins s σ H x y v u Q I rx ry h hs
  have hu' : X.A.units + 150 < cLine := hu
  obtain ⟨a, o, es, ep, ks, ds, dy, k, t, w, z, rfl, h1, h2, h3, h4, h5, h6, h7, h8, h9, rz, q⟩ := h
  cases rx
  have hd := DS.dict_at I h1 h2 h3 h4 h5 h6
  obtain ⟨b, rfl, rfl, hb⟩ := key_is I h8 h7 ry
  have hv : valueAt (pairsH (DS.xsOf ks)) k = some w := by rw [valueAt_pairsH, h9]; rfl
  exact tail_any hd.typeIs PySem.F.slot_dict_getitem.lookup (getItem_keyed (kvs := pairsH (DS.xsOf ks)) (by show X.A.in1.units + 8 < cLine; simp only [Around.in1_units]; omega) hb ⟨_, hd, rfl⟩ hv ⟨z, H, I.tok _, rz, q⟩) hs
theorem de_ixA (hu : Rm X) (ha : DW ec X W O a fa) (hb : DW ec X W O b fb) (hs : PlainIx b := by exact fun _ _ => rfl) : DE ec X W O (.Subscript a b pos) (d2 dIxA fa fb) := by
  refine PE.imp (pe_ix (ix_seq.or (ix_dN hu)) ha hb hs) fun σ H Q ⟨H0, Hf0, Hf, η, S, p⟩ => ⟨H0, Hf0, Hf, η, S, p.bindI.imp fun x H1 ⟨Hf1, dx, x1, w1, p1⟩ => ⟨H0, Hf0, Hf1, η, S.step x1, p1.bindI.imp fun y H2 ⟨Hf2, dy, x2, w2, p2⟩ => ?_⟩⟩
  have w1' := w1.ext x2
  have seq : (dIxA dx dy = dIxS dx dy) → rIx X.K x y H2 (fun v H => Q v H) := fun e => by
    rw [e] at p2
    cases dy with
    | int i =>
      have e := w2.int_inv
      subst e
      cases dx with
      | list xs =>
        unfold dIxS at p2
        cases q : atI xs i with
        | none => simp only [q] at p2; exact p2.elim
        | some d =>
          simp only [q] at p2
          obtain ⟨a', vs, rfl, h1, r1⟩ := w1'.list_inv x2.sub
          obtain ⟨v, e1, e2⟩ := atI_rp r1 q
          exact .inl ⟨a', vs, i, v, rfl, rfl, h1, e1, p2.here x2.sub e2⟩
      | tuple xs =>
        unfold dIxS at p2
        cases q : atI xs i with
        | none => simp only [q] at p2; exact p2.elim
        | some d =>
          simp only [q] at p2
          obtain ⟨a', vs, rfl, h1, r1⟩ := w1'.tuple_inv x2.sub
          obtain ⟨v, e1, e2⟩ := atI_rp r1 q
          exact .inr (.inl ⟨a', vs, i, v, rfl, rfl, h1, e1, p2.here x2.sub e2⟩)
      | str z =>
        unfold dIxS at p2
        have e := w1'.str_inv
        subst e
        by_cases hz : z.length ≤ sizeLine
        · simp only [hz, if_true] at p2
          cases q : atI z.cps.toList i with
          | none => rw [q] at p2; exact p2.elim
          | some c =>
            rw [q] at p2
            exact .inr (.inr ⟨z, i, c, rfl, rfl, hz, q, p2.here x2.sub (.str _)⟩)
        · simp only [hz, if_false] at p2
          exact p2.elim
      | _ => exact p2.elim
    | _ => exact p2.elim
  cases dx with
  | dict ds =>
    unfold dIxA at p2
    cases hk : tkey dy with
    | none => simp only [hk] at p2; exact p2.elim
    | some k =>
      simp only [hk] at p2
      by_cases ht : allTk ds = true
      · rw [if_pos ht] at p2
        cases hf : ds.find? (DS.sameK k) with
        | none => simp only [hf] at p2; exact p2.elim
        | some en =>
          simp only [hf] at p2
          have hn : ds ≠ [] := by rintro rfl; cases hf
          obtain ⟨a', o, es, ep, ks, rfl, h1, h2, h3, h5, h6, h7, h8⟩ := w1'.dict_inv x2.sub ht hn
          obtain ⟨_, _, hk2, _⟩ := tkey_of hk
          have g := DS.es_find (k := k) (by rw [DS.keyd_data hk2]; exact hk2) h8
          have g1 : (atKey (DS.xsOf ks) k).isSome = true := by
            rw [g.1, List.any_eq_true]
            exact ⟨en, List.mem_of_find?_eq_some hf, List.find?_some hf⟩
          obtain ⟨⟨t, u⟩, hp⟩ := Option.isSome_iff_exists.mp g1
          obtain ⟨v, d, e1, rv, rd⟩ := g.2 _ hp
          rw [hf] at e1
          cases e1
          exact .inr ⟨a', o, es, ep, ks, ds, dy, k, t, u, v, rfl, h1, h2, h3, h6, h7, h8.mono x2.sub, w2.full x2.sub, hk, hp, rv, p2.here x2.sub rd⟩
      · rw [if_neg ht] at p2; exact p2.elim
  | _ => exact .inl (seq rfl)
end
end DL
end

section
set_option Elab.async false
set_option linter.all false
set_option maxRecDepth 100000
/-! a if t else b -/
namespace DL
open PySem PySem.Spec PyProof.Rows L2
def dIf (fc : DEnv → R Bool) (fa fb : DEnv → R PyData) : DEnv → R PyData := fun η => (fc η).bind fun b => if b then fa η else fb η
theorem de_ifx {ec : EC} {X : Cx} {W : WX} {O : List Nat} {a b c : Expr} {fa fb : DEnv → R PyData} {fc : DEnv → R Bool} {pos : Pos} (hc : DT ec X W O c fc) (ha : DE ec X W O a fa) (hb : DE ec X W O b fb) : DE ec X W O (.IfExp c a b pos) (dIf fc fa fb) :=
  PE.imp (pe_ifExp hc ha hb) fun σ H Q ⟨H0, Hf0, Hf, η, S, p⟩ => ⟨H0, Hf0, Hf, η, S, p.bindI.imp fun b H1 ⟨Hf1, b', x1, r1, p1⟩ => by
    have r1 : b = b' := r1
    subst r1
    cases b with
    | true => exact ⟨H0, Hf0, Hf1, η, S.step x1, p1⟩
    | false => exact ⟨H0, Hf0, Hf1, η, S.step x1, p1⟩⟩
end DL
end

section
set_option Elab.async false
set_option linter.all false
set_option maxRecDepth 100000
set_option maxHeartbeats 4000000
/-! sorted(x), x a tuple -/
namespace DL
open PySem PySem.Spec PyProof.Rows L2
section
variable {prog : Program} {w : World} {A : Around} {E : Value → Shared → Prop} {s : Shared} {vs : List Value}
/-- the items of a tuple, gone through -/
theorem collect_tup {l : Addr} {Q : List Value → Shared → Prop} (hl : IsTup s.heap l vs.toArray) (hsz : vs.length ≤ sizeLine)
    (h : Q vs { s with heap := (s.heap.push (seqObj "list" #[] 0)).update s.heap.objs.size (Obj.mapSeq (· ++ vs.toArray)) }) : wpAny (model prog w) A (collect (.ref l)) Q E s := by
  obtain ⟨o, ho, hc, n, hd⟩ := hl
  have new := Heap.get?_push_size s.heap (o := seqObj "list" #[] 0) rfl
  have old : (s.heap.push (seqObj "list" #[] 0)).get? l = some o := Heap.get?_push_of_some _ ho
  have fin : wpAny (model prog w) A (do
      let o ← load s.heap.objs.size
      match o.data with
      | .seq xs _ => pure xs.toList
      | _ => unsupported "internal:collect") Q E { s with heap := (s.heap.push (seqObj "list" #[] 0)).update s.heap.objs.size (Obj.mapSeq (· ++ vs.toArray)) } := by
    refine wpAny_bind (wpAny_load (get?_update_seq new _) ?_)
    show wpAny _ _ (pure ((#[] : Array Value) ++ vs.toArray).toList) Q E _
    rw [show ((#[] : Array Value) ++ vs.toArray).toList = vs by simp]
    exact wpAny_pure h
  unfold collect
  refine wpAny_bind (wpAny_runValue (codeAny_builtin entry_proto_collect' ?_))
  show wpAny _ _ (do again (.builtin "list.__iadd__" ⟨[← newList [], .ref l], []⟩)) _ _ s
  refine wpAny_bind (wpAny_newList (wpAny_pure ⟨Code.quiet_builtin _ (by decide +kernel), codeAny_builtin entry_list_iadd' ?_⟩))
  show wpAny _ _ (Builtin.List.listExtendWith (.ref s.heap.objs.size) (.ref l) (.ref s.heap.objs.size)) _ _ { s with heap := s.heap.push (seqObj "list" #[] 0) }
  unfold Builtin.List.listExtendWith
  refine wpAny_bind (wpAny_typeOf (T := "tuple") ⟨o, old, hc⟩ ?_)
  have ht : (Value.type "tuple" == Value.type "tuple") = true := by rfl
  rw [if_pos (by rw [ht]; simp)]
  refine wpAny_bind (listItems_at old hd (wpAny_bind (listItems_at (xs := #[]) (n := 0) new rfl ?_)))
  rw [if_neg (by simp)]
  exact wpAny_bind (listUpdate_at (xs := #[]) (n := 0) new rfl (wpAny_pure fin) (Nat.zero_le _) (by show (#[] ++ vs.toArray).size ≤ sizeLine + 1; simp only [Array.size_append, List.size_toArray, List.length_nil]; omega))
open PySem.W PySem.Calls in
/-- a new list, sorted, of a tuple's items -/
theorem sorted_tup {β : Type} {bs : List β} {enc : β → PyData} {R : Value → β → Prop} {l : Addr} {Q : Value → Shared → Prop} (hl : IsTup s.heap l vs.toArray) (e : EachIs R vs bs) (er : EachIs (fun v b => ∃ as, Reads s.heap v (enc b) as) vs bs)
    (hal : AllAlike (bs.map enc)) (hk : Sortable (bs.map enc)) (hL : bs.length ≤ sizeLine) (hu : ∀ b, b ∈ bs → A.units + 2 + (enc b).depth < cLine)
    (h : ∀ out, out.length = bs.length → EachIs R out (bs.mergeSort (dataLe false enc)) → Q (.ref (s.heap.objs.size + 1)) { s with heap := sortedAll s.heap vs (List.toArray out) }) : wpAny (model prog w) A (call (.builtin "sorted") [.ref l]) Q E s := by
  have hv : vs.length ≤ sizeLine := by rw [e.length]; exact hL
  have er' : EachIs (fun v b => ∃ as, Reads (sortingHeap (copyHeap s.heap vs) (s.heap.objs.size + 1) vs) v (enc b) as) vs bs := er.mono fun _ _ ⟨as, r⟩ => ⟨as, PyProof.Rows.Reads.keeps (fun _ _ => sorting_copy_old) r⟩
  have S : SortsAt prog w A.in1.in1 { s with heap := sortingHeap (copyHeap s.heap vs) (s.heap.objs.size + 1) vs } _ vs :=
    SortsAt.data (s := { s with heap := sortingHeap (copyHeap s.heap vs) (s.heap.objs.size + 1) vs }) (each_map (R := fun v d => ∃ as, Reads (sortingHeap (copyHeap s.heap vs) (s.heap.objs.size + 1) vs) v d as) enc er') hal hk (bound_map hu)
  have fin := h _ (by rw [sortVals_length false rfl]; exact e.length) (sortVals_data false e er' hal)
  refine call_function_entry_kw kind_sorted plain_sorted entry_sorted (args_sorted1 _) ?_
  unfold Builtin.«sorted»
  refine wpAny_bind (m := checkCount "sorted" 1 1 _) (wpAny_pure (wpAny_bind (collect_tup hl hv (wpAny_bind (wpAny_newList ?_ hv)))))
  have hsz : ((s.heap.push (seqObj "list" #[] 0)).update s.heap.objs.size (Obj.mapSeq (· ++ vs.toArray))).objs.size = s.heap.objs.size + 1 := by
    rw [Heap.size_update, size_push']
  show wpAny _ _ _ _ _ { s with heap := copyHeap s.heap vs }
  rw [hsz]
  refine wpAny_bind (wpAny_holding (wpAny_call_entry_kw slot_list_sort ⟨_, copyHeap_at s.heap vs, rfl⟩ entry_list_sort ?body (args_list_sort _)))
  case body =>
    show wpAny (model prog w) A.in1.in1 (Builtin.«list.sort» ⟨[.ref (s.heap.objs.size + 1)], []⟩) _ _ _
    exact list_sort_vals (s := { s with heap := copyHeap s.heap vs }) (copyHeap_at s.heap vs) S hv ⟨_, rfl, wpAny_pure ⟨_, rfl, fin⟩⟩
end
def dSortA : PyData → R PyData
  | .tuple ds => dSorted (.list ds)
  | a => dSorted a
theorem cn_sortedA {ec : EC} {X : Cx} {W : WX} (hu : Rm X) : CallN ec X W (.builtin "sorted") dSortA := by
  intro pins s σ H Hf x dx v Q I hs rx wx p
  have hu' : X.A.units + 150 < cLine := hu
  cases dx with
  | tuple ds =>
    have p : Post ec X.K W σ (ρN X.K H) Q H Hf (dSorted (.list ds)) := p
    unfold dSorted at p
    by_cases hc : sortOk ds = true
    · simp only [hc, if_true] at p
      obtain ⟨h1, h2, h3, h4⟩ := sortOk_of hc
      obtain ⟨a, vs, rfl, hq, r1⟩ := wx.tuple_inv hs
      cases rx
      obtain ⟨its, rv, pl, hz⟩ := I.tuple hq
      have es := zip_snd r1
      have hlen : (vs.zip ds).length = its.length := by rw [List.length_zip, ← r1.length, Nat.min_self]; exact rv.length
      have hb : ∀ b ∈ vs.zip ds, b.2 ∈ ds := fun b hb => by rw [← es]; exact List.mem_map_of_mem hb
      refine sorted_tup (enc := Prod.snd) pl (zip_each r1 rv) (each_reads I (r1.mono hs) rv h1) (by rw [es]; exact h2) (by rw [es]; exact h3) (by rw [hlen, ← rv.length]; exact hz)
        (fun b hb' => by have := h4 _ (hb b hb'); omega) fun out hl he => ?_
      have rv2 := vals_of_each he
      have r2 : RpAll X.K Hf (((vs.zip ds).mergeSort (PySem.W.dataLe false Prod.snd)).map Prod.fst) (sortD ds) := by
        have q := rp_of_pairs (K := X.K) (H := Hf) (bs := (vs.zip ds).mergeSort (PySem.W.dataLe false Prod.snd)) fun b hb => zip_rp r1 b ((List.mergeSort_perm _ _).mem_iff.mp hb)
        have em : ((vs.zip ds).mergeSort (PySem.W.dataLe false Prod.snd)).map Prod.snd = sortD ds := (PySem.W.sort_maps (r := PySem.W.dataLe false Prod.snd) (s := dLeB) Prod.snd (l := vs.zip ds) (fun _ _ _ _ => rfl)).trans (by rw [es]; rfl)
        rw [em] at q
        exact q
      obtain ⟨ep, he'⟩ := PyProof.Rows.sortedAll_at s.heap its (List.toArray out)
      have hn : H (s.heap.objs.size + 1) = none := I.hok.fresh (Nat.le_succ _)
      refine ⟨.ref _, _, I.laid (t' := s.toks) (o := .lst (((vs.zip ds).mergeSort (PySem.W.dataLe false Prod.snd)).map Prod.fst)) (fun _ _ => PyProof.Rows.sortedAll_old) (Nat.le_succ _) ⟨?_, out, ep, rv2, he'⟩, rfl, new_list p hs r2 hn⟩
      rw [List.length_map, List.length_mergeSort, hlen, ← rv.length]
      exact hz
    · simp only [hc] at p
      exact p.elim
  | list ds => exact cn_sorted hu pins s σ H Hf x _ v Q I hs rx wx p
  | _ => exact (show False from p).elim
end DL
end

section
set_option Elab.async false
set_option linter.all false
set_option maxRecDepth 100000
/-! text.find(text); x or y by truth -/
namespace DL
open PySem PySem.Spec PyProof.Rows L2
section
variable {ec : EC} {X : Cx} {W : WX} {O : List Nat} {a b o e : Expr} {rest : List Expr} {fa fb : DEnv → R PyData} {pos : Pos}
def dFind (fa fb : DEnv → R PyData) : DEnv → R PyData := fun η => (fa η).bind fun x => match x with
  | .str a => (fb η).bind fun y => match y with
    | .str b => .ok (.int (Txt.find a b))
    | _ => .bad
  | _ => .bad
theorem de_find {apos cpos : Pos} (ho : DW ec X W O o fa) (he : DW ec X W O e fb) (hs : starEach [e] X.env = [(false, eval e X.env)] := by rfl)
    (hbase : attributeBase o "find" X.env (eval o X.env) = eval o X.env := by rfl) (hline : (apos.endLine == cpos.line) = true := by rfl) : DE ec X W O (.Call (.Attribute o "find" apos) [e] [] cpos) (dFind fa fb) := by
  refine PE.imp (pe_m1 PySem.F.slot_str_find PySem.F.type_str_find mt_find ho he hs hbase hline) fun σ H Q ⟨H0, Hf0, Hf, η, S, q⟩ => ⟨H0, Hf0, Hf, η, S, q.bindI.imp fun v H1 ⟨Hf1, d, x1, w1, p1⟩ => ?_⟩
  cases d with
  | str x =>
    refine ⟨⟨x, w1.str_inv⟩, H0, Hf0, Hf1, η, S.step x1, p1.bindI.imp fun y H2 ⟨Hf2, dy, x2, w2, p2⟩ => ?_⟩
    cases dy with
    | str z => exact ⟨x, z, w1.str_inv, congrArg (fun t => [t]) w2.str_inv, p2.here x2.sub (.int _)⟩
    | _ => exact p2.elim
  | _ => exact p1.elim
/-- what counts as true -/
def truD : PyData → Option Bool
  | .none => some false
  | .bool b => some b
  | .list xs => some (!xs.isEmpty)
  | .tuple xs => some (!xs.isEmpty)
  | _ => none
def dOrT (fa fb : DEnv → R PyData) : DEnv → R PyData := fun η => (fa η).bind fun x => match truD x with
  | some true => .ok x
  | some false => fb η
  | none => .bad
theorem de_orT (ha : DE ec X W O a fa) (hb : DE ec X W O (.BoolOp .Or (b :: rest) pos) fb) : DE ec X W O (.BoolOp .Or (a :: b :: rest) pos) (dOrT fa fb) :=
  PE.imp (pe_orT ha hb) fun σ H Q ⟨H0, Hf0, Hf, η, S, p⟩ => ⟨H0, Hf0, Hf, η, S, p.bindI.imp fun v H1 ⟨Hf1, d, x1, r1, p1⟩ => by
    have go : ∀ k : Bool, truD d = some k → TruV X.K v H1 k → ∃ k, TruV X.K v H1 k ∧ if k = true then Q v H1 else tD ec X.K W O (ρV X.K) fb σ H1 Q := fun k hk ht => by
      rw [hk] at p1
      refine ⟨k, ht, ?_⟩
      cases k with
      | true => exact p1.here x1.sub r1
      | false => exact ⟨H0, Hf0, Hf1, η, S.step x1, p1⟩
    have em : ∀ {xs : List V} {ds : List PyData}, RpAll X.K Hf1 xs ds → (!xs.isEmpty) = !ds.isEmpty := fun r => by cases r <;> rfl
    cases d with
    | none => cases r1; exact go false rfl rfl
    | bool b => cases r1; exact go b rfl rfl
    | list ds =>
      obtain ⟨a', xs, rfl, h1, h2⟩ := r1.list_inv
      exact go _ rfl (.inl ⟨xs, x1.sub.seq h1, (em h2).symm⟩)
    | tuple ds =>
      obtain ⟨a', xs, rfl, h1, h2⟩ := r1.tuple_inv
      exact go _ rfl (.inr (.inl ⟨xs, Same.tup x1.sub h1, (em h2).symm⟩))
    | _ => exact (show False from p1).elim⟩
end
end DL
end

section
set_option Elab.async false
set_option linter.all false
set_option maxRecDepth 100000
/-! len(d), d a dict of tuple keys -/
namespace DL
open PySem PySem.Spec PyProof.Rows L2
def dLenA : PyData → R PyData
  | .dict ds => if allTk ds = true ∧ ds.length ≤ 16777216 then .ok (.int (ds.length : Int)) else .bad
  | x => dLen x
theorem es_len {K : PySem.W.Frag} {H : Hp} : ∀ {ks : List (NestedKey × Addr × V × Value)} {ds : List (PyData × PyData)}, RpEs K H ks ds → ks.length = ds.length
  | _, _, .nil => rfl
  | _, _, .cons _ _ _ _ _ r => by rw [List.length_cons, List.length_cons, es_len r]
theorem cd_lenA {ec : EC} {X : Cx} {W : WX} : CallD ec X W (.builtin "len") dLenA := by
  intro pins s σ H Hf x dx v Q I hs rx wx p
  cases dx with
  | dict ds =>
    have p : Post ec X.K W σ (ρV X.K) Q H Hf (if allTk ds = true ∧ ds.length ≤ 16777216 then .ok (.int (ds.length : Int)) else .bad) := p
    by_cases ht : allTk ds = true ∧ ds.length ≤ 16777216
    · rw [if_pos ht] at p
      obtain ⟨a, ks, rfl, hsys, hd, re⟩ := dict_inv I (wx.full hs) ht.1
      cases rx
      have hl : (DS.xsOf ks).length = ds.length := by rw [List.length_map, es_len re]
      refine PySem.call_len_dictH hsys hd (by rw [hl]; have := ht.2; omega) ?_
      rw [hl]
      exact ⟨.int (ds.length : Int), H, I.tok _, ⟨_, rfl⟩, p.here hs (.int _)⟩
    · rw [if_neg ht] at p; exact p.elim
  | _ => exact cd_len pins s σ H Hf x _ v Q I hs rx wx p
end DL
end

section
set_option Elab.async false
set_option linter.all false
set_option maxRecDepth 100000
set_option maxHeartbeats 4000000
/-! a op b op' c; xs.clear(). -/
namespace DL
open PySem PySem.Spec PyProof.Rows L2
def dChain (g g' : PyData → PyData → R PyData) (fa fb fc : DEnv → R PyData) : DEnv → R PyData := fun η => (fa η).bind fun x => (fb η).bind fun y => (g x y).bind fun z => match z with
  | .bool true => (fc η).bind fun w => g' y w
  | .bool false => .ok (.bool false)
  | _ => .bad
section
variable {ec : EC} {X : Cx} {W : WX} {O : List Nat} {e a b c : Expr} {f fa fb fc : DEnv → R PyData} {pos : Pos}
theorem de_chain {op op' : CmpOp} {g g' : PyData → PyData → R PyData} (ho : OpD ec X W (compareOp op) g) (ho' : OpD ec X W (compareOp op') g') (ha : DW ec X W O a fa) (hb : DW ec X W O b fb) (hc : DW ec X W O c fc)
    (hm : lastMarks [op, op'] [b, c] = false := by with_unfolding_all rfl) : DE ec X W O (.Compare a [op, op'] [b, c] pos) (dChain g g' fa fb fc) := by
  refine ⟨fun pins s σ H Q I h => ?_⟩
  obtain ⟨H0, Hf0, Hf, η, S, p⟩ := h
  refine Compare_chain (thn (ha.run pins s σ H _ I ⟨H0, Hf0, Hf, η, S, p.bindI⟩) fun v s1 ⟨x, H1, I1, r1, Hf1, dx, x1, w1, p1⟩ => chain_link (thn (hb.run pins s1 σ H1 _ I1 ⟨H0, Hf0, Hf1, η, S.step x1, p1.bindI⟩) fun u s2 ⟨y, H2, I2, r2, Hf2, dy, x2, w2, p2⟩ =>
    thn (ho pins s2 σ H2 Hf2 x y dx dy v u _ I2 x2.sub r1 r2 (w1.ext x2) w2 p2.bindI) fun d s3 ⟨z, H3, I3, r3, Hf3, dz, x3, w3, p3⟩ => ?_)) hm
  cases dz with
  | bool k =>
    cases w3
    cases r3
    refine wpAny_truthy_bool ?_
    cases k with
    | false => exact ite_ff ⟨.bl false, H3, I3, rfl, p3.here x3.sub (.bl _)⟩
    | true =>
      refine ite_tt (chain_last (thn (hc.run pins s3 σ H3 _ I3 ⟨H0, Hf0, Hf3, η, ((S.step x1).step x2).step x3, p3.bindI⟩) fun w' s4 ⟨z', H4, I4, r4, Hf4, dw, x4, w4, p4⟩ => ?_))
      exact ho' pins s4 σ H4 Hf4 y z' dy dw u w' Q I4 x4.sub r2 r4 ((w2.ext x3).ext x4) w4 p4
  | _ => exact p3.elim
theorem dt_chain {op op' : CmpOp} {g g' : PyData → PyData → R PyData} (ho : OpD ec X W (compareOp op) g) (ho' : OpD ec X W (compareOp op') g') (ha : DW ec X W O a fa) (hb : DW ec X W O b fb) (hc : DW ec X W O c fc)
    (hm : lastMarks [op, op'] [b, c] = false := by with_unfolding_all rfl) : DT ec X W O (.Compare a [op, op'] [b, c] pos) (dB (dChain g g' fa fb fc)) := by
  refine ⟨fun pins s σ H Q I h => ?_⟩
  have h' : tD ec X.K W O (ρV X.K) (dChain g g' fa fb fc) σ H (fun v H1 => ∃ k, v = .bl k ∧ Q k H1) := by
    obtain ⟨H0, Hf0, Hf, η, S, p⟩ := h
    exact ⟨H0, Hf0, Hf, η, S, p.bindI.imp fun v H1 ⟨Hf1, d, x1, r1, p1⟩ => by
      cases r1 with
      | bl b => exact ⟨b, rfl, p1.here x1.sub rfl⟩
      | _ => exact p1.elim⟩
  obtain ⟨H0, Hf0, Hf, η, S, p⟩ := h'
  refine isTrue_chain (thn (ha.run pins s σ H _ I ⟨H0, Hf0, Hf, η, S, p.bindI⟩) fun v s1 ⟨x, H1, I1, r1, Hf1, dx, x1, w1, p1⟩ => test_link (thn (hb.run pins s1 σ H1 _ I1 ⟨H0, Hf0, Hf1, η, S.step x1, p1.bindI⟩) fun u s2 ⟨y, H2, I2, r2, Hf2, dy, x2, w2, p2⟩ =>
    thn (ho pins s2 σ H2 Hf2 x y dx dy v u _ I2 x2.sub r1 r2 (w1.ext x2) w2 p2.bindI) fun d s3 ⟨z, H3, I3, r3, Hf3, dz, x3, w3, p3⟩ => ?_)) hm
  cases dz with
  | bool k =>
    cases w3
    cases r3
    refine wpAny_truthy_bool ?_
    cases k with
    | false =>
      obtain ⟨k', e', q'⟩ := p3.here x3.sub (.bl false)
      cases e'
      exact ite_ff ⟨H3, I3, q'⟩
    | true =>
      refine ite_tt (test_last (thn (hc.run pins s3 σ H3 _ I3 ⟨H0, Hf0, Hf3, η, ((S.step x1).step x2).step x3, p3.bindI⟩) fun w' s4 ⟨z', H4, I4, r4, Hf4, dw, x4, w4, p4⟩ =>
        thn (ho' pins s4 σ H4 Hf4 y z' dy dw u w' _ I4 x4.sub r2 r4 ((w2.ext x3).ext x4) w4 p4) fun d' s5 ⟨z2, H5, I5, r5, k2, e2, q5⟩ => ?_))
      subst e2
      cases r5
      exact wpAny_truthy_bool ⟨H5, I5, q5⟩
  | _ => exact p3.elim
def sClr (i : Nat) : DEnv → Fl := fun η => match listAt η i with
  | some _ => .nx (η.set i (some (.list [])))
  | none => .bad
theorem ds_clr {i : Nat} {x : Str} {p0 apos cpos : Pos} (hi : i ∈ O := by decide) (hN : X.N[i]? = some x := by rfl) (hv : Vis X.env.scope x := by first | exact Or.inl rfl | exact Or.inr (Or.inl rfl))
    (hd : (x == ("__debug__" : Str)) = false := by decide) (hcd : (x == ("__classdict__" : Str)) = false := by decide)
    (hbase : attributeBase (.Name x p0) "clear" X.env (eval (.Name x p0) X.env) = eval (.Name x p0) X.env := by rfl) (hline : (apos.endLine == cpos.line) = true := by rfl)
    (hsw : swapsWith (.Call (.Attribute (.Name x p0) "clear" apos) [] [] cpos) none pos.line X.env = pure false := by rfl) :
    DS ec X W O O (.Expr (.Call (.Attribute (.Name x p0) "clear" apos) [] [] cpos) pos) (sClr i) := by
  refine PS.imp (ps_expr (pe_bm0 PySem.F.plainAttrs_list PySem.F.slot_list_clear PySem.F.type_list_clear mt_clear (pe_var hN hv hd hcd) hbase hline) hsw) fun D σ H ⟨H0, Hf0, Hf, η, S, p⟩ => ?_
  unfold sClr at p
  cases q : listAt η i with
  | none => rw [q] at p; exact p.elim
  | some ds =>
    rw [q] at p
    obtain ⟨l, xs, a1, a2, a3, a4, a5⟩ := S.own_list hi (listAt_of q)
    refine ⟨.ref l, a1, .inl ⟨rfl, xs, .of a4⟩, l, xs, rfl, rfl, a4, ?_⟩
    exact p _ _ Hf (S.write hi (listAt_of q) a1 a2 a3 (.inl ⟨_, _, upd_same, rfl, .nil⟩))
end
end DL
end

section
set_option Elab.async false
set_option linter.all false
set_option maxRecDepth 100000
set_option maxHeartbeats 4000000
/-! A def that gives a new thing, the caller's own. -/
namespace DL
open PySem PySem.Spec PyProof.Rows L2
def PostSN (ec : EC) (K : PySem.W.Frag) (W : WX) (H0 Hf0 : Hp) (D : Ends) : Fl → Prop
  | .nx _ => False
  | .rt d => ∀ v H Hf, Ext H0 Hf0 H Hf → ρN K H0 H Hf v d → D.rt v H
  | .ex c fl η => ∀ σ H Hf cls d, SR K H0 Hf0 [] η σ H Hf → ExRep ec K Hf H cls d c fl → W cls d σ H
  | .bad => False
def tSN (ec : EC) (K : PySem.W.Frag) (W : WX) (O : List Nat) (f : DEnv → Fl) : TS := fun D σ H => ∃ H0 Hf0 Hf η, SR K H0 Hf0 O η σ H Hf ∧ PostSN ec K W H0 Hf0 D (f η)
def DSsN (ec : EC) (X : Cx) (W : WX) (O : List Nat) (st : List Stmt) (f : DEnv → Fl) : Prop := PSs X st (tSN ec X.K W O f)
/-- it never returns -/
def NoRt (g : DEnv → Fl) : Prop := ∀ η d, g η ≠ .rt d
/-- it never comes to its end -/
def NoNx (g : DEnv → Fl) : Prop := ∀ η η', g η ≠ .nx η'
section
variable {ec : EC} {X : Cx} {W : WX} {O O1 O' : List Nat} {e : Expr} {es : List Expr} {st : Stmt} {sts : List Stmt} {f fa fb : DEnv → R PyData} {g h : DEnv → Fl} {pos : Pos}
theorem fl_rt {α : Type} {r : R α} {η : DEnv} {k : α → Fl} (h : ∀ a d, k a ≠ .rt d) (d : PyData) : r.fl η k ≠ .rt d := by
  cases r with
  | ok a => exact h a d
  | ex c fl => exact fun z => nomatch z
  | bad => exact fun z => nomatch z
theorem noRt_nil : NoRt sNil := fun _ _ z => by unfold sNil at z; cases z
theorem noRt_pass : NoRt sPass := fun _ _ z => by unfold sPass at z; cases z
theorem noRt_expr : NoRt (sExpr f) := fun η d => fl_rt (fun _ _ z => by cases z) d
theorem noRt_set {i : Nat} : NoRt (sSet i f) := fun η d => fl_rt (fun _ _ z => by cases z) d
theorem noRt_seq (h1 : NoRt g) (h2 : NoRt h) : NoRt (sSeq g h) := fun η d => by
  unfold sSeq
  cases q : g η with
  | nx η' => exact h2 η' d
  | rt d' => exact absurd q (h1 η d')
  | ex c fl η' => exact fun z => nomatch z
  | bad => exact fun z => nomatch z
theorem noRt_if {c : DEnv → R Bool} (h1 : NoRt g) (h2 : NoRt h) : NoRt (sIf c g h) := fun η d => fl_rt (fun b d => by cases b; exact h2 η d; exact h1 η d) d
theorem forGo_rt {t : PyData → DEnv → R DEnv} (h1 : NoRt g) : ∀ (ds : List PyData) (η : DEnv) (d : PyData), forGo t g ds η ≠ .rt d
  | [], η, d => fun z => nomatch z
  | x :: ds, η, d => by
    unfold forGo
    cases t x η with
    | ok η1 =>
      dsimp only
      cases q : g η1 with
      | nx η' => exact forGo_rt h1 ds η' d
      | rt d' => exact absurd q (h1 η1 d')
      | ex c fl η' => exact fun z => nomatch z
      | bad => exact fun z => nomatch z
    | ex c fl => exact fun z => nomatch z
    | bad => exact fun z => nomatch z
theorem noRt_for {it : DEnv → R (List PyData)} {t : PyData → DEnv → R DEnv} (h1 : NoRt g) : NoRt (sFor it t g) := fun η d => fl_rt (fun ds d => forGo_rt h1 ds η d) d
theorem noRt_app {i : Nat} : NoRt (sApp i f) := fun η d => by
  unfold sApp
  split
  · exact fl_rt (fun _ _ => by split <;> exact fun z => nomatch z) d
  · exact fun z => nomatch z
theorem noRt_ext {i : Nat} : NoRt (sExt i f) := fun η d => by
  unfold sExt
  split
  · refine fl_rt (fun x _ => ?_) d
    split
    · split <;> exact fun z => nomatch z
    · exact fun z => nomatch z
  · exact fun z => nomatch z
theorem noRt_put {i : Nat} : NoRt (sPutT i fa fb) := fun η d => by
  unfold sPutT
  refine fl_rt (fun x _ => ?_) d
  split
  · refine fl_rt (fun y _ => ?_) _
    split <;> exact fun z => nomatch z
  · exact fun z => nomatch z
theorem noRt_unp {t : PyData → DEnv → R DEnv} : NoRt (sUnp t f) := fun η d => by
  unfold sUnp
  refine fl_rt (fun x _ => ?_) d
  split <;> exact fun z => nomatch z
theorem noNx_ret : NoNx (sRet f) := fun η η' => by
  unfold sRet
  cases f η with
  | ok a => exact fun z => nomatch z
  | ex c fl => exact fun z => nomatch z
  | bad => exact fun z => nomatch z
theorem noNx_seq (h2 : NoNx h) : NoNx (sSeq g h) := fun η η' => by
  unfold sSeq
  cases g η with
  | nx η1 => exact h2 η1 η'
  | rt d' => exact fun z => nomatch z
  | ex c fl η1 => exact fun z => nomatch z
  | bad => exact fun z => nomatch z
theorem dssN_cons (h1 : DS ec X W O O1 st g) (nr : NoRt g) (h2 : DSsN ec X W O1 sts h) : DSsN ec X W O (st :: sts) (sSeq g h) := PSs.imp (pss_cons h1 h2) fun D σ H ⟨H0, Hf0, Hf, η, S, p⟩ => by
  refine ⟨H0, Hf0, Hf, η, S, ?_⟩
  unfold sSeq at p
  cases q : g η with
  | nx η' => rw [q] at p; exact fun σ' H' Hf' S' => ⟨H0, Hf0, Hf', η', S', p⟩
  | rt d => exact absurd q (nr η d)
  | ex c f η' => rw [q] at p; exact p
  | bad => rw [q] at p; exact p
theorem dssN_ret {i : Nat} {x : Str} {p0 : Pos} (hi : i ∈ O := by decide) (hN : X.N[i]? = some x := by rfl) (hv : Vis X.env.scope x := by first | exact Or.inl rfl | exact Or.inr (Or.inl rfl))
    (hd : (x == ("__debug__" : Str)) = false := by decide) (hcd : (x == ("__classdict__" : Str)) = false := by decide) : DSsN ec X W O [.Return (some (.Name x p0)) pos] (sRet (dV i)) :=
  pss_one (PS.imp (ps_ret (pe_var hN hv hd hcd)) fun D σ H ⟨H0, Hf0, Hf, η, S, p⟩ => by
    unfold sRet dV at p
    cases q : η[i]? with
    | none => rw [q] at p; exact p.elim
    | some o =>
      rw [q] at p
      cases o with
      | none => exact p.elim
      | some d =>
        obtain ⟨pp, a1, a2, a3, a4⟩ := S.own i d hi q
        exact ⟨.ref pp, a1, p (.ref pp) H Hf S.ext ⟨pp, rfl, a2, a3, a4⟩⟩)
def spDN (ec : EC) (K : PySem.W.Frag) (n : Nat) (m : List PyData → R PyData) : Sp := fun vs H Q E => ∃ Hf ds, Same Hf H ∧ RpAll K Hf vs ds ∧ ds.length = n ∧ Post ec K (fun c d _ H => E c d H) [] (ρN K H) Q H Hf (m ds)
structure FOkN (ec : EC) (P : Program) (w : World) (K : PySem.W.Frag) (mg : Str → Option Value) (base : Heap) (k : Nat) (x : Str) (n : Nat) (m : List PyData → R PyData) : Prop where
  ok : ∃ (fd : FuncData) (ps : List Str), ps.length = n ∧ FnOk P w K mg base (L2.CX P w) k (He.ga K x) fd ps (spDN ec K n m) ∧ Binds K fd ps []
  kp : PySem.W.keepIn K (.ref (He.ga K x)) = true
  at_ : mg x = some (.ref (He.ga K x))
theorem dn_call {k n : Nat} {x : Str} {m : List PyData → R PyData} {g : DEnv → R (List PyData)} {p : Pos} (F : FOkN ec X.prog X.w X.K X.mg X.base k x n m) (hr : Room k X.A) (tk : Takes X W) (ha : DAn ec X W O (e :: es) g) (hn : (e :: es).length = n := by rfl) (hg : Gl X x := by rfl)
    (hdb : (x == ("__debug__" : Str)) = false := by decide) (he : starEach (e :: es) X.env = (false, eval e X.env) :: starEach es X.env := by rfl) (hpl : (backTo pos (starEach es X.env)).any (·.1) = false := by rfl) :
    DN ec X W O (.Call (.Name x p) (e :: es) [] pos) (dCall m g) := by
  obtain ⟨fd, ps, hps, hF, hB⟩ := F.ok
  refine PE.imp (pe_callS hF hr hg F.at_ F.kp hB (E := WE W) (fun σ => passAt tk σ) ha.1 hdb he hpl) fun σ H Q ⟨H0, Hf0, Hf, η, S, p⟩ => ⟨H0, Hf0, Hf, η, S, p.bindE.imp fun vs H1 ⟨Hf1, ds, e1, x1, r1, p1⟩ => ?_⟩
  exact ⟨Hf1, ds, x1.sub, r1, (ha.2 η ds e1).trans hn, (p1.older x1).wish⟩
end
theorem fokN_of {ec : EC} {P : Program} {w : World} {K : PySem.W.Frag} {mg : Str → Option Value} {base : Heap} {x : Str} {params : Arguments} {bd : List Stmt} {scope : Scope} {N ps : List Str} {fd : FuncData} {k : Nat} {m : List PyData → R PyData} {g : DEnv → Fl}
    (F : FunD K x x params bd scope [] [] (He.ga K x) fd) (at_ : mg x = some (.ref (He.ga K x))) (S : FnScope N ps scope)
    (hb : ∀ (kV doc pm : Value) (an : Option Addr) (cdv ct : Value) (us : List Value), us.length = ps.length → bindArgs (PySem.W.fnOf x x params bd scope .none kV doc pm an cdv ct) ⟨us, []⟩ = pure (ps.zip us))
    (body : ∀ (cdv : Value) (A : Around) (outer : List Env) (s : Shared) (H : Hp) (E : XK), Room k (cxOf (L2.CX P w) P w K mg base N x scope (He.ga K x) cdv A outer s H E).A →
      Takes (cxOf (L2.CX P w) P w K mg base N x scope (He.ga K x) cdv A outer s H E) (fun c d _ H => E c d H) →
      PassesOwn (model P w) (cxOf (L2.CX P w) P w K mg base N x scope (He.ga K x) cdv A outer s H E).A (cxOf (L2.CX P w) P w K mg base N x scope (He.ga K x) cdv A outer s H E).env (cxOf (L2.CX P w) P w K mg base N x scope (He.ga K x) cdv A outer s H E).xe →
      DSsN ec (cxOf (L2.CX P w) P w K mg base N x scope (He.ga K x) cdv A outer s H E) (fun c d _ H => E c d H) [] bd g)
    (nn : NoNx g) (hm : ∀ ds, ds.length = ps.length → m ds = runF (g (startD N ds))) : FOkN ec P w K mg base (k + 1) x ps.length m := by
  refine ⟨⟨fd, ps, rfl, ?_, F.bindsN hb⟩, F.kp, at_⟩
  refine F.ok S (fun vs H Q E ⟨Hf, ds, hs, r, hl, p⟩ => by rw [r.length]; exact hl) fun cdv A outer s H vs Q E hr ⟨Hf, ds, hs, r, hl, p⟩ => ?_
  refine ⟨_, body cdv A outer s H E hr (takes_of rfl rfl rfl rfl) (passes_of rfl), H, Hf, Hf, startD N ds, start_sr hs r, ?_⟩
  rw [hm ds hl] at p
  cases q : g (startD N ds) with
  | nx η => exact absurd q (nn _ η)
  | rt d => rw [q] at p; exact fun v H' Hf' y r' => p v H' Hf' y r'
  | ex c fl η => rw [q] at p; exact fun _ H' Hf' cls d T r' => p H' Hf' cls d T.ext r'
  | bad => rw [q] at p; exact p
end DL
end

section
set_option Elab.async false
set_option linter.all false
set_option maxRecDepth 100000
set_option maxHeartbeats 4000000
/-! A call that is handed things that names own, and tells a truth, a number or None: they stay the names' own. -/
namespace DL
open PySem PySem.Spec PyProof.Rows L2
def flatR (r : R PyData) : R PyData := match r with
  | .ok (.bool b) => .ok (.bool b)
  | .ok (.int i) => .ok (.int i)
  | .ok .none => .ok .none
  | _ => .bad
abbrev ρWs (K : PySem.W.Frag) : Hp → Hp → List V → List PyData → Prop := fun H Hf vs ds => Paired (RpW K H Hf) vs ds
section
variable {ec : EC} {X : Cx} {W : WX} {O : List Nat} {e : Expr} {es : List Expr} {f : DEnv → R PyData} {g : DEnv → R (List PyData)} {pos : Pos}
def DAW (ec : EC) (X : Cx) (W : WX) (O : List Nat) (es : List Expr) (f : DEnv → R (List PyData)) : Prop := PA X es (tD ec X.K W O (ρWs X.K) f) ∧ ∀ η ds, f η = .ok ds → ds.length = es.length
theorem dw_nil : DAW ec X W O [] dNil := ⟨PA.imp pa_nil fun σ H Q ⟨H0, Hf0, Hf, η, S, p⟩ => p.here S.sub .nil, fun η ds h => by injection h with h; subst h; rfl⟩
theorem dw_cons (ha : DW ec X W O e f) (hr : DAW ec X W O es g) (hs : starEach (e :: es) X.env = (false, eval e X.env) :: starEach es X.env := by rfl) : DAW ec X W O (e :: es) (dCons f g) := by
  refine ⟨PA.imp (pa_cons ha hr.1 hs) fun σ H Q ⟨H0, Hf0, Hf, η, S, p⟩ => ⟨H0, Hf0, Hf, η, S, p.bindI.imp fun v H1 ⟨Hf1, d, x1, r1, p1⟩ => ⟨H0, Hf0, Hf1, η, S.step x1, p1.bindI.imp fun vs H2 ⟨Hf2, ds, x2, r2, p2⟩ => p2.here x2.sub (.cons (r1.ext x2) r2)⟩⟩, fun η ds h => ?_⟩
  unfold dCons at h
  cases q : f η with
  | ok d =>
    rw [q, R.bind_ok] at h
    cases q2 : g η with
    | ok ds' => rw [q2, R.bind_ok] at h; injection h with h; subst h; rw [List.length_cons, List.length_cons, hr.2 η ds' q2]
    | ex c fl => rw [q2] at h; cases h
    | bad => rw [q2] at h; cases h
  | ex c fl => rw [q] at h; cases h
  | bad => rw [q] at h; cases h
theorem full_all {K : PySem.W.Frag} {H Hf : Hp} (s : Same Hf H) : ∀ {vs : List V} {ds : List PyData}, ρWs K H Hf vs ds → RpAll K H vs ds
  | _, _, .nil => .nil
  | _, _, .cons h t => .cons (h.full s) (full_all s t)
theorem de_callB {k n : Nat} {x : Str} {m : List PyData → R PyData} {p : Pos} (F : FOk ec X.prog X.w X.K X.mg X.base k x n m) (hr : Room k X.A) (tk : Takes X W) (ha : DAW ec X W O (e :: es) g) (hn : (e :: es).length = n := by rfl) (hg : Gl X x := by rfl)
    (hdb : (x == ("__debug__" : Str)) = false := by decide) (he : starEach (e :: es) X.env = (false, eval e X.env) :: starEach es X.env := by rfl) (hpl : (backTo pos (starEach es X.env)).any (·.1) = false := by rfl) :
    DE ec X W O (.Call (.Name x p) (e :: es) [] pos) (dCall (fun ds => flatR (m ds)) g) := by
  obtain ⟨fd, ps, hps, hF, hB⟩ := F.ok
  refine PE.imp (pe_callS hF hr hg F.at_ F.kp hB (E := WE W) (fun σ => passAt tk σ) ha.1 hdb he hpl) fun σ H Q ⟨H0, Hf0, Hf, η, S, p⟩ => ⟨H0, Hf0, Hf, η, S, p.bindE.imp fun vs H1 ⟨Hf1, ds, e1, x1, r1, p1⟩ => ?_⟩
  refine ⟨H1, ds, fun _ _ z => z, full_all x1.sub r1, (ha.2 η ds e1).trans hn, ?_⟩
  have p2 : Post ec X.K W σ (ρV X.K) Q H1 Hf1 (flatR (m ds)) := p1
  have back : ∀ {H2 Hf2 : Hp}, Ext H1 H1 H2 Hf2 → Ext H1 Hf1 H2 Hf1 := fun y => ⟨y.same, fun _ _ z => z, fun b o z => y.same b o (x1.sub b o z), fun b o z => .inl z⟩
  cases q : m ds with
  | ok d =>
    rw [q] at p2
    cases d with
    | bool b =>
      intro v H2 Hf2 y r
      cases r
      exact p2 _ H2 Hf1 (back y) (.bl _)
    | int i =>
      intro v H2 Hf2 y r
      cases r
      exact p2 _ H2 Hf1 (back y) (.int _)
    | none =>
      intro v H2 Hf2 y r
      cases r
      exact p2 _ H2 Hf1 (back y) .non
    | _ => exact p2.elim
  | ex c fl => rw [q] at p2; exact p2.elim
  | bad => rw [q] at p2; exact p2.elim
end
end DL
end

section
set_option Elab.async false
set_option linter.all false
set_option maxRecDepth 100000
set_option maxHeartbeats 4000000
/-! tuple(zip(range(n), t)), t a tuple -/
namespace DL
open PySem PySem.Spec PyProof.Rows L2
theorem draws_range {prog : Program} {w : World} {A : Around} (hh : A.handled = none) (it : Addr) (a c : Int) (n : Nat) :
    Draws prog w A it [it] n (fun i v => ∃ t, v = .int (a + i * c) t) (fun i h => IsRangeIter h it (a + (i : Nat) * c) ((n : Int) - (i : Nat)) c) where
  live := fun _ _ st => ⟨_, st⟩
  frame := fun _ _ _ st hk => hk it (by simp) _ st
  item := fun i s Q E hi st hQ => by
    have hT : s.TypeIs (.ref it) "range_iterator" := ⟨_, st, rfl⟩
    unfold Builtin.SmallTypes.nextOf
    refine wpAny_bind (wpAny_callSpecial?_slot (name := Str.ofString "__next__") hT F.slot_range_iterator_next
      (call_meets F.slot_range_iterator_next hT F.entry_range_iterator_next (F.args_range_iterator_next_1 _) (AutoRange.range_iterator___next___range_iterator_1 it _ _ c (by omega)) ⟨st, ?_⟩))
    have e1 : a + ((i + 1 : Nat) : Int) * c = a + (i : Int) * c + c := by push_cast; rw [Int.add_mul, Int.one_mul, Int.add_assoc]
    have e2 : (n : Int) - ((i + 1 : Nat) : Int) = (n : Int) - (i : Int) - 1 := by push_cast; omega
    refine wpAny_pure (hQ _ _ _ ⟨_, rfl⟩ ?_ ((Heap.SameBut.update ..).trans (Heap.SameBut.update ..)))
    rw [e1, e2]
    exact Heap.get?_update_self _ (Heap.get?_update_self _ st rfl) rfl
  done := fun s Q E st hE => by
    have hT : s.TypeIs (.ref it) "range_iterator" := ⟨_, st, rfl⟩
    have hle : (n : Int) - ((n : Nat) : Int) ≤ 0 := by omega
    unfold Builtin.SmallTypes.nextOf
    refine wpAny_bind (wpAny_callSpecial?_slot (name := Str.ofString "__next__") hT F.slot_range_iterator_next
      (wpAny_call_entry F.slot_range_iterator_next hT F.entry_range_iterator_next ?_ (F.args_range_iterator_next_1 _)))
    show wpAny _ _ (field (.ref it) 0 >>= _) _ _ s
    refine wpAny_bind (wpAny_field st rfl (x := rawInt _) rfl ?_)
    show wpAny _ _ (field (.ref it) 1 >>= _) _ _ s
    refine wpAny_bind (wpAny_field st rfl (x := rawInt _) rfl ?_)
    show wpAny _ _ (field (.ref it) 2 >>= _) _ _ s
    refine wpAny_bind (wpAny_field st rfl (x := rawInt c) rfl ?_)
    show wpAny _ _ (if (n : Int) - ((n : Nat) : Int) ≤ 0 then _ else _) _ _ s
    rw [if_pos hle]
    refine wpAny_bind (wpAny_rule ?_)
    refine wpAny_bind ?_
    show wpAny _ _ (newExc (.type "StopIteration") [] >>= _) _ _ _
    refine wpAny_bind ?_
    simp only [newExc, newTuple]
    refine wpAny_bind (wpAny_newObj_type ?_ (by size_fits))
    refine wpAny_bind (m := firstArgMember _ _) (wpAny_of_eq (a := Value.none) (by first | rfl | (simp only [firstArgMember]; rfl)) ?_)
    refine wpAny_newObj_type ?_ (by size_fits)
    simp only [raiseNew]
    refine wpAny_bind (wpAny_handled ?_)
    first | rw [show A.in1.handled = none from hh] | rw [hh]
    refine wpAny_bind (wpAny_pure (wpAny_throw ?_))
    exact hE _ _ (((Heap.ExtBut.refl it s.heap).push _).push _) ⟨_, Heap.get?_push_size _ rfl, rfl⟩

theorem begins_range (r : Addr) (a b c : Int) (t u v : Tok) (hs : Builtin.Range.small a b c = true) :
    Begins (.ref r) { cls := .type "range_iterator", data := .fields #[rawInt a, rawInt (Builtin.Range.rangeSize a b c), rawInt c] } fun h => IsRange h r a b c t u v where
  iter := fun prog w A E s Q hr h => wpAny_pyIter_range hr hs h
  keeps := fun h h' x hk => hk r _ x
  free := rfl

section
variable {prog : Program} {w : World} {A : Around} {E : Value → Shared → Prop} {s : Shared} {z TI TO i1 i2 : Addr} {fp1 fp2 : List Addr} {n1 n2 i : Nat} {P1 P2 : Nat → Value → Prop} {St1 St2 : Nat → Heap → Prop} {a1 a2 : Value}
open PySem.W in
theorem zipH_item {T : Addr} {f : Bool} {oT : Obj} {Q : Value → Shared → Prop} (S : ZipSep2 z TI TO i1 i2 fp1 fp2) (D1 : Draws prog w A i1 fp1 n1 P1 St1) (D2 : Draws prog w A i2 fp2 n2 P2 St2)
    (hz : IsZipHeld s.heap z TI TO T f) (hT : s.heap.get? T = some oT) (hTI : IsTupOf2 s.heap TI (.ref i1) (.ref i2)) (st1 : St1 i s.heap) (st2 : St2 i s.heap) (hlt1 : i < n1) (hlt2 : i < n2)
    (hQ : ∀ x1 x2 h' tk, P1 i x1 → P2 i x2 → IsZipHeld h' z TI TO T true → St1 (i + 1) h' → St2 (i + 1) h' → IsTupOf2 h' s.heap.objs.size x1 x2 → h'.objs.size = s.heap.objs.size + 1 →
      (∀ c o, c ≠ z → c ≠ i1 → c ≠ i2 → s.heap.get? c = some o → h'.get? c = some o) → Q (.ref s.heap.objs.size) { s with heap := h', toks := tk }) :
    wpAny (model prog w) A (Builtin.«zip.__next__» ⟨[.ref z], []⟩) (fun fin s' => ∃ v, fin = .done (.ret v) ∧ Q v s') E s := by
  obtain ⟨hp, g, d, tk0, os⟩ := s
  show wpAny _ _ (field (.ref z) 2 >>= _) _ _ _
  refine wpAny_bind (wpAny_field hz rfl (x := .bool false) rfl ?_)
  show wpAny _ _ (field (.ref z) 3 >>= _) _ _ _
  refine wpAny_bind (wpAny_field hz rfl (x := .ref TI) rfl ?_)
  refine wpAny_bind (wpAny_seqItems hTI rfl ?_)
  show wpAny _ _ (Builtin.SmallTypes.ownedTupleIsFree (.ref z) >>= _) _ _ _
  refine wpAny_bind (wpAny_tupleHeld_zip hz hT fun h₁ hz₁ hs₁ => ?_)
  replace hs₁ : Heap.SameBut z hp h₁ := hs₁
  simp only [Bool.false_eq_true, if_false]
  refine wpAny_bind ?_
  rw [← Array.forIn_toList]
  simp only [List.forIn_cons, List.forIn_nil]
  refine wpAny_bind (wpAny_bind (wpAny_holding ?_))
  show wpAny _ _ (Builtin.SmallTypes.nextOf (.ref i1) >>= _) _ _ ⟨h₁, g, d, tk0, os⟩
  refine wpAny_bind (D1.item i _ _ _ hlt1 (D1.over st1 hs₁ S.zf1) fun x1 p1 tk1 hx1 sn1 hp1 => wpAny_pure ?_)
  replace hp1 : Heap.SameBut i1 h₁ p1 := hp1
  refine wpAny_pure ?_
  refine wpAny_bind (wpAny_bind (wpAny_holding ?_))
  show wpAny _ _ (Builtin.SmallTypes.nextOf (.ref i2) >>= _) _ _ ⟨p1, g, d, tk1, os⟩
  refine wpAny_bind (D2.item i _ _ _ hlt2 (D2.over (D2.over st2 hs₁ S.zf2) hp1 S.sep1_2) fun x2 p2 tk2 hx2 sn2 hp2 => wpAny_pure ?_)
  replace hp2 : Heap.SameBut i2 p1 p2 := hp2
  refine wpAny_pure (wpAny_pure ?_)
  show wpAny _ _ (newTuple [x1, x2] >>= _) _ _ _
  refine wpAny_bind (wpAny_newTuple ?_)
  have hsz : p2.objs.size = hp.objs.size := by rw [hp2.1, hp1.1, hs₁.1]
  have hz₃ : IsZipHeld p2 z TI TO T true := hp2.extBut _ _ S.zi2 (hp1.extBut _ _ S.zi1 hz₁)
  have hk : ∀ c o, c ≠ z → c ≠ i1 → c ≠ i2 → hp.get? c = some o → p2.get? c = some o := fun c o c1 c2 c3 e => hp2.extBut _ _ c3 (hp1.extBut _ _ c2 (hs₁.extBut _ _ c1 e))
  have hj1 : St1 (i + 1) p2 := D1.over sn1 hp2 S.sep2_1
  refine wpAny_pure ⟨_, rfl, ?_⟩
  show Q (.ref p2.objs.size) ⟨p2.push { cls := .type "tuple", data := .seq #[x1, x2] }, g, d, tk2, os⟩
  have hp : IsTupOf2 (p2.push { cls := .type "tuple", data := .seq #[x1, x2] }) p2.objs.size x1 x2 := Heap.get?_push_size _ rfl
  have hz4 : (p2.push { cls := .type "tuple", data := .seq #[x1, x2] }).objs.size = p2.objs.size + 1 := Heap.size_push ..
  rw [hsz] at hp hz4 ⊢
  exact hQ x1 x2 _ tk2 hx1 hx2 (Heap.get?_push_of_some _ hz₃) (D1.frame _ _ _ hj1 fun b _ o e => Heap.get?_push_of_some _ e) (D2.frame _ _ _ sn2 fun b _ o e => Heap.get?_push_of_some _ e) hp hz4 fun c o c1 c2 c3 e => Heap.get?_push_of_some _ (hk c o c1 c2 c3 e)

open PySem.W in
theorem zipH_end {T : Addr} {f : Bool} {oT : Obj} {Q : Fin → Shared → Prop} (S : ZipSep2 z TI TO i1 i2 fp1 fp2) (D1 : Draws prog w A i1 fp1 n1 P1 St1) (D2 : Draws prog w A i2 fp2 n2 P2 St2)
    (hz : IsZipHeld s.heap z TI TO T f) (hT : s.heap.get? T = some oT) (hTI : IsTupOf2 s.heap TI (.ref i1) (.ref i2)) (st1 : St1 i s.heap) (st2 : St2 i s.heap) (hle1 : i ≤ n1) (hle2 : i ≤ n2) (hend : i = n1 ∨ i = n2)
    (hE : ∀ h' tk e, (∀ c o, c ≠ z → c ≠ i1 → c ≠ i2 → s.heap.get? c = some o → h'.get? c = some o) → (∃ o, h'.get? e = some o ∧ o.cls = .type "StopIteration") → E (.ref e) { s with heap := h', toks := tk }) :
    wpAny (model prog w) A (Builtin.«zip.__next__» ⟨[.ref z], []⟩) Q E s := by
  obtain ⟨hp, g, d, tk0, os⟩ := s
  show wpAny _ _ (field (.ref z) 2 >>= _) _ _ _
  refine wpAny_bind (wpAny_field hz rfl (x := .bool false) rfl ?_)
  show wpAny _ _ (field (.ref z) 3 >>= _) _ _ _
  refine wpAny_bind (wpAny_field hz rfl (x := .ref TI) rfl ?_)
  refine wpAny_bind (wpAny_seqItems hTI rfl ?_)
  show wpAny _ _ (Builtin.SmallTypes.ownedTupleIsFree (.ref z) >>= _) _ _ _
  refine wpAny_bind (wpAny_tupleHeld_zip hz hT fun h₁ hz₁ hs₁ => ?_)
  replace hs₁ : Heap.SameBut z hp h₁ := hs₁
  simp only [Bool.false_eq_true, if_false]
  refine wpAny_bind ?_
  rw [← Array.forIn_toList]
  simp only [List.forIn_cons, List.forIn_nil]
  refine wpAny_bind (wpAny_bind (wpAny_holding ?_))
  show wpAny _ _ (Builtin.SmallTypes.nextOf (.ref i1) >>= _) _ _ ⟨h₁, g, d, tk0, os⟩
  by_cases hlt1 : i < n1
  · refine wpAny_bind (D1.item i _ _ _ hlt1 (D1.over st1 hs₁ S.zf1) fun x1 p1 tk1 hx1 sn1 hp1 => wpAny_pure ?_)
    replace hp1 : Heap.SameBut i1 h₁ p1 := hp1
    refine wpAny_pure ?_
    refine wpAny_bind (wpAny_bind (wpAny_holding ?_))
    show wpAny _ _ (Builtin.SmallTypes.nextOf (.ref i2) >>= _) _ _ ⟨p1, g, d, tk1, os⟩
    have hi2 : i = n2 := by omega
    refine wpAny_bind (D2.done ⟨p1, g, d, tk1, os⟩ _ _ (by rw [← hi2]; exact (D2.over (D2.over st2 hs₁ S.zf2) hp1 S.sep1_2)) fun q e hq he => ?_)
    replace hq : Heap.ExtBut i2 p1 q := hq
    exact hE q tk1 e (fun c o c1 c2 c3 x => hq _ _ c3 (hp1.extBut _ _ c2 (hs₁.extBut _ _ c1 x))) he
  · have hi1 : i = n1 := by omega
    refine wpAny_bind (D1.done ⟨h₁, g, d, tk0, os⟩ _ _ (by rw [← hi1]; exact (D1.over st1 hs₁ S.zf1)) fun q e hq he => ?_)
    replace hq : Heap.ExtBut i1 h₁ q := hq
    exact hE q tk0 e (fun c o c1 c2 c3 x => hq _ _ c2 (hs₁.extBut _ _ c1 x)) he

/-- a zip's own state: its tuple was never handed out, or is held -/
def ZHold (h : Heap) (z TI TO : Addr) (N : Addr) : Prop := (IsZip h z TI TO .none ∧ ∃ a1 a2, IsTupOf2 h TO a1 a2) ∨ ∃ T f oT, IsZipHeld h z TI TO T f ∧ h.get? T = some oT ∧ N < T
theorem zipZ_item {N : Addr} {Q : Option Value → Shared → Prop} (S : ZipSep2 z TI TO i1 i2 fp1 fp2) (D1 : Draws prog w A.in1 i1 fp1 n1 P1 St1) (D2 : Draws prog w A.in1 i2 fp2 n2 P2 St2)
    (hz : ZHold s.heap z TI TO N) (hTI : IsTupOf2 s.heap TI (.ref i1) (.ref i2)) (hN : N < s.heap.objs.size) (lz : z < N) (l1 : i1 < N) (l2 : i2 < N) (st1 : St1 i s.heap) (st2 : St2 i s.heap) (hlt1 : i < n1) (hlt2 : i < n2)
    (hQ : ∀ x1 x2 h' tk, P1 i x1 → P2 i x2 → ZHold h' z TI TO N → St1 (i + 1) h' → St2 (i + 1) h' → IsTupOf2 h' s.heap.objs.size x1 x2 → h'.objs.size = s.heap.objs.size + 1 →
      (∀ c o, c ≠ z → c ≠ TO → c ≠ i1 → c ≠ i2 → s.heap.get? c = some o → h'.get? c = some o) → Q (some (.ref s.heap.objs.size)) { s with heap := h', toks := tk }) :
    wpAny (model prog w) A (pyNext (.ref z)) Q E s := by
  rcases hz with ⟨hz, a1, a2, hTO⟩ | ⟨T, f, oT, hz, hT, lT⟩
  · exact wpAny_pyNext_zipD2_item S D1 D2 hz hTI hTO st1 st2 hlt1 hlt2 fun x1 x2 h' tk y1 y2 b1 b2 d1 d2 b5 b6 b7 =>
      hQ x1 x2 h' tk y1 y2 (.inr ⟨_, false, _, b1, b5, hN⟩) d1 d2 b5 b6 b7
  · have hTy : s.TypeIs (.ref z) "zip" := ⟨_, hz, rfl⟩
    unfold pyNext
    exact wpAny_bind (wpAny_attempt (wpAny_callSpecial?_slot (name := Str.ofString "__next__") hTy F.slot_zip_next
      (wpAny_call_entry F.slot_zip_next hTy F.entry_zip_next
        (zipH_item S D1 D2 hz hT hTI st1 st2 hlt1 hlt2 fun x1 x2 h' tk y1 y2 b1 d1 d2 b5 b6 b7 => wpAny_pure (hQ x1 x2 h' tk y1 y2
          (.inr ⟨T, true, oT, b1, b7 T oT (Nat.ne_of_gt (Nat.lt_trans lz lT)) (Nat.ne_of_gt (Nat.lt_trans l1 lT)) (Nat.ne_of_gt (Nat.lt_trans l2 lT)) hT, lT⟩) d1 d2 b5 b6 fun c o c1 _ c3 c4 e => b7 c o c1 c3 c4 e)) (F.args_zip_next_1 _))))
theorem zipZ_end {N : Addr} {Q : Option Value → Shared → Prop} (S : ZipSep2 z TI TO i1 i2 fp1 fp2) (D1 : Draws prog w A.in1 i1 fp1 n1 P1 St1) (D2 : Draws prog w A.in1 i2 fp2 n2 P2 St2)
    (hz : ZHold s.heap z TI TO N) (hTI : IsTupOf2 s.heap TI (.ref i1) (.ref i2)) (st1 : St1 i s.heap) (st2 : St2 i s.heap) (hle1 : i ≤ n1) (hle2 : i ≤ n2) (hend : i = n1 ∨ i = n2)
    (hQ : ∀ h' tk, (∀ c o, c ≠ z → c ≠ TO → c ≠ i1 → c ≠ i2 → s.heap.get? c = some o → h'.get? c = some o) → Q none { s with heap := h', toks := tk }) : wpAny (model prog w) A (pyNext (.ref z)) Q E s := by
  rcases hz with ⟨hz, a1, a2, hTO⟩ | ⟨T, f, oT, hz, hT, lT⟩
  · exact wpAny_pyNext_zipD2_end S D1 D2 hz hTI hTO st1 st2 hle1 hle2 hend hQ
  · have hTy : s.TypeIs (.ref z) "zip" := ⟨_, hz, rfl⟩
    unfold pyNext
    refine wpAny_bind (wpAny_attempt (wpAny_callSpecial?_slot (name := Str.ofString "__next__") hTy F.slot_zip_next
      (wpAny_call_entry F.slot_zip_next hTy F.entry_zip_next (zipH_end S D1 D2 hz hT hTI st1 st2 hle1 hle2 hend fun h' tk e hk he => ?_) (F.args_zip_next_1 _))))
    obtain ⟨o, ho, hc⟩ := he
    refine wpAny_bind (wpAny_isInstance (T := "StopIteration") (b := true) ⟨o, ho, hc⟩ isSubtype_stop ?_)
    exact wpAny_pure (hQ _ _ fun c o c1 _ c3 c4 e => hk c o c1 c3 c4 e)
end

/-! ### the pairs, laid one by one -/
inductive Zl (xs : List V) : Hp → List V → Hp → Prop
  | nil (H : Hp) : Zl xs H [] H
  | cons {H H1 : Hp} {ts : List V} {T : Addr} {x : V} {o : Obj} : Zl xs H ts H1 → xs[ts.length]? = some x → H1 T = none → o.dict = none → Zl xs H (ts ++ [.ref T]) (upd H1 T (.frz o (.tup [.int (ts.length : Int), x])))
section
variable {X : Cx} {pins : List (Addr × Obj)} {σ : St} {A : Around} {z TI TO i1 i2 t : Addr} {n m : Nat} {xs : List V} {its : List Value}
theorem zip_loop (hh : A.handled = none) (S : ZipSep2 z TI TO i1 i2 [i1] [i2, t]) (hti : t ≠ i2) (rv : Vals xs its) (hm : m = min n its.length) (hmz : m ≤ sizeLine) (D : Addr) (res : Value) {R : Result → Shared → Prop} {H0 : Hp} (lz : z < D) (lTO : TO < D) (l1 : i1 < D) (l2 : i2 < D) (lt : t < D) (lTI : TI < D) :
    ∀ (k i : Nat) (s : Shared) (H : Hp) (ts : List V) (acc : Array Value) (c : Nat), m - i = k → i ≤ m → Inv X pins σ H s → (∀ b ∈ [z, TO, i1, i2, D], FpOk X pins H b) →
      ZHold s.heap z TI TO D → IsTupOf2 s.heap TI (.ref i1) (.ref i2) → IsRangeIter s.heap i1 (0 + (i : Nat) * 1) ((n : Int) - (i : Nat)) 1 → s.heap.IsTupleIter i2 t i → s.heap.IsTuple t its.toArray →
      s.heap.get? D = some { cls := .type "list", dict := none, data := .seq acc c, slots := #[] } → Vals ts acc.toList → Zl xs H0 ts H → ts.length = i →
      (∀ s' H' ts' acc' c', Inv X pins σ H' s' → FpOk X pins H' D → s'.heap.get? D = some { cls := .type "list", dict := none, data := .seq acc' c', slots := #[] } → Vals ts' acc'.toList → Zl xs H0 ts' H' → ts'.length = m → R (.ok (.ret res)) s') →
      codeAny (model X.prog X.w) A (.builtin "list.extend.loop" ⟨[.ref D, .ref z, res], []⟩) R s := by
  have hh1 : A.in1.in1.handled = none := hh
  have D1 := draws_range (prog := X.prog) (w := X.w) hh1 i1 0 1 n
  have D2 := Draws.tuple (prog := X.prog) (w := X.w) hh1 i2 t hti its.toArray
  have hsz : its.toArray.size = its.length := by simp
  intro k
  induction k with
  | zero =>
    intro i s H ts acc c hk hi I hf hz hTI h1 h2 h3 hD rva zl hl hR
    have him : i = m := by omega
    refine codeAny_builtin F.entry_extend_loop ?_
    rw [Around.under_plainId F.plain_extend_loop _]
    show wpAny _ A.in1 (pyNext (.ref z) >>= _) _ _ s
    refine wpAny_bind (zipZ_end S D1 D2 hz hTI h1 ⟨h2, h3⟩ (by omega) (by rw [hsz]; omega) (by rw [hsz]; omega) fun h' tk hk' => ?_)
    have I1 : Inv X pins σ H { s with heap := h', toks := tk } := I.turnedL (ch := [z, TO, i1, i2]) (fun c o hb e => hk' c o (fun q => hb (by simp [q])) (fun q => hb (by simp [q])) (fun q => hb (by simp [q])) (fun q => hb (by simp [q])) e) fun b hb => hf b (by simp at hb ⊢; rcases hb with q | q | q | q <;> simp [q])
    exact wpAny_pure (hR _ H ts acc c I1 (hf D (by simp)) (hk' D _ (Nat.ne_of_gt lz) (Nat.ne_of_gt lTO) (Nat.ne_of_gt l1) (Nat.ne_of_gt l2) hD) rva zl (by rw [hl, him]))
  | succ k ih =>
    intro i s H ts acc c hk hi I hf hz hTI h1 h2 h3 hD rva zl hl hR
    have hlt : i < m := by omega
    have hDlt : D < s.heap.objs.size := Heap.lt_size hD
    refine codeAny_builtin F.entry_extend_loop ?_
    rw [Around.under_plainId F.plain_extend_loop _]
    show wpAny _ A.in1 (pyNext (.ref z) >>= _) _ _ s
    refine wpAny_bind (zipZ_item S D1 D2 hz hTI hDlt lz l1 l2 h1 ⟨h2, h3⟩ (by omega) (by rw [hsz]; omega) fun x1 x2 h' tk y1 y2 z' s1 s2 hT hs' hk' => ?_)
    obtain ⟨t1, rfl⟩ := y1
    obtain ⟨s2, s3⟩ := s2
    have hxl : i < xs.length := by rw [rv.length]; omega
    have hx : xs[i]? = some xs[i] := List.getElem?_eq_getElem hxl
    obtain ⟨u, hu, ru⟩ := rv.get hx
    have eu : u = x2 := by
      have : its.toArray[i]? = some u := by simpa using hu
      rw [this] at y2; exact Option.some.inj y2
    subst eu
    have hD' := hk' D _ (Nat.ne_of_gt lz) (Nat.ne_of_gt lTO) (Nat.ne_of_gt l1) (Nat.ne_of_gt l2) hD
    have hTI' := hk' TI _ S.TIz S.TITO S.TIi1 S.TIi2 hTI
    have e0 : (0 : Int) + (i : Nat) * 1 = (i : Int) := by omega
    have hTn : H s.heap.objs.size = none := I.hok.fresh (Nat.le_refl _)
    have new : ObjOk X.prog X.w (upd H s.heap.objs.size (.frz (tobj #[.int (0 + (i : Nat) * 1) t1, u]) (.tup [.int (ts.length : Int), xs[i]]))) h' s.heap.objs.size (.frz (tobj #[.int (0 + (i : Nat) * 1) t1, u]) (.tup [.int (ts.length : Int), xs[i]])) := by
      refine tfz_ok (its := [.int (0 + (i : Nat) * 1) t1, u]) hT (.cons ⟨t1, ?_⟩ (.cons ru .nil)) (by show 2 ≤ sizeLine; decide)
      rw [e0, hl]
    have I1 : Inv X pins σ (upd H s.heap.objs.size (.frz (tobj #[.int (0 + (i : Nat) * 1) t1, u]) (.tup [.int (ts.length : Int), xs[i]]))) { s with heap := h', toks := tk } :=
      I.turnedNew (ch := [z, TO, i1, i2]) (fun c o hb e => hk' c o (fun q => hb (by simp [q])) (fun q => hb (by simp [q])) (fun q => hb (by simp [q])) (fun q => hb (by simp [q])) e) (fun b hb => hf b (by simp at hb ⊢; rcases hb with q | q | q | q <;> simp [q])) (Nat.le_refl _) new
    have ltS : ∀ b ∈ [z, TO, i1, i2, D], b < s.heap.objs.size := fun b hb => by
      have e' : b = z ∨ b = TO ∨ b = i1 ∨ b = i2 ∨ b = D := by simpa using hb
      rcases e' with q | q | q | q | q
      · rw [q]; exact Nat.lt_trans lz hDlt
      · rw [q]; exact Nat.lt_trans lTO hDlt
      · rw [q]; exact Nat.lt_trans l1 hDlt
      · rw [q]; exact Nat.lt_trans l2 hDlt
      · rw [q]; exact hDlt
    have hf1 : ∀ b ∈ [z, TO, i1, i2, D], FpOk X pins (upd H s.heap.objs.size (.frz (tobj #[.int (0 + (i : Nat) * 1) t1, u]) (.tup [.int (ts.length : Int), xs[i]]))) b := fun b hb =>
      ⟨by rw [upd_ne (Nat.ne_of_lt (ltS b hb))]; exact (hf b hb).1, (hf b hb).2⟩
    show wpAny _ A.in1 (updateSeq D (·.push (.ref s.heap.objs.size)) >>= _) _ _ _
    have hal : acc.size = i := by
      have := rva.length
      simp at this
      omega
    refine wpAny_bind ?_
    have oth : ∀ b o, b ≠ D → h'.get? b = some o → (h'.update D (Obj.mapSeq (·.push (.ref s.heap.objs.size)))).get? b = some o := fun b o hb e => (Heap.get?_update_other _ _ (Ne.symm hb)).trans e
    refine wpAny_updateSeq (s := { s with heap := h', toks := tk }) hD' rfl (wpAny_pure ⟨plainId_quiet F.plain_extend_loop _, ih (i + 1) _ (upd H s.heap.objs.size (.frz (tobj #[.int (0 + (i : Nat) * 1) t1, u]) (.tup [.int (ts.length : Int), xs[i]]))) (ts ++ [.ref s.heap.objs.size]) (acc.push (.ref s.heap.objs.size)) _ (by omega) hlt
      (I1.turnedL (t' := tk) (ch := [D]) (fun b o hb e => oth b o (by simpa using hb) e) fun b hb => hf1 b (by simp at hb ⊢; simp [hb])) hf1 ?_ (oth _ _ (Nat.ne_of_lt lTI) hTI') (oth _ _ (Nat.ne_of_lt l1) s1)
      (s2.at fun o e => oth _ o (Nat.ne_of_lt l2) e) (s3.at fun o e => oth _ o (Nat.ne_of_lt lt) e) (Heap.get?_update_self _ hD' rfl) ?_ (.cons zl (by rw [hl]; exact hx) hTn rfl) (by rw [List.length_append, hl]; rfl) fun s'' H'' ts' acc' c' I2 f2 d2 r2 z2 l2 => hR s'' H'' ts' acc' c' I2 f2 d2 r2 z2 l2⟩)
      (by rw [hal]; omega) (by show (acc.push _).size ≤ sizeLine + 1; rw [Array.size_push, hal]; omega)
    · rcases z' with ⟨q1, a1, a2, q2⟩ | ⟨T, f, oT, q1, q2, q3⟩
      · exact .inl ⟨oth _ _ (Nat.ne_of_lt lz) q1, a1, a2, oth _ _ (Nat.ne_of_lt lTO) q2⟩
      · exact .inr ⟨T, f, oT, oth _ _ (Nat.ne_of_lt lz) q1, oth _ _ (Nat.ne_of_gt q3) q2, q3⟩
    · rw [Array.toList_push]
      exact rva.append (.cons rfl .nil)
end

theorem zip_no_len : typeLookup (.type "zip") "__len__" = pure none := by rw [typeLookup_type, builtinLookup_eq_fast]; kernel_rfl
theorem zip_no_hint : typeLookup (.type "zip") "__length_hint__" = pure none := by rw [typeLookup_type, builtinLookup_eq_fast]; kernel_rfl
section
variable {X : Cx} {pins : List (Addr × Obj)} {σ : St} {A : Around} {z TI TO i1 i2 t : Addr} {n m : Nat} {xs : List V} {its : List Value} {s : Shared} {H : Hp} {E : Value → Shared → Prop}
theorem collect_zip (hh : A.handled = none) (S : ZipSep2 z TI TO i1 i2 [i1] [i2, t]) (hti : t ≠ i2) (rv : Vals xs its) (hm : m = min n its.length) (hmz : m ≤ sizeLine) (I : Inv X pins σ H s) (hf : ∀ b ∈ [z, TO, i1, i2], FpOk X pins H b)
    (hz : IsZip s.heap z TI TO .none) (hTO : ∃ a1 a2, IsTupOf2 s.heap TO a1 a2) (hTI : IsTupOf2 s.heap TI (.ref i1) (.ref i2)) (h1 : IsRangeIter s.heap i1 (0 + ((0 : Nat) : Int) * 1) ((n : Int) - ((0 : Nat) : Int)) 1) (h2 : s.heap.IsTupleIter i2 t 0) (h3 : s.heap.IsTuple t its.toArray)
    {Q : List Value → Shared → Prop} (hQ : ∀ s' H' ts us, Inv X pins σ H' s' → Vals ts us → Zl xs H ts H' → ts.length = m → Q us s') : wpAny (model X.prog X.w) A (collect (.ref z)) Q E s := by
  have lz : z < s.heap.objs.size := Heap.lt_size hz
  have lTO : TO < s.heap.objs.size := by obtain ⟨_, _, e⟩ := hTO; exact Heap.lt_size e
  have lTI : TI < s.heap.objs.size := Heap.lt_size hTI
  have l1 : i1 < s.heap.objs.size := Heap.lt_size h1
  have l2 : i2 < s.heap.objs.size := by obtain ⟨_, e, _⟩ := h2; exact Heap.lt_size e
  have lt : t < s.heap.objs.size := by obtain ⟨_, e, _⟩ := h3; exact Heap.lt_size e
  have hT : s.TypeIs (.ref z) "zip" := ⟨_, hz, rfl⟩
  unfold collect
  refine wpAny_bind (wpAny_runValue (codeAny_builtin F.entry_proto_collect ?_))
  rw [Around.under_plainId F.plain_proto_collect _]
  show wpAny _ A.in1 (newList [] >>= fun l => again (.builtin "list.__iadd__" ⟨[l, .ref z], []⟩)) _ _ s
  refine wpAny_bind (wpAny_newObj_type ?_)
  refine wpAny_pure ⟨plainId_quiet F.plain_list_iadd _, codeAny_builtin F.entry_list_iadd ?_⟩
  rw [Around.under_plainId F.plain_list_iadd _]
  have up : ∀ b o, s.heap.get? b = some o → (s.heap.push { cls := .type "list", data := .seq ([] : List Value).toArray }).get? b = some o := fun b o e => Heap.get?_push_of_some _ e
  have hT1 : ({ s with heap := s.heap.push { cls := .type "list", data := .seq ([] : List Value).toArray } } : Shared).TypeIs (.ref z) "zip" := ⟨_, up _ _ hz, rfl⟩
  show wpAny _ A.in1 (Builtin.List.listExtendWith (.ref s.heap.objs.size) (.ref z) (.ref s.heap.objs.size)) _ _ _
  unfold Builtin.List.listExtendWith
  refine wpAny_bind (wpAny_typeOf hT1 ?_)
  have hs1 : Builtin.List.listSameRef (.ref s.heap.objs.size) (.ref z) = false := by simp [Builtin.List.listSameRef, (Nat.ne_of_gt lz)]
  have hs2 : (Value.type "zip" == Value.type "list") = false := by decide
  have hs3 : (Value.type "zip" == Value.type "tuple") = false := by decide
  simp only [hs1, hs2, hs3, Bool.or_false, Bool.false_eq_true, if_false]
  refine wpAny_bind (wpAny_pyIter_zip (up _ _ hz) ?_)
  refine wpAny_bind (wpAny_holding ?_)
  unfold Builtin.List.listLengthHint
  refine wpAny_bind (wpAny_specialOf hT1 zip_no_len ?_)
  show wpAny _ A.in1 (specialOf (Value.ref z) (Str.ofString "__length_hint__") >>= _) _ _ _
  refine wpAny_bind (wpAny_specialOf hT1 zip_no_hint ?_)
  refine wpAny_pure ?_
  show wpAny _ A.in1 (rule "list.extend.makes-room" >>= fun _ => Builtin.List.listTouch (.ref s.heap.objs.size) >>= fun _ =>
    again (.builtin "list.extend.loop" ⟨[.ref s.heap.objs.size, .ref z, .ref s.heap.objs.size], []⟩)) _ _ _
  refine wpAny_bind (wpAny_rule ?_)
  have hS₁ : (s.heap.push { cls := .type "list", data := .seq ([] : List Value).toArray }).get? s.heap.objs.size = some { cls := .type "list", data := .seq ([] : List Value).toArray } := Heap.get?_push_size _ rfl
  refine wpAny_bind ?_
  show wpAny _ A.in1 (updateSeq s.heap.objs.size (·.push .none) >>= fun _ => updateSeq s.heap.objs.size (·.pop)) _ _ _
  refine wpAny_bind (wpAny_updateSeq hS₁ rfl ?_)
  have hS₂ := Heap.get?_update_self (Obj.mapSeq (·.push Value.none)) hS₁ rfl
  refine wpAny_updateSeq hS₂ rfl ?_
  have hS₃ := Heap.get?_update_self (Obj.mapSeq (·.pop)) hS₂ rfl
  have oth : ∀ b o, s.heap.get? b = some o →
      (((s.heap.push { cls := .type "list", data := .seq ([] : List Value).toArray }).update s.heap.objs.size (Obj.mapSeq (·.push Value.none))).update s.heap.objs.size (Obj.mapSeq (·.pop))).get? b = some o :=
    fun b o e => (Heap.get?_update_other _ _ (Nat.ne_of_gt (Heap.lt_size e))).trans ((Heap.get?_update_other _ _ (Nat.ne_of_gt (Heap.lt_size e))).trans (up b o e))
  have hDn : H s.heap.objs.size = none := I.hok.fresh (Nat.le_refl _)
  have fD : FpOk X pins H s.heap.objs.size := I.fpOk (Nat.le_refl _) hDn
  refine wpAny_pure ⟨plainId_quiet F.plain_extend_loop _, zip_loop (n := n) (m := m) hh S hti rv hm hmz s.heap.objs.size _ lz lTO l1 l2 lt lTI m 0 _ H [] #[] _ rfl (Nat.zero_le _) (I.kept (t' := s.toks) oth) (fun b hb => ?_) (.inl ⟨oth _ _ hz, ?_⟩) (oth _ _ hTI) (oth _ _ h1)
    (h2.at fun o e => oth _ o e) (h3.at fun o e => oth _ o e) hS₃ .nil (.nil H) rfl fun s' H' ts' acc' c' I2 f2 d2 r2 z2 e2 => ?_⟩
  · have e' : b = z ∨ b = TO ∨ b = i1 ∨ b = i2 ∨ b = s.heap.objs.size := by simpa using hb
    rcases e' with q | q | q | q | q
    · exact hf b (by simp [q])
    · exact hf b (by simp [q])
    · exact hf b (by simp [q])
    · exact hf b (by simp [q])
    · rw [q]; exact fD
  · obtain ⟨a1, a2, e⟩ := hTO
    exact ⟨a1, a2, oth _ _ e⟩
  · show wpAny _ A (load s.heap.objs.size >>= _) _ _ s'
    refine wpAny_bind (wpAny_load d2 ?_)
    exact wpAny_pure (hQ s' H' ts' acc'.toList I2 r2 z2 e2)

theorem code_tuple_new_zip (hh : A.handled = none) (S : ZipSep2 z TI TO i1 i2 [i1] [i2, t]) (hti : t ≠ i2) (rv : Vals xs its) (hm : m = min n its.length) (hmz : m ≤ sizeLine) (I : Inv X pins σ H s) (hf : ∀ b ∈ [z, TO, i1, i2], FpOk X pins H b)
    (hz : IsZip s.heap z TI TO .none) (hTO : ∃ a1 a2, IsTupOf2 s.heap TO a1 a2) (hTI : IsTupOf2 s.heap TI (.ref i1) (.ref i2)) (h1 : IsRangeIter s.heap i1 (0 + ((0 : Nat) : Int) * 1) ((n : Int) - ((0 : Nat) : Int)) 1) (h2 : s.heap.IsTupleIter i2 t 0) (h3 : s.heap.IsTuple t its.toArray)
    {Q₁ : Value → Shared → Prop} (h : ∀ s' H' ts us, Inv X pins σ H' s' → Vals ts us → Zl xs H ts H' → ts.length = m → Q₁ (.ref s'.heap.objs.size) { s' with heap := s'.heap.push { cls := .type "tuple", data := .seq us.toArray } }) :
    codeAny (model X.prog X.w) A (.call (.builtin "tuple.__new__") ⟨[.type "tuple", .ref z], []⟩) (wants Q₁ E) s := by
  refine codeAny_of_tree ?_
  show wpAny _ A.in1 (do checkBuiltinCall "tuple.__new__" ⟨[.type "tuple", .ref z], []⟩; again (.builtin "tuple.__new__" ⟨[.type "tuple", .ref z], []⟩)) _ _ s
  refine wpAny_bind (wpAny_of_eq (F.newCall_tuple_1 _) (wpAny_pure ⟨plainId_quiet F.plain_tuple_new _, codeAny_builtin F.entry_tuple_new ?_⟩))
  rw [Around.under_plainId F.plain_tuple_new _]
  have hsub := sub_tuple_self
  have hinit := init_tuple_lookup
  have hmh := madeHere_tuple
  have hTI' : s.TypeIs (.ref z) "zip" := ⟨_, hz, rfl⟩
  have hh1 : A.in1.handled = none := hh
  wp_walk using wpAny_typeOf hTI', collect_zip (A := A.in1) (n := n) (m := m) hh1 S hti rv hm hmz I hf hz hTO hTI h1 h2 h3
  intro s' H' ts us I2 r2 z2 e2
  show wpAny _ _ (Builtin.Tuple.tupleExact us.toArray >>= fun v => ret v) _ _ _
  unfold Builtin.Tuple.tupleExact
  refine wpAny_bind (wpAny_newObj_type ?_ (by show us.toArray.size ≤ sizeLine; rw [List.size_toArray, ← r2.length, e2]; exact hmz))
  refine wpAny_pure ?_
  exact h s' H' ts us I2 r2 z2 e2
theorem call_tuple_zip (hh : A.handled = none) (S : ZipSep2 z TI TO i1 i2 [i1] [i2, t]) (hti : t ≠ i2) (rv : Vals xs its) (hm : m = min n its.length) (hmz : m ≤ sizeLine) (I : Inv X pins σ H s) (hf : ∀ b ∈ [z, TO, i1, i2], FpOk X pins H b)
    (hz : IsZip s.heap z TI TO .none) (hTO : ∃ a1 a2, IsTupOf2 s.heap TO a1 a2) (hTI : IsTupOf2 s.heap TI (.ref i1) (.ref i2)) (h1 : IsRangeIter s.heap i1 (0 + ((0 : Nat) : Int) * 1) ((n : Int) - ((0 : Nat) : Int)) 1) (h2 : s.heap.IsTupleIter i2 t 0) (h3 : s.heap.IsTuple t its.toArray)
    {Q : Value → Shared → Prop} (h : ∀ s' H' ts us, Inv X pins σ H' s' → Vals ts us → Zl xs H ts H' → ts.length = m → Q (.ref s'.heap.objs.size) { s' with heap := s'.heap.push { cls := .type "tuple", data := .seq us.toArray } }) :
    wpAny (model X.prog X.w) A (call (.type "tuple") [.ref z]) Q E s := by
  refine callType_codes (Q₁ := fun obj s₁ => s₁.TypeIs obj "tuple" ∧ Q obj s₁) F.called_tuple (F.typeCall_tuple_1 _) F.entry_object_init
    (code_tuple_new_zip (A := A.in1) (n := n) (m := m) hh S hti rv hm hmz I hf hz hTO hTI h1 h2 h3 fun s' H' ts us I2 r2 z2 e2 => ⟨⟨_, Heap.get?_push_size _ rfl, rfl⟩, h s' H' ts us I2 r2 z2 e2⟩) fun obj s₁ h₁ => ?_
  exact ⟨h₁.1, F.args_object_init_2 obj _, object_init_meets F.called_tuple.init.lookup F.called_tuple.made (by decide) X.prog X.w A.in1 _ s₁ ⟨h₁.1, rfl, h₁.2⟩⟩
end

/-! ### the rule -/
def tZipR (K : PySem.W.Frag) (ta tb : TE) : TE := fun σ H Q => ta σ H fun x H1 => ∃ j : Int, x = .int j ∧ -rLine ≤ j ∧ j ≤ rLine ∧ tb σ H1 fun y H2 => ∃ (p : Addr) (xs : List V), y = .ref p ∧ SqT K H2 p xs ∧
  ∀ ts H3, Zl xs H2 ts H3 → ts.length = min j.toNat xs.length → ∀ q o, H3 q = none → o.dict = none → Q (.ref q) (upd H3 q (.frz o (.tup ts)))
theorem pe_zipR {X : Cx} {a b : Expr} {ta tb : TE} {p p2 p3 pos pos2 pos3 : Pos} (hc : X.calm = true) (hm : X.mg "tuple" = none) (hm2 : X.mg "zip" = none) (hm3 : X.mg "range" = none) (ha : PE X a ta) (hb : PE X b tb)
    (hg : Gl X "tuple" := by rfl) (hg2 : Gl X "zip" := by rfl) (hg3 : Gl X "range" := by rfl)
    (na3 : starEach [a] X.env = (false, eval a X.env) :: starEach [] X.env := by rfl)
    (na2 : starEach [.Call (.Name "range" p3) [a] [] pos3, b] X.env = (false, eval (.Call (.Name "range" p3) [a] [] pos3) X.env) :: starEach [b] X.env := by rfl)
    (nb2 : starEach [b] X.env = (false, eval b X.env) :: starEach [] X.env := by rfl) (hpl : (backTo pos2 (starEach [b] X.env)).any (·.1) = false := by rfl)
    (na : starEach [.Call (.Name "zip" p2) [.Call (.Name "range" p3) [a] [] pos3, b] [] pos2] X.env = (false, eval (.Call (.Name "zip" p2) [.Call (.Name "range" p3) [a] [] pos3, b] [] pos2) X.env) :: starEach [] X.env := by rfl) :
    PE X (.Call (.Name "tuple" p) [.Call (.Name "zip" p2) [.Call (.Name "range" p3) [a] [] pos3, b] [] pos2] [] pos) (tZipR X.K ta tb) := by
  refine ⟨fun pins s σ H Q I h => ?_⟩
  refine Call_ (ld_blt I hg hm boot_tuple (PyProof.Rows.callWith_type1 (args_cons ?_ na) na))
  refine Call_ (ld_blt I hg2 hm2 PyProof.Rows.boot_zip (PyProof.Rows.callWith_type1 (args_cons ?_ na2) na2 hpl))
  refine Call_ (ld_blt I hg3 hm3 boot_range (PyProof.Rows.callWith_type1 (one_arg ha I h (fun v s2 x H2 I2 r q => ?_) na3) na3))
  obtain ⟨j, rfl, b1, b2, q⟩ := q
  obtain ⟨t, rfl⟩ := r
  have hrl : rLine = 16777216 := rfl
  have hsm : Builtin.Range.small 0 j 1 = true := small_one (by decide) (by decide) (by omega) (by omega)
  refine call_range_1 ?_
  have hr := IsRange.new s2.heap 0 j 1 s2.toks t (s2.toks + 1)
  have fr : FpOk X pins H2 s2.heap.objs.size := I2.fpOk (Nat.le_refl _) (I2.hok.fresh (Nat.le_refl _))
  refine one_arg (pins := (s2.heap.objs.size, { cls := .type "range", data := .fields #[.int 0 s2.toks, .int j t, .int 1 (s2.toks + 1)] }) :: pins) hb ((I2.kept (t' := s2.toks + 1 + 1) fun b u e => Heap.get?_push_of_some _ e).pins_of fun p hp => ?_) q (fun v2 s4 y H4 I5 r2 q2 => ?_) nb2
  · rcases List.mem_cons.mp hp with e | e
    · rw [e]
      exact ⟨hr, fr.1, fr.2.1, fr.2.2.1, fun v q => nomatch q⟩
    · obtain ⟨c1, c2⟩ := I2.pin p (List.mem_append_right _ e)
      exact ⟨Heap.get?_push_of_some _ c1, c2⟩
  obtain ⟨p0, ys, rfl, hs, q3⟩ := q2
  obtain rfl : v2 = .ref p0 := r2
  obtain ⟨its, rv, pl, hz0⟩ := I5.tuple hs
  have hr5 : IsRange s4.heap s2.heap.objs.size 0 j 1 s2.toks t (s2.toks + 1) := (I5.pin (s2.heap.objs.size, _) (List.mem_append_right _ (List.mem_cons_self ..))).1
  have I6 : Inv X pins σ H4 s4 := I5.pins_of fun p hp => I5.pin p (List.mem_append_right _ (List.mem_cons_of_mem _ hp))
  have pl' : s4.heap.IsTuple p0 its.toArray := pl
  have lp : p0 < s4.heap.objs.size := by obtain ⟨_, e, _⟩ := pl'; exact Heap.lt_size e
  refine PySem.zip_begins2 (begins_range s2.heap.objs.size 0 j 1 _ _ _ hsm) (begins_tuple p0 its.toArray) hr5 pl' fun h' hz hTI hTO g1 g2 hsz hk => args_nil ?_
  have I7 : Inv X pins σ H4 { s4 with heap := h' } := I6.kept (t' := s4.toks) hk
  have g1' : IsRangeIter h' s4.heap.objs.size 0 (j.toNat : Int) 1 := by
    have e := rangeSize_nat 0 j
    rw [Int.sub_zero] at e
    rw [← e]; exact g1
  refine call_tuple_zip (n := j.toNat) (m := min j.toNat its.length) (I6.ok.hd hc) (zip_sep2 (N := s4.heap.objs.size) (fp1 := []) (fp2 := [p0]) (fun b hb => absurd hb (by simp)) (fun b hb => by rw [List.mem_singleton.mp hb]; exact lp)) (Nat.ne_of_lt (Nat.lt_succ_of_lt lp)) rv rfl
    (Nat.le_trans (Nat.min_le_right _ _) (by rw [← rv.length]; exact hz0)) I7 (fun c hcm => ?_) hz ⟨_, _, hTO⟩ hTI (range_st g1') ⟨_, g2, rfl, rfl⟩ (pl'.at fun o e => hk _ o e) fun s' H' ts us I8 r8 z8 e8 => ?_
  · have e' : c = s4.heap.objs.size + 4 ∨ c = s4.heap.objs.size + 3 ∨ c = s4.heap.objs.size ∨ c = s4.heap.objs.size + 1 := by simpa using hcm
    have hle : s4.heap.objs.size ≤ c := by
      rcases e' with q | q | q | q
      · rw [q]; exact Nat.le_add_right _ _
      · rw [q]; exact Nat.le_add_right _ _
      · rw [q]; exact Nat.le_refl _
      · rw [q]; exact Nat.le_add_right _ _
    exact I6.fpOk hle (I6.hok.fresh hle)
  · refine ⟨.ref s'.heap.objs.size, _, I8.tnewF (t' := s'.toks) r8 ?_, rfl, q3 ts H' z8 (by rw [e8, rv.length]) _ _ (I8.hok.fresh (Nat.le_refl _)) rfl⟩
    rw [e8]
    exact Nat.le_trans (Nat.min_le_right _ _) (by rw [← rv.length]; exact hz0)

theorem Zl.data {K : PySem.W.Frag} {xs : List V} {ds : List PyData} {H Hf : Hp} (s : Same Hf H) (ra : RpAll K Hf xs ds) {ts : List V} {H3 : Hp} (z : Zl xs H ts H3) :
    ∃ Hf3, Ext H Hf H3 Hf3 ∧ RpAll K Hf3 ts (List.zipWith (fun (k : Nat) d => .tuple [.int (k : Int), d]) (List.range ts.length) (ds.take ts.length)) := by
  induction z with
  | nil => exact ⟨Hf, Ext.refl s, .nil⟩
  | @cons H1 ts T x o z hx hT od ih =>
    obtain ⟨Hf1, x1, r1⟩ := ih
    obtain ⟨d, hd, rx⟩ := ra.getV hx
    obtain ⟨Hf2, x2, r2⟩ := zip_new (K := K) (dx := .int (ts.length : Int)) x1.sub hT od (.int _) (rx.mono x1.sf)
    refine ⟨Hf2, x1.trans x2, ?_⟩
    have hl : ts.length < ds.length := by obtain ⟨h, _⟩ := List.getElem?_eq_some_iff.mp hd; exact h
    rw [List.length_append, List.length_singleton, List.range_succ, List.take_succ, hd]
    rw [List.zipWith_append (by rw [List.length_range, List.length_take]; omega)]
    exact (r1.mono x2.sf).append (.cons r2 .nil)
section
variable {ec : EC} {X : Cx} {W : WX} {O : List Nat} {a b : Expr} {fa fb : DEnv → R PyData}
def dZipR (f g : DEnv → R PyData) : DEnv → R PyData := fun η => (f η).bind fun d => match d with
  | .int j => if -rLine ≤ j ∧ j ≤ rLine then (g η).bind fun d' => match d' with
    | .tuple xs => .ok (.tuple (zipD (rangeD 0 j.toNat) xs))
    | _ => .bad else .bad
  | _ => .bad
theorem zipR_eq (n : Nat) (ds : List PyData) : List.zipWith (fun (k : Nat) d => PyData.tuple [.int (k : Int), d]) (List.range (min n ds.length)) (ds.take (min n ds.length)) = zipD (rangeD 0 n) ds := by
  apply List.ext_getElem?
  intro i
  unfold zipD rangeD
  rw [List.getElem?_zipWith, List.getElem?_zipWith, List.getElem?_map, List.getElem?_take]
  by_cases h1 : i < n
  · by_cases h2 : i < ds.length
    · rw [List.getElem?_range (by omega), List.getElem?_range h1, if_pos (by omega), List.getElem?_eq_getElem h2]
      simp
    · have e : ds[i]? = none := by simp; omega
      rw [e]
      split <;> simp_all
  · have e1 : (List.range n)[i]? = none := by simp; omega
    have e2 : (List.range (min n ds.length))[i]? = none := by simp; omega
    rw [e1, e2]
    rfl
theorem de_zipR {p p2 p3 pos pos2 pos3 : Pos} (hc : X.calm = true) (hm : X.mg "tuple" = none) (hm2 : X.mg "zip" = none) (hm3 : X.mg "range" = none) (ha : DE ec X W O a fa) (hb : DE ec X W O b fb)
    (hg : Gl X "tuple" := by rfl) (hg2 : Gl X "zip" := by rfl) (hg3 : Gl X "range" := by rfl)
    (na3 : starEach [a] X.env = (false, eval a X.env) :: starEach [] X.env := by rfl)
    (na2 : starEach [.Call (.Name "range" p3) [a] [] pos3, b] X.env = (false, eval (.Call (.Name "range" p3) [a] [] pos3) X.env) :: starEach [b] X.env := by rfl)
    (nb2 : starEach [b] X.env = (false, eval b X.env) :: starEach [] X.env := by rfl) (hpl : (backTo pos2 (starEach [b] X.env)).any (·.1) = false := by rfl)
    (na : starEach [.Call (.Name "zip" p2) [.Call (.Name "range" p3) [a] [] pos3, b] [] pos2] X.env = (false, eval (.Call (.Name "zip" p2) [.Call (.Name "range" p3) [a] [] pos3, b] [] pos2) X.env) :: starEach [] X.env := by rfl) :
    DE ec X W O (.Call (.Name "tuple" p) [.Call (.Name "zip" p2) [.Call (.Name "range" p3) [a] [] pos3, b] [] pos2] [] pos) (dZipR fa fb) :=
  PE.imp (pe_zipR hc hm hm2 hm3 ha hb hg hg2 hg3 na3 na2 nb2 hpl na) fun σ H Q ⟨H0, Hf0, Hf, η, S, p⟩ => ⟨H0, Hf0, Hf, η, S, p.bindI.imp fun v H1 ⟨Hf1, d, x1, r1, p1⟩ => by
    cases r1 with
    | int j =>
      simp only at p1
      by_cases h : -rLine ≤ j ∧ j ≤ rLine
      · rw [if_pos h] at p1
        refine ⟨j, rfl, h.1, h.2, H0, Hf0, Hf1, η, S.step x1, p1.bindI.imp fun u H2 ⟨Hf2, d', x2, r2, p2⟩ => ?_⟩
        cases d' with
        | tuple xs =>
          obtain ⟨a2, vs2, rfl, h2, q2⟩ := Rp.tuple_inv r2
          refine ⟨a2, vs2, rfl, Same.tup x2.sub h2, fun ts H3 z e q o n od => ?_⟩
          obtain ⟨Hf3, x3, r3⟩ := z.data x2.sub q2
          have x4 := Ext.add x3.sub (o := .frz o (.tup ts)) n
          refine p2.ok_of (x3.trans x4) (.tup (.of od) (RpAll.mono x4.sf ?_))
          rw [e, q2.length, zipR_eq] at r3
          exact r3
        | _ => exact p2.elim
      · rw [if_neg h] at p1; exact p1.elim
    | _ => exact p1.elim⟩
end
end DL
end

section
set_option Elab.async false
set_option linter.all false
set_option maxRecDepth 100000
set_option maxHeartbeats 4000000
/-! A fact about a slot, carried along statements; a def that gives a list of new lists. -/
namespace DL
open PySem PySem.Spec PyProof.Rows L2
structure JK (K : PySem.W.Frag) where
  fs : List Nat
  noEx : Bool
  J : Hp → St → Hp → Hp → Prop
  R : Hp → Hp → (V → Hp → Prop) → PyData → Prop
  ext : ∀ {H0 : Hp} {σ : St} {H Hf H' Hf' : Hp}, J H0 σ H Hf → Ext H Hf H' Hf' → J H0 σ H' Hf'
  slot : ∀ {H0 : Hp} {σ σ' : St} {H Hf : Hp}, (∀ k ∈ fs, σ'[k]? = σ[k]?) → J H0 σ H Hf → J H0 σ' H Hf
  base : ∀ {H0 Hf0 H Hf : Hp} {rt : V → Hp → Prop} {d : PyData}, Ext H0 Hf0 H Hf → R H0 Hf0 rt d → R H0 Hf rt d
def PostJ (ec : EC) (K : PySem.W.Frag) (W : WX) (Q : JK K) (H0 Hf0 : Hp) (O : List Nat) (D : Ends) : Fl → Prop
  | .nx η => ∀ σ H Hf, SR K H0 Hf0 O η σ H Hf → Q.J H0 σ H Hf → D.nx σ H
  | .rt d => Q.R H0 Hf0 D.rt d
  | .ex c fl η => Q.noEx = false ∧ ∀ σ H Hf cls d, SR K H0 Hf0 [] η σ H Hf → ExRep ec K Hf H cls d c fl → W cls d σ H
  | .bad => False
def tSJ (ec : EC) (K : PySem.W.Frag) (W : WX) (Q : JK K) (O O' : List Nat) (g : DEnv → Fl) : TS := fun D σ H => ∃ H0 Hf0 Hf η, SR K H0 Hf0 O η σ H Hf ∧ Q.J H0 σ H Hf ∧ PostJ ec K W Q H0 Hf0 O' D (g η)
def tSP (ec : EC) (K : PySem.W.Frag) (W : WX) (Q : JK K) (O O' : List Nat) (g : DEnv → Fl) : TS := fun D σ H => ∃ H0 Hf0 Hf η, SR K H0 Hf0 O η σ H Hf ∧ PostJ ec K W Q H0 Hf0 O' D (g η)
/-- the fact holds ahead and behind -/
def DJ (ec : EC) (X : Cx) (W : WX) (Q : JK X.K) (O O' : List Nat) (st : Stmt) (g : DEnv → Fl) : Prop := PS X st (tSJ ec X.K W Q O O' g)
def DJs (ec : EC) (X : Cx) (W : WX) (Q : JK X.K) (O O' : List Nat) (st : List Stmt) (g : DEnv → Fl) : Prop := PSs X st (tSJ ec X.K W Q O O' g)
/-- .. behind only -/
def DP (ec : EC) (X : Cx) (W : WX) (Q : JK X.K) (O O' : List Nat) (st : Stmt) (g : DEnv → Fl) : Prop := PS X st (tSP ec X.K W Q O O' g)
def DPs (ec : EC) (X : Cx) (W : WX) (Q : JK X.K) (O O' : List Nat) (st : List Stmt) (g : DEnv → Fl) : Prop := PSs X st (tSP ec X.K W Q O O' g)
/-- a return as elsewhere -/
abbrev RtOk {K : PySem.W.Frag} (Q : JK K) : Prop := ∀ (H0 Hf0 : Hp) (rt : V → Hp → Prop) (d : PyData), Q.R H0 Hf0 rt d → ∀ v H Hf, Ext H0 Hf0 H Hf → Rp K Hf v d → rt v H
section
variable {ec : EC} {X : Cx} {W : WX} {Q : JK X.K} {O O1 O' : List Nat} {e a b tg : Expr} {es : List Expr} {st : Stmt} {sts : List Stmt} {f fa fb : DEnv → R PyData} {g h : DEnv → Fl} {pos : Pos}
theorem PostJ.exprI {α β : Type} {ρ : Hp → Hp → α → β → Prop} {H0 Hf0 H Hf : Hp} {η : DEnv} {σ : St} {D : Ends} {r : R β} {k : β → Fl} (S : SR X.K H0 Hf0 O η σ H Hf) (p : PostJ ec X.K W Q H0 Hf0 O' D (r.fl η k)) :
    Post ec X.K W σ ρ (fun a H1 => ∃ Hf1 b, r = .ok b ∧ Ext H Hf H1 Hf1 ∧ ρ H1 Hf1 a b ∧ PostJ ec X.K W Q H0 Hf0 O' D (k b)) H Hf r := by
  cases r with
  | ok b => exact fun a H1 Hf1 x q => ⟨Hf1, b, rfl, x, q, p⟩
  | ex c fl =>
    intro H1 Hf1 cls d x q
    obtain ⟨Hf2, s, S2⟩ := (S.step x).less (O' := []) (fun i hi => by cases hi)
    exact p.2 σ H1 Hf2 cls d S2 (q.mono s)
  | bad => exact p
theorem PostJ.unbase {H0 Hf0 H Hf : Hp} {D : Ends} {x : Fl} (b : Ext H0 Hf0 H Hf) (p : PostJ ec X.K W Q H0 Hf0 O' D x) : PostJ ec X.K W Q H0 Hf O' D x := by
  cases x with
  | nx η => exact fun σ H' Hf' S j => p σ H' Hf' (S.unbase b) j
  | rt d => exact Q.base b p
  | ex c f η => exact ⟨p.1, fun σ H' Hf' cls d S r => p.2 σ H' Hf' cls d (S.unbase b) r⟩
  | bad => exact p
theorem djs_nil : DJs ec X W Q O O [] sNil := PSs.imp pss_nil fun D σ H ⟨H0, Hf0, Hf, η, S, j, p⟩ => p σ H Hf S j
theorem djs_cons (h1 : DJ ec X W Q O O1 st g) (h2 : DJs ec X W Q O1 O' sts h) : DJs ec X W Q O O' (st :: sts) (sSeq g h) := PSs.imp (pss_cons h1 h2) fun D σ H ⟨H0, Hf0, Hf, η, S, j, p⟩ => by
  refine ⟨H0, Hf0, Hf, η, S, j, ?_⟩
  unfold sSeq at p
  cases q : g η with
  | nx η' => rw [q] at p; exact fun σ' H' Hf' S' j' => ⟨H0, Hf0, Hf', η', S', j', p⟩
  | rt d => rw [q] at p; exact p
  | ex c f η' => rw [q] at p; exact p
  | bad => rw [q] at p; exact p
theorem djs_one (h1 : DJ ec X W Q O O' st g) : DJs ec X W Q O O' [st] g := pss_one h1
theorem dps_one (h1 : DP ec X W Q O O' st g) : DPs ec X W Q O O' [st] g := pss_one h1
/-- from here on the fact holds -/
theorem dps_go (h1 : DP ec X W Q O O1 st g) (h2 : DJs ec X W Q O1 O' sts h) : DPs ec X W Q O O' (st :: sts) (sSeq g h) := PSs.imp (pss_cons h1 h2) fun D σ H ⟨H0, Hf0, Hf, η, S, p⟩ => by
  refine ⟨H0, Hf0, Hf, η, S, ?_⟩
  unfold sSeq at p
  cases q : g η with
  | nx η' => rw [q] at p; exact fun σ' H' Hf' S' j' => ⟨H0, Hf0, Hf', η', S', j', p⟩
  | rt d => rw [q] at p; exact p
  | ex c f η' => rw [q] at p; exact p
  | bad => rw [q] at p; exact p
/-- a statement ahead of the fact -/
theorem dps_cons (h1 : DS ec X W O O1 st g) (hr : NoRt g ∨ RtOk Q) (h2 : DPs ec X W Q O1 O' sts h) : DPs ec X W Q O O' (st :: sts) (sSeq g h) := PSs.imp (pss_cons h1 h2) fun D σ H ⟨H0, Hf0, Hf, η, S, p⟩ => by
  refine ⟨H0, Hf0, Hf, η, S, ?_⟩
  unfold sSeq at p
  cases q : g η with
  | nx η' => rw [q] at p; exact fun σ' H' Hf' S' => ⟨H0, Hf0, Hf', η', S', p⟩
  | rt d =>
    rw [q] at p
    rcases hr with nr | hr
    · exact absurd q (nr η d)
    · exact hr _ _ _ _ p
  | ex c f η' => rw [q] at p; exact p.2
  | bad => rw [q] at p; exact p
/-- the fact is let go -/
theorem djs_drop (hr : RtOk Q) (nn : NoNx g) (h : DSs ec X W O O' sts g) : DJs ec X W Q O O' sts g := PSs.imp h fun D σ H ⟨H0, Hf0, Hf, η, S, j, p⟩ => by
  refine ⟨H0, Hf0, Hf, η, S, ?_⟩
  cases q : g η with
  | nx η' => exact absurd q (nn η η')
  | rt d => rw [q] at p; exact hr _ _ _ _ p
  | ex c f η' => rw [q] at p; exact p.2
  | bad => rw [q] at p; exact p
theorem dj_if {c : Expr} {fc : DEnv → R Bool} {s1 s2 : List Stmt} (hc : DT ec X W O c fc) (ha : DJs ec X W Q O O' s1 g) (hb : DJs ec X W Q O O' s2 h) : DJ ec X W Q O O' (.If c s1 s2 pos) (sIf fc g h) :=
  PS.imp (ps_if hc ha hb) fun D σ H ⟨H0, Hf0, Hf, η, S, j, p⟩ => ⟨H0, Hf0, Hf, η, S, (PostJ.exprI S p).imp fun b H1 ⟨Hf1, b', _, x1, r1, p1⟩ => by
    have r1 : b = b' := r1
    subst r1
    cases b with
    | true => exact ⟨H0, Hf0, Hf1, η, S.step x1, Q.ext j x1, p1⟩
    | false => exact ⟨H0, Hf0, Hf1, η, S.step x1, Q.ext j x1, p1⟩⟩
theorem dj_ret (hr : RtOk Q) (he : DE ec X W O e f) : DJ ec X W Q O O' (.Return (some e) pos) (sRet f) :=
  PS.imp (ps_ret he) fun D σ H ⟨H0, Hf0, Hf, η, S, j, p⟩ => ⟨H0, Hf0, Hf, η, S, (PostJ.exprI S p).imp fun v H1 ⟨Hf1, d, _, x1, r1, p1⟩ => hr _ _ _ _ p1 v H1 Hf1 (S.ext.trans x1) r1⟩
theorem dj_set {i : Nat} {x : Str} {pos' : Pos} (hif : i ∉ Q.fs) (hN : X.N.Nodup) (he : DE ec X W O e f) (hO : (O' == O.filter fun j => j != i) = true := by rfl) (hi : X.N[i]? = some x := by rfl) (hx : Loc X.env.scope x := by first | exact Or.inl rfl | exact Or.inr rfl)
    (hs : swapsWith e (some (.Name x pos')) pos.line X.env = pure false := by rfl) (hf : X.fn x = true ∨ X.env.scope.names.lookup x = some .local := by first | exact .inl rfl | exact .inr rfl) :
    DJ ec X W Q O O' (.Assign [.Name x pos'] e pos) (sSet i f) :=
  PS.imp (ps_set (i := i) hN hi hx he hs hf) fun D σ H ⟨H0, Hf0, Hf, η, S, j, p⟩ => ⟨H0, Hf0, Hf, η, S, (PostJ.exprI S p).imp fun v H1 ⟨Hf1, d, _, x1, r1, p1⟩ => by
    have hO : O' = O.filter fun j => j != i := eq_of_beq hO
    subst hO
    exact p1 _ H1 Hf1 ((S.step x1).setV r1 (fun j hj => by simpa using hj) (fun j hj hn => by simp [hj, hn])) (Q.slot (fun k hk => List.getElem?_set_ne (fun z : i = k => hif (by rw [z]; exact hk))) (Q.ext j x1))⟩
theorem dj_own {i : Nat} {x : Str} {pos' : Pos} (hif : i ∉ Q.fs) (hN : X.N.Nodup) (he : DN ec X W O e f) (hO : (O' == i :: O.filter fun j => j != i) = true := by rfl) (hi : X.N[i]? = some x := by rfl) (hx : Loc X.env.scope x := by first | exact Or.inl rfl | exact Or.inr rfl)
    (hs : swapsWith e (some (.Name x pos')) pos.line X.env = pure false := by rfl) (hf : X.fn x = true ∨ X.env.scope.names.lookup x = some .local := by first | exact .inl rfl | exact .inr rfl) :
    DJ ec X W Q O O' (.Assign [.Name x pos'] e pos) (sSet i f) :=
  PS.imp (ps_set (i := i) hN hi hx he hs hf) fun D σ H ⟨H0, Hf0, Hf, η, S, j, p⟩ => ⟨H0, Hf0, Hf, η, S, (PostJ.exprI S p).imp fun v H1 ⟨Hf1, d, _, x1, ⟨q, ev, n, nf, ho⟩, p1⟩ => by
    have hO : O' = i :: O.filter fun j => j != i := eq_of_beq hO
    subst hO ev
    exact p1 _ H1 Hf1 ((S.step x1).setN x1 S n nf ho (fun j hj hn => by
      rcases List.mem_cons.mp hj with z | z
      · exact absurd z hn
      · exact (List.mem_filter.mp z).1) (fun j hj hn => List.mem_cons_of_mem _ (by simp [hj, hn])) (List.mem_cons_self ..)) (Q.slot (fun k hk => List.getElem?_set_ne (fun z : i = k => hif (by rw [z]; exact hk))) (Q.ext j x1))⟩
theorem wipe_slot {σ σ' : St} {is : List Nat} {k : Nat} (h : wipe σ' is = wipe σ is) (hk : k ∉ is) : σ'[k]? = σ[k]? := by
  have a := wipe_get σ' is k
  have b := wipe_get σ is k
  rw [if_neg hk] at a b
  rw [← a, ← b, h]
theorem dj_for {it : DEnv → R (List PyData)} {gt : TG} {is : List Nat} {t : PyData → DEnv → R DEnv} {iter : Expr} {body : List Stmt} (hif : ∀ k ∈ Q.fs, k ∉ is) (hp : PassesOwn (model X.prog X.w) X.A X.env X.xe) (hc : X.calm = true) (T : TgOk X.K O gt is t) (hi : DI ec X W O false tg iter it) (hg : PG X tg gt)
    (hb : DJs ec X W Q O O body g) (hs : ∀ x, foldedSetIterable iter X.env x = pure x := by intro _; rfl) : DJ ec X W Q O O (.For tg iter body [] pos) (sFor it t g) := by
  refine PS.imp (ps_for hp hc hi hg hb hs) fun D σ H ⟨H0, Hf0, Hf, η, S, j, p⟩ => ⟨H0, Hf0, Hf, η, S, (PostJ.exprI S p).imp fun J H1 ⟨Hf1, ds, _, x1, hJ, p1⟩ => ?_⟩
  have S1 := S.step x1
  refine ⟨fun i m σ' H' => m = ds.length - i ∧ i ≤ ds.length ∧ ∃ Hf' η', SR X.K H0 Hf1 O η' σ' H' Hf' ∧ Q.J H0 σ' H' Hf' ∧ PostJ ec X.K W Q H0 Hf1 O D (forGo t g (ds.drop i) η'),
    ⟨ds.length, by simp, Nat.zero_le _, Hf1, η, S1.rebase, Q.ext j x1, (show PostJ ec X.K W Q H0 Hf0 O D (forGo t g ds η) from p1).unbase S1.ext⟩, ?_⟩
  rintro i m σ' H' ⟨rfl, hi', Hf', η', S', j', p'⟩
  obtain ⟨j1, j2⟩ := hJ.2 i H' Hf' S'.ext.sf S'.sub fun z => Bool.noConfusion z
  by_cases hlt : i < ds.length
  · rw [List.drop_eq_getElem_cons hlt] at p'
    obtain ⟨hgo, hy⟩ := j2 _ (List.getElem?_eq_getElem hlt)
    refine .inr ⟨hgo, fun σ2 H2 => ∃ Hf2 η2, SR X.K H0 Hf1 O η2 σ2 H2 Hf2 ∧ Q.J H0 σ2 H2 Hf2 ∧ PostJ ec X.K W Q H0 Hf1 O D (forGo t g (ds.drop (i + 1)) η2), fun σ2 H2 ⟨Hf2, η2, q1, q0, q2⟩ => ⟨ds.length - (i + 1), by omega, rfl, hlt, Hf2, η2, q1, q0, q2⟩, fun x H'' y => ?_⟩
    obtain ⟨Hf'', x3, rx⟩ := hy x H'' y
    unfold forGo at p'
    cases ht : t ds[i] η' with
    | ex c' fl => rw [ht] at p'; exact p'.elim
    | bad => rw [ht] at p'; exact p'.elim
    | ok η1 =>
      rw [ht] at p'
      refine T.run x ds[i] σ' H'' Hf'' H0 Hf1 η' _ (S'.step x3) rx ⟨η1, ht, fun σ2 hw S2 => ⟨H0, Hf1, Hf'', η1, S2, Q.slot (fun k hk => wipe_slot hw (hif k hk)) (Q.ext j' x3), ?_⟩⟩
      simp only at p'
      cases hg' : g η1 with
      | nx η2 => rw [hg'] at p'; exact fun σ3 H3 Hf3 S3 j3 => ⟨Hf3, η2, S3, j3, p'⟩
      | rt d => rw [hg'] at p'; exact p'
      | ex c f η2 => rw [hg'] at p'; exact p'
      | bad => rw [hg'] at p'; exact p'
  · have ei : i = ds.length := by omega
    subst ei
    rw [List.drop_length] at p'
    exact .inl ⟨j1 (Nat.le_refl _), p' σ' H' Hf' S' j'⟩
theorem dj_while (n : Nat) {c : Expr} {fc : DEnv → R Bool} {body : List Stmt} (hp : PassesOwn (model X.prog X.w) X.A X.env X.xe) (hc : DT ec X W O c fc) (hb : DJs ec X W Q O O body g) : DJ ec X W Q O O (.While c body [] pos) (sWhile n fc g) := by
  refine PS.imp (ps_while hp hc hb) fun D σ H ⟨H0, Hf0, Hf, η, S, j, p⟩ => ⟨fun m σ' H' => ∃ Hf' η', SR X.K H0 Hf0 O η' σ' H' Hf' ∧ Q.J H0 σ' H' Hf' ∧ PostJ ec X.K W Q H0 Hf0 O D (whileGo fc g m η'), ⟨n, Hf, η, S, j, p⟩, ?_⟩
  rintro m σ' H' ⟨Hf', η', S', j', p'⟩
  cases m with
  | zero => exact p'.elim
  | succ m =>
    unfold whileGo at p'
    refine ⟨H0, Hf0, Hf', η', S', (PostJ.exprI S' p').imp fun b H1 ⟨Hf1, b', _, x1, r1, p1⟩ => ?_⟩
    have r1 : b = b' := r1
    subst r1
    cases b with
    | false => exact p1 σ' H1 Hf1 (S'.step x1) (Q.ext j' x1)
    | true =>
      refine ⟨fun σ2 H2 => ∃ Hf2 η2, SR X.K H0 Hf0 O η2 σ2 H2 Hf2 ∧ Q.J H0 σ2 H2 Hf2 ∧ PostJ ec X.K W Q H0 Hf0 O D (whileGo fc g m η2), fun σ2 H2 q => ⟨m, Nat.lt_succ_self _, q⟩, H0, Hf0, Hf1, η', S'.step x1, Q.ext j' x1, ?_⟩
      have p1 : PostJ ec X.K W Q H0 Hf0 O D ((g η').then (whileGo fc g m)) := p1
      cases hg' : g η' with
      | nx η2 => rw [hg'] at p1; exact fun σ3 H3 Hf3 S3 j3 => ⟨Hf3, η2, S3, j3, p1⟩
      | rt d => rw [hg'] at p1; exact p1
      | ex c f η2 => rw [hg'] at p1; exact p1
      | bad => rw [hg'] at p1; exact p1
end

/-! ### a list of new lists, grown -/
/-- a settled list of lists, each its own, all newer than B -/
def DeepV (B Hf : Hp) (v : V) : Prop := ∃ (p : Addr) (as : List Addr), v = .ref p ∧ B p = none ∧ Hf p = some (.lst (as.map V.ref)) ∧ p ∉ as ∧ as.Nodup ∧ ∀ a ∈ as, B a = none ∧ ∃ xs, Hf a = some (.lst xs)
def jo (K : PySem.W.Frag) (f : Nat) : JK K where
  fs := [f]
  noEx := false
  J := fun H0 σ H Hf => ∃ (p : Addr) (as : List Addr), σ[f]? = some (some (.ref p)) ∧ H0 p = none ∧ H p = some (.lst (as.map V.ref)) ∧ Hf p = none ∧ as.Nodup ∧ ∀ a ∈ as, H0 a = none ∧ ∃ xs, Hf a = some (.lst xs)
  R := fun H0 Hf0 rt d => ∀ v H Hf, Ext H0 Hf0 H Hf → Rp K Hf v d → DeepV H0 Hf v → rt v H
  ext := fun ⟨p, as, a1, a2, a3, a4, a5, a6⟩ x => ⟨p, as, a1, a2, x.same _ _ a3, x.unsettled a3 a4, a5, fun a ha => ⟨(a6 a ha).1, (a6 a ha).2.imp fun xs q => x.sf _ _ q⟩⟩
  slot := fun h ⟨p, as, a1, a2⟩ => ⟨p, as, (h f (by simp)).trans a1, a2⟩
  base := fun b r v H Hf x => r v H Hf (b.unbase x)
section
variable {ec : EC} {X : Cx} {W : WX} {O O1 O' : List Nat} {e a b tg : Expr} {es : List Expr} {st : Stmt} {sts : List Stmt} {f fa fb : DEnv → R PyData} {g h : DEnv → Fl} {pos : Pos}
theorem own_lst {K : PySem.W.Frag} {H Hf : Hp} {p : Addr} {ds : List PyData} (h : OwnAt K H Hf p (.list ds)) : ∃ xs, H p = some (.lst xs) ∧ RpAll K Hf xs ds := by
  rcases h with ⟨xs, ds', h, e, a⟩ | ⟨_, _, _, e, _⟩ | ⟨_, _, _, _, _, _, _, _, _, _, _, _, e, _⟩
  · cases e; exact ⟨xs, h, a⟩
  · cases e
  · cases e
/-- settling a new list -/
theorem Ext.seal {H Hf H1 Hf1 : Hp} (x : Ext H Hf H1 Hf1) {q : Addr} {o : HO} (n : H q = none) (nf : Hf1 q = none) (h : H1 q = some o) : Ext H Hf H1 (upd Hf1 q o) where
  same := x.same
  sf := fun b u e => by rw [upd_ne (ne_of_none (x.sf b u e) nf)]; exact x.sf b u e
  sub := fun b u e => by
    unfold upd at e
    split at e
    · rename_i z; cases e; rw [z]; exact h
    · exact x.sub b u e
  new := fun b u e => by
    unfold upd at e
    split at e
    · rename_i z; rw [z]; exact .inr n
    · exact x.new b u e
/-- a list of what is a new list -/
def sDp0 (i : Nat) (f : DEnv → R PyData) : DEnv → Fl := fun η => (f η).fl η fun d => match d with
  | .list ds => if i < η.length then .nx (η.set i (some (.list [.list ds]))) else .bad
  | _ => .bad
theorem dp_new {i : Nat} {x : Str} {pos' lpos : Pos} (hN : X.N.Nodup) (he : DN ec X W O e f) (hO : (O' == i :: O.filter fun j => j != i) = true := by rfl) (hi : X.N[i]? = some x := by rfl) (hx : Loc X.env.scope x := by first | exact Or.inl rfl | exact Or.inr rfl)
    (hs1 : starEach [e] X.env = (false, eval e X.env) :: starEach [] X.env := by rfl)
    (hs : swapsWith (.List [e] lpos) (some (.Name x pos')) pos.line X.env = pure false := by rfl) (hf : X.fn x = true ∨ X.env.scope.names.lookup x = some .local := by first | exact .inl rfl | exact .inr rfl) :
    DP ec X W (jo X.K i) O O' (.Assign [.Name x pos'] (.List [e] lpos) pos) (sDp0 i f) :=
  PS.imp (ps_set (i := i) hN hi hx (pe_lst (pa_cons he pa_nil hs1)) hs hf) fun D σ H ⟨H0, Hf0, Hf, η, S, p⟩ => ⟨H0, Hf0, Hf, η, S, (PostJ.exprI S p).imp fun v H1 ⟨Hf1, d, _, x1, ⟨q, ev, n, nf, ho⟩, p1⟩ => ⟨by show 1 ≤ sizeLine; decide, fun l nl => by
    have hO : O' = i :: O.filter fun j => j != i := eq_of_beq hO
    subst hO ev
    cases d with
    | list ds =>
      obtain ⟨xs, h1, r1⟩ := own_lst ho
      simp only at p1
      by_cases hl' : i < η.length
      case neg => rw [if_neg hl'] at p1; exact p1.elim
      rw [if_pos hl'] at p1
      have hl : i < σ.length := by rw [← S.len]; exact hl'
      have x2 := x1.seal n nf h1
      have x3 := Ext.fresh x2.sub (o := .lst [V.ref q]) nl
      have x4 := x2.trans x3
      have hlq : l ≠ q := fun z => by rw [z] at nl; rw [h1] at nl; cases nl
      have nfl : (upd Hf1 q (.lst xs)) l = none := by rw [upd_ne hlq]; exact x1.sub.free nl
      have sf1 : Same Hf1 (upd Hf1 q (.lst xs)) := fun b u e => by rw [upd_ne (ne_of_none e nf)]; exact e
      refine p1 _ _ _ ((S.step x4).setN x4 S (x1.same.free nl) nfl (.inl ⟨[V.ref q], [.list ds], upd_same, rfl, .cons (.lst (.of upd_same) (r1.mono sf1)) .nil⟩) (fun j hj hn => by
        rcases List.mem_cons.mp hj with z | z
        · exact absurd z hn
        · exact (List.mem_filter.mp z).1) (fun j hj hn => List.mem_cons_of_mem _ (by simp [hj, hn])) (List.mem_cons_self ..)) ?_
      exact ⟨l, [q], List.getElem?_set_self hl, S.ext.same.free (x1.same.free nl), upd_same, nfl, List.nodup_cons.mpr ⟨(fun q => by cases q), List.nodup_nil⟩, fun a ha => by
        rw [List.mem_singleton.mp ha]
        exact ⟨S.ext.same.free n, xs, upd_same⟩⟩
    | _ => exact p1.elim⟩⟩
theorem noNx_while {n : Nat} {c : DEnv → R Bool} (hc : ∀ η, c η = .ok true) : NoNx (sWhile n c g) := by
  unfold sWhile
  induction n with
  | zero => exact fun η η' z => by unfold whileGo at z; cases z
  | succ n ih =>
    intro η η'
    unfold whileGo
    rw [hc η, R.fl_ok, if_pos rfl]
    cases g η with
    | nx η1 => exact ih η1 η'
    | rt d => exact fun z => nomatch z
    | ex c f η1 => exact fun z => nomatch z
    | bad => exact fun z => nomatch z
theorem hlt_of {H0 Hf0 H Hf : Hp} {η : DEnv} {σ : St} {i : Nat} {v : V} (S : SR X.K H0 Hf0 O η σ H Hf) (h : σ[i]? = some (some v)) : i < η.length := by
  rw [S.len]; exact (List.getElem?_eq_some_iff.mp h).1
/-- x.append(e), e new lists -/
def sDpA (i : Nat) (f : DEnv → R PyData) : DEnv → Fl := fun η => match listAt η i with
  | some ds => (f η).fl η fun d => match d with
    | .list es => if ds.length < sizeLine then .nx (η.set i (some (.list (ds ++ [.list es])))) else .bad
    | _ => .bad
  | none => .bad
theorem dj_grow {i : Nat} {x : Str} {p0 apos cpos : Pos} (ha : DN ec X W O e f) (hi : i ∈ O := by decide) (hN : X.N[i]? = some x := by rfl) (hv : Vis X.env.scope x := by first | exact Or.inl rfl | exact Or.inr (Or.inl rfl))
    (hd : (x == ("__debug__" : Str)) = false := by decide) (hcd : (x == ("__classdict__" : Str)) = false := by decide)
    (hbase : attributeBase (.Name x p0) "append" X.env (eval (.Name x p0) X.env) = eval (.Name x p0) X.env := by rfl)
    (hfew : ((backTo cpos (starEach [e] X.env)).all (fun x => !x.1) && (backToKw cpos (keywordEach [] X.env)).all (fun x => x.1.isSome)
      && decide ([e].length + ([] : List Keyword).length + (if ([] : List Keyword).isEmpty then 0 else 1) < 30)) = true := by rfl)
    (hline : (apos.endLine == cpos.line) = true := by rfl) (hs : starEach [e] X.env = (false, eval e X.env) :: starEach [] X.env := by rfl) (hplain : (backTo cpos (starEach [] X.env)).any (·.1) = false := by rfl)
    (hsw : swapsWith (.Call (.Attribute (.Name x p0) "append" apos) [e] [] cpos) none pos.line X.env = pure false := by rfl) :
    DJ ec X W (jo X.K i) O O (.Expr (.Call (.Attribute (.Name x p0) "append" apos) [e] [] cpos) pos) (sDpA i f) := by
  refine PS.imp (ps_expr (pe_bm PySem.F.plainAttrs_list PySem.F.slot_list_append PySem.F.type_list_append mt_append (pe_var hN hv hd hcd) (pa_cons ha pa_nil hs) hbase hfew hline hs hplain) hsw) fun D σ H ⟨H0, Hf0, Hf, η, S, j, p⟩ => ?_
  unfold sDpA at p
  cases q : listAt η i with
  | none => rw [q] at p; exact p.elim
  | some ds =>
    simp only [q] at p
    obtain ⟨l, xs, a1, a2, a3, a4, a5⟩ := S.own_list hi (listAt_of q)
    obtain ⟨l', as, b1, b2, b3, b4, b5, b6⟩ := j
    have b1 : σ[i]? = some (some (.ref l')) := b1
    rw [a1] at b1; cases b1
    rw [a4] at b3; cases b3
    refine ⟨.ref l, a1, .inl ⟨rfl, _, .of a4⟩, H0, Hf0, Hf, η, S, (PostJ.exprI S p).imp fun v H1 ⟨Hf1, d, _, x1, ⟨t, ev, n, nf, ho⟩, p1⟩ => ?_⟩
    subst ev
    cases d with
    | list es =>
      simp only at p1
      by_cases hz : ds.length < sizeLine
      · rw [if_pos hz] at p1
        obtain ⟨ys, h1, r1⟩ := own_lst ho
        have x2 := x1.seal n nf h1
        have S1 := S.step x2
        have n1 : (upd Hf1 t (.lst ys)) l = none := x2.unsettled a4 a3
        have sf1 : Same Hf1 (upd Hf1 t (.lst ys)) := fun b u e => by rw [upd_ne (ne_of_none e nf)]; exact e
        have a5' := a5.mono x2.sf
        have hl : i < σ.length := (List.getElem?_eq_some_iff.mp a1).1
        refine ⟨l, as.map V.ref, .ref t, rfl, rfl, x2.same _ _ a4, by rw [a5.length]; exact hz, ?_⟩
        refine p1 _ _ _ (S1.write hi (listAt_of q) a1 a2 n1 (.inl ⟨_, _, upd_same, rfl, RpAll.append a5' (.cons (.lst (.of upd_same) (r1.mono sf1)) .nil)⟩)) ?_
        refine ⟨l, as ++ [t], a1, a2, ?_, n1, ?_, fun a ha => ?_⟩
        · rw [upd_same, List.map_append]; rfl
        · refine List.nodup_append.mpr ⟨b5, List.nodup_cons.mpr ⟨(fun q => by cases q), List.nodup_nil⟩, fun a ha b hb e => ?_⟩
          rw [List.mem_singleton.mp hb] at e
          obtain ⟨_, zs, q⟩ := b6 a ha
          have := S.sub _ _ q
          rw [e, n] at this; cases this
        · rcases List.mem_append.mp ha with z | z
          · exact ⟨(b6 a z).1, (b6 a z).2.imp fun zs q => x2.sf _ _ q⟩
          · rw [List.mem_singleton.mp z]
            exact ⟨S.ext.same.free n, ys, upd_same⟩
      · rw [if_neg hz] at p1
        exact p1.elim
    | _ => exact p1.elim
/-- x.append(y), y a name that owns -/
def sDpO (i j : Nat) : DEnv → Fl := fun η => match listAt η i, listAt η j with
  | some ds, some es => if ds.length < sizeLine then .nx (η.set i (some (.list (ds ++ [.list es])))) else .bad
  | _, _ => .bad
theorem dj_growO {i j : Nat} {x y : Str} {p0 p1 apos cpos : Pos} (hij : i ≠ j := by decide) (hi : i ∈ O := by decide) (hj : j ∈ O := by decide) (hO : ∀ k ∈ O', k ∈ O ∧ k ≠ j := by decide) (hi' : i ∈ O' := by decide) (hN : X.N[i]? = some x := by rfl) (hv : Vis X.env.scope x := by first | exact Or.inl rfl | exact Or.inr (Or.inl rfl))
    (hd : (x == ("__debug__" : Str)) = false := by decide) (hcd : (x == ("__classdict__" : Str)) = false := by decide)
    (hN1 : X.N[j]? = some y := by rfl) (hv1 : Vis X.env.scope y := by first | exact Or.inl rfl | exact Or.inr (Or.inl rfl))
    (hd1 : (y == ("__debug__" : Str)) = false := by decide) (hcd1 : (y == ("__classdict__" : Str)) = false := by decide)
    (hbase : attributeBase (.Name x p0) "append" X.env (eval (.Name x p0) X.env) = eval (.Name x p0) X.env := by rfl)
    (hfew : ((backTo cpos (starEach [.Name y p1] X.env)).all (fun x => !x.1) && (backToKw cpos (keywordEach [] X.env)).all (fun x => x.1.isSome)
      && decide ([Expr.Name y p1].length + ([] : List Keyword).length + (if ([] : List Keyword).isEmpty then 0 else 1) < 30)) = true := by rfl)
    (hline : (apos.endLine == cpos.line) = true := by rfl) (hs : starEach [.Name y p1] X.env = (false, eval (.Name y p1) X.env) :: starEach [] X.env := by rfl) (hplain : (backTo cpos (starEach [] X.env)).any (·.1) = false := by rfl)
    (hsw : swapsWith (.Call (.Attribute (.Name x p0) "append" apos) [.Name y p1] [] cpos) none pos.line X.env = pure false := by rfl) :
    DJ ec X W (jo X.K i) O O' (.Expr (.Call (.Attribute (.Name x p0) "append" apos) [.Name y p1] [] cpos) pos) (sDpO i j) := by
  refine PS.imp (ps_expr (pe_bm PySem.F.plainAttrs_list PySem.F.slot_list_append PySem.F.type_list_append mt_append (pe_var hN hv hd hcd) (pa_cons (pe_var hN1 hv1 hd1 hcd1) pa_nil hs) hbase hfew hline hs hplain) hsw) fun D σ H ⟨H0, Hf0, Hf, η, S, jj, p⟩ => ?_
  unfold sDpO at p
  cases q : listAt η i with
  | none => rw [q] at p; exact p.elim
  | some ds =>
    cases q' : listAt η j with
    | none => rw [q, q'] at p; exact p.elim
    | some es =>
      simp only [q, q'] at p
      by_cases hz : ds.length < sizeLine
      · rw [if_pos hz] at p
        obtain ⟨l, xs, a1, a2, a3, a4, a5⟩ := S.own_list hi (listAt_of q)
        obtain ⟨t, ys, c1, c2, c3, c4, c5⟩ := S.own_list hj (listAt_of q')
        obtain ⟨l', as, b1, b2, b3, b4, b5, b6⟩ := jj
        have b1 : σ[i]? = some (some (.ref l')) := b1
        rw [a1] at b1; cases b1
        rw [a4] at b3; cases b3
        have hlt : l ≠ t := fun z => S.dis i j _ _ l hi hj hij (listAt_of q) (listAt_of q') a1 (by rw [z]; exact c1)
        -- y is settled first
        obtain ⟨Hf2, s2, S2⟩ := S.less (O' := O') fun k hk => (hO k hk).1
        obtain ⟨v2, e2, r2⟩ := S2.val j _ (fun z => (hO j z).2 rfl) (listAt_of q')
        rw [c1] at e2; cases e2
        obtain ⟨l2, d1, d2, d3, d4, d5⟩ := S2.own_list hi' (listAt_of q)
        rw [a1] at d2; cases d2
        obtain ⟨a', xs', ea, h1, r3⟩ := r2.list_rd
        cases ea
        have ht : Hf2 t = some (.lst ys) := by
          rcases h1 with h1 | ⟨o, h1⟩
          · have := S2.sub _ _ h1
            rw [c4] at this; cases this; exact h1
          · have := S2.sub _ _ h1
            rw [c4] at this; cases this
        have hl : i < σ.length := (List.getElem?_eq_some_iff.mp a1).1
        rw [a4] at d5
        refine ⟨.ref l, a1, .inl ⟨rfl, _, .of a4⟩, .ref t, c1, l, as.map V.ref, .ref t, rfl, rfl, a4, by rw [a5.length]; exact hz, ?_⟩
        refine p _ _ _ (S2.write hi' (listAt_of q) a1 a2 d4 (.inl ⟨_, _, upd_same, rfl, RpAll.append (a5.mono s2) (.cons r2 .nil)⟩)) ?_
        refine ⟨l, as ++ [t], a1, a2, ?_, d4, ?_, fun a ha => ?_⟩
        · rw [upd_same, List.map_append]; rfl
        · refine List.nodup_append.mpr ⟨b5, List.nodup_cons.mpr ⟨(fun q => by cases q), List.nodup_nil⟩, fun a ha b hb e => ?_⟩
          rw [List.mem_singleton.mp hb] at e
          obtain ⟨_, zs, q⟩ := b6 a ha
          rw [e, c3] at q; cases q
        · rcases List.mem_append.mp ha with z | z
          · exact ⟨(b6 a z).1, (b6 a z).2.imp fun zs q => s2 _ _ q⟩
          · rw [List.mem_singleton.mp z]
            exact ⟨c2, ys, ht⟩
      · rw [if_neg hz] at p
        exact p.elim
/-- return x -/
theorem dj_give {i : Nat} {x : Str} {p0 : Pos} (hi : i ∈ O := by decide) (hN : X.N[i]? = some x := by rfl) (hv : Vis X.env.scope x := by first | exact Or.inl rfl | exact Or.inr (Or.inl rfl))
    (hd : (x == ("__debug__" : Str)) = false := by decide) (hcd : (x == ("__classdict__" : Str)) = false := by decide) : DJ ec X W (jo X.K i) O O' (.Return (some (.Name x p0)) pos) (sRet (dV i)) :=
  PS.imp (ps_ret (pe_var hN hv hd hcd)) fun D σ H ⟨H0, Hf0, Hf, η, S, j, p⟩ => by
    unfold sRet dV at p
    cases q : η[i]? with
    | none => rw [q] at p; exact p.elim
    | some o =>
      rw [q] at p
      cases o with
      | none => exact p.elim
      | some d =>
        obtain ⟨pp, a1, a2, a3, a4⟩ := S.own i d hi q
        obtain ⟨l', as, b1, b2, b3, b4, b5, b6⟩ := j
        have b1 : σ[i]? = some (some (.ref l')) := b1
        rw [a1] at b1; cases b1
        obtain ⟨o, ho, s1, s2, r⟩ := a4.settle S.sub a3
        rw [b3] at ho; cases ho
        have p : (jo X.K i).R H0 Hf0 D.rt d := p
        refine ⟨.ref pp, a1, p (.ref pp) H (upd Hf pp (.lst (as.map V.ref))) ⟨S.ext.same, S.ext.sf.trans s1, s2, fun a o e => ?_⟩ r ⟨pp, as, rfl, a2, upd_same, fun z => ?_, b5, fun a ha => ⟨(b6 a ha).1, (b6 a ha).2.imp fun xs q => s1 _ _ q⟩⟩⟩
        · unfold upd at e
          split at e
          · rename_i z; rw [z]; exact .inr a2
          · exact S.ext.new a o e
        · obtain ⟨_, xs, q⟩ := b6 pp z
          rw [a3] at q; cases q
theorem dssN_less {O1 : List Nat} (d : DSsN ec X W O1 sts g) (h : ∀ i ∈ O1, i ∈ O := by decide) : DSsN ec X W O sts g := PSs.imp d fun D σ H ⟨H0, Hf0, Hf, η, S, p⟩ => by
  obtain ⟨Hf', _, S'⟩ := S.less h
  exact ⟨H0, Hf0, Hf', η, S', p⟩
/-- return e, e new -/
theorem dssN_retE (he : DN ec X W O e f) : DSsN ec X W O [.Return (some e) pos] (sRet f) :=
  pss_one (PS.imp (ps_ret he) fun D σ H ⟨H0, Hf0, Hf, η, S, p⟩ => ⟨H0, Hf0, Hf, η, S, by
    unfold sRet at p
    cases q : f η with
    | ok d =>
      rw [q] at p
      exact fun v H1 Hf1 x ⟨pp, a1, a2, a3, a4⟩ => p v H1 Hf1 (S.ext.trans x) ⟨pp, a1, S.ext.same.free a2, a3, a4⟩
    | ex c fl =>
      rw [q] at p
      intro H1 Hf1 cls d x r
      obtain ⟨Hf2, s, S2⟩ := (S.step x).less (O' := []) (fun i hi => by cases hi)
      exact p σ H1 Hf2 cls d S2 (r.mono s)
    | bad => rw [q] at p; exact p⟩)
/-! ### a def that gives a list of new lists -/
abbrev ρJ (K : PySem.W.Frag) (B : Hp) : Hp → Hp → V → PyData → Prop := fun _ Hf v d => Rp K Hf v d ∧ DeepV B Hf v
def spDJ (ec : EC) (K : PySem.W.Frag) (n : Nat) (m : List PyData → R PyData) : Sp := fun vs H Q E => ∃ Hf ds, Same Hf H ∧ RpAll K Hf vs ds ∧ ds.length = n ∧ Post ec K (fun c d _ H => E c d H) [] (ρJ K H) Q H Hf (m ds)
structure FOkJ (ec : EC) (P : Program) (w : World) (K : PySem.W.Frag) (mg : Str → Option Value) (base : Heap) (k : Nat) (x : Str) (n : Nat) (m : List PyData → R PyData) : Prop where
  ok : ∃ (fd : FuncData) (ps : List Str), ps.length = n ∧ FnOk P w K mg base (L2.CX P w) k (He.ga K x) fd ps (spDJ ec K n m) ∧ Binds K fd ps []
  kp : PySem.W.keepIn K (.ref (He.ga K x)) = true
  at_ : mg x = some (.ref (He.ga K x))
theorem Post.deepOlder {K : PySem.W.Frag} {σ : St} {Q : VK} {H Hf H1 Hf1 : Hp} {r : R PyData} (x : Ext H Hf H1 Hf1) (h : Post ec K W σ (ρJ K H) Q H1 Hf1 r) : Post ec K W σ (ρJ K H1) Q H1 Hf1 r := by
  cases r with
  | ok d =>
    rintro v H2 Hf2 y ⟨r, p, as, a1, a2, a3, a4, a5, a6⟩
    exact h v H2 Hf2 y ⟨r, p, as, a1, x.same.free a2, a3, a4, a5, fun a ha => ⟨x.same.free (a6 a ha).1, (a6 a ha).2⟩⟩
  | ex c fl => exact h
  | bad => exact h
/-- an expression that gives a list of new lists -/
def DD (ec : EC) (X : Cx) (W : WX) (O : List Nat) (e : Expr) (f : DEnv → R PyData) : Prop :=
  PE X e fun σ H Q => ∃ H0 Hf0 Hf η, SR X.K H0 Hf0 O η σ H Hf ∧ Post ec X.K W σ (ρJ X.K H) Q H Hf (f η)
theorem dd_call {k n : Nat} {x : Str} {m : List PyData → R PyData} {g : DEnv → R (List PyData)} {p : Pos} (F : FOkJ ec X.prog X.w X.K X.mg X.base k x n m) (hr : Room k X.A) (tk : Takes X W) (ha : DAn ec X W O (e :: es) g) (hn : (e :: es).length = n := by rfl) (hg : Gl X x := by rfl)
    (hdb : (x == ("__debug__" : Str)) = false := by decide) (he : starEach (e :: es) X.env = (false, eval e X.env) :: starEach es X.env := by rfl) (hpl : (backTo pos (starEach es X.env)).any (·.1) = false := by rfl) :
    DD ec X W O (.Call (.Name x p) (e :: es) [] pos) (dCall m g) := by
  obtain ⟨fd, ps, hps, hF, hB⟩ := F.ok
  refine PE.imp (pe_callS hF hr hg F.at_ F.kp hB (E := WE W) (fun σ => passAt tk σ) ha.1 hdb he hpl) fun σ H Q ⟨H0, Hf0, Hf, η, S, p⟩ => ⟨H0, Hf0, Hf, η, S, p.bindE.imp fun vs H1 ⟨Hf1, ds, e1, x1, r1, p1⟩ => ?_⟩
  exact ⟨Hf1, ds, x1.sub, r1, (ha.2 η ds e1).trans hn, (Post.deepOlder x1 p1).wish⟩
end
theorem fokJ_of {ec : EC} {P : Program} {w : World} {K : PySem.W.Frag} {mg : Str → Option Value} {base : Heap} {x : Str} {params : Arguments} {bd : List Stmt} {scope : Scope} {N ps : List Str} {fd : FuncData} {k : Nat} {m : List PyData → R PyData} {g : DEnv → Fl} {i : Nat} {O' : List Nat}
    (F : FunD K x x params bd scope [] [] (He.ga K x) fd) (at_ : mg x = some (.ref (He.ga K x))) (S : FnScope N ps scope)
    (hb : ∀ (kV doc pm : Value) (an : Option Addr) (cdv ct : Value) (us : List Value), us.length = ps.length → bindArgs (PySem.W.fnOf x x params bd scope .none kV doc pm an cdv ct) ⟨us, []⟩ = pure (ps.zip us))
    (body : ∀ (cdv : Value) (A : Around) (outer : List Env) (s : Shared) (H : Hp) (E : XK), Room k (cxOf (L2.CX P w) P w K mg base N x scope (He.ga K x) cdv A outer s H E).A →
      Takes (cxOf (L2.CX P w) P w K mg base N x scope (He.ga K x) cdv A outer s H E) (fun c d _ H => E c d H) →
      PassesOwn (model P w) (cxOf (L2.CX P w) P w K mg base N x scope (He.ga K x) cdv A outer s H E).A (cxOf (L2.CX P w) P w K mg base N x scope (He.ga K x) cdv A outer s H E).env (cxOf (L2.CX P w) P w K mg base N x scope (He.ga K x) cdv A outer s H E).xe →
      DPs ec (cxOf (L2.CX P w) P w K mg base N x scope (He.ga K x) cdv A outer s H E) (fun c d _ H => E c d H) (jo K i) [] O' bd g)
    (nn : NoNx g) (hm : ∀ ds, ds.length = ps.length → m ds = runF (g (startD N ds))) : FOkJ ec P w K mg base (k + 1) x ps.length m := by
  refine ⟨⟨fd, ps, rfl, ?_, F.bindsN hb⟩, F.kp, at_⟩
  refine F.ok S (fun vs H Q E ⟨Hf, ds, hs, r, hl, p⟩ => by rw [r.length]; exact hl) fun cdv A outer s H vs Q E hr ⟨Hf, ds, hs, r, hl, p⟩ => ?_
  refine ⟨_, body cdv A outer s H E hr (takes_of rfl rfl rfl rfl) (passes_of rfl), H, Hf, Hf, startD N ds, start_sr hs r, ?_⟩
  rw [hm ds hl] at p
  cases q : g (startD N ds) with
  | nx η => exact absurd q (nn _ η)
  | rt d => rw [q] at p; exact fun v H' Hf' y r' dp => p v H' Hf' y ⟨r', dp⟩
  | ex c fl η => rw [q] at p; exact ⟨rfl, fun _ H' Hf' cls d T r' => p H' Hf' cls d T.ext r'⟩
  | bad => rw [q] at p; exact p
theorem FOkJ.plain {ec : EC} {P : Program} {w : World} {K : PySem.W.Frag} {mg : Str → Option Value} {base : Heap} {k : Nat} {x : Str} {n : Nat} {m : List PyData → R PyData} (F : FOkJ ec P w K mg base k x n m) : FOk ec P w K mg base k x n m := by
  obtain ⟨fd, ps, a, b, c⟩ := F.ok
  refine ⟨⟨fd, ps, a, ?_, c⟩, F.kp, F.at_⟩
  refine ⟨fun vs H Q E h => ?_, fun A outer s H args us vs Q E hr e0 hb hv hs => ?_⟩
  · obtain ⟨Hf, ds, h1, h2, h3, h4⟩ := h
    refine b.len vs H Q E ⟨Hf, ds, h1, h2, h3, ?_⟩
    cases q : m ds with
    | ok d => rw [q] at h4; exact fun v H' Hf' y r => h4 v H' Hf' y r.1
    | ex c fl => rw [q] at h4; exact h4
    | bad => rw [q] at h4; exact h4
  · obtain ⟨Hf, ds, h1, h2, h3, h4⟩ := hs
    refine b.run A outer s H args us vs Q E hr e0 hb hv ⟨Hf, ds, h1, h2, h3, ?_⟩
    cases q : m ds with
    | ok d => rw [q] at h4; exact fun v H' Hf' y r => h4 v H' Hf' y r.1
    | ex c fl => rw [q] at h4; exact h4
    | bad => rw [q] at h4; exact h4
end DL
end

section
set_option Elab.async false
set_option linter.all false
set_option maxRecDepth 100000
set_option maxHeartbeats 4000000
/-! The law's end: a list of lists copied, then lists in it changed. -/
namespace DL
open PySem PySem.Spec PyProof.Rows L2

/-! ### data without lists -/
mutual
def lf : PyData → Bool
  | .none => true
  | .bool _ => true
  | .int _ => true
  | .str _ => true
  | .tuple ds => lfAll ds
  | .list _ => false
  | .dict _ => false
def lfAll : List PyData → Bool
  | [] => true
  | d :: ds => lf d && lfAll ds
end
def isL : HO → Bool
  | .lst _ => true
  | .frz _ (.lst _) => true
  | _ => false
/-- the heap without its lists -/
def nl (H : Hp) : Hp := fun a => match H a with
  | some o => if isL o then none else some o
  | none => none
theorem nl_of {H : Hp} {a : Addr} {o : HO} (h : H a = some o) (hl : isL o = false) : nl H a = some o := by
  unfold nl; rw [h]; simp [hl]
theorem nl_some {H : Hp} {a : Addr} {o : HO} (h : nl H a = some o) : H a = some o ∧ isL o = false := by
  unfold nl at h
  cases q : H a with
  | none => rw [q] at h; cases h
  | some u =>
    rw [q] at h
    dsimp only at h
    cases z : isL u with
    | true => rw [z, if_pos rfl] at h; cases h
    | false => rw [z, if_neg (by decide)] at h; cases h; exact ⟨rfl, z⟩
theorem nl_lst {H : Hp} {a : Addr} {xs : List V} (h : H a = some (.lst xs)) : nl H a = none := by
  unfold nl; rw [h]; rfl
mutual
theorem Rp.nl {K : PySem.W.Frag} {H : Hp} : ∀ (d : PyData) (v : V), lf d = true → Rp K H v d → Rp K (nl H) v d
  | .none, _, _, h => by cases h; exact .non
  | .bool b, _, _, h => by cases h; exact .bl b
  | .int i, _, _, h => by cases h; exact .int i
  | .str x, _, _, h => by cases h; exact .str x
  | .tuple ds, _, p, h => by
    have p' : lfAll ds = true := by simpa [lf] using p
    cases h with
    | tup a b =>
      refine .tup ?_ (RpAll.nl ds _ p' b)
      rcases a with ⟨o, a, od⟩ | a
      · exact .inl ⟨o, nl_of a rfl, od⟩
      · exact .inr a
  | .list _, _, p, _ => by simp [lf] at p
  | .dict _, _, p, _ => by simp [lf] at p
theorem RpAll.nl {K : PySem.W.Frag} {H : Hp} : ∀ (ds : List PyData) (vs : List V), lfAll ds = true → RpAll K H vs ds → RpAll K (nl H) vs ds
  | [], _, _, h => by cases h; exact .nil
  | d :: ds, _, p, h => by
    have p' : lf d = true ∧ lfAll ds = true := by simpa [lfAll] using p
    cases h with
    | cons a b => exact .cons (Rp.nl d _ p'.1 a) (RpAll.nl ds _ p'.2 b)
end

/-! ### the facts -/
def DeepS (Hf : Hp) (v : V) : Prop := ∃ (p : Addr) (as : List Addr), v = .ref p ∧ Hf p = some (.lst (as.map V.ref)) ∧ p ∉ as ∧ as.Nodup ∧ ∀ a ∈ as, ∃ xs, Hf a = some (.lst xs)
/-- what a law's return asks: a truth, whatever the heap -/
abbrev LawR : Hp → Hp → (V → Hp → Prop) → PyData → Prop := fun _ _ rt d => ∃ b, d = .bool b ∧ ∀ H, rt (.bl b) H
def js (K : PySem.W.Frag) (f : Nat) : JK K where
  fs := [f]
  noEx := true
  J := fun _ σ H Hf => ∃ v, σ[f]? = some (some v) ∧ DeepS Hf v
  R := LawR
  ext := fun ⟨v, a, p, as, b1, b2, b3, b4, b5⟩ x => ⟨v, a, p, as, b1, x.sf _ _ b2, b3, b4, fun a ha => (b5 a ha).imp fun xs q => x.sf _ _ q⟩
  slot := fun h ⟨v, a, b⟩ => ⟨v, (h f (by simp)).trans a, b⟩
  base := fun _ r => r
/-- found and its copy -/
structure Two2 (σ : St) (Hf : Hp) (f g : Nat) (p : Addr) (as : List Addr) (D : Addr) (bs : List Addr) : Prop where
  sf : σ[f]? = some (some (.ref p))
  sg : σ[g]? = some (some (.ref D))
  hp : Hf p = some (.lst (as.map V.ref))
  hD : Hf D = some (.lst (bs.map V.ref))
  nd : as.Nodup
  pa : p ∉ as
  Dp : D ≠ p
  Da : D ∉ as
  pb : p ∉ bs
  Db : D ∉ bs
  ba : ∀ b ∈ bs, b ∉ as
  ha : ∀ a ∈ as, ∃ xs, Hf a = some (.lst xs)
  hb : ∀ b ∈ bs, ∃ xs, Hf b = some (.lst xs)
def js2 (K : PySem.W.Frag) (f g : Nat) : JK K where
  fs := [f, g]
  noEx := true
  J := fun _ σ H Hf => ∃ p as D bs, Two2 σ Hf f g p as D bs
  R := LawR
  ext := fun ⟨p, as, D, bs, t⟩ x => ⟨p, as, D, bs, t.sf, t.sg, x.sf _ _ t.hp, x.sf _ _ t.hD, t.nd, t.pa, t.Dp, t.Da, t.pb, t.Db, t.ba, fun a ha => (t.ha a ha).imp fun xs q => x.sf _ _ q, fun a ha => (t.hb a ha).imp fun xs q => x.sf _ _ q⟩
  slot := fun h ⟨p, as, D, bs, t⟩ => ⟨p, as, D, bs, (h f (by simp)).trans t.sf, (h g (by simp)).trans t.sg, t.hp, t.hD, t.nd, t.pa, t.Dp, t.Da, t.pb, t.Db, t.ba, t.ha, t.hb⟩
  base := fun _ r => r
theorem lawRt {K : PySem.W.Frag} {H0 Hf0 : Hp} {rt : V → Hp → Prop} {d : PyData} (r : LawR H0 Hf0 rt d) (v : V) (H Hf : Hp) (x : Ext H0 Hf0 H Hf) (rp : Rp K Hf v d) : rt v H := by
  obtain ⟨b, rfl, q⟩ := r
  cases rp
  exact q H
theorem js_rt {K : PySem.W.Frag} {f : Nat} : RtOk (js K f) := fun _ _ _ _ r v H Hf x rp => lawRt r v H Hf x rp
theorem js2_rt {K : PySem.W.Frag} {f g : Nat} : RtOk (js2 K f g) := fun _ _ _ _ r v H Hf x rp => lawRt r v H Hf x rp
theorem PS.lenI {X : Cx} {st : Stmt} {t : TS} (h : PS X st t) : PS X st (fun D σ H => σ.length = X.N.length ∧ (∀ a xs, H a = some (.lst xs) → xs.length ≤ sizeLine) → t D σ H) := ⟨fun pins s σ H D I q => h.run pins s σ H D I (q ⟨I.len, fun a xs e => by obtain ⟨z, _⟩ := I.lstM e; exact z⟩)⟩
section
variable {ec : EC} {X : Cx} {W : WX} {O O1 O' : List Nat} {e a b tg : Expr} {es : List Expr} {st : Stmt} {sts : List Stmt} {f fa fb : DEnv → R PyData} {g h : DEnv → Fl} {pos : Pos}
/-- x = e, e a list of new lists -/
theorem dp_deep {i : Nat} {x : Str} {pos' : Pos} (hN : X.N.Nodup) (he : DD ec X W O e f) (hO : (O' == O.filter fun j => j != i) = true := by rfl) (hi : X.N[i]? = some x := by rfl) (hx : Loc X.env.scope x := by first | exact Or.inl rfl | exact Or.inr rfl)
    (hs : swapsWith e (some (.Name x pos')) pos.line X.env = pure false := by rfl) (hf : X.fn x = true ∨ X.env.scope.names.lookup x = some .local := by first | exact .inl rfl | exact .inr rfl) :
    DP ec X W (js X.K i) O O' (.Assign [.Name x pos'] e pos) (sSet i f) :=
  PS.imp (PS.lenI (ps_set (i := i) hN hi hx he hs hf)) fun D σ H ⟨H0, Hf0, Hf, η, S, p⟩ ⟨hl, _⟩ => ⟨H0, Hf0, Hf, η, S, (PostJ.exprI S p).imp fun v H1 ⟨Hf1, d, _, x1, ⟨r1, q, as, a1, a2, a3, a4, a5, a6⟩, p1⟩ => by
    have hO : O' = O.filter fun j => j != i := eq_of_beq hO
    subst hO
    have hli : i < σ.length := by rw [hl]; exact (List.getElem?_eq_some_iff.mp hi).1
    exact p1 _ H1 Hf1 ((S.step x1).setV r1 (fun j hj => by simpa using hj) (fun j hj hn => by simp [hj, hn])) ⟨v, List.getElem?_set_self hli, q, as, a1, a3, a4, a5, fun a ha => (a6 a ha).2⟩⟩

/-! ### y = [list(z) for z in x] -/
def tCopy (K : PySem.W.Frag) (i : Nat) : TE := fun σ H Q => ∃ a xs, σ[i]? = some (some (.ref a)) ∧ SqL K H a xs ∧ ∀ q, H q = none → Q (.ref q) (upd H q (.lst xs))
theorem pe_copy {i : Nat} {x : Str} {p p0 : Pos} (hm : X.mg "list" = none) (hg : Gl X "list" := by rfl) (hN : X.N[i]? = some x := by rfl) (hv : Vis X.env.scope x := by first | exact Or.inl rfl | exact Or.inr (Or.inl rfl))
    (hd : (x == ("__debug__" : Str)) = false := by decide) (hcd : (x == ("__classdict__" : Str)) = false := by decide) (hb : bootBuiltins "list" = some (.type "list") := by rfl)
    (hs : starEach [.Name x p0] X.env = (false, eval (.Name x p0) X.env) :: starEach [] X.env := by rfl) : PE X (.Call (.Name "list" p) [.Name x p0] [] pos) (tCopy X.K i) :=
  PE.imp (pe_callTy call_list_of hg hm hb (pa_cons (pe_var hN hv hd hcd) pa_nil hs) (he := hs)) fun σ H Q ⟨a, xs, h1, h2, h3⟩ => ⟨.ref a, h1, a, xs, rfl, .inl h2, h3⟩
theorem pi_lstOf {te : TE} (h : PE X e te) : PI X tg e (fun σ H R => te σ H fun x H1 => ∃ a xs, x = .ref a ∧ SqL X.K H1 a xs ∧ R (Itl X.K a) H1) := by
  refine ⟨fun pins s σ H R I q => ?_⟩
  refine thn (h.run pins s σ H _ I q) fun v s1 ⟨x, H1, I1, r1, a, xs, ex, hq, p1⟩ => ?_
  subst ex
  cases r1
  obtain ⟨its, rv, pl, hz⟩ := I1.list hq
  exact wpAny_pyIter_list pl.isList (pi_one (tk := s1.toks) I1 _ (turn_list a _) ⟨_, Heap.get?_push_size _ rfl, rfl, rfl⟩ p1)
def sKeep (f g : Nat) : DEnv → Fl := fun η => match listAt η f with
  | some ds => if ds.all (fun d => match d with | .list _ => true | _ => false) then .nx (η.set g (some (.list ds))) else .bad
  | none => .bad
/-- what the comprehension has made by the turn i -/
def CopyAt (H1 : Hp) (D : Addr) (ct : List (List V)) (i : Nat) (H' : Hp) : Prop :=
  ∃ bs : List Addr, bs.length = i ∧ Same H1 H' ∧ H' D = some (.lst (bs.map V.ref)) ∧ ∀ (j : Nat) (b : Addr), bs[j]? = some b → H1 b = none ∧ b ≠ D ∧ ∃ xs, ct[j]? = some xs ∧ H' b = some (.lst xs)
theorem copy_read {K : PySem.W.Frag} {f iv : Nat} {vs : List Nat} {σ : St} {H : Hp} {p : Addr} {as : List Addr} {ct : List (List V)} {Q : VK} (hf : σ[f]? = some (some (.ref p))) (hp : H p = some (.lst (as.map V.ref)))
    (hl : ct.length = as.length) (hc : ∀ (j : Nat) (a : Addr) (xs : List V), as[j]? = some a → ct[j]? = some xs → H a = some (.lst xs)) (hiv : iv < σ.length) (hz : as.length ≤ sizeLine) (hvs : vs = [iv])
    (q : ∀ D H', H D = none → CopyAt H D ct as.length H' → Q (.ref D) H') :
    tLc (fun σ H R => tVar f σ H fun x H1 => ∃ a xs, x = .ref a ∧ SqL K H1 a xs ∧ R (Itl K a) H1) (gName iv) tYes (tCopy K iv) vs σ H Q := by
  refine ⟨.ref p, hf, p, _, rfl, .inl (.of hp), fun D nD => ?_⟩
  have hDp : D ≠ p := fun z => by rw [z, hp] at nD; cases nD
  refine ⟨fun i m H' => m = as.length - i ∧ i ≤ as.length ∧ CopyAt H D ct i H', ⟨as.length, by simp, Nat.zero_le _, [], rfl, fun b o e => by rw [upd_ne (ne_of_none e nD)]; exact e, upd_same, fun j b z => by simp at z⟩, ?_⟩
  rintro i m H' ⟨rfl, hi, C⟩
  obtain ⟨bs, b1, b2, b3, b4⟩ := id C
  have hp' : SqL K H' p (as.map V.ref) := .inl (.of (b2 _ _ hp))
  by_cases hlt : i < as.length
  · refine .inr ⟨⟨_, .ref as[i], hp', by rw [List.getElem?_map, List.getElem?_eq_getElem hlt]; rfl⟩, fun H'' => CopyAt H D ct (i + 1) H'', fun H'' c => ⟨as.length - (i + 1), by omega, rfl, hlt, c⟩, fun x H'' y => ?_⟩
    obtain ⟨rfl, y⟩ := y
    have ex := y _ hp'
    rw [List.getElem?_map, List.getElem?_eq_getElem hlt] at ex
    cases ex
    subst hvs
    have hli : i < ct.length := by omega
    have hct : ct[i]? = some ct[i] := List.getElem?_eq_getElem hli
    have hH' := b2 _ _ (hc i as[i] ct[i] (List.getElem?_eq_getElem hlt) hct)
    have hlw : iv < (L2.wipe σ [iv]).length := by rw [wipe_length]; exact hiv
    refine ⟨(wipe_congr (List.length_set ..) fun k hk => List.getElem?_set_ne (fun z : iv = k => hk (by rw [z]; exact List.mem_singleton.mpr rfl))).trans (wipe_wipe σ [iv]), ?_⟩
    refine Eq.mpr (if_pos (e := CopyAt H D ct (i + 1) H'') (rfl : true = true)) ?_
    refine ⟨as[i], ct[i], List.getElem?_set_self hlw, .inl (.of hH'), fun b nb => ⟨bs.map V.ref, ?_, by rw [List.length_map, b1]; omega, bs ++ [b], by rw [List.length_append, b1]; rfl, fun x o e => ?_, ?_, fun j b' hb' => ?_⟩⟩
    · rw [upd_ne (fun z => by rw [← z, b3] at nb; cases nb)]
      exact b3
    · have e' := b2 _ _ e
      rw [upd_ne (ne_of_none e nD), upd_ne (ne_of_none e' nb)]
      exact e'
    · rw [upd_same, List.map_append]; rfl
    · have hbD : b ≠ D := fun z => by rw [z, b3] at nb; cases nb
      by_cases hj : j < bs.length
      · rw [List.getElem?_append_left hj] at hb'
        obtain ⟨c1, c2, xs, c3, c4⟩ := b4 j b' hb'
        exact ⟨c1, c2, xs, c3, by rw [upd_ne c2, upd_ne (ne_of_none c4 nb)]; exact c4⟩
      · rw [List.getElem?_append_right (by omega)] at hb'
        have hj0 : j - bs.length = 0 := by
          rcases Nat.eq_zero_or_pos (j - bs.length) with z | z
          · exact z
          · rw [List.getElem?_eq_none (by rw [List.length_singleton]; omega)] at hb'; cases hb'
        rw [hj0] at hb'
        cases hb'
        have ej : j = i := by omega
        subst ej
        exact ⟨b2.free nb, hbD, ct[j], hct, by rw [upd_ne hbD, upd_same]⟩
  · have ei : i = as.length := by omega
    subst ei
    exact .inl ⟨⟨_, hp', by rw [List.length_map]; exact Nat.le_refl _⟩, q D H' nD C⟩
/-- ahead: the list of new lists; behind: it and its copy -/
def DK (ec : EC) (X : Cx) (W : WX) (f g : Nat) (O O' : List Nat) (st : Stmt) (h : DEnv → Fl) : Prop :=
  PS X st (fun D σ H => ∃ H0 Hf0 Hf η, SR X.K H0 Hf0 O η σ H Hf ∧ (js X.K f).J H0 σ H Hf ∧ PostJ ec X.K W (js2 X.K f g) H0 Hf0 O' D (h η))
/-- whatever the base -/
def tSF (ec : EC) (K : PySem.W.Frag) (W : WX) (Q : JK K) (O O' : List Nat) (g : DEnv → Fl) : TS := fun D σ H => ∃ H0 Hf0 Hf η, SR K H0 Hf0 O η σ H Hf ∧ Q.J H0 σ H Hf ∧ ∀ A B, PostJ ec K W Q A B O' D (g η)
def DF (ec : EC) (X : Cx) (W : WX) (Q : JK X.K) (O O' : List Nat) (st : Stmt) (g : DEnv → Fl) : Prop := PS X st (tSF ec X.K W Q O O' g)
def DFs (ec : EC) (X : Cx) (W : WX) (Q : JK X.K) (O O' : List Nat) (st : List Stmt) (g : DEnv → Fl) : Prop := PSs X st (tSF ec X.K W Q O O' g)
theorem DJ.free {Q : JK X.K} (h : DJ ec X W Q O O' st g) : DF ec X W Q O O' st g := PS.imp h fun D σ H ⟨H0, Hf0, Hf, η, S, j, p⟩ => ⟨H0, Hf0, Hf, η, S, j, p H0 Hf0⟩
theorem dfs_cons {Q : JK X.K} {h : DEnv → Fl} (h1 : DF ec X W Q O O1 st g) (h2 : DFs ec X W Q O1 O' sts h) : DFs ec X W Q O O' (st :: sts) (sSeq g h) := PSs.imp (pss_cons h1 h2) fun D σ H ⟨H0, Hf0, Hf, η, S, j, p⟩ => by
  refine ⟨H0, Hf0, Hf, η, S, j, fun A B => ?_⟩
  unfold sSeq at p
  cases q : g η with
  | nx η' => rw [q] at p; exact fun σ' H' Hf' S' j' => ⟨A, B, Hf', η', S', j', p⟩
  | rt d => rw [q] at p; exact p A B
  | ex c f η' => rw [q] at p; exact p A B
  | bad => rw [q] at p; exact p A B
theorem dfs_one {Q : JK X.K} (h1 : DF ec X W Q O O' st g) : DFs ec X W Q O O' [st] g := pss_one h1
theorem PostJ.two {f g : Nat} {H0 Hf0 : Hp} {D : Ends} {x : Fl} (nn : ∀ η, x ≠ .nx η) (p : PostJ ec X.K W (js X.K f) H0 Hf0 O' D x) (A B : Hp) : PostJ ec X.K W (js2 X.K f g) A B O' D x := by
  cases x with
  | nx η => exact absurd rfl (nn η)
  | rt d => exact p
  | ex c f η => exact Bool.noConfusion p.1
  | bad => exact p
theorem djs_keep {f g : Nat} {h1 h2 : DEnv → Fl} (a : DK ec X W f g O O1 st h1) (nn : NoNx h2) (b : DFs ec X W (js2 X.K f g) O1 O' sts h2) : DJs ec X W (js X.K f) O O' (st :: sts) (sSeq h1 h2) := PSs.imp (pss_cons a b) fun D σ H ⟨H0, Hf0, Hf, η, S, j, p⟩ => by
  refine ⟨H0, Hf0, Hf, η, S, j, ?_⟩
  unfold sSeq at p
  cases q : h1 η with
  | nx η' => rw [q] at p; exact fun σ' H' Hf' S' j' => ⟨H0, Hf0, Hf', η', S', j', PostJ.two (nn η') p⟩
  | rt d => rw [q] at p; exact p
  | ex c f η' => rw [q] at p; exact Bool.noConfusion p.1
  | bad => rw [q] at p; exact p
theorem Rp.lst_at {K : PySem.W.Frag} {H : Hp} {a : Addr} {xs : List V} {ds : List PyData} (r : Rp K H (.ref a) (.list ds)) (h : H a = some (.lst xs)) : RpAll K H xs ds := by
  obtain ⟨a', xs', e, h1, r1⟩ := r.list_rd
  cases e
  rcases h1 with h1 | ⟨o, h1⟩
  · rw [h] at h1; cases h1; exact r1
  · rw [h] at h1; cases h1
theorem dk_keep {f g iv : Nat} {x y z : Str} {p1 p2 p3 py lpos spos tp : Pos} {scope : Scope} (hc : X.calm = true) (hN : X.N.Nodup) (hm : X.mg "list" = none) (hfO : f ∉ O) (hgO : g ∉ O) (hfg : f ≠ g)
    (hf : X.N[f]? = some x) (hy : X.N[g]? = some y) (hiv : X.N[iv]? = some z) (hyl : X.env.scope.names.lookup y = some .local)
    (hsw : swapsWith (.ListComp (.Call (.Name "list" p1) [.Name z p2] [] lpos) [⟨.Name z tp, .Name x p3, [], 0⟩] scope pos) (some (.Name y py)) spos.line X.env = pure true)
    (ok : BlkOk X.N X.env.scope scope [(z, iv)])
    (hg : ∀ (s : Shared) (H : Hp) (C : Addr) (cl : List (Str × Addr)) (fp : List Addr), PG (X.blk s H scope (compEnvC scope cl C X.env) fp) (.Name z tp) (gName iv))
    (he : ∀ (s : Shared) (H : Hp) (C : Addr) (cl : List (Str × Addr)) (fp : List Addr), PE (X.blk s H scope (compEnvC scope cl C X.env) fp) (.Call (.Name "list" p1) [.Name z p2] [] lpos) (tCopy X.K iv))
    (hv : Vis X.env.scope x := by first | exact Or.inl rfl | exact Or.inr (Or.inl rfl))
    (hd : (x == ("__debug__" : Str)) = false := by decide) (hcd : (x == ("__classdict__" : Str)) = false := by decide)
    (hs : ∀ w, foldedSetIterable (.Name x p3) X.env w = pure w := by intro _; rfl) :
    DK ec X W f g O O (.Assign [.Name y py] (.ListComp (.Call (.Name "list" p1) [.Name z p2] [] lpos) [⟨.Name z tp, .Name x p3, [], 0⟩] scope pos) spos) (sKeep f g) := by
  refine PS.imp (PS.lenI (ps_setLc hc hN hy hyl hsw (pi_lstOf (pe_var hf hv hd hcd)) ok hg (fun _ _ _ _ _ => pts_nil) he hs)) fun D σ H ⟨H0, Hf0, Hf, η, S, j, p⟩ ⟨hl, hll⟩ => ?_
  obtain ⟨v, ev, P, as, rfl, a1, a2, a3, a4⟩ := j
  unfold sKeep at p
  cases q : listAt η f with
  | none => rw [q] at p; exact p.elim
  | some ds =>
    rw [q] at p
    dsimp only at p
    by_cases hall : ds.all (fun d => match d with | .list _ => true | _ => false) = true
    case neg => rw [if_neg hall] at p; exact p.elim
    rw [if_pos hall] at p
    have hlg : g < σ.length := by rw [hl]; exact (List.getElem?_eq_some_iff.mp hy).1
    have hliv : iv < σ.length := by rw [hl]; exact (List.getElem?_eq_some_iff.mp hiv).1
    obtain ⟨v', e', r⟩ := S.val f _ hfO (listAt_of q)
    rw [ev] at e'; cases e'
    have ra := r.lst_at a1
    -- the lists' contents
    have cts : ∃ ct : List (List V), ct.length = as.length ∧ ∀ (j : Nat) (a : Addr) (xs : List V), as[j]? = some a → ct[j]? = some xs → Hf a = some (.lst xs) := by
      clear ra r a1 a2 a3 ev S
      induction as with
      | nil => exact ⟨[], rfl, fun j a xs h => by simp at h⟩
      | cons a as ih =>
        obtain ⟨ct, c1, c2⟩ := ih fun b hb => a4 b (List.mem_cons_of_mem _ hb)
        obtain ⟨xs, hx⟩ := a4 a List.mem_cons_self
        refine ⟨xs :: ct, by rw [List.length_cons, c1]; rfl, fun j b ys h1 h2 => ?_⟩
        cases j with
        | zero => cases h1; cases h2; exact hx
        | succ j => exact c2 j b ys h1 h2
    obtain ⟨ct, c1, c2⟩ := cts
    have hsz : as.length ≤ sizeLine := by have := hll _ _ (S.sub _ _ a1); rwa [List.length_map] at this
    refine copy_read (f := f) (ct := ct) ev (S.sub _ _ a1) c1 (fun j a xs h1 h2 => S.sub _ _ (c2 j a xs h1 h2)) hliv hsz rfl fun L H' nL C => ?_
    obtain ⟨bs, b1, b2, b3, b4⟩ := C
    have hLp : L ≠ P := fun z => by rw [z, S.sub _ _ a1] at nL; cases nL
    let Hf' : Hp := fun w => if w = L ∨ w ∈ bs then H' w else Hf w
    have bn : ∀ b ∈ bs, H b = none := fun b hb => by
      obtain ⟨j, hj, rfl⟩ := List.getElem_of_mem hb
      exact (b4 j _ (List.getElem?_eq_getElem hj)).1
    have sf : Same Hf Hf' := fun w o e => by
      show (if w = L ∨ w ∈ bs then H' w else Hf w) = some o
      split
      · exact b2 _ _ (S.sub _ _ e)
      · exact e
    have sub : Same Hf' H' := fun w o e => by
      have e : (if w = L ∨ w ∈ bs then H' w else Hf w) = some o := e
      split at e
      · exact e
      · exact b2 _ _ (S.sub _ _ e)
    have x1 : Ext H Hf H' Hf' := ⟨b2, sf, sub, fun w o e => by
      have e : (if w = L ∨ w ∈ bs then H' w else Hf w) = some o := e
      split at e
      · rename_i z
        rcases z with z | z
        · rw [z]; exact .inr nL
        · exact .inr (bn w z)
      · exact .inl e⟩
    have hbl : bs.length = ds.length := by rw [b1]; have := ra.length; rw [List.length_map] at this; exact this
    have fL : Hf' L = some (.lst (bs.map V.ref)) := by show (if L = L ∨ L ∈ bs then H' L else Hf L) = _; rw [if_pos (.inl rfl)]; exact b3
    have fb : ∀ b ∈ bs, Hf' b = H' b := fun b hb => by show (if b = L ∨ b ∈ bs then H' b else Hf b) = _; rw [if_pos (.inr hb)]
    have rb : RpAll X.K Hf' (bs.map V.ref) ds := by
      have go : ∀ (k : Nat), k ≤ bs.length → RpAll X.K Hf' ((bs.take k).map V.ref) (ds.take k) := by
        intro k
        induction k with
        | zero => exact fun _ => .nil
        | succ k ih =>
          intro hk
          have hkb : k < bs.length := hk
          have hkd : k < ds.length := by omega
          have hka : k < as.length := by omega
          have ih := ih (by omega)
          rw [List.take_succ, List.take_succ, List.getElem?_eq_getElem hkb, List.getElem?_eq_getElem hkd]
          have hd' := List.all_eq_true.mp hall _ (List.getElem_mem hkd)
          obtain ⟨c, cc, xs, cx, cH⟩ := b4 k _ (List.getElem?_eq_getElem hkb)
          obtain ⟨vk, e1, e2⟩ := ra.get (List.getElem?_eq_getElem hkd)
          rw [List.getElem?_map, List.getElem?_eq_getElem hka] at e1
          cases e1
          have hfa := c2 k _ xs (List.getElem?_eq_getElem hka) cx
          cases hdk : ds[k] with
          | list ys =>
            rw [hdk] at e2
            have r3 := e2.lst_at hfa
            rw [List.map_append, Option.toList, Option.toList]
            exact RpAll.append ih (.cons (.lst (.of (by rw [fb _ (List.getElem_mem hkb)]; exact cH)) (r3.mono sf)) .nil)
          | _ => rw [hdk] at hd'; cases hd'
      have := go bs.length (Nat.le_refl _)
      rwa [List.take_length, hbl, List.take_length] at this
    have S2 := (S.step x1).setV (O' := O) (i := g) (v := .ref L) (d := .list ds) (.lst (.of fL) rb) (fun j hj => ⟨hj, fun z => hgO (z ▸ hj)⟩) (fun j hj _ => hj)
    refine p _ _ Hf' S2 ⟨P, as, L, bs, ?_, List.getElem?_set_self hlg, sf _ _ a1, fL, a3, a2, hLp, fun z => ?_, fun z => ?_, fun z => ?_, fun b hb z => ?_, fun a ha => (a4 a ha).imp fun xs q => sf _ _ q, fun b hb => ?_⟩
    · rw [List.getElem?_set_ne (Ne.symm hfg)]; exact ev
    · obtain ⟨xs, q⟩ := a4 L z
      rw [S.sub _ _ q] at nL; cases nL
    · have := bn P z
      rw [S.sub _ _ a1] at this; cases this
    · obtain ⟨j, hj, e⟩ := List.getElem_of_mem z
      exact (b4 j _ (List.getElem?_eq_getElem hj)).2.1 e
    · obtain ⟨xs, q⟩ := a4 b z
      have := bn b hb
      rw [S.sub _ _ q] at this; cases this
    · rw [fb b hb]
      obtain ⟨j, hj, rfl⟩ := List.getElem_of_mem hb
      obtain ⟨_, _, xs, _, cH⟩ := b4 j _ (List.getElem?_eq_getElem hj)
      exact ⟨xs, cH⟩
end
end DL
end

section
set_option Elab.async false
set_option linter.all false
set_option maxRecDepth 100000
set_option maxHeartbeats 4000000
/-! A list within a list is changed, at a law's end. -/
namespace DL
open PySem PySem.Spec PyProof.Rows L2
/-- all are lists of data without lists -/
def flatL (ds : List PyData) : Bool := ds.all fun d => match d with | .list ys => lfAll ys | _ => false
/-- what is kept: data without lists -/
def lfOnly (η : DEnv) : DEnv := η.map fun o => match o with
  | some d => if lf d then some d else none
  | none => none
def reD (η : DEnv) (f g : Nat) (ds es : List PyData) : DEnv := ((lfOnly η).set f (some (.list ds))).set g (some (.list es))
theorem lfOnly_get {η : DEnv} {i : Nat} {d : PyData} (h : (lfOnly η)[i]? = some (some d)) : η[i]? = some (some d) ∧ lf d = true := by
  unfold lfOnly at h
  rw [List.getElem?_map] at h
  cases q : η[i]? with
  | none => rw [q] at h; cases h
  | some o =>
    rw [q] at h
    cases o with
    | none => cases h
    | some d' =>
      have h : (if lf d' = true then some d' else none) = some d := Option.some.inj h
      by_cases z : lf d' = true
      · rw [if_pos z] at h; cases h; exact ⟨rfl, z⟩
      · rw [if_neg z] at h; cases h
theorem own_lf {K : PySem.W.Frag} {H Hf : Hp} {p : Addr} {d : PyData} (h : OwnAt K H Hf p d) : lf d = false := by
  rcases h with ⟨xs, ds', h, e, a⟩ | ⟨_, _, _, e, _⟩ | ⟨_, _, _, _, _, _, _, _, _, _, _, _, e, _⟩ <;> (subst e; simp [lf])
section
variable {K : PySem.W.Frag} {H0 Hf0 H Hf H2 : Hp} {O : List Nat} {η : DEnv} {σ : St} {f g : Nat} {p D : Addr} {as bs as' : List Addr} {ds es ds' : List PyData}
theorem rebuild (S : SR K H0 Hf0 O η σ H Hf) (T : Two2 σ Hf f g p as D bs) (hf : η[f]? = some (some (.list ds))) (hg : η[g]? = some (some (.list es))) (hfO : f ∉ O) (hgO : g ∉ O) (hfg : f ≠ g) (fe : flatL es = true)
    (k : ∀ x o, x ≠ p → x ∉ as → H x = some o → H2 x = some o) (hp : H2 p = some (.lst (as'.map V.ref))) (sub : ∀ a ∈ as, a ∈ as') (nd : as'.Nodup)
    (new : ∀ a ∈ as', a ∈ as ∨ Hf a = none) (hl : as'.length = ds'.length)
    (ct : ∀ (j : Nat) (a : Addr) (d : PyData), as'[j]? = some a → ds'[j]? = some d → ∃ xs ys, d = .list ys ∧ H2 a = some (.lst xs) ∧ RpAll K (nl Hf) xs ys) :
    ∃ Hf2, SR K H2 Hf2 [] (reD η f g ds' es) σ H2 Hf2 ∧ Two2 σ Hf2 f g p as' D bs := by
  classical
  have hD := T.hD
  have pn : p ∉ as' := fun z => by
    rcases new p z with q | q
    · exact T.pa q
    · rw [T.hp] at q; cases q
  have Dn : D ∉ as' := fun z => by
    rcases new D z with q | q
    · exact T.Da q
    · rw [hD] at q; cases q
  have bn : ∀ b ∈ bs, b ∉ as' := fun b hb z => by
    rcases new b z with q | q
    · exact T.ba b hb q
    · obtain ⟨xs, e⟩ := T.hb b hb
      rw [e] at q; cases q
  have bp : ∀ b ∈ bs, b ≠ p := fun b hb z => T.pb (z ▸ hb)
  have ba : ∀ b ∈ bs, b ∉ as := T.ba
  let C : Addr → Prop := fun x => x = p ∨ x ∈ as' ∨ x = D ∨ x ∈ bs
  let Hf2 : Hp := fun x => if C x then H2 x else nl Hf x
  have inC : ∀ {x}, C x → Hf2 x = H2 x := fun {x} h => if_pos h
  have lstC : ∀ x, C x → nl Hf x = none := fun x h => by
    rcases h with h | h | h | h
    · rw [h]; exact nl_lst T.hp
    · rcases new x h with q | q
      · obtain ⟨xs, e⟩ := T.ha x q; exact nl_lst e
      · unfold nl; rw [q]
    · rw [h]; exact nl_lst hD
    · obtain ⟨xs, e⟩ := T.hb x h; exact nl_lst e
  have s1 : Same (nl Hf) Hf2 := fun x o e => by
    show (if C x then H2 x else nl Hf x) = some o
    rw [if_neg (fun h => by rw [lstC x h] at e; cases e)]
    exact e
  have s2 : Same Hf2 H2 := fun x o e => by
    have e : (if C x then H2 x else nl Hf x) = some o := e
    split at e
    · exact e
    · rename_i h
      obtain ⟨q, _⟩ := nl_some e
      exact k x o (fun z => h (.inl z)) (fun z => h (.inr (.inl (sub x z)))) (S.sub _ _ q)
  have fD : Hf2 D = some (.lst (bs.map V.ref)) := by
    rw [inC (.inr (.inr (.inl rfl)))]
    exact k D _ T.Dp T.Da (S.sub _ _ hD)
  have fp : Hf2 p = some (.lst (as'.map V.ref)) := by rw [inC (.inl rfl)]; exact hp
  have fb : ∀ b ∈ bs, ∀ xs, Hf b = some (.lst xs) → Hf2 b = some (.lst xs) := fun b hb xs e => by
    rw [inC (.inr (.inr (.inr hb)))]
    exact k b _ (bp b hb) (ba b hb) (S.sub _ _ e)
  -- the copy's data
  have re : RpAll K Hf2 (bs.map V.ref) es := by
    obtain ⟨v, e1, r⟩ := S.val g _ hgO hg
    rw [T.sg] at e1; cases e1
    have ra := r.lst_at hD
    have fe' : ∀ d ∈ es, (match d with | .list ys => lfAll ys | _ => false) = true := List.all_eq_true.mp fe
    have go : ∀ (bs : List Addr) (es : List PyData), (∀ b ∈ bs, ∃ xs, Hf b = some (.lst xs)) → (∀ b ∈ bs, ∀ xs, Hf b = some (.lst xs) → Hf2 b = some (.lst xs)) → (∀ d ∈ es, (match d with | .list ys => lfAll ys | _ => false) = true) → RpAll K Hf (bs.map V.ref) es → RpAll K Hf2 (bs.map V.ref) es := by
      intro bs
      induction bs with
      | nil => intro es _ _ _ r; cases r; exact .nil
      | cons b bs ih =>
        intro es h1 h2 h3 r
        cases r with
        | @cons v vs d ds r rs =>
          refine .cons ?_ (ih _ (fun b hb => h1 b (List.mem_cons_of_mem _ hb)) (fun b hb => h2 b (List.mem_cons_of_mem _ hb)) (fun d hd => h3 d (List.mem_cons_of_mem _ hd)) rs)
          obtain ⟨xs, e⟩ := h1 b List.mem_cons_self
          have hd := h3 d List.mem_cons_self
          cases d with
          | list ys => exact .lst (.of (h2 b List.mem_cons_self xs e)) ((RpAll.nl ys _ hd (r.lst_at e)).mono s1)
          | _ => cases hd
    exact go bs es T.hb fb fe' ra
  have rd : RpAll K Hf2 (as'.map V.ref) ds' := by
    have go : ∀ (as' : List Addr) (ds' : List PyData), as'.length = ds'.length → (∀ a ∈ as', C a) → (∀ (j : Nat) (a : Addr) (d : PyData), as'[j]? = some a → ds'[j]? = some d → ∃ xs ys, d = .list ys ∧ H2 a = some (.lst xs) ∧ RpAll K (nl Hf) xs ys) → RpAll K Hf2 (as'.map V.ref) ds' := by
      intro as'
      induction as' with
      | nil => intro ds' h _ _; cases ds' with
        | nil => exact .nil
        | cons d ds => cases h
      | cons a as ih =>
        intro ds' h c ct
        cases ds' with
        | nil => cases h
        | cons d ds =>
          obtain ⟨xs, ys, rfl, e, r⟩ := ct 0 a d rfl rfl
          refine .cons (.lst (.of (by rw [inC (c a List.mem_cons_self)]; exact e)) (r.mono s1)) (ih ds (by simpa using h) (fun a ha => c a (List.mem_cons_of_mem _ ha)) fun j a d h1 h2 => ct (j + 1) a d h1 h2)
    exact go as' ds' hl (fun a ha => .inr (.inl ha)) ct
  have hlf : f < η.length := (List.getElem?_eq_some_iff.mp hf).1
  have hlg : g < η.length := (List.getElem?_eq_some_iff.mp hg).1
  have hll : (lfOnly η).length = η.length := by unfold lfOnly; rw [List.length_map]
  refine ⟨Hf2, ⟨by unfold reD; rw [List.length_set, List.length_set, hll]; exact S.len, Ext.refl s2, fun i d _ e => ?_, fun i d h => absurd h List.not_mem_nil, fun i j d d' q h => absurd h List.not_mem_nil⟩, T.sf, T.sg, fp, fD, nd, pn, T.Dp, Dn, T.pb, T.Db, bn, fun a ha => ?_, fun b hb => ?_⟩
  · unfold reD at e
    by_cases h1 : g = i
    · subst h1
      rw [List.getElem?_set_self (by rw [List.length_set, hll]; exact hlg)] at e
      cases e
      exact ⟨_, T.sg, .lst (.of fD) re⟩
    · rw [List.getElem?_set_ne h1] at e
      by_cases h2 : f = i
      · subst h2
        rw [List.getElem?_set_self (by rw [hll]; exact hlf)] at e
        cases e
        exact ⟨_, T.sf, .lst (.of fp) rd⟩
      · rw [List.getElem?_set_ne h2] at e
        obtain ⟨e1, e2⟩ := lfOnly_get e
        by_cases h3 : i ∈ O
        · obtain ⟨q, _, _, _, o⟩ := S.own i d h3 e1
          rw [own_lf o] at e2; cases e2
        · obtain ⟨v, a, r⟩ := S.val i d h3 e1
          exact ⟨v, a, (Rp.nl d v e2 r).mono s1⟩
  · obtain ⟨j, hj, rfl⟩ := List.getElem_of_mem ha
    obtain ⟨xs, ys, _, e, _⟩ := ct j _ _ (List.getElem?_eq_getElem hj) (List.getElem?_eq_getElem (by omega))
    exact ⟨xs, by rw [inC (.inr (.inl ha))]; exact e⟩
  · obtain ⟨xs, e⟩ := T.hb b hb
    exact ⟨xs, fb b hb xs e⟩
end

/-! ### the statements -/
section
variable {ec : EC} {X : Cx} {W : WX} {O O' : List Nat} {e e2 : Expr} {fi fv : DEnv → R PyData} {pos : Pos}
/-- x[i].append(v) -/
def sInApp (f g : Nat) (fi fv : DEnv → R PyData) : DEnv → Fl := fun η => match listAt η f, listAt η g with
  | some ds, some es => (fi η).fl η fun di => match di with
    | .int k => match ixN ds.length k with
      | some m => match ds[m]? with
        | some (.list ys) => (fv η).fl η fun dv => if flatL ds && flatL es && lf dv && decide (ys.length < sizeLine) then .nx (reD η f g (ds.set m (.list (ys ++ [dv]))) es) else .bad
        | _ => .bad
      | none => .bad
    | _ => .bad
  | _, _ => .bad
/-- x[i].clear() -/
def sInClr (f g : Nat) (fi : DEnv → R PyData) : DEnv → Fl := fun η => match listAt η f, listAt η g with
  | some ds, some es => (fi η).fl η fun di => match di with
    | .int k => match ixN ds.length k with
      | some m => match ds[m]? with
        | some (.list _) => if flatL ds && flatL es then .nx (reD η f g (ds.set m (.list [])) es) else .bad
        | _ => .bad
      | none => .bad
    | _ => .bad
  | _, _ => .bad
/-- x.append([..]) -/
def sOutApp (f g : Nat) (fv : DEnv → R PyData) : DEnv → Fl := fun η => match listAt η f, listAt η g with
  | some ds, some es => (fv η).fl η fun dv => match dv with
    | .list ys => if flatL ds && flatL es && lfAll ys && decide (ds.length < sizeLine) then .nx (reD η f g (ds ++ [.list ys]) es) else .bad
    | _ => .bad
  | _, _ => .bad
theorem flat_at {ds : List PyData} (h : flatL ds = true) {j : Nat} {d : PyData} (e : ds[j]? = some d) : ∃ ys, d = .list ys ∧ lfAll ys = true := by
  have := List.all_eq_true.mp h d (List.mem_of_getElem? e)
  cases d with
  | list ys => exact ⟨ys, rfl, this⟩
  | _ => cases this
/-- what the lists hold, one put otherwise -/
theorem cts_set {K : PySem.W.Frag} {H Hf H2 : Hp} {as : List Addr} {ds : List PyData} {m : Nat} {a : Addr} {xs' : List V} {ys' : List PyData} (sub : Same Hf H) (ha : ∀ a ∈ as, ∃ xs, Hf a = some (.lst xs)) (nd : as.Nodup) (r : RpAll K Hf (as.map V.ref) ds) (fl : flatL ds = true)
    (hm : as[m]? = some a) (k : ∀ x o, x ≠ a → H x = some o → H2 x = some o) (h2 : H2 a = some (.lst xs')) (rn : RpAll K (nl Hf) xs' ys') (j : Nat) (b : Addr) (d : PyData) (hj : as[j]? = some b) (hd : (ds.set m (.list ys'))[j]? = some d) :
    ∃ xs ys, d = .list ys ∧ H2 b = some (.lst xs) ∧ RpAll K (nl Hf) xs ys := by
  by_cases hjm : m = j
  · subst hjm
    rw [hm] at hj; cases hj
    rw [List.getElem?_set_self (by
      have := (List.getElem?_eq_some_iff.mp hd).1
      rwa [List.length_set] at this)] at hd
    cases hd
    exact ⟨xs', ys', rfl, h2, rn⟩
  · rw [List.getElem?_set_ne hjm] at hd
    have hba : b ≠ a := fun z => by
      obtain ⟨l1, e1⟩ := List.getElem?_eq_some_iff.mp hj
      obtain ⟨l2, e2⟩ := List.getElem?_eq_some_iff.mp hm
      have pw := List.pairwise_iff_getElem.mp nd
      rcases Nat.lt_or_gt_of_ne hjm with c | c
      · exact pw m j l2 l1 c (by rw [e1, e2, z])
      · exact pw j m l1 l2 c (by rw [e1, e2, z])
    obtain ⟨ys, rfl, l⟩ := flat_at fl hd
    obtain ⟨v, e1, rv⟩ := r.get hd
    rw [List.getElem?_map, hj] at e1
    cases e1
    obtain ⟨xs, e⟩ := ha b (List.mem_of_getElem? hj)
    exact ⟨xs, ys, rfl, k b _ hba (sub _ _ e), RpAll.nl ys _ l (rv.lst_at e)⟩
theorem dj_inClr {f g : Nat} {x : Str} {p0 sp apos cpos : Pos} (hi : DE ec X W O e fi) (hfO : f ∉ O := by decide) (hgO : g ∉ O := by decide) (hfg : f ≠ g := by decide) (hix : PlainIx e := by exact fun _ _ => rfl) (hN : X.N[f]? = some x := by rfl) (hv : Vis X.env.scope x := by first | exact Or.inl rfl | exact Or.inr (Or.inl rfl))
    (hd : (x == ("__debug__" : Str)) = false := by decide) (hcd : (x == ("__classdict__" : Str)) = false := by decide)
    (hbase : attributeBase (.Subscript (.Name x p0) e sp) "clear" X.env (eval (.Subscript (.Name x p0) e sp) X.env) = eval (.Subscript (.Name x p0) e sp) X.env := by rfl) (hline : (apos.endLine == cpos.line) = true := by rfl)
    (hsw : swapsWith (.Call (.Attribute (.Subscript (.Name x p0) e sp) "clear" apos) [] [] cpos) none pos.line X.env = pure false := by rfl) :
    DF ec X W (js2 X.K f g) O [] (.Expr (.Call (.Attribute (.Subscript (.Name x p0) e sp) "clear" apos) [] [] cpos) pos) (sInClr f g fi) := by
  refine PS.imp (ps_expr (pe_bm0 PySem.F.plainAttrs_list PySem.F.slot_list_clear PySem.F.type_list_clear mt_clear (pe_ix ix_seq (pe_var hN hv hd hcd) hi hix) hbase hline) hsw) fun D σ H ⟨H0, Hf0, Hf, η, S, j, p⟩ => ?_
  unfold sInClr at p
  obtain ⟨P, as, L, bs, T⟩ := j
  cases q : listAt η f with
  | none => rw [q] at p; exact (p H0 Hf0).elim
  | some ds =>
    cases q' : listAt η g with
    | none => rw [q, q'] at p; exact (p H0 Hf0).elim
    | some es =>
      simp only [q, q'] at p
      refine ⟨.ref P, T.sf, H0, Hf0, Hf, η, S, (PostJ.exprI S (p H0 Hf0)).imp fun y H1 ⟨Hf1, dy, ey, x1, r1, _⟩ => ?_⟩
      rw [ey] at p
      simp only [R.fl_ok] at p
      have p1 := p
      have T1 : Two2 σ Hf1 f g P as L bs := ⟨T.sf, T.sg, x1.sf _ _ T.hp, x1.sf _ _ T.hD, T.nd, T.pa, T.Dp, T.Da, T.pb, T.Db, T.ba, fun a ha => (T.ha a ha).imp fun xs q => x1.sf _ _ q, fun a ha => (T.hb a ha).imp fun xs q => x1.sf _ _ q⟩
      have S1 := S.step x1
      cases r1 with
      | int k =>
        simp only at p1
        obtain ⟨v', e', rf⟩ := S1.val f _ hfO (listAt_of q)
        rw [T.sf] at e'; cases e'
        have rf := rf.lst_at T1.hp
        have lm := rf.length
        rw [List.length_map] at lm
        cases qk : ixN ds.length k with
        | none => simp only [qk] at p1; exact (p1 H0 Hf0).elim
        | some m =>
          simp only [qk] at p1
          obtain ⟨_, hm, _⟩ := ixN_seq qk
          have hma : m < as.length := by omega
          cases qm : ds[m]? with
          | none => simp only [qm] at p1; exact (p1 H0 Hf0).elim
          | some dm =>
            simp only [qm] at p1
            cases dm with
            | list ys =>
              simp only at p1
              by_cases hc : (flatL ds && flatL es) = true
              case neg => rw [if_neg hc] at p1; exact (p1 H0 Hf0).elim
              rw [if_pos hc] at p1
              rw [Bool.and_eq_true] at hc
              obtain ⟨xs, ex⟩ := T1.ha as[m] (List.getElem_mem hma)
              have eH := S1.sub _ _ ex
              refine .inl ⟨P, as.map V.ref, k, .ref as[m], rfl, rfl, .inl (.of (S1.sub _ _ T1.hp)), ?_, .inl ⟨rfl, xs, .of eH⟩, as[m], xs, rfl, rfl, eH, ?_⟩
              · unfold atI
                rw [List.length_map, lm, qk]
                show (as.map V.ref)[m]? = _
                rw [List.getElem?_map, List.getElem?_eq_getElem hma]; rfl
              · have hPa : P ≠ as[m] := fun z => T1.pa (by rw [z]; exact List.getElem_mem hma)
                obtain ⟨Hf2, S2, T2⟩ := rebuild (ds' := ds.set m (.list [])) (as' := as) (H2 := upd H1 as[m] (.lst [])) S1 T1 (listAt_of q) (listAt_of q') hfO hgO hfg hc.2 (fun x o c1 c2 e => by rw [upd_ne (fun z => c2 (by rw [z]; exact List.getElem_mem hma))]; exact e)
                  (by rw [upd_ne hPa]; exact S1.sub _ _ T1.hp) (fun a ha => ha) T1.nd (fun a ha => .inl ha) (by rw [List.length_set]; exact lm)
                  (cts_set S1.sub T1.ha T1.nd rf hc.1 (List.getElem?_eq_getElem hma) (fun x o c e => by rw [upd_ne c]; exact e) upd_same .nil)
                exact p1 _ _ σ _ Hf2 S2 ⟨P, as, L, bs, T2⟩
            | _ => exact (p1 H0 Hf0).elim
      | _ => exact (p1 H0 Hf0).elim
theorem dj_inApp {f g : Nat} {x : Str} {p0 sp apos cpos : Pos} (hi : DE ec X W O e fi) (hw : DE ec X W O e2 fv) (hfO : f ∉ O := by decide) (hgO : g ∉ O := by decide) (hfg : f ≠ g := by decide) (hix : PlainIx e := by exact fun _ _ => rfl) (hN : X.N[f]? = some x := by rfl) (hv : Vis X.env.scope x := by first | exact Or.inl rfl | exact Or.inr (Or.inl rfl))
    (hd : (x == ("__debug__" : Str)) = false := by decide) (hcd : (x == ("__classdict__" : Str)) = false := by decide)
    (hbase : attributeBase (.Subscript (.Name x p0) e sp) "append" X.env (eval (.Subscript (.Name x p0) e sp) X.env) = eval (.Subscript (.Name x p0) e sp) X.env := by rfl)
    (hfew : ((backTo cpos (starEach [e2] X.env)).all (fun x => !x.1) && (backToKw cpos (keywordEach [] X.env)).all (fun x => x.1.isSome)
      && decide ([e2].length + ([] : List Keyword).length + (if ([] : List Keyword).isEmpty then 0 else 1) < 30)) = true := by rfl)
    (hline : (apos.endLine == cpos.line) = true := by rfl) (hs : starEach [e2] X.env = (false, eval e2 X.env) :: starEach [] X.env := by rfl) (hplain : (backTo cpos (starEach [] X.env)).any (·.1) = false := by rfl)
    (hsw : swapsWith (.Call (.Attribute (.Subscript (.Name x p0) e sp) "append" apos) [e2] [] cpos) none pos.line X.env = pure false := by rfl) :
    DF ec X W (js2 X.K f g) O [] (.Expr (.Call (.Attribute (.Subscript (.Name x p0) e sp) "append" apos) [e2] [] cpos) pos) (sInApp f g fi fv) := by
  refine PS.imp (ps_expr (pe_bm PySem.F.plainAttrs_list PySem.F.slot_list_append PySem.F.type_list_append mt_append (pe_ix ix_seq (pe_var hN hv hd hcd) hi hix) (pa_cons hw pa_nil hs) hbase hfew hline hs hplain) hsw) fun D σ H ⟨H0, Hf0, Hf, η, S, j, p⟩ => ?_
  unfold sInApp at p
  obtain ⟨P, as, L, bs, T⟩ := j
  cases q : listAt η f with
  | none => rw [q] at p; exact (p H0 Hf0).elim
  | some ds =>
    cases q' : listAt η g with
    | none => rw [q, q'] at p; exact (p H0 Hf0).elim
    | some es =>
      simp only [q, q'] at p
      refine ⟨.ref P, T.sf, H0, Hf0, Hf, η, S, (PostJ.exprI S (p H0 Hf0)).imp fun y H1 ⟨Hf1, dy, ey, x1, r1, _⟩ => ?_⟩
      rw [ey] at p
      simp only [R.fl_ok] at p
      have S1 := S.step x1
      cases r1 with
      | int k =>
        simp only at p
        obtain ⟨v', e', rf0⟩ := S1.val f _ hfO (listAt_of q)
        rw [T.sf] at e'; cases e'
        have lm := (rf0.lst_at (x1.sf _ _ T.hp)).length
        rw [List.length_map] at lm
        cases qk : ixN ds.length k with
        | none => simp only [qk] at p; exact (p H0 Hf0).elim
        | some m =>
          simp only [qk] at p
          obtain ⟨_, hm, _⟩ := ixN_seq qk
          have hma : m < as.length := by omega
          cases qm : ds[m]? with
          | none => simp only [qm] at p; exact (p H0 Hf0).elim
          | some dm =>
            simp only [qm] at p
            cases dm with
            | list ys =>
              simp only at p
              obtain ⟨xs, ex0⟩ := T.ha as[m] (List.getElem_mem hma)
              have eH := S1.sub _ _ (x1.sf _ _ ex0)
              refine .inl ⟨P, as.map V.ref, k, .ref as[m], rfl, rfl, .inl (.of (S1.sub _ _ (x1.sf _ _ T.hp))), ?_, .inl ⟨rfl, xs, .of eH⟩, H0, Hf0, Hf1, η, S1, (PostJ.exprI S1 (p H0 Hf0)).imp fun w H2 ⟨Hf2, dw, ew, x2, r2, _⟩ => ?_⟩
              · unfold atI
                rw [List.length_map, lm, qk]
                show (as.map V.ref)[m]? = _
                rw [List.getElem?_map, List.getElem?_eq_getElem hma]; rfl
              · rw [ew] at p
                simp only [R.fl_ok] at p
                by_cases hc : (flatL ds && flatL es && lf dw && decide (ys.length < sizeLine)) = true
                case neg => rw [if_neg hc] at p; exact (p H0 Hf0).elim
                rw [if_pos hc] at p
                simp only [Bool.and_eq_true, decide_eq_true_eq] at hc
                obtain ⟨⟨⟨c1, c2⟩, c3⟩, c4⟩ := hc
                have x12 := x1.trans x2
                have S2 := S1.step x2
                have T1 : Two2 σ Hf2 f g P as L bs := ⟨T.sf, T.sg, x12.sf _ _ T.hp, x12.sf _ _ T.hD, T.nd, T.pa, T.Dp, T.Da, T.pb, T.Db, T.ba, fun a ha => (T.ha a ha).imp fun xs q => x12.sf _ _ q, fun a ha => (T.hb a ha).imp fun xs q => x12.sf _ _ q⟩
                have ex := x12.sf _ _ ex0
                have rf := (rf0.mono x2.sf).lst_at T1.hp
                obtain ⟨va, e1, ra⟩ := rf.get qm
                rw [List.getElem?_map, List.getElem?_eq_getElem hma] at e1
                cases e1
                have ry := ra.lst_at ex
                obtain ⟨ys', ey', ly⟩ := flat_at c1 qm
                cases ey'
                have hPa : P ≠ as[m] := fun z => T1.pa (by rw [z]; exact List.getElem_mem hma)
                refine ⟨as[m], xs, w, rfl, rfl, S2.sub _ _ ex, by rw [ry.length]; exact c4, ?_⟩
                obtain ⟨Hf3, S3, T3⟩ := rebuild (ds' := ds.set m (.list (ys ++ [dw]))) (as' := as) (H2 := upd H2 as[m] (.lst (xs ++ [w]))) S2 T1 (listAt_of q) (listAt_of q') hfO hgO hfg c2 (fun x o c1 c2 e => by rw [upd_ne (fun z => c2 (by rw [z]; exact List.getElem_mem hma))]; exact e)
                  (by rw [upd_ne hPa]; exact S2.sub _ _ T1.hp) (fun a ha => ha) T1.nd (fun a ha => .inl ha) (by rw [List.length_set]; exact lm)
                  (cts_set S2.sub T1.ha T1.nd rf c1 (List.getElem?_eq_getElem hma) (fun x o c e => by rw [upd_ne c]; exact e) upd_same (RpAll.append (RpAll.nl ys _ ly ry) (.cons (Rp.nl dw _ c3 r2) .nil)))
                exact p _ _ σ _ Hf3 S3 ⟨P, as, L, bs, T3⟩
            | _ => exact (p H0 Hf0).elim
      | _ => exact (p H0 Hf0).elim
theorem dj_outApp {f g : Nat} {x : Str} {p0 apos cpos : Pos} (hw : DN ec X W O e2 fv) (hfO : f ∉ O := by decide) (hgO : g ∉ O := by decide) (hfg : f ≠ g := by decide) (hN : X.N[f]? = some x := by rfl) (hv : Vis X.env.scope x := by first | exact Or.inl rfl | exact Or.inr (Or.inl rfl))
    (hd : (x == ("__debug__" : Str)) = false := by decide) (hcd : (x == ("__classdict__" : Str)) = false := by decide)
    (hbase : attributeBase (.Name x p0) "append" X.env (eval (.Name x p0) X.env) = eval (.Name x p0) X.env := by rfl)
    (hfew : ((backTo cpos (starEach [e2] X.env)).all (fun x => !x.1) && (backToKw cpos (keywordEach [] X.env)).all (fun x => x.1.isSome)
      && decide ([e2].length + ([] : List Keyword).length + (if ([] : List Keyword).isEmpty then 0 else 1) < 30)) = true := by rfl)
    (hline : (apos.endLine == cpos.line) = true := by rfl) (hs : starEach [e2] X.env = (false, eval e2 X.env) :: starEach [] X.env := by rfl) (hplain : (backTo cpos (starEach [] X.env)).any (·.1) = false := by rfl)
    (hsw : swapsWith (.Call (.Attribute (.Name x p0) "append" apos) [e2] [] cpos) none pos.line X.env = pure false := by rfl) :
    DF ec X W (js2 X.K f g) O [] (.Expr (.Call (.Attribute (.Name x p0) "append" apos) [e2] [] cpos) pos) (sOutApp f g fv) := by
  refine PS.imp (ps_expr (pe_bm PySem.F.plainAttrs_list PySem.F.slot_list_append PySem.F.type_list_append mt_append (pe_var hN hv hd hcd) (pa_cons hw pa_nil hs) hbase hfew hline hs hplain) hsw) fun D σ H ⟨H0, Hf0, Hf, η, S, j, p⟩ => ?_
  unfold sOutApp at p
  obtain ⟨P, as, L, bs, T⟩ := j
  cases q : listAt η f with
  | none => rw [q] at p; exact (p H0 Hf0).elim
  | some ds =>
    cases q' : listAt η g with
    | none => rw [q, q'] at p; exact (p H0 Hf0).elim
    | some es =>
      simp only [q, q'] at p
      refine ⟨.ref P, T.sf, .inl ⟨rfl, _, .of (S.sub _ _ T.hp)⟩, H0, Hf0, Hf, η, S, (PostJ.exprI S (p H0 Hf0)).imp fun w H1 ⟨Hf1, dw, ew, x1, ⟨t, ev, n, nf, ho⟩, _⟩ => ?_⟩
      subst ev
      rw [ew] at p
      simp only [R.fl_ok] at p
      cases dw with
      | list ys =>
        simp only at p
        by_cases hc : (flatL ds && flatL es && lfAll ys && decide (ds.length < sizeLine)) = true
        case neg => rw [if_neg hc] at p; exact (p H0 Hf0).elim
        rw [if_pos hc] at p
        simp only [Bool.and_eq_true, decide_eq_true_eq] at hc
        obtain ⟨⟨⟨c1, c2⟩, c3⟩, c4⟩ := hc
        have S1 := S.step x1
        have T1 : Two2 σ Hf1 f g P as L bs := ⟨T.sf, T.sg, x1.sf _ _ T.hp, x1.sf _ _ T.hD, T.nd, T.pa, T.Dp, T.Da, T.pb, T.Db, T.ba, fun a ha => (T.ha a ha).imp fun xs q => x1.sf _ _ q, fun a ha => (T.hb a ha).imp fun xs q => x1.sf _ _ q⟩
        obtain ⟨v', e', rf⟩ := S1.val f _ hfO (listAt_of q)
        rw [T.sf] at e'; cases e'
        have rf := rf.lst_at T1.hp
        have lm := rf.length
        rw [List.length_map] at lm
        obtain ⟨zs, h1, rz⟩ := own_lst ho
        have ta : t ∉ as := fun z => by
          obtain ⟨xs, e⟩ := T1.ha t z
          rw [nf] at e; cases e
        have tP : t ≠ P := fun z => by rw [z, T1.hp] at nf; cases nf
        refine ⟨P, as.map V.ref, .ref t, rfl, rfl, S1.sub _ _ T1.hp, by rw [List.length_map, lm]; exact c4, ?_⟩
        obtain ⟨Hf3, S3, T3⟩ := rebuild (ds' := ds ++ [.list ys]) (as' := as ++ [t]) (H2 := upd H1 P (.lst (as.map V.ref ++ [V.ref t]))) S1 T1 (listAt_of q) (listAt_of q') hfO hgO hfg c2 (fun x o c1 c2 e => by rw [upd_ne c1]; exact e)
          (by rw [upd_same, List.map_append]; rfl) (fun a ha => List.mem_append_left _ ha)
          (List.nodup_append.mpr ⟨T1.nd, List.nodup_cons.mpr ⟨List.not_mem_nil, List.nodup_nil⟩, fun a ha b hb e => ta (by rw [← List.mem_singleton.mp hb, ← e]; exact ha)⟩)
          (fun a ha => by
            rcases List.mem_append.mp ha with z | z
            · exact .inl z
            · rw [List.mem_singleton.mp z]; exact .inr nf) (by rw [List.length_append, List.length_append, lm]; rfl)
          (fun j a d hj hd => by
            by_cases hjl : j < as.length
            · rw [List.getElem?_append_left hjl] at hj
              rw [List.getElem?_append_left (by omega)] at hd
              obtain ⟨zs', e⟩ := T1.ha a (List.mem_of_getElem? hj)
              obtain ⟨ys', rfl, l⟩ := flat_at c1 hd
              obtain ⟨va, e1, ra⟩ := rf.get hd
              rw [List.getElem?_map, hj] at e1
              cases e1
              exact ⟨zs', ys', rfl, by rw [upd_ne (fun z => T1.pa (by rw [← z]; exact List.mem_of_getElem? hj))]; exact S1.sub _ _ e, RpAll.nl ys' _ l (ra.lst_at e)⟩
            · rw [List.getElem?_append_right (by omega)] at hj
              rw [List.getElem?_append_right (by omega)] at hd
              have h0 : j - as.length = 0 := by
                rcases Nat.eq_zero_or_pos (j - as.length) with z | z
                · exact z
                · rw [List.getElem?_eq_none (by rw [List.length_singleton]; omega)] at hj; cases hj
              rw [h0] at hj
              rw [← lm, h0] at hd
              cases hj
              cases hd
              exact ⟨zs, ys, rfl, by rw [upd_ne tP]; exact h1, RpAll.nl ys _ c3 rz⟩)
        exact p _ _ σ _ Hf3 S3 ⟨P, _, L, bs, T3⟩
      | _ => exact (p H0 Hf0).elim
theorem dfs_last {f g : Nat} {sts : List Stmt} {h : DEnv → Fl} (nn : NoNx h) (a : DSs ec X W O O' sts h) : DFs ec X W (js2 X.K f g) O O' sts h := PSs.imp a fun D σ H ⟨H0, Hf0, Hf, η, S, j, p⟩ => by
  refine ⟨H0, Hf0, Hf, η, S, ?_⟩
  have p := p H0 Hf0
  cases q : h η with
  | nx η' => exact absurd q (nn η η')
  | rt d => rw [q] at p; exact fun v H Hf x r => lawRt p v H Hf x r
  | ex c f η' => rw [q] at p; exact Bool.noConfusion p.1
  | bad => rw [q] at p; exact p
end

/-! ### the law's def -/
def spL (K : PySem.W.Frag) (n : Nat) (m : List PyData → R PyData) : Sp := fun vs H Q _ => ∃ Hf ds, Same Hf H ∧ RpAll K Hf vs ds ∧ ds.length = n ∧ ∃ b, m ds = .ok (.bool b) ∧ ∀ H', Q (.bl b) H'
theorem fnokL_of {ec : EC} {P : Program} {w : World} {K : PySem.W.Frag} {mg : Str → Option Value} {base : Heap} {x : Str} {params : Arguments} {bd : List Stmt} {scope : Scope} {N ps : List Str} {fd : FuncData} {k : Nat} {m : List PyData → R PyData} {g : DEnv → Fl} {i : Nat} {O' : List Nat}
    (F : FunD K x x params bd scope [] [] (He.ga K x) fd) (S : FnScope N ps scope)
    (body : ∀ (cdv : Value) (A : Around) (outer : List Env) (s : Shared) (H : Hp) (E : XK), Room k (cxOf (L2.CX P w) P w K mg base N x scope (He.ga K x) cdv A outer s H E).A →
      Takes (cxOf (L2.CX P w) P w K mg base N x scope (He.ga K x) cdv A outer s H E) (fun c d _ H => E c d H) →
      PassesOwn (model P w) (cxOf (L2.CX P w) P w K mg base N x scope (He.ga K x) cdv A outer s H E).A (cxOf (L2.CX P w) P w K mg base N x scope (He.ga K x) cdv A outer s H E).env (cxOf (L2.CX P w) P w K mg base N x scope (He.ga K x) cdv A outer s H E).xe →
      DPs ec (cxOf (L2.CX P w) P w K mg base N x scope (He.ga K x) cdv A outer s H E) (fun c d _ H => E c d H) (js K i) [] O' bd g)
    (hm : ∀ ds, ds.length = ps.length → m ds = runF (g (startD N ds))) : FnOk P w K mg base (L2.CX P w) (k + 1) (He.ga K x) fd ps (spL K ps.length m) := by
  refine F.ok S (fun vs H Q E ⟨Hf, ds, hs, r, hl, p⟩ => r.length.trans hl) fun cdv A outer s H vs Q E hr ⟨Hf, ds, hs, r, hl, b, e, p⟩ => ⟨_, body cdv A outer s H E hr (takes_of rfl rfl rfl rfl) (passes_of rfl), H, Hf, Hf, startD N ds, start_sr hs r, ?_⟩
  rw [hm ds hl] at e
  cases q : g (startD N ds) with
  | nx η => rw [q] at e; cases e
  | rt d => rw [q] at e; cases e; exact ⟨b, rfl, p⟩
  | ex c fl η => rw [q] at e; cases e
  | bad => rw [q] at e; cases e
theorem fn_lawL {P : Program} {w : World} {K : PySem.W.Frag} {mg : Str → Option Value} {base : Heap} {k n : Nat} {f : Addr} {fd : FuncData} {ps : List Str} {m : List PyData → R PyData} (F : FnOk P w K mg base (L2.CX P w) k f fd ps (spL K n m)) :
    FnOk P w K mg base CX0 k f fd ps (fun vs H Q _ => spL K n m vs H Q fun _ _ _ => False) := by
  refine ⟨fun vs H Q E h => F.len vs H Q _ h, fun A outer s H args us vs Q E hr e0 hb hv hs => codeAny_mono (F.run A outer s H args us vs Q (fun _ _ _ => False) hr e0 hb hv hs) fun r s' hq => ?_⟩
  cases r with
  | error e =>
    obtain ⟨_, _, _, _, _, _, _, _, _, _, _, _, z⟩ := hq
    exact z.elim
  | ok fl => cases fl <;> exact hq
theorem law_spL {K : PySem.W.Frag} (hK : noLists K = true) {m : List PyData → R PyData} (hm : ∀ ns : List Int, ns.length ≤ 63 → m [.list (ns.map PyData.int)] = .ok (.bool true)) (H : Hp) (a : Addr) (ns : List Int) (hl : ns.length ≤ 63) (hS : SqL K H a (ns.map V.int)) :
    spL K 1 m [.ref a] H (fun v _ => v = .bl true) fun _ _ _ => False :=
  ⟨H, [.list (ns.map PyData.int)], Same.refl _, .cons (.lst (noLists_rd hK hS) (RpAll.ints ns)) .nil, rfl, true, hm ns hl, fun _ => rfl⟩
end DL
end

section
set_option Elab.async false
set_option linter.all false
set_option maxRecDepth 100000
set_option maxHeartbeats 4000000
/-! dict(x), x a tuple or a list of pairs with numbers or texts ahead; such dicts read. -/
namespace DL
open PySem PySem.Spec PyProof.Rows L2

/-! ### tuples of the module -/
def dnB (K : PySem.W.Frag) (x : Str) : Bool := match K.lookup (He.ga K x) with
  | some o => o.dict.isNone
  | none => false
theorem dnB_ok {K : PySem.W.Frag} {x : Str} {xs : List V} (d : dnB K x = true) (h : ∀ H, SqT K H (He.ga K x) xs) (H : Hp) : SqN K H (He.ga K x) xs := by
  rcases h (fun _ => none) with (h | ⟨_, h⟩) | ⟨o, its, n, hk, hc, hs, hz, r⟩
  · cases h
  · cases h
  · refine .inr ⟨o, its, n, hk, hc, ?_, hs, hz, r⟩
    unfold dnB at d
    rw [hk] at d
    exact Option.isNone_iff_eq_none.mp d

/-! ### data -/
def kOf : PyData → Option Key
  | .int i => some (.inl i)
  | .str x => some (.inr x)
  | _ => none
theorem kOf_eq {d : PyData} {k : Key} (h : kOf d = some k) : d = keyD k := by
  cases d <;> cases h <;> rfl
theorem kOf_keyD (k : Key) : kOf (keyD k) = some k := by cases k <;> rfl
def pairOf : PyData → Option (PyData × PyData)
  | .tuple [a, b] => if (kOf a).isSome then some (a, b) else none
  | _ => none
def pairsOf : List PyData → Option (List (PyData × PyData))
  | [] => some []
  | d :: ds => match pairOf d, pairsOf ds with
    | some p, some ps => some (p :: ps)
    | _, _ => none
def sameKD (k : Key) (e : PyData × PyData) : Bool := decide (kOf e.1 = some k)
def putKD (ds : List (PyData × PyData)) (a b : PyData) : List (PyData × PyData) :=
  if ds.any (fun e => decide (kOf e.1 = kOf a)) then ds.map (fun e => if kOf e.1 = kOf a then (e.1, b) else e) else ds ++ [(a, b)]
def mergeKD (acc ps : List (PyData × PyData)) : List (PyData × PyData) := ps.foldl (fun acc p => putKD acc p.1 p.2) acc
def dDictP : PyData → R PyData
  | .tuple ds => match pairsOf ds with
    | some ps => .ok (.dict (mergeKD [] ps))
    | none => .bad
  | .list ds => match pairsOf ds with
    | some ps => .ok (.dict (mergeKD [] ps))
    | none => .bad
  | _ => .bad
/-- a dict of numbers and texts -/
def allK (ds : List (PyData × PyData)) : Bool := ds.all fun e => (kOf e.1).isSome
def dInK (neg : Bool) : PyData → PyData → R PyData := fun a b => match b with
  | .dict ds => match kOf a with
    | some k => if allK ds = true then .ok (.bool (neg ^^ ds.any (sameKD k))) else .bad
    | none => .bad
  | _ => .bad
def dIxK : PyData → PyData → R PyData := fun a b => match a with
  | .dict ds => match kOf b with
    | some k => if allK ds = true then (match ds.find? (sameKD k) with
      | some e => .ok e.2
      | none => .bad) else .bad
    | none => .bad
  | _ => .bad

/-! ### by the heap -/
section
variable {K : PySem.W.Frag} {H : Hp}
theorem kv_any {k : Key} : ∀ {kvs : List (Key × V)} {ds : List (PyData × PyData)}, RpKV K H kvs ds → (kvs.any fun e => decide (e.1 = k)) = ds.any (sameKD k)
  | _, _, .nil => rfl
  | _, _, .cons (k := j) h t => by
    rw [List.any_cons, List.any_cons, kv_any t]
    congr 1
    unfold sameKD
    rw [kOf_keyD]
    simp
theorem kv_same (j : Key) {k : Key} : (kOf (keyD j) = kOf (keyD k)) = (j = k) := by rw [kOf_keyD, kOf_keyD]; simp
theorem kv_map {k : Key} {v : V} {d : PyData} (r : Rp K H v d) : ∀ {kvs : List (Key × V)} {ds : List (PyData × PyData)}, RpKV K H kvs ds →
    RpKV K H (kvs.map fun e => if e.1 = k then (e.1, v) else e) (ds.map fun e => if kOf e.1 = kOf (keyD k) then (e.1, d) else e)
  | _, _, .nil => .nil
  | _, _, .cons (k := j) (v := w) (d := x) h t => by
    rw [List.map_cons, List.map_cons]
    show RpKV K H ((if j = k then (j, v) else (j, w)) :: _) ((if kOf (keyD j) = kOf (keyD k) then (keyD j, d) else (keyD j, x)) :: _)
    by_cases e : j = k
    · rw [if_pos e, if_pos (by rw [e])]
      exact .cons r (kv_map r t)
    · rw [if_neg e, if_neg (by rw [kv_same]; exact e)]
      exact .cons h (kv_map r t)
theorem kv_app {k : Key} {v : V} {d : PyData} (r : Rp K H v d) : ∀ {kvs : List (Key × V)} {ds : List (PyData × PyData)}, RpKV K H kvs ds → RpKV K H (kvs ++ [(k, v)]) (ds ++ [(keyD k, d)])
  | _, _, .nil => .cons r .nil
  | _, _, .cons h t => .cons h (kv_app r t)
theorem kv_put {k : Key} {v : V} {d : PyData} {kvs : List (Key × V)} {ds : List (PyData × PyData)} (q : RpKV K H kvs ds) (r : Rp K H v d) : RpKV K H (putK kvs k v) (putKD ds (keyD k) d) := by
  have e : (ds.any fun e => decide (kOf e.1 = kOf (keyD k))) = (kvs.any fun e => decide (e.1 = k)) := by rw [kv_any q, kOf_keyD]; rfl
  unfold putK putKD
  rw [e]
  split
  · exact kv_map r q
  · exact kv_app r q
theorem kv_merge : ∀ {more : List (Key × V)} {ps : List (PyData × PyData)} {kvs : List (Key × V)} {ds : List (PyData × PyData)}, RpKV K H more ps → RpKV K H kvs ds → RpKV K H (mergeK kvs more) (mergeKD ds ps)
  | _, _, kvs, ds, .nil, q => q
  | _, _, kvs, ds, .cons (k := k) (v := v) (kvs := r) (d := d) (ds := rd) h t, q => show RpKV K H (mergeK (putK kvs k v) r) (mergeKD (putKD ds (keyD k) d) rd) from kv_merge t (kv_put q h)
theorem kv_find {k : Key} : ∀ {kvs : List (Key × V)} {ds : List (PyData × PyData)}, RpKV K H kvs ds → (valV kvs k).isSome = ds.any (sameKD k) ∧ ∀ e, ds.find? (sameKD k) = some e → ∃ v, valV kvs k = some v ∧ Rp K H v e.2
  | _, _, .nil => ⟨rfl, fun e h => by cases h⟩
  | _, _, .cons (k := j) (v := w) (d := x) (kvs := kvs) (ds := ds) h t => by
    have ih := kv_find (k := k) t
    have e : sameKD k (keyD j, x) = decide (j = k) := by unfold sameKD; rw [kOf_keyD]; simp
    rw [List.any_cons, e]
    by_cases q : j = k
    · rw [valV_pos (p := (j, w)) q]
      refine ⟨by simp [q], fun p hp => ?_⟩
      rw [List.find?_cons, e, decide_eq_true q] at hp
      cases hp
      exact ⟨w, rfl, h⟩
    · rw [valV_neg (p := (j, w)) q]
      refine ⟨by rw [ih.1]; simp [q], fun p hp => ?_⟩
      rw [List.find?_cons, e, decide_eq_false q] at hp
      exact ih.2 p hp
/-- what stands for a dict of numbers and texts -/
theorem Rp.dictK {v : V} {ds : List (PyData × PyData)} (h : Rp K H v (.dict ds)) (ha : allK ds = true) : ∃ a kvs, v = .ref a ∧ H a = some (.dK kvs) ∧ RpKV K H kvs ds := by
  have no : ∀ {k : PyData} {x : PyData}, kOf k = none → allK [(k, x)] = true → False := fun e h => by
    unfold allK at h
    rw [List.all_cons, e] at h
    cases h
  generalize hd : PyData.dict ds = d at h
  cases h with
  | dK h r => cases hd; exact ⟨_, _, rfl, h, r⟩
  | dN h1 h2 h3 h4 h5 h6 h7 h8 =>
    cases hd
    cases h8 with
    | nil => exact absurd rfl h4
    | cons _ b _ _ _ _ =>
      obtain ⟨ks, rfl⟩ := b
      unfold allK at ha
      rw [List.all_cons, NestedKey.data] at ha
      cases ha
  | fn z => cases hd; exact (no rfl ha).elim
  | @exc0 a c q => cases hd; exact (no rfl ha).elim
  | exc1 q q2 q3 =>
    cases hd
    unfold allK at ha
    rw [List.all_cons] at ha
    cases ha
  | _ => cases hd
/-- the pairs, by the heap -/
theorem pairs_rp : ∀ {ds : List PyData} {ps : List (PyData × PyData)} {xs : List V}, pairsOf ds = some ps → RpAll K H xs ds →
    ∃ (as : List Addr) (kvs : List (Key × V)), xs = as.map V.ref ∧ Paired (fun p kv => SqT K H p [kV kv.1, kv.2]) as kvs ∧ RpKV K H kvs ps
  | [], ps, xs, h, r => by
    cases h
    cases r
    exact ⟨[], [], rfl, .nil, .nil⟩
  | d :: ds, ps, xs, h, r => by
    cases r with
    | @cons v vs _ _ r1 r2 =>
      unfold pairsOf at h
      cases hp : pairOf d with
      | none => rw [hp] at h; cases h
      | some p =>
        cases hq : pairsOf ds with
        | none => rw [hp, hq] at h; cases h
        | some qs =>
          rw [hp, hq] at h
          cases h
          obtain ⟨as, kvs, rfl, h1, h2⟩ := pairs_rp hq r2
          unfold pairOf at hp
          split at hp
          · rename_i a b
            cases hk : kOf a with
            | none => rw [hk] at hp; cases hp
            | some k =>
              rw [hk] at hp
              cases hp
              have ek := kOf_eq hk
              subst ek
              obtain ⟨t, ys, rfl, hs, ry⟩ := r1.tuple_inv
              cases ry with
              | cons ra rb =>
                cases rb with
                | cons rb rn =>
                  cases rn
                  have ex : ∀ {x : V}, Rp K H x (keyD k) → x = kV k := fun r => by cases k <;> (cases r; rfl)
                  rw [ex ra] at hs
                  exact ⟨t :: as, (k, _) :: kvs, rfl, .cons hs h1, .cons rb h2⟩
          · cases hp
end
section
variable {X : Cx} {pins : List (Addr × Obj)} {σ : L2.St} {H : Hp} {s : Shared}
theorem plain_in (I : Inv X pins σ H s) {a : Addr} {xs : List V} (h : SqN X.K H a xs) : ∃ its : List Value, Vals xs its ∧ PySem.PlainSeq "tuple" s.heap a its.toArray ∧ xs.length ≤ sizeLine := by
  rcases h with ⟨o, h, hd⟩ | ⟨o, its, n, hk, hc, hd, hs, hz, r⟩
  · obtain ⟨e, z, its, r, o', e', c, n, hs⟩ := (show ObjOk X.prog X.w H s.heap a (.frz o (.tup xs)) from I.hok a _ h)
    rw [e] at e'
    cases e'
    exact ⟨its, r, ⟨o, n, e, c, hd, hs⟩, z⟩
  · refine ⟨its.toList, r, ⟨o, n, I.kIn a o hk, hc, hd, by simpa using hs⟩, ?_⟩
    have q : xs.length = its.size := (Vals.length r).trans Array.length_toList
    rw [q]; exact hz
theorem pairs_in (I : Inv X pins σ H s) : ∀ {ps : List Addr} {kvs : List (Key × V)}, Paired (fun p kv => SqT X.K H p [kV kv.1, kv.2]) ps kvs →
    ∃ (rs : List (Key × Value)) (vs : List (Value × Value)), KV kvs rs ∧ rs.length = ps.length ∧ vs.length = ps.length ∧
      ∀ (j : Nat) (k v : Value), vs[j]? = some (k, v) → ∃ (b : Addr) (q : Key), ps[j]? = some b ∧ IsTup s.heap b #[k, v] ∧ rs[j]? = some (q, v) ∧ (mixKind X.prog X.w).is q k = true
  | _, _, .nil => ⟨[], [], .nil, rfl, rfl, fun j k v e => by simp at e⟩
  | _, _, .cons (a := p) (b := kv) h t => by
    obtain ⟨rs, vs, r, l1, l2, g⟩ := pairs_in I t
    obtain ⟨its, rv, ht, _⟩ := I.tuple h
    obtain ⟨u, y, rfl, ru, ry⟩ := vals2 rv
    refine ⟨(kv.1, y) :: rs, (u, y) :: vs, .cons ⟨rfl, ry⟩ r, congrArg Nat.succ l1, congrArg Nat.succ l2, fun j k v e => ?_⟩
    cases j with
    | zero =>
      cases (show some (u, y) = some (k, v) from e)
      exact ⟨p, kv.1, rfl, ht, rfl, kV_is ru⟩
    | succ j => exact g j k v e
theorem call_dictPT (hc : X.calm = true) : CallR X (.type "dict") (fun xs H Q => ∃ (a : Addr) (ps : List Addr) (kvs : List (Key × V)), xs = [.ref a] ∧ SqN X.K H a (ps.map V.ref) ∧
    Paired (fun p kv => SqT X.K H p [kV kv.1, kv.2]) ps kvs ∧ ∀ p, H p = none → Q (.ref p) (upd H p (.dK (mergeK [] kvs)))) := by
  intro pins s σ H xs us Q I r ⟨a, ps, kvs, ex, hq, hp, q⟩
  subst ex
  obtain ⟨u, eu, rx⟩ := vals1 r
  subst eu
  cases rx
  obtain ⟨its, rv, pl, hz⟩ := plain_in I hq
  have ei := refs_at rv
  subst ei
  rw [List.length_map] at hz
  obtain ⟨rs, vs, rel, l1, l2, g⟩ := pairs_in I hp
  refine PySem.call_dict_pairs (knd := mixKind X.prog X.w) (kvs := rs) (PairArg.tuple a _ (fun j => (ps[j]?).getD 0) vs) (I.ok.hd hc) ⟨pl, by simp [l2], fun j k v e => ?_⟩ ⟨by rw [l1, l2], fun j k v e => ?_⟩ (by omega) fun h' tk hd' hk => ?_
  · obtain ⟨b, q, e1, e2, _, _⟩ := g j k v e
    refine ⟨by simp [e1], ?_⟩
    show PairAt s.heap ((ps[j]?).getD 0) k v
    rw [e1]
    exact .inl e2
  · obtain ⟨b, q, _, _, e3, e4⟩ := g j k v e
    exact ⟨q, e3, e4⟩
  · have hm : (s.heap.objs.size == sysModules) = false := beq_eq_false_iff_ne.mpr (Nat.ne_of_gt I.big)
    have hl : (mergeK [] kvs).length ≤ sizeLine := by
      have := length_mergeK kvs []
      have := rel.length
      simp at *
      omega
    exact ⟨.ref s.heap.objs.size, _, I.laid (t' := tk) (fun b o e => hk b o (fun z => nomatch z) e) (Nat.le_refl _) (show ObjOk X.prog X.w _ _ _ (.dK (mergeK [] kvs)) from ⟨hl, hm, _, KV.merge rel .nil, hd'⟩), rfl, q _ (I.hok.fresh (Nat.le_refl _))⟩
end
section
variable {ec : EC} {X : Cx} {W : WX} {O : List Nat} {a b : Expr} {fa fb : DEnv → R PyData} {pos : Pos}
theorem Paired.up {K : PySem.W.Frag} {H H' : Hp} (e : Same H H') {ps : List Addr} {kvs : List (Key × V)} (h : Paired (fun p kv => SqT K H p [kV kv.1, kv.2]) ps kvs) : Paired (fun p kv => SqT K H' p [kV kv.1, kv.2]) ps kvs :=
  L2.Paired.mapP h fun _ _ q => Same.tup e q
theorem cn_dictP (hc : X.calm = true) : CallN ec X W (.type "dict") dDictP := by
  intro pins s σ H Hf x dx v Q I hs rx wx p
  cases dx with
  | tuple ds =>
    unfold dDictP at p
    cases hp : pairsOf ds with
    | none => simp only [hp] at p; exact p.elim
    | some ps =>
      simp only [hp] at p
      obtain ⟨a, vs, rfl, h1, r1⟩ := wx.tuple_invN hs
      obtain ⟨as, kvs, rfl, hk, rk⟩ := pairs_rp hp r1
      refine call_dictPT hc pins s σ H [.ref a] [v] Q I (.cons rx .nil) ⟨a, as, kvs, rfl, h1, Paired.up hs hk, fun l n => ?_⟩
      exact p _ _ _ (Ext.fresh hs n) ⟨l, rfl, n, hs.free n, .inr (.inl ⟨_, _, upd_same, rfl, kv_merge rk .nil⟩)⟩
  | list ds =>
    unfold dDictP at p
    cases hp : pairsOf ds with
    | none => simp only [hp] at p; exact p.elim
    | some ps =>
      simp only [hp] at p
      obtain ⟨a, vs, rfl, h1, r1⟩ := wx.list_inv hs
      obtain ⟨as, kvs, rfl, hk, rk⟩ := pairs_rp hp r1
      refine call_dictP hc pins s σ H [.ref a] [v] Q I (.cons rx .nil) ⟨a, as, kvs, rfl, h1, Paired.up hs hk, fun l n => ?_⟩
      exact p _ _ _ (Ext.fresh hs n) ⟨l, rfl, n, hs.free n, .inr (.inl ⟨_, _, upd_same, rfl, kv_merge rk .nil⟩)⟩
  | _ => exact (show False from p).elim
theorem od_inK (hu : Rm X) : OpD ec X W (compareOp .In) (dInK false) := by
  intro pins s σ H Hf x y dx dy v u Q I hs rx ry wx wy p
  have hu' : X.A.units + 150 < cLine := hu
  cases dy with
  | dict ds =>
    unfold dInK at p
    cases hk : kOf dx with
    | none => simp only [hk] at p; exact p.elim
    | some k =>
      simp only [hk] at p
      by_cases ha : allK ds = true
      · rw [if_pos ha] at p
        obtain ⟨a, kvs, rfl, h1, h2⟩ := (wy.full hs).dictK ha
        cases ry
        have ex : x = kV k := by
          have r := wx.full hs
          rw [kOf_eq hk] at r
          cases k <;> (cases r; rfl)
        subst ex
        refine d_in (by omega) I (DGet.k h1) rx fun s' I' => ⟨.bl _, H, I', rfl, ?_⟩
        rw [(kv_find h2).1]
        have := p.here hs (.bl (false ^^ ds.any (sameKD k)))
        rwa [Bool.false_xor] at this
      · rw [if_neg ha] at p; exact p.elim
  | _ => exact (show False from p).elim
theorem od_notInK (hu : Rm X) : OpD ec X W (compareOp .NotIn) (dInK true) := by
  intro pins s σ H Hf x y dx dy v u Q I hs rx ry wx wy p
  have hu' : X.A.units + 150 < cLine := hu
  cases dy with
  | dict ds =>
    unfold dInK at p
    cases hk : kOf dx with
    | none => simp only [hk] at p; exact p.elim
    | some k =>
      simp only [hk] at p
      by_cases ha : allK ds = true
      · rw [if_pos ha] at p
        obtain ⟨a, kvs, rfl, h1, h2⟩ := (wy.full hs).dictK ha
        cases ry
        have ex : x = kV k := by
          have r := wx.full hs
          rw [kOf_eq hk] at r
          cases k <;> (cases r; rfl)
        subst ex
        refine d_notIn (by omega) I (DGet.k h1) rx fun s' I' => ⟨.bl _, H, I', rfl, ?_⟩
        rw [(kv_find h2).1]
        have := p.here hs (.bl (true ^^ ds.any (sameKD k)))
        rwa [Bool.true_xor] at this
      · rw [if_neg ha] at p; exact p.elim
  | _ => exact (show False from p).elim
def rIxKD (K : PySem.W.Frag) : R2 := fun x y H Q => ∃ (a : Addr) (kvs : List (Key × V)) (k : Key) (v : V), x = .ref a ∧ y = kV k ∧ H a = some (.dK kvs) ∧ valV kvs k = some v ∧ Q v H
theorem ix_dK (hu : Rm X) : IxR X (rIxKD X.K) := by
  intro value slice pins s σ H x y v u Q I rx ry h hs
  have hu' : X.A.units + 150 < cLine := hu
  obtain ⟨a, kvs, k, z, rfl, rfl, h1, h2, q⟩ := h
  cases rx
  obtain ⟨_, _, vs, _, dd⟩ := dk_of I.hok h1
  refine tail_any dd.typeIs PySem.F.slot_dict_getitem.lookup (d_getItem (by omega) I (by rw [← h2]; exact DGet.k h1) ry fun w s' I' rw' => ⟨z, H, I', rw', q⟩) hs
theorem de_ixK (hu : Rm X) (ha : DW ec X W O a fa) (hb : DW ec X W O b fb) (hs : PlainIx b := by exact fun _ _ => rfl) : DE ec X W O (.Subscript a b pos) (d2 dIxK fa fb) := by
  refine PE.imp (pe_ix (ix_dK hu) ha hb hs) fun σ H Q ⟨H0, Hf0, Hf, η, S, p⟩ => ⟨H0, Hf0, Hf, η, S, p.bindI.imp fun x H1 ⟨Hf1, dx, x1, w1, p1⟩ => ⟨H0, Hf0, Hf1, η, S.step x1, p1.bindI.imp fun y H2 ⟨Hf2, dy, x2, w2, p2⟩ => ?_⟩⟩
  have w1' := w1.ext x2
  cases dx with
  | dict ds =>
    unfold dIxK at p2
    cases hk : kOf dy with
    | none => simp only [hk] at p2; exact p2.elim
    | some k =>
      simp only [hk] at p2
      by_cases hak : allK ds = true
      · rw [if_pos hak] at p2
        cases hf : ds.find? (sameKD k) with
        | none => simp only [hf] at p2; exact p2.elim
        | some e =>
          simp only [hf] at p2
          have ey : y = kV k := by
            have r := w2.full x2.sub
            rw [kOf_eq hk] at r
            cases k <;> (cases r; rfl)
          subst ey
          rcases w1' with h | ⟨q, rfl, n, h⟩
          · obtain ⟨a', kvs, rfl, h1, h2⟩ := h.dictK hak
            obtain ⟨v, e1, e2⟩ := (kv_find h2).2 e hf
            exact ⟨a', kvs, k, v, rfl, rfl, x2.sub _ _ h1, e1, p2.here x2.sub e2⟩
          · rcases h with ⟨_, _, _, h, _⟩ | ⟨kvs, ds', h1, h, h2⟩ | ⟨_, _, _, ds', ks, _, _, _, h4, _, _, _, h, h8⟩
            · cases h
            · cases h
              obtain ⟨v, e1, e2⟩ := (kv_find h2).2 e hf
              exact ⟨q, kvs, k, v, rfl, rfl, h1, e1, p2.here x2.sub e2⟩
            · cases h
              exfalso
              cases h8 with
              | nil => exact h4 rfl
              | cons _ b _ _ _ _ =>
                obtain ⟨js, rfl⟩ := b
                unfold allK at hak
                rw [List.all_cons, NestedKey.data] at hak
                cases hak
      · rw [if_neg hak] at p2; exact p2.elim
  | _ => exact (show False from p2).elim
end
end DL
end

section
set_option Elab.async false
set_option linter.all false
set_option maxRecDepth 100000
set_option maxHeartbeats 4000000
/-! len(set(x)); t.index(x), t a tuple of numbers. -/
namespace DL
open PySem PySem.Spec PyProof.Rows L2
def dLenSet : PyData → R PyData := fun x => (dSetL x).bind fun d => match d with
  | .list ds => if ds.length ≤ 16777216 then .ok (.int (ds.length : Nat)) else .bad
  | _ => .bad
def intsD : List PyData → Option (List Int)
  | [] => some []
  | .int i :: ds => (intsD ds).map (i :: ·)
  | _ :: _ => none
def dIndexT (ds : List PyData) (y : PyData) : R PyData := match intsD ds, y with
  | some ns, .int k => if k ∈ ns then .ok (.int (ns.idxOf k : Nat)) else .bad
  | _, _ => .bad
def dIdxT (fa fb : DEnv → R PyData) : DEnv → R PyData := fun η => (fa η).bind fun x => match x with
  | .tuple ds => (fb η).bind fun y => dIndexT ds y
  | _ => .bad
theorem ints_rp {K : PySem.W.Frag} {H : Hp} : ∀ {ds : List PyData} {ns : List Int} {xs : List V}, intsD ds = some ns → RpAll K H xs ds → xs = ns.map V.int
  | [], ns, xs, h, r => by cases h; cases r; rfl
  | d :: ds, ns, xs, h, r => by
    cases r with
    | cons r1 r2 =>
      cases d with
      | int i =>
        unfold intsD at h
        cases q : intsD ds with
        | none => rw [q] at h; cases h
        | some ms =>
          rw [q] at h
          cases h
          cases r1
          rw [ints_rp q r2]; rfl
      | _ => cases h
section
variable {ec : EC} {X : Cx} {W : WX} {O : List Nat} {e o : Expr} {f fa fb : DEnv → R PyData} {pos pos2 p p2 : Pos}
theorem de_lenSet (hc : X.calm = true) (hu : Rm X) (hm1 : X.mg "len" = none) (hm2 : X.mg "set" = none) (ha : DW ec X W O e f) (hg1 : Gl X "len" := by rfl) (hg2 : Gl X "set" := by rfl)
    (he : starEach [e] X.env = (false, eval e X.env) :: starEach [] X.env := by rfl) (hpl : (backTo pos2 (starEach [] X.env)).any (·.1) = false := by rfl)
    (he2 : starEach [.Call (.Name "set" p2) [e] [] pos2] X.env = (false, eval (.Call (.Name "set" p2) [e] [] pos2) X.env) :: starEach [] X.env := by rfl) (hpl2 : (backTo pos (starEach [] X.env)).any (·.1) = false := by rfl) :
    DE ec X W O (.Call (.Name "len" p) [.Call (.Name "set" p2) [e] [] pos2] [] pos) (d1 dLenSet f) := by
  refine ⟨fun pins s σ H Q I ⟨H0, Hf0, Hf, η, S, q⟩ => ?_⟩
  refine wpAny_Call_Name_kw (ld_blt I hg1 hm1 (by decide +kernel : bootBuiltins "len" = some (.builtin "len")) ?_)
  have q2 : Post ec X.K W σ (ρV X.K) Q H Hf ((d1 dSetL f η).bind fun d => match d with
      | .list ds => if ds.length ≤ 16777216 then .ok (.int (ds.length : Nat)) else .bad
      | _ => .bad) := by
    have e : d1 dLenSet f η = (d1 dSetL f η).bind fun d => match d with
      | .list ds => if ds.length ≤ 16777216 then .ok (.int (ds.length : Nat)) else .bad
      | _ => .bad := by
      unfold d1 dLenSet
      cases f η <;> rfl
    rw [← e]; exact q
  refine PyProof.Rows.callWith_builtin1 (thn ((pa_cons (pe_setD hc hu hm2 ha hg2 he hpl) pa_nil he2).run pos pins s σ H (fun vs H1 => ∃ v Hf1 d, vs = [v] ∧ Ext H Hf H1 Hf1 ∧ DS.ρS X.K X.w H1 Hf1 v d ∧ Post ec X.K W σ (ρV X.K) Q H1 Hf1 (match d with
      | .list ds => if ds.length ≤ 16777216 then .ok (.int (ds.length : Nat)) else .bad
      | _ => .bad)) I
    ⟨H0, Hf0, Hf, η, S, q2.bindI.imp fun v H1 ⟨Hf1, d, x1, r1, p1⟩ => ⟨v, Hf1, d, rfl, x1, r1, p1⟩⟩) fun us s1 ⟨vs, H1, I1, r1, v, Hf1, d, e1, x1, w1, p1⟩ => ?_) he2 hpl2
  subst e1
  cases r1 with
  | cons r rr =>
    cases rr
    obtain ⟨a, ds, b, L, rfl, rfl, hK, ha, hL, pm⟩ := w1
    cases r
    obtain ⟨o, es, ep, t, ho, hex, hd, hv, hb, hf, hr, hl⟩ := (show DS.SetRaw X.w a (L.map (·.1)) s1.heap from (I1.hok a _ ha).1)
    dsimp only at p1
    by_cases hz : ds.length ≤ 16777216
    · rw [if_pos hz] at p1
      have e : es.size = ds.length := by
        rw [← pm.length_eq, List.length_map, ← Array.length_toList, ← List.length_map (f := (·.2)), hv, List.length_map]
      refine call_len_set ho hex hd hf (by rw [e]; omega) ⟨.int (ds.length : Nat), H1, I1.tok _, ⟨_, by rw [e]⟩, p1.here x1.sub (.int _)⟩
    · rw [if_neg hz] at p1; exact p1.elim
theorem de_indexT {apos cpos : Pos} (hu : Rm X) (ho : DW ec X W O o fa) (he : DW ec X W O e fb)
    (hbase : attributeBase o "index" X.env (eval o X.env) = eval o X.env := by rfl)
    (hfew : ((backTo cpos (starEach [e] X.env)).all (fun x => !x.1) && (backToKw cpos (keywordEach [] X.env)).all (fun x => x.1.isSome)
      && decide ([e].length + ([] : List Keyword).length + (if ([] : List Keyword).isEmpty then 0 else 1) < 30)) = true := by rfl)
    (hline : (apos.endLine == cpos.line) = true := by rfl) (hs : starEach [e] X.env = (false, eval e X.env) :: starEach [] X.env := by rfl) (hplain : (backTo cpos (starEach [] X.env)).any (·.1) = false := by rfl) :
    DE ec X W O (.Call (.Attribute o "index" apos) [e] [] cpos) (dIdxT fa fb) := by
  refine ⟨fun pins s σ H Q I ⟨H0, Hf0, Hf, η, S, q⟩ => ?_⟩
  refine wpAny_Call_method_late hbase hfew hline rfl (thn (ho.run pins s σ H (fun v H1 => ∃ Hf1 d, Ext H Hf H1 Hf1 ∧ RpW X.K H1 Hf1 v d ∧ Post ec X.K W σ (ρV X.K) Q H1 Hf1 (match d with
    | .tuple ds => (fb η).bind fun y => dIndexT ds y
    | _ => .bad)) I ⟨H0, Hf0, Hf, η, S, q.bindI.imp fun v H1 ⟨Hf1, d, x1, r1, p1⟩ => ⟨Hf1, d, x1, r1, p1⟩⟩) fun v s1 ⟨x, H1, I1, r1, Hf1, d, x1, w1, p1⟩ => ?_)
  cases d with
  | tuple ds =>
    obtain ⟨a, xs, rfl, hq, ra⟩ := w1.tuple_invN x1.sub
    cases r1
    obtain ⟨its, rv, ⟨ob, n, g, gc, gd, gs⟩, _⟩ := plain_in I1 hq
    refine ⟨"tuple", "tuple.index", PySem.F.plainAttrs_tuple, PySem.F.slot_tuple_index, PySem.F.type_tuple_index, ⟨ob, g, gc⟩, fun b eb => by cases eb; exact ⟨ob, g, gd⟩, ?_⟩
    have hA := (pa_w he hs).run cpos pins s1 σ H1 (fun vs H2 => ∃ v Hf2 y, vs = [v] ∧ Ext H1 Hf1 H2 Hf2 ∧ RpW X.K H2 Hf2 v y ∧ Post ec X.K W σ (ρV X.K) Q H2 Hf2 (dIndexT ds y)) I1
      ⟨H0, Hf0, Hf1, η, S.step x1, p1.bindI.imp fun v H2 ⟨Hf2, y, x2, r2, p2⟩ => ⟨v, Hf2, y, rfl, x2, r2, p2⟩⟩
    rw [hs] at hA ⊢
    refine Calls.callWith_builtin (by show (false || (backTo cpos (starEach [] X.env)).any (·.1)) = false; rw [hplain] <;> rfl) (Calls.evalArgs_plain (thn hA fun us s2 ⟨vs, H2, I2, r2, v, Hf2, y, ev, x2, w2, p2⟩ => ?_))
    subst ev
    obtain ⟨u, eu, ru⟩ := vals1 r2
    subst eu
    unfold dIndexT at p2
    cases hi : intsD ds with
    | none => simp only [hi] at p2; exact p2.elim
    | some ns =>
      simp only [hi] at p2
      cases y with
      | int k =>
        dsimp only at p2
        by_cases hk : k ∈ ns
        · rw [if_pos hk] at p2
          obtain rfl := w2.int_inv
          obtain ⟨t, rfl⟩ := ru
          obtain ⟨its2, rv2, pl2, _⟩ := I2.tuple (Same.tup x2.same hq.sq)
          have ei := ints_rp hi ra
          subst ei
          refine SeqAt.tuple_index_ints (ns := ns) (show s2.heap.IsTuple a its2.toArray from pl2) (intsAre_of rv2) hk ⟨.int (ns.idxOf k : Nat), H2, I2.tok _, ⟨_, rfl⟩, p2.here x2.sub (.int _)⟩
        · rw [if_neg hk] at p2; exact p2.elim
      | _ => exact p2.elim
  | _ => exact (show False from p1).elim
end
end DL
end

section
set_option Elab.async false
set_option linter.all false
set_option maxRecDepth 100000
set_option maxHeartbeats 4000000
/-! The typed layer: what the functions over data compute, over typed data. -/
namespace DL
open PySem

/-! ### encodings -/
abbrev eI : Int → PyData := PyData.int
abbrev eB : Bool → PyData := PyData.bool
abbrev eS : Str → PyData := PyData.str
def eN : Unit → PyData := fun _ => .none
abbrev eX : PyData → PyData := fun x => x
def eF (n : Str) : Unit → PyData := fun _ => fnD n
section
variable {α β γ δ ε τ υ κ ν : Type}
def eL (e : α → PyData) : List α → PyData := fun xs => .list (xs.map e)
def eT (e : α → PyData) : List α → PyData := fun xs => .tuple (xs.map e)
def eP0 : Unit → PyData := fun _ => .tuple []
def eP1 (e : α → PyData) : α → PyData := fun x => .tuple [e x]
def eP2 (a : α → PyData) (b : β → PyData) : α × β → PyData := fun p => .tuple [a p.1, b p.2]
def eP3 (a : α → PyData) (b : β → PyData) (c : γ → PyData) : α × β × γ → PyData := fun p => .tuple [a p.1, b p.2.1, c p.2.2]
def eP4 (a : α → PyData) (b : β → PyData) (c : γ → PyData) (d : δ → PyData) : α × β × γ × δ → PyData := fun p => .tuple [a p.1, b p.2.1, c p.2.2.1, d p.2.2.2]
def eP5 (a : α → PyData) (b : β → PyData) (c : γ → PyData) (d : δ → PyData) (f : ε → PyData) : α × β × γ × δ × ε → PyData := fun p => .tuple [a p.1, b p.2.1, c p.2.2.1, d p.2.2.2.1, f p.2.2.2.2]
def eO (e : α → PyData) : Option α → PyData
  | none => .none
  | some x => e x
def eD (k : κ → PyData) (v : ν → PyData) : List (κ × ν) → PyData := fun l => .dict (l.map fun p => (k p.1, v p.2))

/-! ### refinement -/
def Rf {β' : Type} (enc : τ → β') : R τ → R β' → Prop
  | .ok x, r => r = .ok (enc x)
  | .ex c f, r => r = .ex c f
  | .bad, _ => True
theorem Rf.ok {β' : Type} {enc : τ → β'} {x : τ} : Rf enc (.ok x) (.ok (enc x)) := rfl
theorem Rf.bad {β' : Type} {enc : τ → β'} {r : R β'} : Rf enc .bad r := trivial
theorem Rf.bind {β' γ' : Type} {enc : τ → β'} {enc2 : υ → γ'} {t : R τ} {r : R β'} {f : τ → R υ} {g : β' → R γ'} (h : Rf enc t r) (i : ∀ x, Rf enc2 (f x) (g (enc x))) : Rf enc2 (t.bind f) (r.bind g) := by
  cases t with
  | ok x => rw [show r = .ok (enc x) from h]; exact i x
  | ex c fl => rw [show r = .ex c fl from h]; rfl
  | bad => trivial
theorem Rf.eq {β' : Type} {enc : τ → β'} {x : τ} {r : R β'} (h : Rf enc (.ok x) r) : r = .ok (enc x) := h

/-! ### slots -/
abbrev TM := List (Nat × PyData)
def lookM : TM → Nat → Option PyData
  | [], _ => none
  | (j, d) :: r, i => if j = i then some d else lookM r i
structure Sm (N : Nat) (M : TM) (η : DEnv) : Prop where
  len : η.length = N
  at_ : ∀ i d, lookM M i = some d → η[i]? = some (some d)
def SubM (A B : TM) : Prop := ∀ i d, lookM A i = some d → lookM B i = some d
theorem sub_refl {M : TM} : SubM M M := fun _ _ h => h
theorem sub_nil {M : TM} : SubM [] M := fun _ _ h => by cases h
theorem Sm.sub {N : Nat} {A B : TM} {η : DEnv} (h : Sm N B η) (s : SubM A B) : Sm N A η := ⟨h.len, fun i d e => h.at_ i d (s i d e)⟩
theorem sub_cons {A M : TM} {i : Nat} {d : PyData} (h : lookM M i = some d) (r : SubM A M) : SubM ((i, d) :: A) M := fun j x e => by
  unfold lookM at e
  by_cases hj : i = j
  · rw [if_pos hj] at e; cases e; rw [← hj]; exact h
  · rw [if_neg hj] at e; exact r j x e
theorem Sm.set {N : Nat} {M : TM} {η : DEnv} (h : Sm N M η) {i : Nat} (hi : i < N) (d : PyData) : Sm N ((i, d) :: M) (η.set i (some d)) := by
  refine ⟨by rw [List.length_set]; exact h.len, fun j x e => ?_⟩
  unfold lookM at e
  by_cases hj : i = j
  · subst hj
    rw [if_pos rfl] at e
    cases e
    rw [List.getElem?_set_self (by rw [h.len]; exact hi)]
  · rw [if_neg hj] at e
    rw [List.getElem?_set_ne hj]
    exact h.at_ j x e
/-- a slot is forgotten -/
def dropM (i : Nat) : TM → TM
  | [] => []
  | (j, d) :: r => if j = i then dropM i r else (j, d) :: dropM i r
theorem lookM_drop {i j : Nat} {d : PyData} : ∀ {M : TM}, lookM (dropM i M) j = some d → i ≠ j ∧ lookM M j = some d
  | [], h => by cases h
  | (k, x) :: M, h => by
    unfold dropM at h
    by_cases hk : k = i
    · rw [if_pos hk] at h
      obtain ⟨h1, h2⟩ := lookM_drop h
      refine ⟨h1, ?_⟩
      unfold lookM
      rw [if_neg (by rw [hk]; exact h1)]
      exact h2
    · rw [if_neg hk] at h
      unfold lookM at h ⊢
      by_cases hj : k = j
      · rw [if_pos hj] at h ⊢
        exact ⟨fun z => hk (hj.trans z.symm), h⟩
      · rw [if_neg hj] at h ⊢
        exact lookM_drop h
theorem Sm.drop {N : Nat} {M : TM} {η : DEnv} (h : Sm N M η) (i : Nat) : Sm N (dropM i M) (η.set i none) := by
  refine ⟨by rw [List.length_set]; exact h.len, fun j x e => ?_⟩
  obtain ⟨h1, h2⟩ := lookM_drop e
  rw [List.getElem?_set_ne h1]
  exact h.at_ j x h2
def startM (ds : List PyData) : TM := ds.zipIdx.map fun p => (p.2, p.1)
theorem lookM_start : ∀ (ds : List PyData) (k i : Nat) (d : PyData), lookM ((ds.zipIdx k).map fun p => (p.2, p.1)) i = some d → k ≤ i ∧ ds[i - k]? = some d
  | [], k, i, d, h => by cases h
  | x :: ds, k, i, d, h => by
    rw [List.zipIdx_cons, List.map_cons] at h
    unfold lookM at h
    by_cases hk : k = i
    · subst hk
      rw [if_pos rfl] at h
      cases h
      exact ⟨Nat.le_refl _, by rw [Nat.sub_self]; rfl⟩
    · rw [if_neg hk] at h
      obtain ⟨h1, h2⟩ := lookM_start ds (k + 1) i d h
      refine ⟨by omega, ?_⟩
      rw [show i - k = (i - (k + 1)) + 1 from by omega]
      exact h2
theorem sm_start {N : List Str} {ds : List PyData} (h : ds.length ≤ N.length) : Sm N.length (startM ds) (startD N ds) := by
  refine ⟨by unfold startD; rw [List.length_append, List.length_map, List.length_replicate]; omega, fun i d e => ?_⟩
  obtain ⟨_, e2⟩ := lookM_start ds 0 i d e
  rw [Nat.sub_zero] at e2
  unfold startD
  have hl := (List.getElem?_eq_some_iff.mp e2).1
  rw [List.getElem?_append_left (by rw [List.length_map]; exact hl), List.getElem?_map, e2]
  rfl

/-! ### judgements on expressions -/
variable {β' γ' : Type}
def TP (N : Nat) (M : TM) (f : DEnv → R β') (enc : τ → β') (t : τ) : Prop := ∀ η, Sm N M η → f η = .ok (enc t)
def TE (N : Nat) (M : TM) (f : DEnv → R β') (enc : τ → β') (t : R τ) : Prop := ∀ η, Sm N M η → Rf enc t (f η)
section
variable {N : Nat} {M : TM} {f fa fb : DEnv → R PyData} {ea : α → PyData} {eb : β → PyData} {e : τ → PyData} {a : α} {b : β} {t : τ} {ra : R α} {rb : R β} {rt : R τ}
theorem TP.te {g : DEnv → R β'} {enc : τ → β'} {x : τ} (h : TP N M g enc x) : TE N M g enc (.ok x) := fun η s => h η s
theorem TP.coe (h : TP N M f ea a) (q : ea a = e t) : TP N M f e t := fun η s => by rw [h η s, q]
theorem TE.coe (h : TE N M f ea ra) {u : α → τ} (q : ∀ x, ea x = e (u x)) : TE N M f e (ra.bind fun x => .ok (u x)) := fun η s => by
  have := h η s
  cases ra with
  | ok x => rw [show f η = .ok (ea x) from this, q x]; rfl
  | ex c fl => exact this
  | bad => trivial
theorem tp_var (i : Nat) (e : τ → PyData) (t : τ) (h : lookM M i = some (e t)) : TP N M (dV i) e t := fun η s => by
  unfold dV; rw [s.at_ i _ h]
theorem tp_c (e : τ → PyData) (t : τ) : TP N M (dC (e t)) e t := fun _ _ => rfl
theorem tp1 {g : PyData → R PyData} {e : τ → PyData} (t : α → τ) (q : ∀ x, g (ea x) = .ok (e (t x))) (h : TP N M f ea a) : TP N M (d1 g f) e (t a) := fun η s => by
  unfold d1; rw [h η s]; exact q a
theorem tp2 {g : PyData → PyData → R PyData} {e : τ → PyData} (t : α → β → τ) (q : ∀ x y, g (ea x) (eb y) = .ok (e (t x y))) (h1 : TP N M fa ea a) (h2 : TP N M fb eb b) : TP N M (d2 g fa fb) e (t a b) := fun η s => by
  unfold d2; rw [h1 η s, R.bind_ok, h2 η s]; exact q a b
theorem te1 {g : PyData → R PyData} {e : τ → PyData} (t : α → R τ) (q : ∀ x, Rf e (t x) (g (ea x))) (h : TE N M f ea ra) : TE N M (d1 g f) e (ra.bind t) := fun η s => (h η s).bind q
theorem te2 {g : PyData → PyData → R PyData} {e : τ → PyData} (t : α → β → R τ) (q : ∀ x y, Rf e (t x y) (g (ea x) (eb y))) (h1 : TE N M fa ea ra) (h2 : TE N M fb eb rb) : TE N M (d2 g fa fb) e (ra.bind fun x => rb.bind fun y => t x y) :=
  fun η s => (h1 η s).bind fun x => (h2 η s).bind fun y => q x y
/-! arguments -/
def TPA (N : Nat) (M : TM) (g : DEnv → R (List PyData)) (ds : List PyData) : Prop := ∀ η, Sm N M η → g η = .ok ds
theorem tpa_nil : TPA N M dNil [] := fun _ _ => rfl
theorem tpa_cons {g : DEnv → R (List PyData)} {ds : List PyData} (h : TP N M f ea a) (r : TPA N M g ds) : TPA N M (dCons f g) (ea a :: ds) := fun η s => by
  unfold dCons; rw [h η s, R.bind_ok, r η s]; rfl
def TEA (N : Nat) (M : TM) (g : DEnv → R (List PyData)) (m : List PyData → R PyData) (e : τ → PyData) (t : R τ) : Prop := ∀ η, Sm N M η → Rf e t ((g η).bind m)
theorem tea_nil {m : List PyData → R PyData} (h : Rf e rt (m [])) : TEA N M dNil m e rt := fun _ _ => h
theorem R.bind_assoc {α β γ : Type} (x : R α) (f : α → R β) (g : β → R γ) : (x.bind f).bind g = x.bind fun a => (f a).bind g := by cases x <;> rfl
theorem tea_cons {g : DEnv → R (List PyData)} {m : List PyData → R PyData} {t : α → R τ} (h : TE N M f ea ra) (r : ∀ x, TEA N M g (fun ds => m (ea x :: ds)) e (t x)) : TEA N M (dCons f g) m e (ra.bind t) := fun η s => by
  unfold dCons
  rw [R.bind_assoc]
  refine (h η s).bind fun x => ?_
  have q := r x η s
  rw [R.bind_assoc]
  exact q
theorem tp_callP {g : DEnv → R (List PyData)} {m : List PyData → R PyData} {ds : List PyData} (h : TPA N M g ds) (q : Rf e rt (m ds)) : TE N M (dCall m g) e rt := fun η s => by
  unfold dCall; rw [h η s]; exact q
theorem te_call {g : DEnv → R (List PyData)} {m : List PyData → R PyData} (h : TEA N M g m e rt) : TE N M (dCall m g) e rt := h
theorem tp_tup {g : DEnv → R (List PyData)} {ds : List PyData} (e : τ → PyData) (t : τ) (h : TPA N M g ds) (q : PyData.tuple ds = e t) : TP N M (dTup g) e t := fun η s => by
  unfold dTup; rw [h η s, R.bind_ok, q]
theorem tp_lst {g : DEnv → R (List PyData)} {ds : List PyData} (e : τ → PyData) (t : τ) (h : TPA N M g ds) (q : PyData.list ds = e t) : TP N M (dLst g) e t := fun η s => by
  unfold dLst; rw [h η s, R.bind_ok, q]
theorem te_tup {g : DEnv → R (List PyData)} (h : TEA N M g (fun ds => .ok (.tuple ds)) e rt) : TE N M (dTup g) e rt := h
theorem te_lst {g : DEnv → R (List PyData)} (h : TEA N M g (fun ds => .ok (.list ds)) e rt) : TE N M (dLst g) e rt := h
/-! truths -/
theorem tp_dB {t' : Bool} (h : TP N M f eB t') : TP N M (dB f) id t' := fun η s => by unfold dB; rw [h η s]; rfl
theorem te_dB {r : R Bool} (h : TE N M f eB r) : TE N M (dB f) id r := fun η s => by
  have q := h η s
  unfold dB
  cases r with
  | ok x => rw [show f η = .ok (.bool x) from q]; exact rfl
  | ex c fl => rw [show f η = .ex c fl from q]; exact rfl
  | bad => trivial
theorem tp_not {t : Bool} (h : TP N M f eB t) : TP N M (dNot f) eB (!t) := fun η s => by unfold dNot; rw [h η s]; rfl
theorem te_not {r : R Bool} (h : TE N M f eB r) : TE N M (dNot f) eB (r.bind fun t => .ok (!t)) := fun η s => (h η s).bind fun x => rfl
theorem tp_and {x y : Bool} (h1 : TP N M fa eB x) (h2 : TP N M fb eB y) : TP N M (dAnd fa fb) eB (x && y) := fun η s => by
  unfold dAnd; rw [h1 η s]; cases x
  · rfl
  · exact h2 η s
theorem tp_or {x y : Bool} (h1 : TP N M fa eB x) (h2 : TP N M fb eB y) : TP N M (dOr fa fb) eB (x || y) := fun η s => by
  unfold dOr; rw [h1 η s]; cases x
  · exact h2 η s
  · rfl
theorem te_and {x y : R Bool} (h1 : TE N M fa eB x) (h2 : TE N M fb eB y) : TE N M (dAnd fa fb) eB (x.bind fun c => if c then y else .ok false) := fun η s => (h1 η s).bind fun c => by
  cases c
  · exact rfl
  · exact h2 η s
theorem te_or {x y : R Bool} (h1 : TE N M fa eB x) (h2 : TE N M fb eB y) : TE N M (dOr fa fb) eB (x.bind fun c => if c then .ok true else y) := fun η s => (h1 η s).bind fun c => by
  cases c
  · exact h2 η s
  · exact rfl
variable {ga gb : DEnv → R Bool} {x y : Bool} {rx ry : R Bool}
theorem tp_bnot (h : TP N M ga id x) : TP N M (bNot ga) id (!x) := fun η s => by unfold bNot; rw [h η s]; rfl
theorem te_bnot (h : TE N M ga id rx) : TE N M (bNot ga) id (rx.bind fun t => .ok (!t)) := fun η s => (h η s).bind fun x => rfl
theorem tp_band (h1 : TP N M ga id x) (h2 : TP N M gb id y) : TP N M (bAnd ga gb) id (x && y) := fun η s => by
  unfold bAnd; rw [h1 η s]; cases x
  · rfl
  · exact h2 η s
theorem tp_bor (h1 : TP N M ga id x) (h2 : TP N M gb id y) : TP N M (bOr ga gb) id (x || y) := fun η s => by
  unfold bOr; rw [h1 η s]; cases x
  · exact h2 η s
  · rfl
theorem te_band (h1 : TE N M ga id rx) (h2 : TE N M gb id ry) : TE N M (bAnd ga gb) id (rx.bind fun c => if c then ry else .ok false) := fun η s => (h1 η s).bind fun c => by
  cases c
  · exact rfl
  · exact h2 η s
theorem te_bor (h1 : TE N M ga id rx) (h2 : TE N M gb id ry) : TE N M (bOr ga gb) id (rx.bind fun c => if c then .ok true else ry) := fun η s => (h1 η s).bind fun c => by
  cases c
  · exact h2 η s
  · exact rfl
end
end
end DL
end

section
set_option Elab.async false
set_option linter.all false
set_option maxRecDepth 100000
set_option maxHeartbeats 4000000
namespace DL
open PySem

/-! ### what a block does -/
inductive TF (σ ρ : Type) where
  | nx (s : σ)
  | rt (r : ρ)
  | ex (c : String) (f : Option PyData)
  | bad
section
variable {α β γ δ ε τ υ σ σ' ρ : Type} {β' γ' : Type}
def R.tf (r : R τ) (h : τ → TF σ ρ) : TF σ ρ := match r with
  | .ok x => h x
  | .ex c f => .ex c f
  | .bad => .bad
@[simp] theorem R.tf_ok (x : τ) (h : τ → TF σ ρ) : (R.ok x).tf h = h x := rfl
@[simp] theorem R.tf_ex (c : String) (f : Option PyData) (h : τ → TF σ ρ) : (R.ex c f : R τ).tf h = .ex c f := rfl
@[simp] theorem R.tf_bad (h : τ → TF σ ρ) : (R.bad : R τ).tf h = .bad := rfl
def TF.seq (x : TF σ ρ) (h : σ → TF σ' ρ) : TF σ' ρ := match x with
  | .nx s => h s
  | .rt r => .rt r
  | .ex c f => .ex c f
  | .bad => .bad
@[simp] theorem TF.seq_nx (s : σ) (h : σ → TF σ' ρ) : (TF.nx s : TF σ ρ).seq h = h s := rfl
@[simp] theorem TF.seq_rt (r : ρ) (h : σ → TF σ' ρ) : (TF.rt r : TF σ ρ).seq h = .rt r := rfl
@[simp] theorem TF.seq_ex (c : String) (f : Option PyData) (h : σ → TF σ' ρ) : (TF.ex c f : TF σ ρ).seq h = .ex c f := rfl
@[simp] theorem TF.seq_bad (h : σ → TF σ' ρ) : (TF.bad : TF σ ρ).seq h = .bad := rfl
/-- a block that never goes on -/
def TF.up (x : TF Empty ρ) : TF σ ρ := match x with
  | .rt r => .rt r
  | .ex c f => .ex c f
  | .bad => .bad
@[simp] theorem TF.up_rt (r : ρ) : (TF.rt r : TF Empty ρ).up (σ := σ) = .rt r := rfl
@[simp] theorem TF.up_ex (c : String) (f : Option PyData) : (TF.ex c f : TF Empty ρ).up (σ := σ) = .ex c f := rfl
@[simp] theorem TF.up_bad : (TF.bad : TF Empty ρ).up (σ := σ) = .bad := rfl
def TF.run (d : σ → ρ) (x : TF σ ρ) : R ρ := match x with
  | .nx s => .ok (d s)
  | .rt r => .ok r
  | .ex c f => .ex c f
  | .bad => .bad
@[simp] theorem TF.run_nx (d : σ → ρ) (s : σ) : (TF.nx s : TF σ ρ).run d = .ok (d s) := rfl
@[simp] theorem TF.run_rt (d : σ → ρ) (r : ρ) : (TF.rt r : TF σ ρ).run d = .ok r := rfl
@[simp] theorem TF.run_ex (d : σ → ρ) (c : String) (f : Option PyData) : (TF.ex c f : TF σ ρ).run d = .ex c f := rfl
@[simp] theorem TF.run_bad (d : σ → ρ) : (TF.bad : TF σ ρ).run d = .bad := rfl

def RfS (N : Nat) (out : σ → TM) (X : TM) (e : ρ → PyData) : TF σ ρ → Fl → Prop
  | .nx s, fl => ∃ η, fl = .nx η ∧ Sm N (out s) η
  | .rt r, fl => fl = .rt (e r)
  | .ex c f, fl => ∃ η, fl = .ex c f η ∧ Sm N X η
  | .bad, _ => True
def TB (N : Nat) (M : TM) (g : DEnv → Fl) (out : σ → TM) (X : TM) (e : ρ → PyData) (h : TF σ ρ) : Prop := ∀ η, Sm N M η → RfS N out X e h (g η)
abbrev noOut : Empty → TM := fun _ => []
variable {N : Nat} {M X : TM} {f : DEnv → R PyData} {ea : α → PyData} {e : ρ → PyData} {a : α} {ra : R α} {g g1 g2 : DEnv → Fl} {out : σ → TM}
/-- on from an expression -/
theorem fl_of {enc : α → β'} {r : R β'} {k : β' → Fl} {h : α → TF σ ρ} {η : DEnv} (q : Rf enc ra r) (s : Sm N X η) (i : ∀ x, RfS N out X e (h x) (k (enc x))) : RfS N out X e (ra.tf h) (r.fl η k) := by
  cases ra with
  | ok x => rw [show r = .ok (enc x) from q]; exact i x
  | ex c fl => rw [show r = .ex c fl from q]; exact ⟨η, rfl, s⟩
  | bad => trivial
theorem then_of {out1 : α → TM} {h : TF α ρ} {k : α → TF σ ρ} {fl : Fl} {g : DEnv → Fl} (q : RfS N out1 X e h fl) (i : ∀ s, TB N (out1 s) g out X e (k s)) : RfS N out X e (h.seq k) (fl.then g) := by
  cases h with
  | nx s => obtain ⟨η, rfl, m⟩ := q; exact i s η m
  | rt r => rw [show fl = .rt (e r) from q]; exact rfl
  | ex c f => obtain ⟨η, rfl, m⟩ := q; exact ⟨η, rfl, m⟩
  | bad => trivial
theorem sSeq_nil : sSeq g sNil = g := by
  funext η
  unfold sSeq
  cases g η <;> rfl
theorem tb_last {h : TF σ ρ} (i : TB N M (sSeq g sNil) out X e h) : TB N M g out X e h := by rw [sSeq_nil] at i; exact i
theorem tb_end {s : σ} (i : SubM (out s) M) : TB N M sNil out X e (.nx s) := fun η m => ⟨η, rfl, m.sub i⟩
theorem tb_end' {s : σ} (i : SubM (out s) M) (h : TF σ ρ) (q : h = .nx s) : TB N M sNil out X e h := by rw [q]; exact tb_end i
theorem tb_ret {rr : R ρ} (i : TE N M f e rr) (hX : SubM X M) : TB N M (sRet f) out X e (rr.tf .rt) := fun η m => fl_of (i η m) (m.sub hX) fun x => rfl
theorem tb_retP {r : ρ} (i : TP N M f e r) : TB N M (sRet f) out X e (.rt r) := fun η m => by unfold sRet; rw [i η m]; exact rfl
theorem tb_set {h : α → TF σ ρ} (j : Nat) (hX : SubM X M) (i : TE N M f ea ra) (k : ∀ v, TB N ((j, ea v) :: M) g out X e (h v)) (hj : j < N := by decide) : TB N M (sSeq (sSet j f) g) out X e (ra.tf h) := fun η m => by
  have q := i η m
  unfold sSeq sSet
  cases ra with
  | ok x => rw [show f η = .ok (ea x) from q]; exact k x _ (m.set hj _)
  | ex c fl => rw [show f η = .ex c fl from q]; exact ⟨η, rfl, m.sub hX⟩
  | bad => trivial
theorem tb_setP {h : α → TF σ ρ} (j : Nat) (i : TP N M f ea a) (k : ∀ v, TB N ((j, ea v) :: M) g out X e (h v)) (hj : j < N := by decide) : TB N M (sSeq (sSet j f) g) out X e (h a) := fun η m => by
  unfold sSeq sSet; rw [i η m]; exact k a _ (m.set hj _)
theorem tb_expr {h : TF σ ρ} (hX : SubM X M) (i : TE N M f ea ra) (k : TB N M g out X e h) : TB N M (sSeq (sExpr f) g) out X e (ra.tf fun _ => h) := fun η m => by
  have q := i η m
  unfold sSeq sExpr
  cases ra with
  | ok x => rw [show f η = .ok (ea x) from q]; exact k _ m
  | ex c fl => rw [show f η = .ex c fl from q]; exact ⟨η, rfl, m.sub hX⟩
  | bad => trivial
theorem tb_pass {h : TF σ ρ} (k : TB N M g out X e h) : TB N M (sSeq sPass g) out X e h := k
theorem tb_raise {c : String} (hX : SubM X M) : TB N M (sRaise c) out X e (.ex c none) := fun η m => ⟨η, rfl, m.sub hX⟩
theorem tb_raiseF {c : String} (hX : SubM X M) (i : TE N M f ea ra) : TB N M (sRaiseF c f) out X e (ra.tf fun x => .ex c (some (ea x))) := fun η m => fl_of (i η m) (m.sub hX) fun x => ⟨η, rfl, m.sub hX⟩
variable {c : DEnv → R Bool} {tc : R Bool} {b : Bool}
/-- if: the branch leaves -/
theorem tb_ifx {h1 : TF Empty ρ} {h2 : TF σ ρ} (hX : SubM X M) (i : TE N M c id tc) (k1 : TB N M g1 noOut X e h1) (k2 : TB N M g2 out X e h2) : TB N M (sSeq (sIf c g1 sNil) g2) out X e (tc.tf fun b => if b then h1.up else h2) := fun η m => by
  have q := i η m
  unfold sSeq sIf
  cases tc with
  | ok x =>
    rw [show c η = .ok x from q]
    cases x with
    | true =>
      have q1 := k1 η m
      show RfS N out X e h1.up ((g1 η).then g2)
      cases h1 with
      | nx s => cases s
      | rt r => rw [show g1 η = .rt (e r) from q1]; exact rfl
      | ex c f => obtain ⟨η', e1, m1⟩ := q1; rw [e1]; exact ⟨η', rfl, m1⟩
      | bad => trivial
    | false => exact k2 η m
  | ex c2 fl => rw [show c η = .ex c2 fl from q]; exact ⟨η, rfl, m.sub hX⟩
  | bad => trivial
theorem tb_if {h1 h2 : TF σ' ρ} {h : σ' → TF σ ρ} (outJ : σ' → TM) (hX : SubM X M) (i : TE N M c id tc) (k1 : TB N M g1 outJ X e h1) (k2 : TB N M g2 outJ X e h2) (k : ∀ s, TB N (outJ s) g out X e (h s)) :
    TB N M (sSeq (sIf c g1 g2) g) out X e ((tc.tf fun b => if b then h1 else h2).seq h) := fun η m => then_of (fl_of (i η m) (m.sub hX) fun x => by
      cases x
      · exact k2 η m
      · exact k1 η m) k
theorem tb_if2 {h1 h2 : TF σ ρ} (hX : SubM X M) (i : TE N M c id tc) (k1 : TB N M g1 out X e h1) (k2 : TB N M g2 out X e h2) : TB N M (sIf c g1 g2) out X e (tc.tf fun b => if b then h1 else h2) := fun η m => fl_of (i η m) (m.sub hX) fun x => by
  cases x
  · exact k2 η m
  · exact k1 η m

/-! ### loops -/
def forT (body : α → σ → TF σ ρ) : List α → σ → TF σ ρ
  | [], s => .nx s
  | x :: xs, s => (body x s).seq (forT body xs)
/-- a target gets an item -/
structure Tg (N : Nat) (t : PyData → DEnv → R DEnv) (ea : α → PyData) (tm : α → TM) : Prop where
  run : ∀ x M η, Sm N M η → ∃ η', t (ea x) η = .ok η' ∧ Sm N (tm x ++ M) η'
theorem tg_one (j : Nat) (ea : α → PyData) (hj : j < N := by decide) : Tg N (tgN j) ea fun x => [(j, ea x)] := ⟨fun x M η m => ⟨_, rfl, m.set hj _⟩⟩
theorem tg_two (i j : Nat) (e1 : α → PyData) (e2 : β → PyData) (hi : i < N := by decide) (hj : j < N := by decide) : Tg N (tgT [i, j]) (eP2 e1 e2) fun x => [(j, e2 x.2), (i, e1 x.1)] :=
  ⟨fun x M η m => ⟨_, rfl, (m.set hi _).set hj _⟩⟩
theorem tg_three (i j k : Nat) (e1 : α → PyData) (e2 : β → PyData) (e3 : γ → PyData) (hi : i < N := by decide) (hj : j < N := by decide) (hk : k < N := by decide) : Tg N (tgT [i, j, k]) (eP3 e1 e2 e3) fun x => [(k, e3 x.2.2), (j, e2 x.2.1), (i, e1 x.1)] :=
  ⟨fun x M η m => ⟨_, rfl, ((m.set hi _).set hj _).set hk _⟩⟩
variable {it : DEnv → R (List PyData)} {t : PyData → DEnv → R DEnv} {tm : α → TM} {ri : R (List α)} {xs : List α}
theorem forGo_of {body : α → σ → TF σ ρ} {outL : σ → TM} (T : Tg N t ea tm) (k : ∀ x s, TB N (tm x ++ outL s) g outL X e (body x s)) : ∀ (xs : List α) (s : σ), TB N (outL s) (forGo t g (xs.map ea)) outL X e (forT body xs s)
  | [], s => fun η m => ⟨η, rfl, m⟩
  | x :: xs, s => fun η m => by
    obtain ⟨η', e1, m1⟩ := T.run x _ η m
    show RfS N outL X e ((body x s).seq (forT body xs)) (forGo t g (ea x :: xs.map ea) η)
    unfold forGo
    rw [e1]
    exact then_of (k x s η' m1) (forGo_of T k xs)
theorem tb_for {body : α → σ' → TF σ' ρ} {h : σ' → TF σ ρ} (outL : σ' → TM) (s0 : σ') (hX : SubM X M) (T : Tg N t ea tm) (i : TE N M it (List.map ea) ri) (k : ∀ x s, TB N (tm x ++ outL s) g1 outL X e (body x s)) (h0 : SubM (outL s0) M)
    (kk : ∀ s, TB N (outL s) g out X e (h s)) : TB N M (sSeq (sFor it t g1) g) out X e ((ri.tf fun xs => forT body xs s0).seq h) := fun η m => then_of (fl_of (i η m) (m.sub hX) fun xs => forGo_of T k xs s0 η (m.sub h0)) kk
def whileT (c : σ → R Bool) (body : σ → TF σ ρ) : Nat → σ → TF σ ρ
  | 0, _ => .bad
  | n + 1, s => (c s).tf fun b => if b then (body s).seq (whileT c body n) else .nx s
theorem whileGo_of {cs : σ → R Bool} {body : σ → TF σ ρ} {outL : σ → TM} (hX : ∀ s, SubM X (outL s)) (i : ∀ s, TE N (outL s) c id (cs s)) (k : ∀ s, TB N (outL s) g outL X e (body s)) : ∀ (n : Nat) (s : σ), TB N (outL s) (whileGo c g n) outL X e (whileT cs body n s)
  | 0, s => fun η m => trivial
  | n + 1, s => fun η m => fl_of (i s η m) (m.sub (hX s)) fun b => by
    cases b
    · exact ⟨η, rfl, m⟩
    · exact then_of (k s η m) (whileGo_of hX i k n)
theorem tb_while {cs : σ' → R Bool} {body : σ' → TF σ' ρ} {h : σ' → TF σ ρ} (n : Nat) (outL : σ' → TM) (s0 : σ') (hX : ∀ s, SubM X (outL s)) (i : ∀ s, TE N (outL s) c id (cs s)) (k : ∀ s, TB N (outL s) g1 outL X e (body s)) (h0 : SubM (outL s0) M)
    (kk : ∀ s, TB N (outL s) g out X e (h s)) : TB N M (sSeq (sWhile n c g1) g) out X e ((whileT cs body n s0).seq h) := fun η m => then_of (whileGo_of hX i k n s0 η (m.sub h0)) kk

/-! ### comprehensions -/
def compR (c : α → R Bool) (t : α → R β) : List α → R (List β)
  | [] => .ok []
  | x :: xs => (c x).bind fun b => if b then (t x).bind fun y => (compR c t xs).bind fun r => .ok (y :: r) else compR c t xs
/-- errors in a comprehension are not told -/
def noEx (r : R τ) : R τ := match r with
  | .ok x => .ok x
  | _ => .bad
@[simp] theorem noEx_ok (x : τ) : noEx (.ok x) = .ok x := rfl
variable {el : DEnv → R PyData} {eb : β → PyData}
theorem lcGo_of {tc : α → R Bool} {tl : α → R β} {η : DEnv} (m : Sm N M η) (T : Tg N t ea tm) (i : ∀ x, TE N (tm x ++ M) c id (tc x)) (k : ∀ x, TE N (tm x ++ M) el eb (tl x)) : ∀ xs : List α, Rf (List.map eb) (compR tc tl xs) (lcGo t c el η (xs.map ea))
  | [] => rfl
  | x :: xs => by
    obtain ⟨η', e1, m1⟩ := T.run x _ η m
    show Rf _ (compR tc tl (x :: xs)) (lcGo t c el η (ea x :: xs.map ea))
    unfold lcGo compR
    rw [e1, R.bind_ok]
    refine (i x η' m1).bind fun b => ?_
    cases b with
    | false => exact lcGo_of m T i k xs
    | true => exact (k x η' m1).bind fun y => (lcGo_of m T i k xs).bind fun r => rfl
theorem te_lc {tc : α → R Bool} {tl : α → R β} (T : Tg N t ea tm) (h : TE N M it (List.map ea) ri) (i : ∀ x, TE N (tm x ++ M) c id (tc x)) (k : ∀ x, TE N (tm x ++ M) el eb (tl x)) : TE N M (dLc it t c el) (eL eb) (ri.bind fun xs => noEx (compR tc tl xs)) := fun η m => by
  refine (h η m).bind fun xs => ?_
  have q := lcGo_of m T i k xs
  cases z : compR tc tl xs with
  | ok ys => rw [z] at q; rw [show lcGo t c el η (xs.map ea) = .ok (ys.map eb) from q]; exact rfl
  | ex c fl => trivial
  | bad => trivial
theorem tp_lc {tc : α → Bool} {tl : α → β} (T : Tg N t ea tm) (h : TP N M it (List.map ea) xs) (i : ∀ x, TP N (tm x ++ M) c id (tc x)) (k : ∀ x, TP N (tm x ++ M) el eb (tl x)) : TP N M (dLc it t c el) (eL eb) ((xs.filter tc).map tl) := fun η m => by
  unfold dLc
  rw [h η m, R.bind_ok]
  have q : ∀ xs : List α, lcGo t c el η (xs.map ea) = .ok (((xs.filter tc).map tl).map eb) := fun xs => by
    induction xs with
    | nil => rfl
    | cons x xs ih =>
      obtain ⟨η', e1, m1⟩ := T.run x _ η m
      rw [List.map_cons]
      unfold lcGo
      rw [e1, R.bind_ok, i x η' m1, R.bind_ok]
      cases hc : tc x with
      | false => rw [List.filter_cons_of_neg (by rw [hc]; decide)]; exact ih
      | true => rw [List.filter_cons_of_pos hc, List.map_cons, List.map_cons]; show (el η').bind _ = _; rw [k x η' m1, R.bind_ok, ih]; rfl
  rw [q]
  rfl
theorem tp_lc0 {tl : α → β} (T : Tg N t ea tm) (h : TP N M it (List.map ea) xs) (k : ∀ x, TP N (tm x ++ M) el eb (tl x)) : TP N M (dLc it t cT el) (eL eb) (xs.map tl) := fun η m => by
  have q := tp_lc (c := cT) (tc := fun _ => true) T h (fun _ _ _ => rfl) k η m
  rw [List.filter_eq_self.mpr (fun _ _ => rfl)] at q
  exact q
def compR0 (t : α → R β) (xs : List α) : R (List β) := compR (fun _ => .ok true) t xs
theorem te_lc0 {tl : α → R β} (T : Tg N t ea tm) (h : TE N M it (List.map ea) ri) (k : ∀ x, TE N (tm x ++ M) el eb (tl x)) : TE N M (dLc it t cT el) (eL eb) (ri.bind fun xs => noEx (compR0 tl xs)) :=
  te_lc T h (fun _ _ _ => rfl) k

/-! ### lists that grow -/
def push (xs : List α) (v : α) : R (List α) := if xs.length < sizeLine then .ok (xs ++ [v]) else .bad
def exten (xs ys : List α) : R (List α) := if xs.length + ys.length ≤ sizeLine then .ok (xs ++ ys) else .bad
theorem listAt_of_sm {η : DEnv} {i : Nat} {xs : List α} (m : Sm N M η) (h : lookM M i = some (eL ea xs)) : listAt η i = some (xs.map ea) := by
  unfold listAt; rw [m.at_ i _ h]; rfl
theorem tb_app {h : List α → TF σ ρ} (j : Nat) (ea : α → PyData) (xs : List α) (hl : lookM M j = some (eL ea xs)) (hX : SubM X M) (i : TE N M f ea ra) (k : ∀ ys, TB N ((j, eL ea ys) :: M) g out X e (h ys)) (hj : j < N := by decide) :
    TB N M (sSeq (sApp j f) g) out X e (ra.tf fun v => (push xs v).tf h) := fun η m => by
  unfold sSeq sApp
  rw [listAt_of_sm m hl]
  have q := i η m
  cases ra with
  | ok x =>
    dsimp only
    rw [show f η = .ok (ea x) from q]
    show RfS N out X e ((push xs x).tf h) ((if (xs.map ea).length < sizeLine then Fl.nx (η.set j (some (.list (xs.map ea ++ [ea x])))) else .bad).then g)
    unfold push
    rw [List.length_map]
    by_cases hz : xs.length < sizeLine
    · rw [if_pos hz, if_pos hz]
      have e1 : PyData.list (xs.map ea ++ [ea x]) = eL ea (xs ++ [x]) := by unfold eL; rw [List.map_append]; rfl
      rw [e1]
      exact k (xs ++ [x]) _ (m.set hj _)
    · rw [if_neg hz]; trivial
  | ex c fl => dsimp only; rw [show f η = .ex c fl from q]; exact ⟨η, rfl, m.sub hX⟩
  | bad => trivial
theorem tb_ext {h : List α → TF σ ρ} {rb : R (List α)} (j : Nat) (ea : α → PyData) (xs : List α) (hl : lookM M j = some (eL ea xs)) (hX : SubM X M) (i : TE N M f (eL ea) rb) (k : ∀ ys, TB N ((j, eL ea ys) :: M) g out X e (h ys)) (hj : j < N := by decide) :
    TB N M (sSeq (sExt j f) g) out X e (rb.tf fun v => (exten xs v).tf h) := fun η m => by
  unfold sSeq sExt
  rw [listAt_of_sm m hl]
  have q := i η m
  cases rb with
  | ok x =>
    dsimp only
    rw [show f η = .ok (.list (x.map ea)) from q]
    show RfS N out X e ((exten xs x).tf h) ((if (xs.map ea).length + (x.map ea).length ≤ sizeLine then Fl.nx (η.set j (some (.list (xs.map ea ++ x.map ea)))) else .bad).then g)
    unfold exten
    rw [List.length_map, List.length_map]
    by_cases hz : xs.length + x.length ≤ sizeLine
    · rw [if_pos hz, if_pos hz]
      have e1 : PyData.list (xs.map ea ++ x.map ea) = eL ea (xs ++ x) := by unfold eL; rw [List.map_append]
      rw [e1]
      exact k (xs ++ x) _ (m.set hj _)
    · rw [if_neg hz]; trivial
  | ex c fl => dsimp only; rw [show f η = .ex c fl from q]; exact ⟨η, rfl, m.sub hX⟩
  | bad => trivial
/-- x.append(y.pop(k)) -/
def popAt (ys : List α) (k : Int) : R (α × List α) := match L2.ixN ys.length k with
  | some m => match ys[m]? with
    | some y => if ys.length ≤ sizeLine then .ok (y, ys.eraseIdx m) else .bad
    | none => .bad
  | none => .bad
theorem eraseIdx_map (f : α → β) : ∀ (l : List α) (i : Nat), (l.map f).eraseIdx i = (l.eraseIdx i).map f
  | [], _ => rfl
  | x :: l, 0 => rfl
  | x :: l, i + 1 => by rw [List.map_cons, List.eraseIdx_cons_succ, List.eraseIdx_cons_succ, List.map_cons, eraseIdx_map f l i]
theorem tb_appPop {h : List α → List α → TF σ ρ} {rk : R Int} (i j : Nat) (ea : α → PyData) (xs ys : List α) (hij : i ≠ j) (hl : lookM M i = some (eL ea xs)) (hl2 : lookM M j = some (eL ea ys)) (hX : SubM X M) (q : TE N M f eI rk)
    (k : ∀ xs' ys', TB N ((i, eL ea xs') :: (j, eL ea ys') :: M) g out X e (h xs' ys')) (hi : i < N := by decide) (hj : j < N := by decide) :
    TB N M (sSeq (sAppPop i j f) g) out X e (rk.tf fun k => (popAt ys k).tf fun p => (push xs p.1).tf fun xs' => h xs' p.2) := fun η m => by
  unfold sSeq sAppPop
  rw [listAt_of_sm m hl, listAt_of_sm m hl2]
  have q := q η m
  cases rk with
  | ok n =>
    dsimp only
    rw [show f η = .ok (.int n) from q]
    show RfS N out X e ((popAt ys n).tf _) ((match L2.ixN (ys.map ea).length n with
      | some m => match (ys.map ea)[m]? with
        | some y => if (xs.map ea).length < sizeLine ∧ (ys.map ea).length ≤ sizeLine then Fl.nx ((η.set j (some (.list ((ys.map ea).eraseIdx m)))).set i (some (.list (xs.map ea ++ [y])))) else .bad
        | none => .bad
      | none => .bad).then g)
    unfold popAt push
    rw [List.length_map, List.length_map]
    cases L2.ixN ys.length n with
    | none => trivial
    | some p =>
      dsimp only
      rw [List.getElem?_map]
      cases ys[p]? with
      | none => trivial
      | some y =>
        dsimp only [Option.map]
        by_cases h2 : ys.length ≤ sizeLine
        · rw [if_pos h2]
          by_cases h1 : xs.length < sizeLine
          · show RfS N out X e ((if xs.length < sizeLine then R.ok (xs ++ [y]) else .bad).tf _) _
            rw [if_pos h1, if_pos ⟨h1, h2⟩, eraseIdx_map]
            have e1 : PyData.list (xs.map ea ++ [ea y]) = eL ea (xs ++ [y]) := by unfold eL; rw [List.map_append]; rfl
            rw [e1]
            exact k _ _ _ ((m.set hj _).set hi _)
          · show RfS N out X e ((if xs.length < sizeLine then R.ok (xs ++ [y]) else .bad).tf _) _
            rw [if_neg h1]; trivial
        · rw [if_neg h2]; trivial
  | ex c fl => dsimp only; rw [show f η = .ex c fl from q]; exact ⟨η, rfl, m.sub hX⟩
  | bad => trivial

/-! ### try -/
def TF.catch (x : TF σ ρ) (d : PyData) (h : σ → PyData → TF σ' ρ) (k : String → Option PyData → TF σ' ρ) : TF σ' ρ := match x with
  | .nx s => h s d
  | .rt r => .rt r
  | .ex c f => k c f
  | .bad => .bad
/-- try: BODY except .. as n: y = n; Xb: what holds where the body raises; y's value ahead is d -/
theorem tb_try {h1 : TF σ' ρ} {h : σ' → TF σ ρ} {kx : String → Option PyData → TF σ ρ} {ec : EC} (i j : Nat) (outT : σ' → TM) (Xb : TM) (k1 : TB N M g1 outT Xb e h1) (kk : ∀ s, TB N (outT s) g out X e (h s))
    (kx' : ∀ c fl, TB N (dropM i ((j, exDat ec c fl) :: dropM i Xb)) g out X e (kx c fl)) (hj : j < N := by decide) :
    TB N M (sSeq (sTry ec i j g1) g) out X e (h1.catch .none (fun s _ => h s) kx) := fun η m => by
  have q := k1 η m
  unfold sSeq sTry
  cases h1 with
  | nx s => obtain ⟨η', e1, m1⟩ := q; rw [e1]; exact kk s η' m1
  | rt r => rw [show g1 η = .rt (e r) from q]; exact rfl
  | ex c fl =>
    obtain ⟨η', e1, m1⟩ := q
    rw [e1]
    exact kx' c fl _ ((((m1.drop i).set hj _)).drop i)
  | bad => trivial

/-! ### a def -/
theorem rf_fun {Ns : List Str} {ds : List PyData} {h : TF σ ρ} (d : σ → ρ) (hd : ∀ s, PyData.none = e (d s)) (hl : ds.length ≤ Ns.length) (M0 : TM) (hM : startM ds = M0) (k : TB Ns.length M0 g out [] e h) : Rf e (h.run d) (runF (g (startD Ns ds))) := by
  have q := k _ (hM ▸ sm_start hl)
  cases h with
  | nx s => obtain ⟨η, e1, _⟩ := q; rw [e1]; show R.ok PyData.none = R.ok (e (d s)); rw [hd]
  | rt r => rw [show g _ = .rt (e r) from q]; rfl
  | ex c fl => obtain ⟨η, e1, _⟩ := q; rw [e1]; rfl
  | bad => trivial
theorem rf_fun0 {Ns : List Str} {ds : List PyData} {h : TF Empty ρ} (hl : ds.length ≤ Ns.length) (M0 : TM) (hM : startM ds = M0) (k : TB Ns.length M0 g noOut [] e h) : Rf e (h.run (fun z => nomatch z)) (runF (g (startD Ns ds))) := rf_fun _ (fun s => nomatch s) hl M0 hM k
end

/-! ### the same, of pure parts -/
section
variable {α β γ δ ε τ υ σ σ' ρ : Type} {N : Nat} {M X : TM} {f fa fb : DEnv → R PyData} {ea : α → PyData} {eb : β → PyData} {e : ρ → PyData} {et : τ → PyData} {a : α} {b : β} {ra : R α} {rb : R β} {g g1 g2 : DEnv → Fl} {out : σ → TM} {c : DEnv → R Bool} {tc : R Bool} {q : Bool}
def Exits (g : DEnv → Fl) : Prop := ∀ η η', g η ≠ .nx η'
theorem ex_ret : Exits (sRet f) := fun η η' h => by unfold sRet at h; cases z : f η <;> rw [z] at h <;> cases h
theorem ex_raise {c : String} : Exits (sRaise c) := fun η η' h => by cases h
theorem ex_raiseF {c : String} : Exits (sRaiseF c f) := fun η η' h => by unfold sRaiseF at h; cases z : f η <;> rw [z] at h <;> cases h
theorem ex_seq (h : Exits g2) : Exits (sSeq g1 g2) := fun η η' q => by
  unfold sSeq at q
  cases z : g1 η with
  | nx η2 => rw [z] at q; exact h η2 η' q
  | rt d => rw [z] at q; cases q
  | ex c f η2 => rw [z] at q; cases q
  | bad => rw [z] at q; cases q
theorem ex_if (h1 : Exits g1) (h2 : Exits g2) : Exits (sIf c g1 g2) := fun η η' q => by
  unfold sIf at q
  cases z : c η with
  | ok x => rw [z] at q; cases x; exact h2 η η' q; exact h1 η η' q
  | ex c f => rw [z] at q; cases q
  | bad => rw [z] at q; cases q
theorem exits_of {h1 : TF σ ρ} {η : DEnv} {out' : σ → TM} (hE : Exits g1) (q : RfS N out X e h1 (g1 η)) : RfS N out' X e h1 ((g1 η).then g2) := by
  cases h1 with
  | nx s => obtain ⟨η', e1, _⟩ := q; exact (hE η η' e1).elim
  | rt r => rw [show g1 η = .rt (e r) from q]; exact rfl
  | ex c f => obtain ⟨η', e1, m1⟩ := q; rw [e1]; exact ⟨η', rfl, m1⟩
  | bad => trivial
theorem tb_ifE {h1 h2 : TF σ ρ} (hX : SubM X M) (hE : Exits g1) (i : TE N M c id tc) (k1 : TB N M g1 out X e h1) (k2 : TB N M g2 out X e h2) : TB N M (sSeq (sIf c g1 sNil) g2) out X e (tc.tf fun b => if b then h1 else h2) := fun η m => by
  have q := i η m
  unfold sSeq sIf
  cases tc with
  | ok x =>
    rw [show c η = .ok x from q]
    cases x with
    | true => exact exits_of hE (k1 η m)
    | false => exact k2 η m
  | ex c2 fl => rw [show c η = .ex c2 fl from q]; exact ⟨η, rfl, m.sub hX⟩
  | bad => trivial
theorem tb_ifEP {h1 h2 : TF σ ρ} (hE : Exits g1) (i : TP N M c id q) (k1 : TB N M g1 out X e h1) (k2 : TB N M g2 out X e h2) : TB N M (sSeq (sIf c g1 sNil) g2) out X e (if q then h1 else h2) := fun η m => by
  unfold sSeq sIf
  rw [i η m]
  cases q with
  | true => exact exits_of hE (k1 η m)
  | false => exact k2 η m
/-- both branches leave -/
theorem tb_if2E {h1 h2 : TF σ ρ} {g3 : DEnv → Fl} (hX : SubM X M) (hE1 : Exits g1) (hE2 : Exits g2) (i : TE N M c id tc) (k1 : TB N M g1 out X e h1) (k2 : TB N M g2 out X e h2) : TB N M (sSeq (sIf c g1 g2) g3) out X e (tc.tf fun b => if b then h1 else h2) := fun η m => by
  have q := i η m
  unfold sSeq sIf
  cases tc with
  | ok x =>
    rw [show c η = .ok x from q]
    cases x with
    | true => exact exits_of hE1 (k1 η m)
    | false => exact exits_of hE2 (k2 η m)
  | ex c2 fl => rw [show c η = .ex c2 fl from q]; exact ⟨η, rfl, m.sub hX⟩
  | bad => trivial
theorem tb_if2EP {h1 h2 : TF σ ρ} {g3 : DEnv → Fl} (hE1 : Exits g1) (hE2 : Exits g2) (i : TP N M c id q) (k1 : TB N M g1 out X e h1) (k2 : TB N M g2 out X e h2) : TB N M (sSeq (sIf c g1 g2) g3) out X e (if q then h1 else h2) := fun η m => by
  unfold sSeq sIf
  rw [i η m]
  cases q with
  | true => exact exits_of hE1 (k1 η m)
  | false => exact exits_of hE2 (k2 η m)
theorem tb_ifP {h1 h2 : TF σ' ρ} {h : σ' → TF σ ρ} (outJ : σ' → TM) (i : TP N M c id q) (k1 : TB N M g1 outJ X e h1) (k2 : TB N M g2 outJ X e h2) (k : ∀ s, TB N (outJ s) g out X e (h s)) :
    TB N M (sSeq (sIf c g1 g2) g) out X e ((if q then h1 else h2).seq h) := fun η m => then_of (by
      unfold sIf
      rw [i η m]
      cases q
      · exact k2 η m
      · exact k1 η m) k
/-- x is None, x an option at a slot -/
theorem tb_isN {h1 : TF σ ρ} {h2 : α → TF σ ρ} (j : Nat) (ea : α → PyData) (x : Option α) (hl : lookM M j = some (eO ea x)) (nn : ∀ x, ea x ≠ .none) (hE : Exits g1) (k1 : TB N ((j, .none) :: M) g1 out X e h1) (k2 : ∀ v, TB N ((j, ea v) :: M) g2 out X e (h2 v)) :
    TB N M (sSeq (sIf (dB (d2 (dIs false) (dV j) (dC .none))) g1 sNil) g2) out X e (match x with | none => h1 | some v => h2 v) := fun η m => by
  have e1 := m.at_ j _ hl
  have mm : ∀ d, lookM M j = some d → Sm N ((j, d) :: M) η := fun d hd => ⟨m.len, fun i d' q => by
    unfold lookM at q
    by_cases hj : j = i
    · rw [if_pos hj] at q; cases q; rw [← hj]; exact m.at_ j d hd
    · rw [if_neg hj] at q; exact m.at_ i d' q⟩
  have ec : ∀ d, lookM M j = some d → dB (d2 (dIs false) (dV j) (dC .none)) η = .ok (isNone d) := fun d hd => by
    unfold dB d2 dV dC
    rw [m.at_ j d hd]
    show ((dIs false d .none).bind _) = _
    cases d <;> rfl
  unfold sSeq sIf
  cases x with
  | none =>
    rw [ec _ hl]
    exact exits_of hE (k1 η (mm _ hl))
  | some v =>
    rw [ec _ hl, show isNone (eO ea (some v)) = false from by have := nn v; show isNone (ea v) = false; cases z : ea v <;> simp_all [isNone]]
    exact k2 v η (mm _ hl)
/-- if x is None: .. goes on -/
theorem tb_isNJ {h1 : TF σ' ρ} {h2 : α → TF σ' ρ} {h : σ' → TF σ ρ} (outJ : σ' → TM) (j : Nat) (ea : α → PyData) (x : Option α) (hl : lookM M j = some (eO ea x)) (nn : ∀ x, ea x ≠ .none) (k1 : TB N ((j, .none) :: M) g1 outJ X e h1) (k2 : ∀ v, TB N ((j, ea v) :: M) g2 outJ X e (h2 v)) (k : ∀ s, TB N (outJ s) g out X e (h s)) :
    TB N M (sSeq (sIf (dB (d2 (dIs false) (dV j) (dC .none))) g1 g2) g) out X e (TF.seq (match x with | none => h1 | some v => h2 v) h) := fun η m => then_of (by
  have mm : ∀ d, lookM M j = some d → Sm N ((j, d) :: M) η := fun d hd => ⟨m.len, fun i d' q => by
    unfold lookM at q
    by_cases hj : j = i
    · rw [if_pos hj] at q; cases q; rw [← hj]; exact m.at_ j d hd
    · rw [if_neg hj] at q; exact m.at_ i d' q⟩
  have ec : ∀ d, lookM M j = some d → dB (d2 (dIs false) (dV j) (dC .none)) η = .ok (isNone d) := fun d hd => by
    unfold dB d2 dV dC
    rw [m.at_ j d hd]
    show ((dIs false d .none).bind _) = _
    cases d <;> rfl
  unfold sIf
  cases x with
  | none => rw [ec _ hl]; exact k1 η (mm _ hl)
  | some v =>
    rw [ec _ hl, show isNone (eO ea (some v)) = false from by have := nn v; show isNone (ea v) = false; cases z : ea v <;> simp_all [isNone]]
    exact k2 v η (mm _ hl)) k
/-- if x is not None: leave -/
theorem tb_isnN {h1 : α → TF σ ρ} {h2 : TF σ ρ} (j : Nat) (ea : α → PyData) (x : Option α) (hl : lookM M j = some (eO ea x)) (nn : ∀ x, ea x ≠ .none) (hE : Exits g1) (k1 : ∀ v, TB N ((j, ea v) :: M) g1 out X e (h1 v)) (k2 : TB N ((j, .none) :: M) g2 out X e h2) :
    TB N M (sSeq (sIf (dB (d2 (dIs true) (dV j) (dC .none))) g1 sNil) g2) out X e (match x with | some v => h1 v | none => h2) := fun η m => by
  have mm : ∀ d, lookM M j = some d → Sm N ((j, d) :: M) η := fun d hd => ⟨m.len, fun i d' q => by
    unfold lookM at q
    by_cases hj : j = i
    · rw [if_pos hj] at q; cases q; rw [← hj]; exact m.at_ j d hd
    · rw [if_neg hj] at q; exact m.at_ i d' q⟩
  have ec : ∀ d, lookM M j = some d → dB (d2 (dIs true) (dV j) (dC .none)) η = .ok (!isNone d) := fun d hd => by
    unfold dB d2 dV dC
    rw [m.at_ j d hd]
    show ((dIs true d .none).bind _) = _
    cases d <;> rfl
  unfold sSeq sIf
  cases x with
  | none => rw [ec _ hl]; exact k2 η (mm _ hl)
  | some v =>
    rw [ec _ hl, show isNone (eO ea (some v)) = false from by have := nn v; show isNone (ea v) = false; cases z : ea v <;> simp_all [isNone]]
    exact exits_of hE (k1 v η (mm _ hl))
variable {it : DEnv → R (List PyData)} {t : PyData → DEnv → R DEnv} {tm : α → TM} {xs : List α}
theorem tb_forP {body : α → σ' → TF σ' ρ} {h : σ' → TF σ ρ} (outL : σ' → TM) (s0 : σ') (T : Tg N t ea tm) (i : TP N M it (List.map ea) xs) (k : ∀ x s, TB N (tm x ++ outL s) g1 outL X e (body x s)) (h0 : SubM (outL s0) M)
    (kk : ∀ s, TB N (outL s) g out X e (h s)) : TB N M (sSeq (sFor it t g1) g) out X e ((forT body xs s0).seq h) := fun η m => then_of (by
      unfold sFor; rw [i η m]; exact forGo_of T k xs s0 η (m.sub h0)) kk
theorem tb_appP {h : List α → TF σ ρ} (j : Nat) (ea : α → PyData) (xs : List α) (hl : lookM M j = some (eL ea xs)) (i : TP N M f ea a) (k : ∀ ys, TB N ((j, eL ea ys) :: M) g out X e (h ys)) (hj : j < N := by decide) :
    TB N M (sSeq (sApp j f) g) out X e ((push xs a).tf h) := fun η m => by
  unfold sSeq sApp
  rw [listAt_of_sm m hl]
  dsimp only
  rw [i η m]
  show RfS N out X e ((push xs a).tf h) ((if (xs.map ea).length < sizeLine then Fl.nx (η.set j (some (.list (xs.map ea ++ [ea a])))) else .bad).then g)
  unfold push
  rw [List.length_map]
  by_cases hz : xs.length < sizeLine
  · rw [if_pos hz, if_pos hz]
    have e1 : PyData.list (xs.map ea ++ [ea a]) = eL ea (xs ++ [a]) := by unfold eL; rw [List.map_append]; rfl
    rw [e1]
    exact k (xs ++ [a]) _ (m.set hj _)
  · rw [if_neg hz]; trivial
theorem tb_raiseFP {c : String} (hX : SubM X M) (i : TP N M f ea a) : TB N M (sRaiseF c f) out X e (.ex c (some (ea a))) := fun η m => by
  unfold sRaiseF; rw [i η m]; exact ⟨η, rfl, m.sub hX⟩
/-! expressions -/
variable {rt : R τ} {go : PyData → PyData → R PyData} {gu : PyData → R PyData}
theorem te2v (t : R τ) (q : Rf et t (go (ea a) (eb b))) (h1 : TP N M fa ea a) (h2 : TP N M fb eb b) : TE N M (d2 go fa fb) et t := fun η s => by
  unfold d2; rw [h1 η s, R.bind_ok, h2 η s]; exact q
theorem te2pe (r : β → R τ) (q : ∀ y, Rf et (r y) (go (ea a) (eb y))) (h1 : TP N M fa ea a) (h2 : TE N M fb eb rb) : TE N M (d2 go fa fb) et (rb.bind r) := fun η s => by
  unfold d2; rw [h1 η s, R.bind_ok]; exact (h2 η s).bind q
theorem te2ep (r : α → R τ) (q : ∀ x, Rf et (r x) (go (ea x) (eb b))) (h1 : TE N M fa ea ra) (h2 : TP N M fb eb b) : TE N M (d2 go fa fb) et (ra.bind r) := fun η s => by
  unfold d2; exact (h1 η s).bind fun x => by rw [h2 η s]; exact q x
theorem te2ee (r : α → β → R τ) (q : ∀ x y, Rf et (r x y) (go (ea x) (eb y))) (h1 : TE N M fa ea ra) (h2 : TE N M fb eb rb) : TE N M (d2 go fa fb) et (ra.bind fun x => rb.bind fun y => r x y) := te2 r q h1 h2
theorem te1v (t : R τ) (q : Rf et t (gu (ea a))) (h1 : TP N M fa ea a) : TE N M (d1 gu fa) et t := fun η s => by
  unfold d1; rw [h1 η s]; exact q
theorem te1e (r : α → R τ) (q : ∀ x, Rf et (r x) (gu (ea x))) (h1 : TE N M fa ea ra) : TE N M (d1 gu fa) et (ra.bind r) := te1 r q h1
theorem tea_consP {gl : DEnv → R (List PyData)} {m : List PyData → R PyData} (h : TP N M f ea a) (r : TEA N M gl (fun ds => m (ea a :: ds)) et rt) : TEA N M (dCons f gl) m et rt := fun η s => by
  unfold dCons
  rw [R.bind_assoc, h η s, R.bind_ok, R.bind_assoc]
  exact r η s
theorem te_andP {x : Bool} {y : R Bool} (h1 : TP N M fa eB x) (h2 : TE N M fb eB y) : TE N M (dAnd fa fb) eB (if x then y else .ok false) := fun η s => by
  unfold dAnd; rw [h1 η s]; cases x
  · exact rfl
  · exact h2 η s
theorem te_orP {x : Bool} {y : R Bool} (h1 : TP N M fa eB x) (h2 : TE N M fb eB y) : TE N M (dOr fa fb) eB (if x then .ok true else y) := fun η s => by
  unfold dOr; rw [h1 η s]; cases x
  · exact h2 η s
  · exact rfl
variable {ga gb : DEnv → R Bool} {x : Bool} {ry : R Bool}
theorem te_bandP (h1 : TP N M ga id x) (h2 : TE N M gb id ry) : TE N M (bAnd ga gb) id (if x then ry else .ok false) := fun η s => by
  unfold bAnd; rw [h1 η s]; cases x
  · exact rfl
  · exact h2 η s
theorem te_borP (h1 : TP N M ga id x) (h2 : TE N M gb id ry) : TE N M (bOr ga gb) id (if x then .ok true else ry) := fun η s => by
  unfold bOr; rw [h1 η s]; cases x
  · exact h2 η s
  · exact rfl
theorem te_lcP {tc : α → R Bool} {tl : α → R β} {el : DEnv → R PyData} (T : Tg N t ea tm) (h : TP N M it (List.map ea) xs) (i : ∀ x, TE N (tm x ++ M) c id (tc x)) (k : ∀ x, TE N (tm x ++ M) el eb (tl x)) : TE N M (dLc it t c el) (eL eb) (noEx (compR tc tl xs)) := te_lc T h.te i k
theorem te_lc0P {tl : α → R β} {el : DEnv → R PyData} (T : Tg N t ea tm) (h : TP N M it (List.map ea) xs) (k : ∀ x, TE N (tm x ++ M) el eb (tl x)) : TE N M (dLc it t cT el) (eL eb) (noEx (compR0 tl xs)) := te_lc0 T h.te k
theorem te_lcE {tc : α → Bool} {tl : α → β} {rx : R (List α)} {el : DEnv → R PyData} (T : Tg N t ea tm) (h : TE N M it (List.map ea) rx) (i : ∀ x, TP N (tm x ++ M) c id (tc x)) (k : ∀ x, TP N (tm x ++ M) el eb (tl x)) : TE N M (dLc it t c el) (eL eb) (rx.bind fun xs => .ok ((xs.filter tc).map tl)) := fun η m => by
  refine (h η m).bind fun xs => ?_
  have q := tp_lc (it := fun _ => .ok (xs.map ea)) T (fun _ _ => rfl) i k η m
  exact q
theorem te_lc0E {tl : α → β} {rx : R (List α)} {el : DEnv → R PyData} (T : Tg N t ea tm) (h : TE N M it (List.map ea) rx) (k : ∀ x, TP N (tm x ++ M) el eb (tl x)) : TE N M (dLc it t cT el) (eL eb) (rx.bind fun xs => .ok (xs.map tl)) := fun η m => by
  refine (h η m).bind fun xs => ?_
  have q := tp_lc0 (it := fun _ => .ok (xs.map ea)) T (fun _ _ => rfl) k η m
  exact q
end
end DL
end

section
set_option Elab.async false
set_option linter.all false
set_option maxRecDepth 100000
set_option maxHeartbeats 4000000
namespace DL
open PySem

/-! ### data that can be compared -/
/-- never None -/
class NnE {τ : Type} (e : τ → PyData) : Prop where
  nn : ∀ x, e x ≠ .none
class EqE {τ : Type} (e : τ → PyData) where
  dec : DecidableEq τ
  dep : Nat
  plain : ∀ x, (e x).plain = true
  depth : ∀ x, (e x).depth ≤ dep
  eqv : ∀ x y, PyData.eqv (e x) (e y) = decide (x = y)
section
variable {α β γ δ ε τ : Type}
instance : EqE eI := ⟨inferInstance, 0, fun _ => rfl, fun _ => Nat.le_refl _, fun x y => by rw [PyData.eqv]; exact Bool.eq_iff_iff.mpr (by simp)⟩
instance : EqE eB := ⟨inferInstance, 0, fun _ => rfl, fun _ => Nat.le_refl _, fun x y => by cases x <;> cases y <;> simp [PyData.eqv]⟩
instance : EqE eS := ⟨inferInstance, 0, fun _ => rfl, fun _ => Nat.le_refl _, fun x y => by rw [PyData.eqv]; exact Bool.eq_iff_iff.mpr (by simp)⟩
instance : EqE eN := ⟨inferInstance, 0, fun _ => rfl, fun _ => Nat.le_refl _, fun x y => by simp [PyData.eqv, eN]⟩
instance : EqE eP0 := ⟨inferInstance, 1, fun _ => rfl, fun _ => by simp [eP0, PyData.depth, PyData.depthAll], fun x y => by simp [PyData.eqv, PyData.eqvAll, eP0]⟩
theorem plainAll_map (e : α → PyData) [h : EqE e] : ∀ xs : List α, PyData.plainAll (xs.map e) = true
  | [] => rfl
  | x :: xs => by rw [List.map_cons, PyData.plainAll, h.plain x, plainAll_map e xs]; rfl
theorem depthAll_map (e : α → PyData) [h : EqE e] : ∀ xs : List α, PyData.depthAll (xs.map e) ≤ h.dep
  | [] => by simp [PyData.depthAll]
  | x :: xs => by
    have := h.depth x
    have := depthAll_map e xs
    rw [List.map_cons, PyData.depthAll]; omega
theorem eqvAll_map (e : α → PyData) [h : EqE e] : ∀ xs ys : List α, PyData.eqvAll (xs.map e) (ys.map e) = (haveI := h.dec; decide (xs = ys))
  | [], [] => by simp [PyData.eqvAll]
  | x :: xs, [] => by simp [PyData.eqvAll]
  | [], y :: ys => by simp [PyData.eqvAll]
  | x :: xs, y :: ys => by
    rw [List.map_cons, List.map_cons, PyData.eqvAll, h.eqv x y, eqvAll_map e xs ys]
    haveI := h.dec
    by_cases h1 : x = y <;> by_cases h2 : xs = ys <;> simp [h1, h2]
instance (e : α → PyData) [h : EqE e] : EqE (eL e) where
  dec := haveI := h.dec; inferInstance
  dep := h.dep + 1
  plain := fun xs => by show PyData.plainAll _ = true; exact plainAll_map e xs
  depth := fun xs => by show PyData.depthAll _ + 1 ≤ _; have := depthAll_map e xs; omega
  eqv := fun xs ys => by unfold eL; rw [PyData.eqv]; exact eqvAll_map e xs ys
instance (e : α → PyData) [h : EqE e] : EqE (eT e) where
  dec := haveI := h.dec; inferInstance
  dep := h.dep + 1
  plain := fun xs => by show PyData.plainAll _ = true; exact plainAll_map e xs
  depth := fun xs => by show PyData.depthAll _ + 1 ≤ _; have := depthAll_map e xs; omega
  eqv := fun xs ys => by unfold eT; rw [PyData.eqv]; exact eqvAll_map e xs ys
instance (e : α → PyData) [h : EqE e] : EqE (eP1 e) where
  dec := h.dec
  dep := h.dep + 1
  plain := fun x => by simp [eP1, PyData.plain, PyData.plainAll, h.plain]
  depth := fun x => by have := h.depth x; simp only [eP1, PyData.depth, PyData.depthAll]; omega
  eqv := fun x y => by simp [eP1, PyData.eqv, PyData.eqvAll, h.eqv]
instance (a : α → PyData) (b : β → PyData) [ha : EqE a] [hb : EqE b] : EqE (eP2 a b) where
  dec := haveI := ha.dec; haveI := hb.dec; inferInstance
  dep := max ha.dep hb.dep + 1
  plain := fun x => by simp [eP2, PyData.plain, PyData.plainAll, ha.plain, hb.plain]
  depth := fun x => by have := ha.depth x.1; have := hb.depth x.2; simp only [eP2, PyData.depth, PyData.depthAll]; omega
  eqv := fun x y => by
    obtain ⟨x1, x2⟩ := x
    obtain ⟨y1, y2⟩ := y
    haveI := ha.dec; haveI := hb.dec
    simp only [eP2, PyData.eqv, PyData.eqvAll, ha.eqv, hb.eqv, Prod.mk.injEq, Bool.and_true]
    by_cases h1 : x1 = y1 <;> by_cases h2 : x2 = y2 <;> simp [h1, h2]
instance (a : α → PyData) (b : β → PyData) (c : γ → PyData) [ha : EqE a] [hb : EqE b] [hc : EqE c] : EqE (eP3 a b c) where
  dec := haveI := ha.dec; haveI := hb.dec; haveI := hc.dec; inferInstance
  dep := max ha.dep (max hb.dep hc.dep) + 1
  plain := fun x => by simp [eP3, PyData.plain, PyData.plainAll, ha.plain, hb.plain, hc.plain]
  depth := fun x => by have := ha.depth x.1; have := hb.depth x.2.1; have := hc.depth x.2.2; simp only [eP3, PyData.depth, PyData.depthAll]; omega
  eqv := fun x y => by
    obtain ⟨x1, x2, x3⟩ := x
    obtain ⟨y1, y2, y3⟩ := y
    haveI := ha.dec; haveI := hb.dec; haveI := hc.dec
    simp only [eP3, PyData.eqv, PyData.eqvAll, ha.eqv, hb.eqv, hc.eqv, Prod.mk.injEq, Bool.and_true]
    by_cases h1 : x1 = y1 <;> by_cases h2 : x2 = y2 <;> by_cases h3 : x3 = y3 <;> simp [h1, h2, h3]
instance (e : α → PyData) [h : EqE e] [n : NnE e] : EqE (eO e) where
  dec := haveI := h.dec; inferInstance
  dep := h.dep
  plain := fun x => by cases x; rfl; exact h.plain _
  depth := fun x => by cases x; exact Nat.zero_le _; exact h.depth _
  eqv := fun x y => by
    haveI := h.dec
    have nn : ∀ x, PyData.eqv .none (e x) = false := fun x => by
      have := n.nn x
      cases q : e x <;> simp_all [PyData.eqv]
    have nn2 : ∀ x, PyData.eqv (e x) .none = false := fun x => by
      have := n.nn x
      cases q : e x <;> simp_all [PyData.eqv]
    cases x with
    | none => cases y with
      | none => simp [eO, PyData.eqv]
      | some y => show PyData.eqv .none (e y) = _; rw [nn]; simp
    | some x => cases y with
      | none => show PyData.eqv (e x) .none = _; rw [nn2]; simp
      | some y => show PyData.eqv (e x) (e y) = _; rw [h.eqv]; simp

instance : NnE eI := ⟨fun _ h => by cases h⟩
instance : NnE eB := ⟨fun _ h => by cases h⟩
instance : NnE eS := ⟨fun _ h => by cases h⟩
instance : NnE eP0 := ⟨fun _ h => by cases h⟩
instance (n : Str) : NnE (eF n) := ⟨fun _ h => by cases h⟩
instance (e : α → PyData) : NnE (eL e) := ⟨fun _ h => by cases h⟩
instance (e : α → PyData) : NnE (eT e) := ⟨fun _ h => by cases h⟩
instance (e : α → PyData) : NnE (eP1 e) := ⟨fun _ h => by cases h⟩
instance (a : α → PyData) (b : β → PyData) : NnE (eP2 a b) := ⟨fun _ h => by cases h⟩
instance (a : α → PyData) (b : β → PyData) (c : γ → PyData) : NnE (eP3 a b c) := ⟨fun _ h => by cases h⟩
instance (a : α → PyData) (b : β → PyData) (c : γ → PyData) (d : δ → PyData) : NnE (eP4 a b c d) := ⟨fun _ h => by cases h⟩
instance (a : α → PyData) (b : β → PyData) (c : γ → PyData) (d : δ → PyData) (f : ε → PyData) : NnE (eP5 a b c d f) := ⟨fun _ h => by cases h⟩
instance (a : α → PyData) (b : β → PyData) : NnE (eD a b) := ⟨fun _ h => by cases h⟩

def eqE (e : τ → PyData) [h : EqE e] (x y : τ) : Bool := @decide (x = y) (h.dec x y)
def inE (e : τ → PyData) [h : EqE e] (x : τ) (xs : List τ) : Bool := xs.any fun y => eqE e y x
@[simp] theorem eqE_iff (e : τ → PyData) [h : EqE e] (x y : τ) : eqE e x y = true ↔ x = y := @decide_eq_true_iff (x = y) (h.dec x y)
theorem eqE_eq (e : τ → PyData) [h : EqE e] [d : DecidableEq τ] (x y : τ) : eqE e x y = decide (x = y) := by rw [Bool.eq_iff_iff]; simp
@[simp] theorem eqE_self (e : τ → PyData) [h : EqE e] (x : τ) : eqE e x x = true := by simp
@[simp] theorem inE_iff (e : τ → PyData) [h : EqE e] (x : τ) (xs : List τ) : inE e x xs = true ↔ x ∈ xs := by
  unfold inE
  rw [List.any_eq_true]
  exact ⟨fun ⟨y, h1, h2⟩ => by rw [eqE_iff] at h2; rw [← h2]; exact h1, fun h1 => ⟨x, h1, by simp⟩⟩
theorem inE_eq (e : τ → PyData) [h : EqE e] [d : DecidableEq τ] (x : τ) (xs : List τ) : inE e x xs = decide (x ∈ xs) := by rw [Bool.eq_iff_iff]; simp
theorem cmpOk_e (e : τ → PyData) [h : EqE e] (hd : h.dep ≤ 64) (x y : τ) : cmpOk (e x) (e y) = true := by
  unfold cmpOk
  have := h.depth x
  simp only [h.plain, Bool.and_true, Bool.true_and, decide_eq_true_eq]
  omega
theorem o_eq (e : τ → PyData) [h : EqE e] (hd : h.dep ≤ 64 := by decide) (x y : τ) : dEq (e x) (e y) = .ok (eB (eqE e x y)) := by
  unfold dEq; rw [if_pos (cmpOk_e e hd x y), h.eqv]; rfl
theorem o_ne (e : τ → PyData) [h : EqE e] (hd : h.dep ≤ 64 := by decide) (x y : τ) : dNe (e x) (e y) = .ok (eB (!eqE e x y)) := by
  unfold dNe; rw [if_pos (cmpOk_e e hd x y), h.eqv]; rfl
theorem inOk_e (e : τ → PyData) [h : EqE e] (hd : h.dep ≤ 64) (x : τ) (ys : List τ) : inOk (e x) (ys.map e) = true := by
  unfold inOk
  have := h.depth x
  simp only [h.plain, plainAll_map e ys, Bool.and_true, Bool.true_and, decide_eq_true_eq]
  omega
theorem any_map (e : τ → PyData) [h : EqE e] (x : τ) (ys : List τ) : ((ys.map e).any fun y => PyData.eqv y (e x)) = inE e x ys := by
  unfold inE
  rw [List.any_map]
  congr 1
  funext y
  exact h.eqv y x
theorem o_inL (e : τ → PyData) [h : EqE e] (hd : h.dep ≤ 64 := by decide) (x : τ) (ys : List τ) : dInS false (e x) (eL e ys) = .ok (eB (inE e x ys)) := by
  show (if inOk (e x) (ys.map e) = true then R.ok (PyData.bool (false ^^ (ys.map e).any fun y => PyData.eqv y (e x))) else R.bad) = _
  rw [if_pos (inOk_e e hd x ys), any_map, Bool.false_xor]
theorem o_inT (e : τ → PyData) [h : EqE e] (hd : h.dep ≤ 64 := by decide) (x : τ) (ys : List τ) : dInS false (e x) (eT e ys) = .ok (eB (inE e x ys)) := by
  show (if inOk (e x) (ys.map e) = true then R.ok (PyData.bool (false ^^ (ys.map e).any fun y => PyData.eqv y (e x))) else R.bad) = _
  rw [if_pos (inOk_e e hd x ys), any_map, Bool.false_xor]
theorem o_niL (e : τ → PyData) [h : EqE e] (hd : h.dep ≤ 64 := by decide) (x : τ) (ys : List τ) : dInS true (e x) (eL e ys) = .ok (eB (!inE e x ys)) := by
  show (if inOk (e x) (ys.map e) = true then R.ok (PyData.bool (true ^^ (ys.map e).any fun y => PyData.eqv y (e x))) else R.bad) = _
  rw [if_pos (inOk_e e hd x ys), any_map, Bool.true_xor]
theorem o_niT (e : τ → PyData) [h : EqE e] (hd : h.dep ≤ 64 := by decide) (x : τ) (ys : List τ) : dInS true (e x) (eT e ys) = .ok (eB (!inE e x ys)) := by
  show (if inOk (e x) (ys.map e) = true then R.ok (PyData.bool (true ^^ (ys.map e).any fun y => PyData.eqv y (e x))) else R.bad) = _
  rw [if_pos (inOk_e e hd x ys), any_map, Bool.true_xor]
theorem o_inStr (x y : Str) : dInS false (eS x) (eS y) = .ok (eB (strIn x y)) := by show R.ok (PyData.bool (false ^^ strIn x y)) = _; rw [Bool.false_xor]
theorem o_niStr (x y : Str) : dInS true (eS x) (eS y) = .ok (eB (!strIn x y)) := by show R.ok (PyData.bool (true ^^ strIn x y)) = _; rw [Bool.true_xor]

/-! ### arithmetic -/
theorem o_add (x y : Int) : dAdd (eI x) (eI y) = .ok (eI (x + y)) := rfl
theorem o_sub (x y : Int) : dSub (eI x) (eI y) = .ok (eI (x - y)) := rfl
def addS (x y : Str) : R Str := if x.length + y.length ≤ sizeLine then .ok (x ++ y) else .bad
theorem p_addS (x y : Str) : Rf eS (addS x y) (dAdd (eS x) (eS y)) := by unfold addS dAdd; split <;> rename_i h <;> simp only [h, if_true, if_false] <;> first | rfl | trivial
theorem p_addL (e : τ → PyData) (x y : List τ) : Rf (eL e) (exten x y) (dAdd (eL e x) (eL e y)) := by
  unfold exten dAdd eL
  simp only [List.length_map]
  by_cases h : x.length + y.length ≤ sizeLine
  · simp only [h, if_true]; show _ = R.ok (PyData.list _); rw [List.map_append]
  · simp only [h, if_false]; trivial
theorem p_addT (e : τ → PyData) (x y : List τ) : Rf (eT e) (exten x y) (dAdd (eT e x) (eT e y)) := by
  unfold exten dAdd eT
  simp only [List.length_map]
  by_cases h : x.length + y.length ≤ sizeLine
  · simp only [h, if_true]; show _ = R.ok (PyData.tuple _); rw [List.map_append]
  · simp only [h, if_false]; trivial
def mulI (x y : Int) : R Int := if (small x && small y) = true then .ok (x * y) else .bad
theorem p_mulI (x y : Int) : Rf eI (mulI x y) (dMul (eI x) (eI y)) := by unfold mulI dMul; split <;> rename_i h <;> simp only [h, if_true, if_false] <;> first | rfl | trivial
def mulS (x : Str) (n : Int) : R Str := if 0 ≤ n ∧ n ≤ 1000 ∧ x.length ≤ 1000 then .ok (repS x n.toNat) else .bad
theorem p_mulS (x : Str) (n : Int) : Rf eS (mulS x n) (dMul (eS x) (eI n)) := by unfold mulS dMul; split <;> rename_i h <;> simp only [h, if_true, if_false] <;> first | rfl | trivial
def divI (x y : Int) : R Int := if (decide (0 < y) && small y) = true then .ok (x / y) else .bad
theorem p_divI (x y : Int) : Rf eI (divI x y) (dDiv (eI x) (eI y)) := by unfold divI dDiv; split <;> rename_i h <;> simp only [h, if_true, if_false] <;> first | rfl | trivial
theorem o_divC (x y : Int) (h : (decide (0 < y) && small y) = true := by decide +kernel) : dDiv (eI x) (eI y) = .ok (eI (x / y)) := if_pos h
def modI (x y : Int) : R Int := if 0 < y then .ok (x % y) else .bad
theorem p_modI (x y : Int) : Rf eI (modI x y) (dMod (eI x) (eI y)) := by unfold modI dMod; split <;> rename_i h <;> simp only [h, if_true, if_false] <;> first | rfl | trivial
theorem o_modC (x y : Int) (h : 0 < y := by decide +kernel) : dMod (eI x) (eI y) = .ok (eI (x % y)) := if_pos h
def powI (x y : Int) : R Int := if 0 ≤ y ∧ y ≤ 200 ∧ 0 ≤ x ∧ x ≤ 10 then .ok (x ^ y.toNat) else .bad
theorem p_powI (x y : Int) : Rf eI (powI x y) (dPow (eI x) (eI y)) := by unfold powI dPow; split <;> rename_i h <;> simp only [h, if_true, if_false] <;> first | rfl | trivial
theorem o_powC (x y z : Int) (h : (decide (0 ≤ y) && decide (y ≤ 200) && decide (0 ≤ x) && decide (x ≤ 10) && decide (x ^ y.toNat = z)) = true := by decide +kernel) : dPow (eI x) (eI y) = .ok (eI z) := by
  simp only [Bool.and_eq_true, decide_eq_true_eq] at h
  rw [← h.2]; exact if_pos ⟨h.1.1.1.1, h.1.1.1.2, h.1.1.2, h.1.2⟩
def shlI (x y : Int) : R Int := if 0 ≤ y ∧ y ≤ 200 ∧ 0 ≤ x ∧ x ≤ 10 then .ok (x * 2 ^ y.toNat) else .bad
theorem p_shlI (x y : Int) : Rf eI (shlI x y) (dShl (eI x) (eI y)) := by unfold shlI dShl; split <;> rename_i h <;> simp only [h, if_true, if_false] <;> first | rfl | trivial
def shrI (x y : Int) : R Int := if 0 ≤ y then .ok (x / 2 ^ y.toNat) else .bad
theorem p_shrI (x y : Int) : Rf eI (shrI x y) (dShr (eI x) (eI y)) := by unfold shrI dShr; split <;> rename_i h <;> simp only [h, if_true, if_false] <;> first | rfl | trivial
theorem o_band (x y : Int) : dBand (eI x) (eI y) = .ok (eI (Builtin.bitAnd x y)) := rfl
section
variable {N : Nat} {M : TM} {f fa fb : DEnv → R PyData} {ea : α → PyData} {eb : β → PyData} {e : τ → PyData} {a : α} {b : β} {t : τ} {ra : R α} {rb : R β} {rt : R τ}
theorem tp_neg {x : Int} (h : TP N M f eI x) : TP N M (dNeg f) eI (-x) := fun η s => by unfold dNeg; rw [h η s]; rfl
theorem te_neg {x : R Int} (h : TE N M f eI x) : TE N M (dNeg f) eI (x.bind fun x => .ok (-x)) := fun η s => (h η s).bind fun x => rfl
/-- an operation at these values -/
theorem tp2v {g : PyData → PyData → R PyData} (e : τ → PyData) (t : τ) (q : g (ea a) (eb b) = .ok (e t)) (h1 : TP N M fa ea a) (h2 : TP N M fb eb b) : TP N M (d2 g fa fb) e t := fun η s => by
  unfold d2; rw [h1 η s, R.bind_ok, h2 η s]; exact q
theorem tp1v {g : PyData → R PyData} (e : τ → PyData) (t : τ) (q : g (ea a) = .ok (e t)) (h1 : TP N M fa ea a) : TP N M (d1 g fa) e t := fun η s => by
  unfold d1; rw [h1 η s]; exact q
end
end
end DL
end

section
set_option Elab.async false
set_option linter.all false
set_option maxRecDepth 100000
set_option maxHeartbeats 4000000
namespace DL
open PySem
section
variable {α β γ δ ε τ υ : Type}

/-! ### order -/
class OrE {τ : Type} (e : τ → PyData) extends EqE e, NnE e where
  lt : τ → τ → Bool
  alike : ∀ x y, PySem.W.alike (e x) (e y) = true
  dlt : ∀ x y, PySem.W.dataLt (e x) (e y) = lt x y
def ltE (e : τ → PyData) [h : OrE e] (x y : τ) : Bool := h.lt x y
def ltL (lt : α → α → Bool) (eq : α → α → Bool) : List α → List α → Bool
  | [], [] => false
  | [], _ :: _ => true
  | _ :: _, [] => false
  | x :: xs, y :: ys => if eq x y then ltL lt eq xs ys else lt x y
instance : OrE eI := { lt := fun x y => decide (x < y), alike := fun x y => by simp [PySem.W.alike], dlt := fun x y => PySem.W.dataLt_int x y }
instance : OrE eS := { lt := fun x y => decide (x.cps.toList < y.cps.toList), alike := fun x y => by simp [PySem.W.alike], dlt := fun x y => PySem.W.dataLt_str x y }
instance : OrE eB := { lt := fun x y => !x && y, alike := fun x y => by simp [PySem.W.alike], dlt := fun x y => by rw [PySem.W.dataLt_bool]; cases x <;> cases y <;> decide }
theorem alikeAll_map (e : α → PyData) [h : OrE e] : ∀ xs ys : List α, PySem.W.alikeAll (xs.map e) (ys.map e) = true
  | [], _ => by simp [PySem.W.alikeAll]
  | _ :: _, [] => by simp [PySem.W.alikeAll]
  | x :: xs, y :: ys => by rw [List.map_cons, List.map_cons, PySem.W.alikeAll, h.alike, alikeAll_map e xs ys]; rfl
theorem lexAll_map (e : α → PyData) [h : OrE e] : ∀ xs ys : List α, PyProof.Rows.lexLt PyProof.Rows.itemOrd (PySem.W.keyToksAll (xs.map e)) (PySem.W.keyToksAll (ys.map e)) = ltL (ltE e) (eqE e) xs ys
  | [], [] => PyProof.Rows.lex_irrefl _
  | [], y :: ys => by
    show PyProof.Rows.lexLt PyProof.Rows.itemOrd (PySem.W.keyToksAll []) (PySem.W.keyToksAll (e y :: ys.map e)) = true
    simp only [PySem.W.keyToksAll]
    exact (PyProof.Rows.lex_diff (O := PyProof.Rows.itemOrd) (by decide)).trans (by decide +kernel)
  | x :: xs, [] => by
    show PyProof.Rows.lexLt PyProof.Rows.itemOrd (PySem.W.keyToksAll (e x :: xs.map e)) (PySem.W.keyToksAll []) = false
    simp only [PySem.W.keyToksAll]
    exact (PyProof.Rows.lex_diff (O := PyProof.Rows.itemOrd) (by decide)).trans (by decide +kernel)
  | x :: xs, y :: ys => by
    rw [List.map_cons, List.map_cons, PySem.W.dataLt_cons (h.alike x y), h.eqv, lexAll_map e xs ys, h.dlt]
    show _ = if eqE e x y then ltL (ltE e) (eqE e) xs ys else ltE e x y
    rfl

instance (e : α → PyData) [h : OrE e] : OrE (eL e) := { lt := ltL (ltE e) (eqE e), alike := fun x y => by simp only [eL, PySem.W.alike]; exact alikeAll_map e x y, dlt := fun x y => by unfold eL; rw [PySem.W.dataLt_list]; exact lexAll_map e x y }
instance (e : α → PyData) [h : OrE e] : OrE (eT e) := { lt := ltL (ltE e) (eqE e), alike := fun x y => by simp only [eT, PySem.W.alike]; exact alikeAll_map e x y, dlt := fun x y => by unfold eT; rw [PySem.W.dataLt_tuple]; exact lexAll_map e x y }
instance (a : α → PyData) (b : β → PyData) [ha : OrE a] [hb : OrE b] : OrE (eP2 a b) := { lt := fun x y => if eqE a x.1 y.1 then (if eqE b x.2 y.2 then false else ltE b x.2 y.2) else ltE a x.1 y.1, alike := fun x y => by simp [eP2, PySem.W.alike, PySem.W.alikeAll, ha.alike, hb.alike], dlt := fun x y => (by
    unfold eP2
    rw [PySem.W.dataLt_pair (ha.alike _ _) (hb.alike _ _), ha.eqv, hb.eqv, ha.dlt, hb.dlt]
    rfl) }
instance (a : α → PyData) (b : β → PyData) (c : γ → PyData) [ha : OrE a] [hb : OrE b] [hc : OrE c] : OrE (eP3 a b c) := { lt := fun x y => if eqE a x.1 y.1 then (if eqE b x.2.1 y.2.1 then (if eqE c x.2.2 y.2.2 then false else ltE c x.2.2 y.2.2) else ltE b x.2.1 y.2.1) else ltE a x.1 y.1, alike := fun x y => by simp [eP3, PySem.W.alike, PySem.W.alikeAll, ha.alike, hb.alike, hc.alike], dlt := fun x y => (by
    unfold eP3
    rw [PySem.W.dataLt_tuple, PySem.W.dataLt_cons (ha.alike _ _), PySem.W.dataLt_cons (hb.alike _ _), PySem.W.dataLt_cons (hc.alike _ _), ha.eqv, hb.eqv, hc.eqv, ha.dlt, hb.dlt, hc.dlt, PyProof.Rows.lex_irrefl]
    rfl) }
theorem isNone_nn (e : τ → PyData) [h : NnE e] (x : τ) : isNone (e x) = false := by
  have := h.nn x
  cases q : e x <;> simp_all [isNone]
theorem ordOk_e (e : τ → PyData) [h : OrE e] (hd : h.dep ≤ 64) (x y : τ) : ordOk (e x) (e y) = true := by
  unfold ordOk
  have := h.depth x
  rw [h.plain, h.plain, h.alike, isNone_nn]
  simp only [Bool.true_and, Bool.not_false, decide_eq_true_eq]
  omega
theorem o_lt (e : τ → PyData) [h : OrE e] (hd : h.dep ≤ 64 := by decide) (x y : τ) : dLt (e x) (e y) = .ok (eB (ltE e x y)) := by
  unfold dLt dOrd; rw [if_pos (ordOk_e e hd x y)]; dsimp only; rw [h.dlt]; rfl
theorem o_gt (e : τ → PyData) [h : OrE e] (hd : h.dep ≤ 64 := by decide) (x y : τ) : dGt (e x) (e y) = .ok (eB (ltE e y x)) := by
  unfold dGt dOrd; rw [if_pos (ordOk_e e hd x y)]; dsimp only; rw [h.dlt]; rfl
theorem o_le (e : τ → PyData) [h : OrE e] (hd : h.dep ≤ 64 := by decide) (x y : τ) : dLe (e x) (e y) = .ok (eB (!ltE e y x)) := by
  unfold dLe dOrd; rw [if_pos (ordOk_e e hd x y)]; dsimp only; rw [h.dlt]; rfl
theorem o_ge (e : τ → PyData) [h : OrE e] (hd : h.dep ≤ 64 := by decide) (x y : τ) : dGe (e x) (e y) = .ok (eB (!ltE e x y)) := by
  unfold dGe dOrd; rw [if_pos (ordOk_e e hd x y)]; dsimp only; rw [h.dlt]; rfl
theorem o_ltI (x y : Int) : dLt (eI x) (eI y) = .ok (eB (decide (x < y))) := o_lt eI (by decide) x y
theorem o_gtI (x y : Int) : dGt (eI x) (eI y) = .ok (eB (decide (y < x))) := o_gt eI (by decide) x y
theorem o_leI (x y : Int) : dLe (eI x) (eI y) = .ok (eB (decide (x ≤ y))) := by
  rw [o_le eI (by decide) x y]
  show R.ok (PyData.bool (!decide (y < x))) = R.ok (PyData.bool _)
  congr 2
  rw [Bool.eq_iff_iff]; simp
theorem o_geI (x y : Int) : dGe (eI x) (eI y) = .ok (eB (decide (y ≤ x))) := by
  rw [o_ge eI (by decide) x y]
  show R.ok (PyData.bool (!decide (x < y))) = R.ok (PyData.bool _)
  congr 2
  rw [Bool.eq_iff_iff]; simp

/-! ### sorted -/
class SoE {τ : Type} (e : τ → PyData) extends OrE e where
  so : (∀ x, isTup1 (e x) = true) ∨ ∀ x, isTup (e x) = false
instance : SoE eI := { so := .inr fun _ => rfl }
instance : SoE eS := { so := .inr fun _ => rfl }
instance (a : α → PyData) (b : β → PyData) [ha : OrE a] [hb : OrE b] : SoE (eP2 a b) := { so := .inl fun _ => rfl }
instance (a : α → PyData) (b : β → PyData) (c : γ → PyData) [ha : OrE a] [hb : OrE b] [hc : OrE c] : SoE (eP3 a b c) := { so := .inl fun _ => rfl }
def sortE (e : τ → PyData) [h : OrE e] (xs : List τ) : List τ := xs.mergeSort fun a b => !ltE e b a
theorem sortOk_e (e : τ → PyData) [h : SoE e] (hd : h.dep ≤ 64) (xs : List τ) : sortOk (xs.map e) = true := by
  unfold sortOk
  simp only [Bool.and_eq_true, List.all_eq_true, List.mem_map, decide_eq_true_eq, Bool.or_eq_true]
  refine ⟨⟨⟨?_, ?_⟩, ?_⟩, ?_⟩
  · rintro _ ⟨x, _, rfl⟩; exact h.plain x
  · rintro _ ⟨x, _, rfl⟩ _ ⟨y, _, rfl⟩; exact h.alike x y
  · rcases h.so with q | q
    · exact .inl (by rintro _ ⟨x, _, rfl⟩; exact q x)
    · exact .inr (by rintro _ ⟨x, _, rfl⟩; rw [q x, isNone_nn]; exact ⟨rfl, rfl⟩)
  · rintro _ ⟨x, _, rfl⟩; have := h.depth x; omega
theorem sortD_map (e : τ → PyData) [h : OrE e] (xs : List τ) : sortD (xs.map e) = (sortE e xs).map e := by
  unfold sortD sortE
  rw [PySem.W.sort_maps (r := fun a b => !ltE e b a) (s := dLeB) e (l := xs) (fun a b _ _ => by unfold dLeB; rw [h.dlt]; rfl)]
theorem o_sorted (e : τ → PyData) [h : SoE e] (hd : h.dep ≤ 64 := by decide) (xs : List τ) : dSorted (eL e xs) = .ok (eL e (sortE e xs)) := by
  show (if sortOk (xs.map e) = true then R.ok (PyData.list (sortD (xs.map e))) else R.bad) = _
  rw [if_pos (sortOk_e e hd xs), sortD_map]; rfl

/-! ### items, lengths, slices -/
def ixI (xs : List τ) (i : Int) : R τ := match L2.atI xs i with
  | some x => .ok x
  | none => .bad
theorem atI_map (e : α → β) (xs : List α) (i : Int) : L2.atI (xs.map e) i = (L2.atI xs i).map e := by
  unfold L2.atI
  rw [List.length_map]
  cases L2.ixN xs.length i with
  | none => rfl
  | some j => show (xs.map e)[j]? = (xs[j]?).map e; rw [List.getElem?_map]
theorem p_ixL (e : τ → PyData) (xs : List τ) (i : Int) : Rf e (ixI xs i) (dIxS (eL e xs) (eI i)) := by
  show Rf e (ixI xs i) (match L2.atI (xs.map e) i with
    | some d => .ok d
    | none => .bad)
  unfold ixI
  rw [atI_map]
  cases L2.atI xs i <;> first | trivial | rfl
theorem p_ixT (e : τ → PyData) (xs : List τ) (i : Int) : Rf e (ixI xs i) (dIxS (eT e xs) (eI i)) := p_ixL e xs i
def ixS (x : Str) (i : Int) : R Str := if x.length ≤ sizeLine then match L2.atI x.cps.toList i with
  | some c => .ok ⟨#[c]⟩
  | none => .bad else .bad
theorem p_ixS (x : Str) (i : Int) : Rf eS (ixS x i) (dIxS (eS x) (eI i)) := by
  show Rf eS (ixS x i) (if x.length ≤ sizeLine then match L2.atI x.cps.toList i with
    | some c => .ok (.str ⟨#[c]⟩)
    | none => .bad else .bad)
  unfold ixS
  by_cases h : x.length ≤ sizeLine
  · rw [if_pos h, if_pos h]
    cases L2.atI x.cps.toList i <;> first | trivial | rfl
  · rw [if_neg h]; trivial
theorem p_ixX (x : PyData) (i : Int) : Rf eX (dIxS x (.int i)) (dIxS (eX x) (eI i)) := by cases dIxS x (.int i) <;> first | trivial | rfl
/-- an operation on data of any kind -/
theorem p_any {β' : Type} (r : R β') : Rf (fun x => x) r r := by cases r <;> first | trivial | rfl
def lenS (x : Str) : R Int := if x.length ≤ sizeLine then .ok (x.length : Int) else .bad
theorem p_lenS (x : Str) : Rf eI (lenS x) (dLen (eS x)) := by unfold lenS dLen; split <;> rename_i h <;> simp only [h, if_true, if_false] <;> first | rfl | trivial
theorem o_lenL (e : τ → PyData) (xs : List τ) : dLen (eL e xs) = .ok (eI (xs.length : Int)) := by show R.ok (PyData.int ((xs.map e).length : Nat)) = _; rw [List.length_map]
theorem o_lenT (e : τ → PyData) (xs : List τ) : dLen (eT e xs) = .ok (eI (xs.length : Int)) := by show R.ok (PyData.int ((xs.map e).length : Nat)) = _; rw [List.length_map]
theorem boolsD_map : ∀ xs : List Bool, boolsD (xs.map eB) = some xs
  | [] => rfl
  | x :: xs => by rw [List.map_cons]; show (boolsD (xs.map eB)).map _ = _; rw [boolsD_map xs]; rfl
theorem o_all (xs : List Bool) : dAll (eL eB xs) = .ok (eB (xs.all id)) := by unfold dAll eL; simp only [boolsD_map]
theorem o_any (xs : List Bool) : dAny (eL eB xs) = .ok (eB (xs.any id)) := by unfold dAny eL; simp only [boolsD_map]
theorem o_abs (x : Int) : dAbs (eI x) = .ok (eI (if x < 0 then -x else x)) := rfl
theorem o_intI (x : Int) : dInt (eI x) = .ok (eI x) := rfl
theorem o_intB (x : Bool) : dInt (eB x) = .ok (eI (if x then 1 else 0)) := rfl
theorem o_max2 (x y : Int) : dMax2 (eI x) (eI y) = .ok (eI (if y > x then y else x)) := rfl
theorem o_min2 (x y : Int) : dMin2 (eI x) (eI y) = .ok (eI (if y < x then y else x)) := rfl
theorem o_tolistL (e : τ → PyData) (xs : List τ) : dToList (eL e xs) = .ok (eL e xs) := rfl
theorem o_tolistT (e : τ → PyData) (xs : List τ) : dToList (eT e xs) = .ok (eL e xs) := rfl
theorem o_totupL (e : τ → PyData) (xs : List τ) : dToTup (eL e xs) = .ok (eT e xs) := rfl
theorem o_totupT (e : τ → PyData) (xs : List τ) : dToTup (eT e xs) = .ok (eT e xs) := rfl
def cutL (xs : List τ) (lo hi : Option Int) : List τ := (xs.drop (HT.sIx xs.length 0 lo)).take (HT.sIx xs.length xs.length hi - HT.sIx xs.length 0 lo)
theorem cutD_map (e : τ → PyData) (xs : List τ) (lo hi : Option Int) : cutD (xs.map e) lo hi = (cutL xs lo hi).map e := by
  unfold cutD cutL; rw [List.length_map, List.map_take, List.map_drop]
def cutStr (x : Str) (lo hi : Option Int) : R Str := if x.length ≤ sizeLine then .ok (L2.cutS x lo hi) else .bad
section
variable {N : Nat} {M : TM} {f fa fb : DEnv → R PyData} {flo fhi : DEnv → R (Option Int)} {lo hi : Option Int} {rlo rhi : R (Option Int)} {ea : α → PyData} {e : τ → PyData} {xs : List τ} {rxs : R (List τ)}
theorem tp_no : TP N M dNo id (none : Option Int) := fun _ _ => rfl
theorem tp_part {i : Int} (h : TP N M f eI i) : TP N M (dPart f) id (some i) := fun η s => by unfold dPart; rw [h η s]; rfl
theorem te_part {i : R Int} (h : TE N M f eI i) : TE N M (dPart f) id (i.bind fun i => .ok (some i)) := fun η s => (h η s).bind fun x => rfl
theorem tp_slL (h : TP N M f (eL e) xs) (h1 : TP N M flo id lo) (h2 : TP N M fhi id hi) : TP N M (dSl f flo fhi) (eL e) (cutL xs lo hi) := fun η s => by
  unfold dSl; rw [h η s, R.bind_ok, h1 η s, R.bind_ok, h2 η s, R.bind_ok]
  show R.ok (PyData.list (cutD (xs.map e) lo hi)) = _
  rw [cutD_map]; rfl
theorem tp_slT (h : TP N M f (eT e) xs) (h1 : TP N M flo id lo) (h2 : TP N M fhi id hi) : TP N M (dSl f flo fhi) (eT e) (cutL xs lo hi) := fun η s => by
  unfold dSl; rw [h η s, R.bind_ok, h1 η s, R.bind_ok, h2 η s, R.bind_ok]
  show R.ok (PyData.tuple (cutD (xs.map e) lo hi)) = _
  rw [cutD_map]; rfl
theorem te_slL (h : TE N M f (eL e) rxs) (h1 : TE N M flo id rlo) (h2 : TE N M fhi id rhi) : TE N M (dSl f flo fhi) (eL e) (rxs.bind fun xs => rlo.bind fun lo => rhi.bind fun hi => .ok (cutL xs lo hi)) := fun η s => (h η s).bind fun xs => (h1 η s).bind fun lo => (h2 η s).bind fun hi => by
  show R.ok (PyData.list (cutD (xs.map e) lo hi)) = _
  rw [cutD_map]; rfl
theorem te_slT (h : TE N M f (eT e) rxs) (h1 : TE N M flo id rlo) (h2 : TE N M fhi id rhi) : TE N M (dSl f flo fhi) (eT e) (rxs.bind fun xs => rlo.bind fun lo => rhi.bind fun hi => .ok (cutL xs lo hi)) := fun η s => (h η s).bind fun xs => (h1 η s).bind fun lo => (h2 η s).bind fun hi => by
  show R.ok (PyData.tuple (cutD (xs.map e) lo hi)) = _
  rw [cutD_map]; rfl
theorem te_slS {rx : R Str} (h : TE N M f eS rx) (h1 : TE N M flo id rlo) (h2 : TE N M fhi id rhi) : TE N M (dSl f flo fhi) eS (rx.bind fun x => rlo.bind fun lo => rhi.bind fun hi => cutStr x lo hi) := fun η s => (h η s).bind fun x => (h1 η s).bind fun lo => (h2 η s).bind fun hi => by
  show Rf eS (cutStr x lo hi) (if x.length ≤ sizeLine then .ok (.str (L2.cutS x lo hi)) else .bad)
  unfold cutStr
  by_cases h : x.length ≤ sizeLine
  · rw [if_pos h, if_pos h]; rfl
  · rw [if_neg h]; trivial
theorem te_slX {rx : R PyData} (h : TE N M f eX rx) (h1 : TE N M flo id rlo) (h2 : TE N M fhi id rhi) : TE N M (dSl f flo fhi) eX (rx.bind fun x => rlo.bind fun lo => rhi.bind fun hi => dCut x lo hi) := fun η s => (h η s).bind fun x => (h1 η s).bind fun lo => (h2 η s).bind fun hi => p_any _

/-! ### what is walked -/
theorem tp_itL (h : TP N M f (eL e) xs) : TP N M (dIt f) (List.map e) xs := fun η s => by unfold dIt; rw [h η s]; rfl
theorem tp_itT (h : TP N M f (eT e) xs) : TP N M (dIt f) (List.map e) xs := fun η s => by unfold dIt; rw [h η s]; rfl
theorem te_itL (h : TE N M f (eL e) rxs) : TE N M (dIt f) (List.map e) rxs := fun η s => by
  have q := h η s
  unfold dIt
  cases rxs with
  | ok x => rw [show f η = .ok (eL e x) from q]; rfl
  | ex c fl => rw [show f η = .ex c fl from q]; rfl
  | bad => trivial
theorem te_itT (h : TE N M f (eT e) rxs) : TE N M (dIt f) (List.map e) rxs := fun η s => by
  have q := h η s
  unfold dIt
  cases rxs with
  | ok x => rw [show f η = .ok (eT e x) from q]; rfl
  | ex c fl => rw [show f η = .ex c fl from q]; rfl
  | bad => trivial
def signs (x : Str) : List Str := x.cps.toList.map fun c => ⟨#[c]⟩
def signsR (x : Str) : R (List Str) := if x.length ≤ sizeLine then .ok (signs x) else .bad
theorem te_itS {rx : R Str} (h : TE N M f eS rx) : TE N M (dIt f) (List.map eS) (rx.bind signsR) := fun η s => (h η s).bind fun x => by
  show Rf _ (signsR x) (if x.length ≤ sizeLine then .ok (signsD x) else .bad)
  unfold signsR
  by_cases h : x.length ≤ sizeLine
  · rw [if_pos h, if_pos h]
    show R.ok _ = R.ok _
    unfold signs signsD
    rw [List.map_map]; rfl
  · rw [if_neg h]; trivial
theorem te_itX {rx : R PyData} (h : TE N M f eX rx) : TE N M (dIt f) (List.map eX) (rx.bind dItems) := fun η s => (h η s).bind fun x => by
  rw [show List.map eX = fun xs => xs from by funext xs; exact List.map_id xs]
  exact p_any _
def rngI (lo : Int) (n : Nat) : List Int := (List.range n).map fun (k : Nat) => lo + (k : Int)
theorem rngI_map (lo : Int) (n : Nat) : rangeD lo n = (rngI lo n).map eI := by unfold rangeD rngI; rw [List.map_map]; rfl
def rng1 (j : Int) : R (List Int) := if -rLine ≤ j ∧ j ≤ rLine then .ok (rngI 0 j.toNat) else .bad
def rng2 (i j : Int) : R (List Int) := if -rLine ≤ i ∧ i ≤ rLine ∧ 0 ≤ j ∧ j ≤ rLine ∧ j - i ≤ rLine then .ok (rngI i (j - i).toNat) else .bad
theorem tp_rngC (j : Int) (h : -rLine ≤ j ∧ j ≤ rLine) (q : TP N M f eI j) : TP N M (dRange1 f) (List.map eI) (rngI 0 j.toNat) := fun η s => by
  unfold dRange1; rw [q η s, R.bind_ok]; show (if -rLine ≤ j ∧ j ≤ rLine then R.ok (rangeD 0 j.toNat) else .bad) = _; rw [if_pos h, rngI_map]
theorem te_rng1 {r : R Int} (h : TE N M f eI r) : TE N M (dRange1 f) (List.map eI) (r.bind rng1) := fun η s => (h η s).bind fun j => by
  show Rf _ (rng1 j) (if -rLine ≤ j ∧ j ≤ rLine then R.ok (rangeD 0 j.toNat) else .bad)
  unfold rng1
  by_cases h : -rLine ≤ j ∧ j ≤ rLine
  · rw [if_pos h, if_pos h, rngI_map]; rfl
  · rw [if_neg h]; trivial
theorem te_rng2 {r u : R Int} (h : TE N M fa eI r) (h2 : TE N M fb eI u) : TE N M (dRange2 fa fb) (List.map eI) (r.bind fun i => u.bind fun j => rng2 i j) := fun η s => (h η s).bind fun i => (h2 η s).bind fun j => by
  show Rf _ (rng2 i j) (if -rLine ≤ i ∧ i ≤ rLine ∧ 0 ≤ j ∧ j ≤ rLine ∧ j - i ≤ rLine then R.ok (rangeD i (j - i).toNat) else .bad)
  unfold rng2
  by_cases h : -rLine ≤ i ∧ i ≤ rLine ∧ 0 ≤ j ∧ j ≤ rLine ∧ j - i ≤ rLine
  · rw [if_pos h, if_pos h, rngI_map]; rfl
  · rw [if_neg h]; trivial
theorem te_listRg {r : R Int} (h : TE N M f eI r) : TE N M (dListRg f) (eL eI) (r.bind rng1) := fun η s => (h η s).bind fun j => by
  show Rf _ (rng1 j) (if -rLine ≤ j ∧ j ≤ rLine then R.ok (PyData.list (rangeD 0 j.toNat)) else .bad)
  unfold rng1
  by_cases h : -rLine ≤ j ∧ j ≤ rLine
  · rw [if_pos h, if_pos h, rngI_map]; rfl
  · rw [if_neg h]; trivial
def zipR (xs : List α) (ys : List β) : R (List (α × β)) := if xs.length ≤ sizeLine then .ok (xs.zip ys) else .bad
theorem zipD_map (a : α → PyData) (b : β → PyData) : ∀ (xs : List α) (ys : List β), zipD (xs.map a) (ys.map b) = (xs.zip ys).map (eP2 a b)
  | [], _ => rfl
  | _ :: _, [] => rfl
  | x :: xs, y :: ys => by
    have := zipD_map a b xs ys
    unfold zipD at this ⊢
    rw [List.map_cons, List.map_cons, List.zipWith_cons_cons, this]; rfl
theorem te_zipL {a : α → PyData} {b : β → PyData} {r : R (List α)} {u : R (List β)} (h : TE N M fa (eL a) r) (h2 : TE N M fb (eL b) u) : TE N M (dZip fa fb) (List.map (eP2 a b)) (r.bind fun x => u.bind fun y => zipR x y) := fun η s => (h η s).bind fun x => (h2 η s).bind fun y => by
  show Rf _ (zipR x y) (if (x.map a).length ≤ sizeLine then R.ok (zipD (x.map a) (y.map b)) else .bad)
  unfold zipR
  rw [List.length_map]
  by_cases h : x.length ≤ sizeLine
  · rw [if_pos h, if_pos h, zipD_map]; rfl
  · rw [if_neg h]; trivial
theorem te_zipT {a : α → PyData} {b : β → PyData} {r : R (List α)} {u : R (List β)} (h : TE N M fa (eT a) r) (h2 : TE N M fb (eT b) u) : TE N M (dZip fa fb) (List.map (eP2 a b)) (r.bind fun x => u.bind fun y => zipR x y) := fun η s => (h η s).bind fun x => (h2 η s).bind fun y => by
  show Rf _ (zipR x y) (if (x.map a).length ≤ sizeLine then R.ok (zipD (x.map a) (y.map b)) else .bad)
  unfold zipR
  rw [List.length_map]
  by_cases h : x.length ≤ sizeLine
  · rw [if_pos h, if_pos h, zipD_map]; rfl
  · rw [if_neg h]; trivial
end

/-! ### None, kinds of things -/
theorem o_isO (e : τ → PyData) [h : NnE e] (x : Option τ) : dIs false (eO e x) .none = .ok (eB x.isNone) := by
  cases x with
  | none => rfl
  | some x => show R.ok (PyData.bool (isNone (e x))) = _; rw [isNone_nn]; rfl
theorem o_isnO (e : τ → PyData) [h : NnE e] (x : Option τ) : dIs true (eO e x) .none = .ok (eB x.isSome) := by
  cases x with
  | none => rfl
  | some x => show R.ok (PyData.bool (!isNone (e x))) = _; rw [isNone_nn]; rfl
theorem o_isV (e : τ → PyData) [h : NnE e] (x : τ) : dIs false (e x) .none = .ok (eB false) := by show R.ok (PyData.bool (isNone (e x))) = _; rw [isNone_nn]
theorem o_isnV (e : τ → PyData) [h : NnE e] (x : τ) : dIs true (e x) .none = .ok (eB true) := by show R.ok (PyData.bool (!isNone (e x))) = _; rw [isNone_nn]; rfl
theorem o_isX (x : PyData) : dIs false (eX x) .none = .ok (eB (isNone x)) := by cases x <;> rfl
theorem o_isnX (x : PyData) : dIs true (eX x) .none = .ok (eB (!isNone x)) := by cases x <;> rfl
def boolR (r : R PyData) : R Bool := r.bind fun d => match d with
  | .bool b => .ok b
  | _ => .bad
/-- an answer that is a truth -/
theorem p_boolR (r : R PyData) : Rf eB (boolR r) r := by
  unfold boolR
  cases r with
  | ok d => cases d <;> first | trivial | rfl
  | ex c f => rfl
  | bad => trivial
def intR (r : R PyData) : R Int := r.bind fun d => match d with
  | .int b => .ok b
  | _ => .bad
theorem p_intR (r : R PyData) : Rf eI (intR r) r := by
  unfold intR
  cases r with
  | ok d => cases d <;> first | trivial | rfl
  | ex c f => rfl
  | bad => trivial
def firstE (e : τ → PyData) [h : EqE e] (x : τ) (xs : List τ) : R Int := match xs.findIdx? fun y => eqE e y x with
  | some j => .ok (j : Int)
  | none => .bad

theorem findIdx_first (e : τ → PyData) [h : EqE e] (x : τ) : ∀ (xs : List τ) (k : Nat), firstAt (e x) (xs.map e) k = (xs.findIdx? fun y => eqE e y x).map (· + k)
  | [], k => rfl
  | y :: ys, k => by
    rw [List.map_cons]
    unfold firstAt
    rw [h.eqv, List.findIdx?_cons]
    show (if eqE e y x = true then _ else _) = _
    by_cases q : eqE e y x = true
    · rw [if_pos q, if_pos q]; simp
    · rw [if_neg q, if_neg q, findIdx_first e x ys (k + 1), Option.map_map]
      congr 1
      funext z
      show z + (k + 1) = z + 1 + k
      omega
class ShE {τ : Type} (e : τ → PyData) : Prop where
  sh : ∀ x, SeqAt.shaped (e x) = true
  shL : ∀ xs : List τ, SeqAt.shaped (.list (xs.map e)) = true
theorem p_first (e : τ → PyData) [h : EqE e] [q : ShE e] (x : τ) (xs : List τ) : Rf eI (firstE e x xs) (dIndex (eL e xs) (e x)) := by
  show Rf eI (firstE e x xs) (if idxOk (e x) (xs.map e) then match firstAt (e x) (xs.map e) 0 with
    | some j => .ok (.int (j : Nat))
    | none => .bad else .bad)
  have o : idxOk (e x) (xs.map e) = true := by unfold idxOk; rw [q.sh, q.shL, h.plain, plainAll_map]; rfl
  rw [if_pos o, findIdx_first]
  unfold firstE
  cases xs.findIdx? fun y => eqE e y x with
  | none => trivial
  | some j => rfl
theorem te_idx {N : Nat} {M : TM} {fa fb : DEnv → R PyData} {e : τ → PyData} [h : EqE e] [q : ShE e] {r : R (List τ)} {u : R τ} (h1 : TE N M fa (eL e) r) (h2 : TE N M fb e u) : TE N M (dIdx fa fb) eI (r.bind fun x => u.bind fun y => firstE e y x) := fun η s =>
  (h1 η s).bind fun xs => (h2 η s).bind fun y => p_first e y xs
theorem eL_map (e : α → PyData) (e' : β → PyData) {f : α → β} (h : ∀ z, e z = e' (f z)) (xs : List α) : eL e xs = eL e' (xs.map f) := by
  unfold eL; rw [List.map_map]; congr 1; exact List.map_congr_left fun z _ => h z
theorem eT_map (e : α → PyData) (e' : β → PyData) {f : α → β} (h : ∀ z, e z = e' (f z)) (xs : List α) : eT e xs = eT e' (xs.map f) := by
  unfold eT; rw [List.map_map]; congr 1; exact List.map_congr_left fun z _ => h z
theorem eO_map (e : α → PyData) (e' : β → PyData) {f : α → β} (h : ∀ z, e z = e' (f z)) (x : Option α) : eO e x = eO e' (x.map f) := by
  cases x with
  | none => rfl
  | some z => exact h z
theorem tb_unp {σ ρ : Type} {N : Nat} {M X : TM} {f : DEnv → R PyData} {ea : α → PyData} {e : ρ → PyData} {ra : R α} {g : DEnv → Fl} {out : σ → TM} {t : PyData → DEnv → R DEnv} {tm : α → TM} {h : α → TF σ ρ} (T : Tg N t ea tm) (hX : SubM X M) (i : TE N M f ea ra) (k : ∀ v, TB N (tm v ++ M) g out X e (h v)) :
    TB N M (sSeq (sUnp t f) g) out X e (ra.tf h) := fun η m => by
  have q := i η m
  unfold sSeq sUnp
  cases ra with
  | ok x =>
    rw [show f η = .ok (ea x) from q]
    obtain ⟨η', e1, m1⟩ := T.run x _ η m
    show RfS N out X e (h x) ((match t (ea x) η with | .ok η' => Fl.nx η' | _ => .bad).then g)
    rw [e1]
    exact k x η' m1
  | ex c fl => rw [show f η = .ex c fl from q]; exact ⟨η, rfl, m.sub hX⟩
  | bad => trivial
theorem te_int {N : Nat} {M : TM} {f : DEnv → R PyData} {r : R PyData} (h : TE N M f eX r) : TE N M f eI (r.bind fun x => intR (.ok x)) := fun η s => by
  have q := h η s
  cases r with
  | ok x => rw [show f η = .ok x from q]; exact p_intR (.ok x)
  | ex c fl => exact q
  | bad => trivial
theorem eP2_map {a : α → PyData} {a' : γ → PyData} {b : β → PyData} {b' : δ → PyData} {f : α → γ} {g : β → δ} (h1 : ∀ z, a z = a' (f z)) (h2 : ∀ z, b z = b' (g z)) (p : α × β) : eP2 a b p = eP2 a' b' (f p.1, g p.2) := by
  unfold eP2; rw [h1, h2]
theorem eP3_map {α' β' γ' : Type} {a : α → PyData} {a' : α' → PyData} {b : β → PyData} {b' : β' → PyData} {c : γ → PyData} {c' : γ' → PyData} {f : α → α'} {g : β → β'} {h : γ → γ'} (h1 : ∀ z, a z = a' (f z)) (h2 : ∀ z, b z = b' (g z)) (h3 : ∀ z, c z = c' (h z)) (p : α × β × γ) : eP3 a b c p = eP3 a' b' c' (f p.1, g p.2.1, h p.2.2) := by
  unfold eP3; rw [h1, h2, h3]
end
end DL
end

section
set_option Elab.async false
set_option linter.all false
set_option maxRecDepth 100000
set_option maxHeartbeats 4000000
/-! Facts about the typed operations. -/
namespace DL
open PySem
section
variable {α β γ δ σ ρ τ : Type}
theorem sizeL : sizeLine = 16777216 := by decide +kernel
theorem small_ok {x : Int} (h1 : -(2 ^ 399) < x) (h2 : x < 2 ^ 399) : small x = true := by
  unfold small bigN
  apply decide_eq_true
  have e : (2 : Int) ^ 399 = 1291124939043454294827959586001505937164852896414611756415329678270323811008420597314822676640068915717951585986373746688 := by decide +kernel
  rw [e] at h1 h2
  omega
theorem mulI_ok {x y : Int} (h1 : -(2 ^ 399) < x) (h2 : x < 2 ^ 399) (h3 : -(2 ^ 399) < y) (h4 : y < 2 ^ 399) : mulI x y = .ok (x * y) := by
  unfold mulI; rw [small_ok h1 h2, small_ok h3 h4]; rfl
theorem divI_ok {x y : Int} (h3 : 0 < y) (h4 : y < 2 ^ 399) : divI x y = .ok (x / y) := by
  unfold divI; rw [small_ok (by omega) h4, decide_eq_true h3]; rfl
theorem modI_ok {x y : Int} (h3 : 0 < y) : modI x y = .ok (x % y) := if_pos h3
theorem rng1_ok {j : Int} (h : -16777216 ≤ j) (h2 : j ≤ 16777216) : rng1 j = .ok (rngI 0 j.toNat) := if_pos ⟨h, h2⟩
theorem rng2_ok {i j : Int} (h1 : -16777216 ≤ i) (h2 : i ≤ 16777216) (h3 : 0 ≤ j) (h4 : j ≤ 16777216) (h5 : j - i ≤ 16777216) : rng2 i j = .ok (rngI i (j - i).toNat) := if_pos ⟨h1, h2, h3, h4, h5⟩
theorem rngI_len (lo : Int) (n : Nat) : (rngI lo n).length = n := by unfold rngI; rw [List.length_map, List.length_range]
theorem mem_rngI {lo x : Int} {n : Nat} : x ∈ rngI lo n ↔ lo ≤ x ∧ x < lo + n := by
  unfold rngI
  rw [List.mem_map]
  constructor
  · rintro ⟨k, hk, rfl⟩
    have := List.mem_range.mp hk
    omega
  · rintro ⟨h1, h2⟩
    exact ⟨(x - lo).toNat, List.mem_range.mpr (by omega), by omega⟩
theorem push_ok {xs : List α} {v : α} (h : xs.length < 16777216) : push xs v = .ok (xs ++ [v]) := if_pos (by rw [sizeL]; exact h)
theorem exten_ok {xs ys : List α} (h : xs.length + ys.length ≤ 16777216) : exten xs ys = .ok (xs ++ ys) := if_pos (by rw [sizeL]; exact h)
theorem zipR_ok {xs : List α} {ys : List β} (h : xs.length ≤ 16777216) : zipR xs ys = .ok (xs.zip ys) := if_pos (by rw [sizeL]; exact h)
theorem ixN_ok {n : Nat} {i : Int} (h1 : 0 ≤ i) (h2 : i < n) : L2.ixN n i = some i.toNat := by unfold L2.ixN; rw [if_pos h1, if_pos h2]
theorem ixI_ok {xs : List τ} {i : Int} {x : τ} (h1 : 0 ≤ i) (h2 : xs[i.toNat]? = some x) : ixI xs i = .ok x := by
  have hl := (List.getElem?_eq_some_iff.mp h2).1
  unfold ixI L2.atI
  rw [ixN_ok h1 (by omega)]
  show (match xs[i.toNat]? with
    | some x => R.ok x
    | none => .bad) = _
  rw [h2]
theorem ixI_get {xs : List τ} {i : Int} (h1 : 0 ≤ i) (h2 : i.toNat < xs.length) : ixI xs i = .ok xs[i.toNat] := ixI_ok h1 (List.getElem?_eq_getElem h2)
theorem addS_ok {x y : Str} (h : x.length + y.length ≤ 16777216) : addS x y = .ok (x ++ y) := if_pos (by rw [sizeL]; exact h)
theorem mulS_ok {x : Str} {n : Int} (h0 : 0 ≤ n) (h1 : n ≤ 1000) (h2 : x.length ≤ 1000) : mulS x n = .ok (repS x n.toNat) := if_pos ⟨h0, h1, h2⟩
theorem compR0_ok {t : α → R β} {u : α → β} {xs : List α} (h : ∀ x ∈ xs, t x = .ok (u x)) : compR0 t xs = .ok (xs.map u) := by
  induction xs with
  | nil => rfl
  | cons x xs ih =>
    have ih := ih fun y hy => h y (List.mem_cons_of_mem _ hy)
    unfold compR0 at ih ⊢
    unfold compR
    rw [R.bind_ok, if_pos rfl, h x (List.mem_cons_self ..), R.bind_ok, ih]; rfl
theorem compR_ok {c : α → R Bool} {t : α → R β} {d : α → Bool} {u : α → β} {xs : List α} (hc : ∀ x ∈ xs, c x = .ok (d x)) (h : ∀ x ∈ xs, d x = true → t x = .ok (u x)) : compR c t xs = .ok ((xs.filter d).map u) := by
  induction xs with
  | nil => rfl
  | cons x xs ih =>
    have ih := ih (fun y hy => hc y (List.mem_cons_of_mem _ hy)) (fun y hy => h y (List.mem_cons_of_mem _ hy))
    unfold compR
    rw [hc x (List.mem_cons_self ..), R.bind_ok]
    cases hd : d x with
    | false => rw [if_neg Bool.false_ne_true, ih, List.filter_cons_of_neg (by rw [hd]; decide)]
    | true => rw [if_pos rfl, h x (List.mem_cons_self ..) hd, R.bind_ok, ih, List.filter_cons_of_pos hd]; rfl
/-- a loop by what holds of the part gone through -/
theorem forT_list {body : α → σ → TF σ ρ} {xs : List α} (S : List α → σ → Prop) {s0 : σ} (h0 : S [] s0) (h : ∀ pre x post s, xs = pre ++ x :: post → S pre s → ∃ s', body x s = .nx s' ∧ S (pre ++ [x]) s') : ∃ s', forT body xs s0 = .nx s' ∧ S xs s' := by
  have key : ∀ (post pre : List α) (s : σ), xs = pre ++ post → S pre s → ∃ s', forT body post s = .nx s' ∧ S xs s' := fun post => by
    induction post with
    | nil => intro pre s e hs; rw [List.append_nil] at e; exact ⟨s, rfl, e ▸ hs⟩
    | cons x post ih =>
      intro pre s e hs
      obtain ⟨s', e1, h1⟩ := h pre x post s e hs
      obtain ⟨s2, e2, h2⟩ := ih (pre ++ [x]) s' (by rw [e, List.append_assoc]; rfl) h1
      exact ⟨s2, by unfold forT; rw [e1]; exact e2, h2⟩
  exact key xs [] s0 rfl h0
/-- a loop that carries nothing, and never leaves -/
theorem forT_unit {body : α → Unit → TF Unit ρ} {xs : List α} (h : ∀ x ∈ xs, body x () = .nx ()) : forT body xs () = .nx () := by
  obtain ⟨_, e, _⟩ := forT_list (body := body) (xs := xs) (fun _ _ => True) (s0 := ()) trivial fun pre x post s e _ => ⟨(), h x (by rw [e]; simp), trivial⟩
  exact e
/-- a loop whose state is a plain fold -/
theorem forT_fold {body : α → σ → TF σ ρ} (g : σ → α → σ) {xs : List α} {s0 : σ} (h : ∀ x ∈ xs, ∀ s, body x s = .nx (g s x)) : forT body xs s0 = .nx (xs.foldl g s0) := by
  induction xs generalizing s0 with
  | nil => rfl
  | cons x xs ih => unfold forT; rw [h x (List.mem_cons_self ..)]; exact ih fun y hy => h y (List.mem_cons_of_mem _ hy)
/-- a loop that appends one thing a turn -/
theorem forT_push {body : α → List β → TF (List β) ρ} {u : α → β} {xs : List α} {s0 : List β} (hl : s0.length + xs.length ≤ 16777216) (h : ∀ x ∈ xs, ∀ s, body x s = (push s (u x)).tf .nx) : forT body xs s0 = .nx (s0 ++ xs.map u) := by
  induction xs generalizing s0 with
  | nil => simp [forT]
  | cons x xs ih =>
    rw [List.length_cons] at hl
    unfold forT
    rw [h x (List.mem_cons_self ..), push_ok (by omega)]
    show forT body xs (s0 ++ [u x]) = _
    rw [ih (by rw [List.length_append, List.length_singleton]; omega) fun y hy => h y (List.mem_cons_of_mem _ hy)]
    simp
/-- an index of one sign -/
theorem ixS_ok {x : Str} {i : Int} {c : Nat} (hl : x.length ≤ 16777216) (h1 : 0 ≤ i) (h2 : x.cps.toList[i.toNat]? = some c) : ixS x i = .ok ⟨#[c]⟩ := by
  unfold ixS
  rw [if_pos (by rw [sizeL]; exact hl)]
  have hl := (List.getElem?_eq_some_iff.mp h2).1
  unfold L2.atI
  rw [ixN_ok h1 (by omega)]
  show (match x.cps.toList[i.toNat]? with
    | some c => R.ok (⟨#[c]⟩ : Str)
    | none => .bad) = _
  rw [h2]
/-- a loop, and what follows it -/
theorem forT_then {σ' : Type} {body : α → σ → TF σ ρ} {k : σ → TF σ' ρ} {P : TF σ' ρ → Prop} {xs : List α} {s0 : σ} (S : List α → σ → Prop) (h0 : S [] s0)
    (h : ∀ pre x post s, xs = pre ++ x :: post → S pre s → ∃ s', body x s = .nx s' ∧ S (pre ++ [x]) s') (hk : ∀ s', S xs s' → P (k s')) : P ((forT body xs s0).seq k) := by
  obtain ⟨s', e, q⟩ := forT_list (body := body) (xs := xs) S h0 h
  rw [e]; exact hk s' q
theorem forT_end {body : α → σ → TF σ ρ} {P : TF σ ρ → Prop} {xs : List α} {s0 : σ} (S : List α → σ → Prop) (h0 : S [] s0)
    (h : ∀ pre x post s, xs = pre ++ x :: post → S pre s → ∃ s', body x s = .nx s' ∧ S (pre ++ [x]) s') (hk : ∀ s', S xs s' → P (.nx s')) : P (forT body xs s0) := by
  obtain ⟨s', e, q⟩ := forT_list (body := body) (xs := xs) S h0 h
  rw [e]; exact hk s' q
theorem TF.seq_id (x : TF σ ρ) : x.seq .nx = x := by cases x <;> rfl
end
end DL
end

section
set_option Elab.async false
set_option linter.all false
set_option maxRecDepth 100000
set_option maxHeartbeats 4000000
namespace DL
open PySem
section
variable {α β γ δ ε τ υ : Type}
/-! ### data of any kind taken as typed data -/
class DnE {τ : Type} (e : τ → PyData) where
  dn : PyData → Option τ
  dn_e : ∀ t, dn (e t) = some t
  e_dn : ∀ x t, dn x = some t → x = e t
def dnO (e : τ → PyData) [h : DnE e] (x : PyData) : Option τ := h.dn x
instance : DnE eI where
  dn := fun x => match x with
    | .int i => some i
    | _ => none
  dn_e := fun _ => rfl
  e_dn := fun x t h => by cases x <;> simp_all [eI]
instance : DnE eB where
  dn := fun x => match x with
    | .bool i => some i
    | _ => none
  dn_e := fun _ => rfl
  e_dn := fun x t h => by cases x <;> simp_all [eB]
instance : DnE eS where
  dn := fun x => match x with
    | .str i => some i
    | _ => none
  dn_e := fun _ => rfl
  e_dn := fun x t h => by cases x <;> simp_all [eS]
instance : DnE eX where
  dn := fun x => some x
  dn_e := fun _ => rfl
  e_dn := fun x t h => Option.some.inj h
def dnAll (e : τ → PyData) [h : DnE e] : List PyData → Option (List τ)
  | [] => some []
  | x :: xs => match dnO e x, dnAll e xs with
    | some y, some ys => some (y :: ys)
    | _, _ => none
theorem dnAll_e (e : τ → PyData) [h : DnE e] : ∀ xs : List τ, dnAll e (xs.map e) = some xs
  | [] => rfl
  | x :: xs => by rw [List.map_cons]; unfold dnAll dnO; rw [h.dn_e, dnAll_e e xs]
theorem e_dnAll (e : τ → PyData) [h : DnE e] : ∀ (xs : List PyData) (ys : List τ), dnAll e xs = some ys → xs = ys.map e
  | [], ys, q => by cases q; rfl
  | x :: xs, ys, q => by
    unfold dnAll at q
    split at q
    · rename_i y ys' h1 h2
      cases q
      rw [List.map_cons, h.e_dn x y h1, e_dnAll e xs ys' h2]
    · cases q
instance (e : τ → PyData) [h : DnE e] : DnE (eL e) where
  dn := fun x => match x with
    | .list l => dnAll e l
    | _ => none
  dn_e := fun t => dnAll_e e t
  e_dn := fun x t q => by
    cases x with
    | list l => show PyData.list l = _; rw [e_dnAll e l t q]; rfl
    | _ => cases q
instance (e : τ → PyData) [h : DnE e] : DnE (eT e) where
  dn := fun x => match x with
    | .tuple l => dnAll e l
    | _ => none
  dn_e := fun t => dnAll_e e t
  e_dn := fun x t q => by
    cases x with
    | tuple l => show PyData.tuple l = _; rw [e_dnAll e l t q]; rfl
    | _ => cases q
instance (a : α → PyData) (b : β → PyData) [h1 : DnE a] [h2 : DnE b] : DnE (eP2 a b) where
  dn := fun x => match x with
    | .tuple [x, y] => match dnO a x, dnO b y with
      | some u, some v => some (u, v)
      | _, _ => none
    | _ => none
  dn_e := fun t => by unfold eP2 dnO; dsimp only; rw [h1.dn_e, h2.dn_e]
  e_dn := fun x t q => by
    split at q
    · rename_i x y
      split at q
      · rename_i u v hu hv
        cases q
        unfold eP2
        rw [h1.e_dn x u hu, h2.e_dn y v hv]
      · cases q
    · cases q
instance (a : α → PyData) (b : β → PyData) (c : γ → PyData) [h1 : DnE a] [h2 : DnE b] [h3 : DnE c] : DnE (eP3 a b c) where
  dn := fun x => match x with
    | .tuple [x, y, z] => match dnO a x, dnO b y, dnO c z with
      | some u, some v, some w => some (u, v, w)
      | _, _, _ => none
    | _ => none
  dn_e := fun t => by unfold eP3 dnO; dsimp only; rw [h1.dn_e, h2.dn_e, h3.dn_e]
  e_dn := fun x t q => by
    split at q
    · rename_i x y z
      split at q
      · rename_i u v w hu hv hw
        cases q
        unfold eP3
        rw [h1.e_dn x u hu, h2.e_dn y v hv, h3.e_dn z w hw]
      · cases q
    · cases q
def downR (e : τ → PyData) [h : DnE e] (x : PyData) : R τ := match dnO e x with
  | some t => .ok t
  | none => .bad
theorem downR_e (e : τ → PyData) [h : DnE e] (t : τ) : downR e (e t) = .ok t := by unfold downR dnO; rw [h.dn_e]
theorem p_down (e : τ → PyData) [h : DnE e] (x : PyData) : Rf e (downR e x) (.ok x) := by
  unfold downR
  cases q : dnO e x with
  | none => trivial
  | some t => show R.ok x = .ok (e t); rw [← h.e_dn x t q]
theorem te_downP {N : Nat} {M : TM} {f : DEnv → R PyData} {x : PyData} (e : τ → PyData) [h : DnE e] (p : TP N M f eX x) : TE N M f e (downR e x) := fun η s => by rw [p η s]; exact p_down e x
theorem te_down {N : Nat} {M : TM} {f : DEnv → R PyData} {r : R PyData} (e : τ → PyData) [h : DnE e] (p : TE N M f eX r) : TE N M f e (r.bind (downR e)) := fun η s => by
  have q := p η s
  cases r with
  | ok x => rw [show f η = .ok x from q]; exact p_down e x
  | ex c fl => exact q
  | bad => trivial
/-! ### x[::-1] -/
theorem o_revL (e : τ → PyData) (x : List τ) : dRev (eL e x) = .ok (eL e x.reverse) := by unfold dRev eL; rw [List.map_reverse]
theorem o_revT (e : τ → PyData) (x : List τ) : dRev (eT e x) = .ok (eT e x.reverse) := by unfold dRev eT; rw [List.map_reverse]
/-! ### sorted(set(x)) -/
/-- what sets are made of: whole numbers, or tuples of such -/
class SetE {τ : Type} (e : τ → PyData) extends OrE e where
  way : (∀ x, DS.allI [e x] = true) ∨ ∀ x, DS.allT false [e x] = true
instance : SetE eI := { way := .inl fun _ => rfl }
instance : SetE (eP2 eI eI) := { way := .inr fun _ => by simp [DS.allT, DS.keyd, DS.keyds, eP2, eI, isTup, NestedKey.depth, NestedKey.depthAll] }
def nubE (e : τ → PyData) [h : EqE e] : List τ → List τ
  | [] => []
  | x :: xs => if inE e x (nubE e xs) then nubE e xs else x :: nubE e xs
theorem nubE_mem (e : τ → PyData) [h : EqE e] {x : τ} : ∀ {xs : List τ}, x ∈ nubE e xs ↔ x ∈ xs
  | [] => Iff.rfl
  | y :: xs => by
    unfold nubE
    split
    · rename_i q
      rw [inE_iff] at q
      rw [nubE_mem e, List.mem_cons]
      exact ⟨.inr, fun z => z.elim (fun z => by rw [z]; exact (nubE_mem e).mp q) id⟩
    · rw [List.mem_cons, List.mem_cons, nubE_mem e]
theorem nubE_nodup (e : τ → PyData) [h : EqE e] : ∀ {xs : List τ}, (nubE e xs).Nodup
  | [] => List.nodup_nil
  | y :: xs => by
    unfold nubE
    split
    · exact nubE_nodup e
    · rename_i q
      rw [inE_iff] at q
      exact List.nodup_cons.mpr ⟨q, nubE_nodup e⟩
theorem nubE_len (e : τ → PyData) [h : EqE e] : ∀ xs : List τ, (nubE e xs).length ≤ xs.length
  | [] => Nat.le_refl _
  | y :: xs => by
    have := nubE_len e xs
    unfold nubE
    split
    · rw [List.length_cons]; omega
    · rw [List.length_cons, List.length_cons]; omega
theorem keyd_e (e : τ → PyData) [h : SetE e] (x : τ) : ∃ k, DS.keyd false (e x) = some k := by
  rcases h.way with q | q
  · have := q x
    simp only [DS.allI, List.all_cons, List.all_nil, Bool.and_true] at this
    split at this
    · rename_i i e1; rw [e1]; exact ⟨_, rfl⟩
    · cases this
  · exact DS.allK_of (DS.allK_T (q x)) (List.mem_singleton.mpr rfl)
theorem nubK_map (e : τ → PyData) [h : SetE e] : ∀ xs : List τ, DS.nubK false (xs.map e) = (nubE e xs).map e
  | [] => rfl
  | x :: xs => by
    rw [List.map_cons]
    unfold DS.nubK nubE
    rw [nubK_map e xs]
    have q : ((nubE e xs).map e).any (fun y => decide (DS.keyd false y = DS.keyd false (e x))) = inE e x (nubE e xs) := by
      rw [Bool.eq_iff_iff, inE_iff, List.any_eq_true]
      constructor
      · rintro ⟨y, hy, q⟩
        obtain ⟨z, hz, rfl⟩ := List.mem_map.mp hy
        obtain ⟨k, hk⟩ := keyd_e e x
        have q := of_decide_eq_true q
        rw [hk] at q
        have e1 := DS.keyd_inj q hk
        have : z = x := by
          have e2 : PyData.eqv (e z) (e x) = true := by rw [e1, h.eqv]; exact eqE_self e x
          rw [h.eqv] at e2
          exact (eqE_iff e _ _).mp e2
        rw [← this]; exact hz
      · intro hx
        exact ⟨e x, List.mem_map.mpr ⟨x, hx, rfl⟩, decide_eq_true rfl⟩
    rw [q]
    split <;> rfl
theorem setOfD_map (e : τ → PyData) [h : SetE e] (xs : List τ) (hl : xs.length ≤ 75) : DS.setOfD (xs.map e) = .ok (.list ((nubE e xs).map e)) := by
  have e1 : ∃ c, DS.setWay (xs.map e) = some (false, c) := by
    rcases h.way with q | q
    · have h1 : DS.allI (xs.map e) = true := List.all_eq_true.mpr fun d hd => by
        obtain ⟨x, _, rfl⟩ := List.mem_map.mp hd
        exact List.all_eq_true.mp (q x) _ (List.mem_singleton.mpr rfl)
      exact ⟨false, if_pos ⟨h1, by rw [List.length_map]; omega⟩⟩
    · have h1 : DS.allT false (xs.map e) = true := List.all_eq_true.mpr fun d hd => by
        obtain ⟨x, _, rfl⟩ := List.mem_map.mp hd
        exact List.all_eq_true.mp (q x) _ (List.mem_singleton.mpr rfl)
      unfold DS.setWay
      by_cases h2 : DS.allI (xs.map e) = true ∧ (xs.map e).length ≤ 1000
      · exact ⟨false, if_pos h2⟩
      · exact ⟨true, (if_neg h2).trans (if_pos ⟨h1, by rw [List.length_map]; omega⟩)⟩
  obtain ⟨c, e1⟩ := e1
  unfold DS.setOfD
  rw [e1]
  show R.ok (PyData.list (DS.nubK false (xs.map e))) = _
  rw [nubK_map]
theorem o_sortSetL (e : τ → PyData) [h : SetE e] [q : SoE e] (xs : List τ) (hl : xs.length ≤ 75) (hd : q.dep ≤ 64 := by decide) : dSortSet (eL e xs) = .ok (eL e (@sortE τ e q.toOrE (nubE e xs))) := by
  show (DS.setOfD (xs.map e)).bind dSorted = _
  rw [setOfD_map e xs hl, R.bind_ok]
  exact o_sorted e hd (nubE e xs)
theorem o_sortSetT (e : τ → PyData) [h : SetE e] [q : SoE e] (xs : List τ) (hl : xs.length ≤ 75) (hd : q.dep ≤ 64 := by decide) : dSortSet (eT e xs) = .ok (eL e (@sortE τ e q.toOrE (nubE e xs))) := o_sortSetL e xs hl hd
def sortSet (e : τ → PyData) [h : SetE e] (xs : List τ) : R (List τ) := if xs.length ≤ 75 then .ok (sortE e (nubE e xs)) else .bad
end
end DL
end

section
set_option Elab.async false
set_option linter.all false
set_option maxRecDepth 100000
set_option maxHeartbeats 4000000
/-! Typed: dicts of tuple keys, chains, clear. -/
namespace DL
open PySem
section
variable {α β γ κ ν σ ρ τ : Type}
/-- typed data that is a key without texts, n deep at most -/
class KdE {τ : Type} (e : τ → PyData) (n : outParam Nat) : Prop where
  kd : ∀ x, ∃ k, DS.keyd false (e x) = some k ∧ k.depth ≤ n
instance : KdE eI 0 := ⟨fun x => ⟨.num x, rfl, Nat.le_refl _⟩⟩
instance (a : α → PyData) (b : β → PyData) (n m : Nat) [h1 : KdE a n] [h2 : KdE b m] : KdE (eP2 a b) (max n m + 1) := ⟨fun x => by
  obtain ⟨k, e1, d1⟩ := h1.kd x.1
  obtain ⟨j, e2, d2⟩ := h2.kd x.2
  refine ⟨.tup [k, j], ?_, ?_⟩
  · unfold eP2
    simp [DS.keyd, DS.keyds, e1, e2]
  · simp only [NestedKey.depth, NestedKey.depthAll]; omega⟩
theorem keyds_map (e : τ → PyData) (n : Nat) [h : KdE e n] : ∀ xs : List τ, ∃ ks, DS.keyds false (xs.map e) = some ks ∧ NestedKey.depthAll ks ≤ n
  | [] => ⟨[], rfl, Nat.zero_le _⟩
  | x :: xs => by
    obtain ⟨k, e1, d1⟩ := h.kd x
    obtain ⟨ks, e2, d2⟩ := keyds_map e n xs
    refine ⟨k :: ks, ?_, ?_⟩
    · rw [List.map_cons, DS.keyds, e1, e2]; rfl
    · simp only [NestedKey.depthAll]; omega
instance (e : τ → PyData) (n : Nat) [h : KdE e n] : KdE (eT e) (n + 1) := ⟨fun xs => by
  obtain ⟨ks, e1, d1⟩ := keyds_map e n xs
  refine ⟨.tup ks, ?_, ?_⟩
  · unfold eT; rw [DS.keyd, e1]; rfl
  · simp only [NestedKey.depth]; omega⟩
/-- .. and a tuple -/
class TkE {τ : Type} (e : τ → PyData) extends EqE e where
  tk : ∀ x, ∃ k, tkey (e x) = some k ∧ DS.keyd false (e x) = some k
theorem tkey_tup {xs : List PyData} {k : NestedKey} (h : DS.keyd false (.tuple xs) = some k) (hd : k.depth ≤ 8) : tkey (.tuple xs) = some k := by
  show (DS.keyd false (.tuple xs)).bind (fun k => if k.depth ≤ 8 then some k else none) = _
  rw [h]
  show (if k.depth ≤ 8 then some k else none) = _
  rw [if_pos hd]
@[reducible] def tkE_of (e : τ → PyData) [q : EqE e] {n : Nat} [h : KdE e n] (hn : n ≤ 7) : TkE (eT e) where
  tk := fun x => by
    obtain ⟨k, e1, d1⟩ := (inferInstance : KdE (eT e) (n + 1)).kd x
    exact ⟨k, tkey_tup e1 (by omega), e1⟩
instance : TkE (eT eI) := tkE_of eI (n := 0) (by decide)
instance : TkE (eT (eP2 eI eI)) := tkE_of (eP2 eI eI) (n := max 0 0 + 1) (by decide)
def hasE (e : κ → PyData) [h : EqE e] (x : κ) (l : List (κ × ν)) : Bool := l.any fun p => eqE e p.1 x
theorem same_e (e : κ → PyData) [h : TkE e] {x y : κ} {k : NestedKey} (hk : DS.keyd false (e x) = some k) (v : PyData) : DS.sameK k (e y, v) = eqE e y x := by
  unfold DS.sameK
  rw [Bool.eq_iff_iff, decide_eq_true_eq, eqE_iff]
  constructor
  · intro q
    have e1 : e y = e x := DS.keyd_inj q hk
    have : eqE e y x = true := by
      have e2 : PyData.eqv (e y) (e x) = true := by rw [e1, h.eqv]; exact eqE_self e x
      rw [h.eqv] at e2
      exact e2
    exact (eqE_iff e _ _).mp this
  · rintro rfl; exact hk
theorem any_e (e : κ → PyData) [h : TkE e] (v : ν → PyData) {x : κ} {k : NestedKey} (hk : DS.keyd false (e x) = some k) (l : List (κ × ν)) : (l.map fun p => (e p.1, v p.2)).any (DS.sameK k) = hasE e x l := by
  unfold hasE
  rw [List.any_map]
  congr 1
  funext p
  exact same_e e hk _
theorem allTk_e (e : κ → PyData) [h : TkE e] (v : ν → PyData) (l : List (κ × ν)) : allTk (l.map fun p => (e p.1, v p.2)) = true := by
  unfold allTk
  rw [List.all_map, List.all_eq_true]
  intro p _
  obtain ⟨k, e1, _⟩ := h.tk p.1
  obtain ⟨xs, e2, _⟩ := tkey_of e1
  show isTup (e p.1) = true
  rw [e2]; rfl
theorem o_inD (e : κ → PyData) [h : TkE e] (v : ν → PyData) (x : κ) (l : List (κ × ν)) : dInA false (e x) (eD e v l) = .ok (eB (hasE e x l)) := by
  obtain ⟨k, e1, e2⟩ := h.tk x
  show dHas false (e x) (l.map fun p => (e p.1, v p.2)) = _
  unfold dHas
  rw [e1]
  dsimp only
  rw [if_pos (allTk_e e v l), any_e e v e2, Bool.false_xor]
theorem o_niD (e : κ → PyData) [h : TkE e] (v : ν → PyData) (x : κ) (l : List (κ × ν)) : dInA true (e x) (eD e v l) = .ok (eB (!hasE e x l)) := by
  obtain ⟨k, e1, e2⟩ := h.tk x
  show dHas true (e x) (l.map fun p => (e p.1, v p.2)) = _
  unfold dHas
  rw [e1]
  dsimp only
  rw [if_pos (allTk_e e v l), any_e e v e2, Bool.true_xor]
def putE (e : κ → PyData) [h : EqE e] (l : List (κ × ν)) (k : κ) (v : ν) : R (List (κ × ν)) :=
  if l.length < sizeLine then .ok (if hasE e k l then l.map (fun p => if eqE e p.1 k then (p.1, v) else p) else l ++ [(k, v)]) else .bad
theorem putD_e (e : κ → PyData) [h : TkE e] (ev : ν → PyData) (l : List (κ × ν)) (k : κ) (v : ν) : putD (l.map fun p => (e p.1, ev p.2)) (e k) (ev v) = match putE e l k v with
    | .ok l' => some (l'.map fun p => (e p.1, ev p.2))
    | _ => none := by
  obtain ⟨j, e1, e2⟩ := h.tk k
  unfold putD putE
  rw [e1]
  dsimp only
  rw [any_e e ev e2, List.length_map]
  by_cases hz : l.length < sizeLine
  · rw [if_pos ⟨allTk_e e ev l, hz⟩, if_pos hz]
    dsimp only
    congr 1
    split
    · rw [List.map_map, List.map_map]
      refine List.map_congr_left fun p _ => ?_
      show (if DS.sameK j (e p.1, ev p.2) = true then (e p.1, ev v) else (e p.1, ev p.2)) = _
      rw [same_e e e2]
      show _ = (e (if eqE e p.1 k then (p.1, v) else p).1, ev (if eqE e p.1 k then (p.1, v) else p).2)
      split <;> rfl
    · rw [List.map_append]; rfl
  · rw [if_neg (fun q => hz q.2), if_neg hz]
theorem dictAt_of_sm {N : Nat} {M : TM} {η : DEnv} {i : Nat} {ek : κ → PyData} {ev : ν → PyData} {xs : List (κ × ν)} (m : Sm N M η) (h : lookM M i = some (eD ek ev xs)) : dictAt η i = some (xs.map fun p => (ek p.1, ev p.2)) := by
  unfold dictAt; rw [m.at_ i _ h]; rfl
theorem tb_put {N : Nat} {M X : TM} {e : ρ → PyData} {out : σ → TM} {g : DEnv → Fl} {fv fk : DEnv → R PyData} {rv : R ν} {rk : R κ} {h : List (κ × ν) → TF σ ρ} (j : Nat) (ek : κ → PyData) [q : TkE ek] (ev : ν → PyData) (xs : List (κ × ν)) (hl : lookM M j = some (eD ek ev xs)) (hX : SubM X M)
    (iv : TE N M fv ev rv) (ik : TE N M fk ek rk) (k : ∀ ys, TB N ((j, eD ek ev ys) :: M) g out X e (h ys)) (hj : j < N := by decide) :
    TB N M (sSeq (sPutT j fv fk) g) out X e (rv.tf fun v => rk.tf fun x => (putE ek xs x v).tf h) := fun η m => by
  unfold sSeq sPutT
  have q1 := iv η m
  cases rv with
  | ok v =>
    rw [show fv η = .ok (ev v) from q1]
    dsimp only [R.fl_ok]
    rw [dictAt_of_sm m hl]
    dsimp only
    have q2 := ik η m
    cases rk with
    | ok x =>
      rw [show fk η = .ok (ek x) from q2]
      dsimp only [R.fl_ok]
      rw [putD_e ek ev]
      show RfS N out X e ((putE ek xs x v).tf h) _
      cases hp : putE ek xs x v with
      | ok ys => exact k ys _ (m.set hj _)
      | ex c f => unfold putE at hp; split at hp <;> cases hp
      | bad => trivial
    | ex c fl => rw [show fk η = .ex c fl from q2]; exact ⟨η, rfl, m.sub hX⟩
    | bad => trivial
  | ex c fl => rw [show fv η = .ex c fl from q1]; exact ⟨η, rfl, m.sub hX⟩
  | bad => trivial
/-- a op b op' c -/
theorem te_chain {N : Nat} {M : TM} {fa fb fc : DEnv → R PyData} {ea : α → PyData} {eb : β → PyData} {ec : γ → PyData} {ra : R α} {rb : R β} {rc : R γ} {g g' : PyData → PyData → R PyData} {c1 : α → β → Bool} {c2 : β → γ → Bool}
    (h1 : ∀ x y, g (ea x) (eb y) = .ok (eB (c1 x y))) (h2 : ∀ y z, g' (eb y) (ec z) = .ok (eB (c2 y z))) (ia : TE N M fa ea ra) (ib : TE N M fb eb rb) (ic : TE N M fc ec rc) :
    TE N M (dChain g g' fa fb fc) eB (ra.bind fun x => rb.bind fun y => if c1 x y then rc.bind fun z => .ok (c2 y z) else .ok false) := fun η m => by
  unfold dChain
  refine (ia η m).bind fun x => (ib η m).bind fun y => ?_
  rw [h1, R.bind_ok]
  cases c1 x y with
  | false => rfl
  | true =>
    refine Rf.bind (ic η m) fun z => ?_
    rw [h2]; rfl
theorem tb_clr {N : Nat} {M X : TM} {e : ρ → PyData} {out : σ → TM} {g : DEnv → Fl} {h : List τ → TF σ ρ} (j : Nat) (ea : τ → PyData) (xs : List τ) (hl : lookM M j = some (eL ea xs)) (k : ∀ ys, TB N ((j, eL ea ys) :: M) g out X e (h ys)) (hj : j < N := by decide) :
    TB N M (sSeq (sClr j) g) out X e (h []) := fun η m => by
  unfold sSeq sClr
  rw [listAt_of_sm m hl]
  exact k [] _ (m.set hj _)
/-- what a truth, a number or None is told by -/
class FlE {τ : Type} (e : τ → PyData) : Prop where
  fl : ∀ t, flatR (.ok (e t)) = .ok (e t)
instance : FlE eB := ⟨fun _ => rfl⟩
instance : FlE eI := ⟨fun _ => rfl⟩
instance : FlE eN := ⟨fun _ => rfl⟩
theorem r_flat {e : τ → PyData} [h : FlE e] {r : R τ} {x : R PyData} (q : Rf e r x) : Rf e (noEx r) (flatR x) := by
  cases r with
  | ok t => show flatR x = .ok (e t); rw [show x = .ok (e t) from q]; exact h.fl t
  | ex c fl => trivial
  | bad => trivial
theorem o_inLA (e : τ → PyData) [h : EqE e] (hd : h.dep ≤ 64 := by decide) (x : τ) (ys : List τ) : dInA false (e x) (eL e ys) = .ok (eB (inE e x ys)) := o_inL e hd x ys
theorem o_inTA (e : τ → PyData) [h : EqE e] (hd : h.dep ≤ 64 := by decide) (x : τ) (ys : List τ) : dInA false (e x) (eT e ys) = .ok (eB (inE e x ys)) := o_inT e hd x ys
theorem o_inStrA (x y : Str) : dInA false (eS x) (eS y) = .ok (eB (strIn x y)) := o_inStr x y
theorem o_niLA (e : τ → PyData) [h : EqE e] (hd : h.dep ≤ 64 := by decide) (x : τ) (ys : List τ) : dInA true (e x) (eL e ys) = .ok (eB (!inE e x ys)) := o_niL e hd x ys
theorem o_niTA (e : τ → PyData) [h : EqE e] (hd : h.dep ≤ 64 := by decide) (x : τ) (ys : List τ) : dInA true (e x) (eT e ys) = .ok (eB (!inE e x ys)) := o_niT e hd x ys
theorem o_niStrA (x y : Str) : dInA true (eS x) (eS y) = .ok (eB (!strIn x y)) := o_niStr x y
end
end DL
end

section
set_option Elab.async false
set_option linter.all false
set_option maxRecDepth 100000
/-! Typed: a loop without end, a dict's item. -/
namespace DL
open PySem
section
variable {α β γ κ ν σ σ' ρ τ : Type}
/-- while True, left by return -/
def whileE (body : σ' → TF σ' ρ) : Nat → σ' → TF σ ρ
  | 0, _ => .bad
  | n + 1, s => (body s).seq (whileE body n)
theorem tb_whileE {N : Nat} {M X : TM} {e : ρ → PyData} {out : σ → TM} {c : DEnv → R Bool} {g1 : DEnv → Fl} {body : σ' → TF σ' ρ} (n : Nat) (outL : σ' → TM) (s0 : σ') (i : ∀ η, c η = .ok true) (k : ∀ s, TB N (outL s) g1 outL X e (body s)) (h0 : SubM (outL s0) M) :
    TB N M (sWhile n c g1) out X e (whileE body n s0) := fun η m => by
  have go : ∀ (n : Nat) (s : σ'), TB N (outL s) (whileGo c g1 n) out X e (whileE body n s) := by
    intro n
    induction n with
    | zero => exact fun s η m => trivial
    | succ n ih =>
      intro s η m
      show RfS N out X e ((body s).seq (whileE body n)) ((c η).fl η fun b => if b then (g1 η).then (whileGo c g1 n) else .nx η)
      rw [i η]
      exact then_of (k s η m) ih
  exact go n s0 η (m.sub h0)
theorem dB_true (η : DEnv) : dB (dC (.bool true)) η = .ok true := rfl
/-- what stands by a key -/
def getE (e : κ → PyData) [h : EqE e] (l : List (κ × ν)) (x : κ) : R ν := match l.find? (fun p => eqE e p.1 x) with
  | some p => .ok p.2
  | none => .bad
theorem find_e (e : κ → PyData) [h : TkE e] (v : ν → PyData) {x : κ} {k : NestedKey} (hk : DS.keyd false (e x) = some k) : ∀ l : List (κ × ν), (l.map fun p => (e p.1, v p.2)).find? (DS.sameK k) = (l.find? fun p => eqE e p.1 x).map fun p => (e p.1, v p.2)
  | [] => rfl
  | p :: l => by
    rw [List.map_cons, List.find?_cons, List.find?_cons, same_e e hk]
    cases eqE e p.1 x with
    | true => rfl
    | false => exact find_e e v hk l
theorem p_ixD (e : κ → PyData) [h : TkE e] (v : ν → PyData) (l : List (κ × ν)) (x : κ) : Rf v (getE e l x) (dIxA (eD e v l) (e x)) := by
  obtain ⟨k, e1, e2⟩ := h.tk x
  unfold getE
  cases q : l.find? (fun p => eqE e p.1 x) with
  | none => trivial
  | some p =>
    show dIxA (eD e v l) (e x) = .ok (v p.2)
    unfold dIxA eD
    simp only [e1]
    rw [if_pos (allTk_e e v l), find_e e v e2, q]
    rfl
theorem p_sortSetT (e : τ → PyData) [h : SetE e] [q : SoE e] (xs : List τ) (hd : q.dep ≤ 64 := by decide) (hq : q.toOrE = h.toOrE := by rfl) : Rf (eL e) (sortSet e xs) (dSortSet (eT e xs)) := by
  unfold sortSet
  by_cases hl : xs.length ≤ 75
  · rw [if_pos hl, o_sortSetT e xs hl hd, hq]; rfl
  · rw [if_neg hl]; trivial
theorem p_sortSetL (e : τ → PyData) [h : SetE e] [q : SoE e] (xs : List τ) (hd : q.dep ≤ 64 := by decide) (hq : q.toOrE = h.toOrE := by rfl) : Rf (eL e) (sortSet e xs) (dSortSet (eL e xs)) := by
  unfold sortSet
  by_cases hl : xs.length ≤ 75
  · rw [if_pos hl, o_sortSetL e xs hl hd, hq]; rfl
  · rw [if_neg hl]; trivial
/-- a op b op' c, of any kind -/
theorem te_chainX {N : Nat} {M : TM} {fa fb fc : DEnv → R PyData} {ea : α → PyData} {eb : β → PyData} {ec : γ → PyData} {ra : R α} {rb : R β} {rc : R γ} (g g' : PyData → PyData → R PyData) (ia : TE N M fa ea ra) (ib : TE N M fb eb rb) (ic : TE N M fc ec rc) :
    TE N M (dChain g g' fa fb fc) eB (ra.bind fun x => rb.bind fun y => (boolR (g (ea x) (eb y))).bind fun b => if b then rc.bind fun z => boolR (g' (eb y) (ec z)) else .ok false) := fun η m => by
  unfold dChain
  refine (ia η m).bind fun x => (ib η m).bind fun y => ?_
  cases g (ea x) (eb y) with
  | ok d =>
    cases d with
    | bool b =>
      cases b with
      | false => rfl
      | true =>
        show Rf eB (rc.bind fun z => boolR (g' (eb y) (ec z))) ((fc η).bind fun w => g' (eb y) w)
        exact (ic η m).bind fun z => p_boolR (g' (eb y) (ec z))
    | _ => trivial
  | ex c f => rfl
  | bad => trivial
theorem te_ifx {N : Nat} {M : TM} {fc : DEnv → R Bool} {fa fb : DEnv → R PyData} {e : τ → PyData} {rc : R Bool} {ra rb : R τ} (i : TE N M fc id rc) (ha : TE N M fa e ra) (hb : TE N M fb e rb) : TE N M (dIf fc fa fb) e (rc.bind fun c => if c then ra else rb) := fun η m => by
  unfold dIf
  refine (i η m).bind fun c => ?_
  cases c with
  | true => exact ha η m
  | false => exact hb η m
theorem o_sortedA (e : τ → PyData) [h : SoE e] (hd : h.dep ≤ 64 := by decide) (xs : List τ) : dSortA (eT e xs) = .ok (eL e (sortE e xs)) := o_sorted e hd xs
theorem o_sortedAL (e : τ → PyData) [h : SoE e] (hd : h.dep ≤ 64 := by decide) (xs : List τ) : dSortA (eL e xs) = .ok (eL e (sortE e xs)) := o_sorted e hd xs
/-- by None or not -/
def optM (x : Option α) (h1 : TF σ ρ) (h2 : α → TF σ ρ) : TF σ ρ := match x with
  | none => h1
  | some v => h2 v
@[simp] theorem optM_none (h1 : TF σ ρ) (h2 : α → TF σ ρ) : optM none h1 h2 = h1 := rfl
@[simp] theorem optM_some (v : α) (h1 : TF σ ρ) (h2 : α → TF σ ρ) : optM (some v) h1 h2 = h2 v := rfl
theorem tb_isNo {N : Nat} {M X : TM} {e : ρ → PyData} {out : σ → TM} {g1 g2 : DEnv → Fl} {h1 : TF σ ρ} {h2 : α → TF σ ρ} (j : Nat) (ea : α → PyData) (x : Option α) (hl : lookM M j = some (eO ea x)) (nn : ∀ x, ea x ≠ .none) (hE : Exits g1) (k1 : TB N ((j, .none) :: M) g1 out X e h1) (k2 : ∀ v, TB N ((j, ea v) :: M) g2 out X e (h2 v)) :
    TB N M (sSeq (sIf (dB (d2 (dIs false) (dV j) (dC .none))) g1 sNil) g2) out X e (optM x h1 h2) := by
  have q := tb_isN j ea x hl nn hE k1 k2
  cases x <;> exact q
theorem tb_isNJo {N : Nat} {M X : TM} {e : ρ → PyData} {out : σ → TM} {g g1 g2 : DEnv → Fl} {h1 : TF σ' ρ} {h2 : α → TF σ' ρ} {h : σ' → TF σ ρ} (outJ : σ' → TM) (j : Nat) (ea : α → PyData) (x : Option α) (hl : lookM M j = some (eO ea x)) (nn : ∀ x, ea x ≠ .none) (k1 : TB N ((j, .none) :: M) g1 outJ X e h1) (k2 : ∀ v, TB N ((j, ea v) :: M) g2 outJ X e (h2 v)) (k : ∀ s, TB N (outJ s) g out X e (h s)) :
    TB N M (sSeq (sIf (dB (d2 (dIs false) (dV j) (dC .none))) g1 g2) g) out X e (TF.seq (optM x h1 h2) h) := by
  have q := tb_isNJ outJ j ea x hl nn k1 k2 k
  cases x <;> exact q
theorem tb_isnNo {N : Nat} {M X : TM} {e : ρ → PyData} {out : σ → TM} {g1 g2 : DEnv → Fl} {h1 : α → TF σ ρ} {h2 : TF σ ρ} (j : Nat) (ea : α → PyData) (x : Option α) (hl : lookM M j = some (eO ea x)) (nn : ∀ x, ea x ≠ .none) (hE : Exits g1) (k1 : ∀ v, TB N ((j, ea v) :: M) g1 out X e (h1 v)) (k2 : TB N ((j, .none) :: M) g2 out X e h2) :
    TB N M (sSeq (sIf (dB (d2 (dIs true) (dV j) (dC .none))) g1 sNil) g2) out X e (optM x h2 h1) := by
  have q := tb_isnN j ea x hl nn hE k1 k2
  cases x <;> exact q
instance (e : τ → PyData) [h : DnE e] [n : NnE e] : DnE (eO e) where
  dn := fun x => match x with
    | .none => some none
    | x => (h.dn x).map some
  dn_e := fun t => by
    cases t with
    | none => rfl
    | some v =>
      show (match e v with
        | .none => some none
        | x => (h.dn x).map some) = _
      have := n.nn v
      split
      · rename_i q; exact absurd q this
      · rw [h.dn_e]; rfl
  e_dn := fun x t q => by
    split at q
    · cases q; rfl
    · cases hv : h.dn x with
      | none => rw [hv] at q; cases q
      | some v => rw [hv] at q; cases q; exact h.e_dn x v hv
theorem tp_find {N : Nat} {M : TM} {fa fb : DEnv → R PyData} {x y : Str} (ha : TP N M fa eS x) (hb : TP N M fb eS y) : TP N M (dFind fa fb) eI (Txt.find x y) := fun η m => by
  unfold dFind
  rw [ha η m]
  show ((fb η).bind _) = _
  rw [hb η m]
  rfl
theorem te_find {N : Nat} {M : TM} {fa fb : DEnv → R PyData} {ra rb : R Str} (ha : TE N M fa eS ra) (hb : TE N M fb eS rb) : TE N M (dFind fa fb) eI (ra.bind fun x => rb.bind fun y => .ok (Txt.find x y)) := fun η m => by
  unfold dFind
  refine (ha η m).bind fun x => ?_
  exact (hb η m).bind fun y => rfl
/-- x or () -/
theorem tp_orT {N : Nat} {M : TM} {fa : DEnv → R PyData} (e : τ → PyData) {x : Option (List τ)} (ha : TP N M fa (eO (eT e)) x) : TP N M (dOrT fa (dTup dNil)) (eT e) (x.getD []) := fun η m => by
  unfold dOrT
  rw [ha η m]
  cases x with
  | none => rfl
  | some l => cases l <;> rfl
def lenD (l : List (κ × ν)) : R Int := if l.length ≤ 16777216 then .ok (l.length : Int) else .bad
theorem p_lenD (e : κ → PyData) [h : TkE e] (v : ν → PyData) (l : List (κ × ν)) : Rf eI (lenD l) (dLenA (eD e v l)) := by
  unfold lenD
  by_cases c : l.length ≤ 16777216
  · rw [if_pos c]
    show (if allTk (l.map fun p => (e p.1, v p.2)) = true ∧ (l.map fun p => (e p.1, v p.2)).length ≤ 16777216 then R.ok (PyData.int ((l.map fun p => (e p.1, v p.2)).length : Int)) else .bad) = _
    rw [List.length_map, if_pos ⟨allTk_e e v l, c⟩]
    all_goals rfl
  · rw [if_neg c]; trivial
end
end DL
end

section
set_option Elab.async false
set_option linter.all false
set_option maxRecDepth 100000
/-! Typed: tuple(zip(range(n), t)). -/
namespace DL
open PySem
section
variable {α β : Type} {N : Nat} {M : TM} {fa fb : DEnv → R PyData}
theorem te_zipRT {b : β → PyData} {r : R Int} {u : R (List β)} (h : TE N M fa eI r) (h2 : TE N M fb (eT b) u) :
    TE N M (dZipR fa fb) (eT (eP2 eI b)) (r.bind fun n => (rng1 n).bind fun ks => u.bind fun ys => .ok (ks.zip ys)) := fun η s => (h η s).bind fun j => by
  show Rf _ ((rng1 j).bind _) (if -rLine ≤ j ∧ j ≤ rLine then (fb η).bind _ else .bad)
  unfold rng1
  by_cases q : -rLine ≤ j ∧ j ≤ rLine
  · rw [if_pos q, if_pos q]
    refine (h2 η s).bind fun ys => ?_
    show R.ok (PyData.tuple (zipD (rangeD 0 j.toNat) (ys.map b))) = .ok (eT (eP2 eI b) ((rngI 0 j.toNat).zip ys))
    rw [rngI_map, zipD_map]
    rfl
  · rw [if_neg q]; trivial
end
end DL
end

section
set_option Elab.async false
set_option linter.all false
set_option maxRecDepth 100000
set_option maxHeartbeats 4000000
/-! Typed: lists of lists, copied and changed. -/
namespace DL
open PySem
section
variable {α β γ σ ρ : Type}
/-- told without lists -/
class LfE (e : α → PyData) : Prop where
  lf : ∀ x, lf (e x) = true
instance : LfE eI := ⟨fun _ => rfl⟩
instance : LfE eB := ⟨fun _ => rfl⟩
instance : LfE eS := ⟨fun _ => rfl⟩
instance : LfE eN := ⟨fun _ => rfl⟩
instance : LfE eP0 := ⟨fun _ => by simp [eP0, lf, lfAll]⟩
theorem lfAll_map {e : α → PyData} [h : LfE e] : ∀ xs : List α, lfAll (xs.map e) = true
  | [] => by simp [lfAll]
  | x :: xs => by simp [lfAll, h.lf x, lfAll_map xs]
instance {e : α → PyData} [LfE e] : LfE (eT e) := ⟨fun xs => by unfold eT; rw [lf]; exact lfAll_map xs⟩
instance {e : α → PyData} [h : LfE e] : LfE (eP1 e) := ⟨fun x => by simp [eP1, lf, lfAll, h.lf]⟩
instance {a : α → PyData} {b : β → PyData} [h : LfE a] [i : LfE b] : LfE (eP2 a b) := ⟨fun x => by simp [eP2, lf, lfAll, h.lf, i.lf]⟩
instance {a : α → PyData} {b : β → PyData} {c : γ → PyData} [h : LfE a] [i : LfE b] [j : LfE c] : LfE (eP3 a b c) := ⟨fun x => by simp [eP3, lf, lfAll, h.lf, i.lf, j.lf]⟩
instance {e : α → PyData} [h : LfE e] : LfE (eO e) := ⟨fun x => by cases x with
  | none => rfl
  | some x => exact h.lf x⟩
theorem flat_map {e : α → PyData} [LfE e] (xss : List (List α)) : flatL (xss.map (eL e)) = true := List.all_eq_true.mpr fun d hd => by
  obtain ⟨xs, _, rfl⟩ := List.mem_map.mp hd
  exact lfAll_map xs
variable {N : Nat} {M X : TM} {f fi : DEnv → R PyData} {ea : α → PyData} {e : ρ → PyData} {a : α} {ra : R (List α)} {g : DEnv → Fl} {out : σ → TM}
theorem tb_dp0 {h : List (List α) → TF σ ρ} (j : Nat) (hX : SubM X M) (i : TE N M f (eL ea) ra) (k : ∀ v, TB N ((j, eL (eL ea) v) :: M) g out X e (h v)) (hj : j < N := by decide) : TB N M (sSeq (sDp0 j f) g) out X e ((ra.bind fun x => .ok [x]).tf h) := fun η m => by
  have q := i η m
  unfold sSeq sDp0
  cases ra with
  | ok x =>
    rw [show f η = .ok (eL ea x) from q]
    show RfS N out X e (h [x]) ((if j < η.length then Fl.nx (η.set j (some (.list [.list (x.map ea)]))) else .bad).then g)
    rw [if_pos (by rw [m.len]; exact hj)]
    exact k [x] _ (m.set hj _)
  | ex c fl => rw [show f η = .ex c fl from q]; exact ⟨η, rfl, m.sub hX⟩
  | bad => trivial
theorem eL_push (xss : List (List α)) (x : List α) : PyData.list (xss.map (eL ea) ++ [.list (x.map ea)]) = eL (eL ea) (xss ++ [x]) := by unfold eL; rw [List.map_append]; rfl
theorem tb_dpA {h : List (List α) → TF σ ρ} (j : Nat) (ea : α → PyData) (xss : List (List α)) (hl : lookM M j = some (eL (eL ea) xss)) (hX : SubM X M) (i : TE N M f (eL ea) ra) (k : ∀ ys, TB N ((j, eL (eL ea) ys) :: M) g out X e (h ys)) (hj : j < N := by decide) :
    TB N M (sSeq (sDpA j f) g) out X e (ra.tf fun v => (push xss v).tf h) := fun η m => by
  unfold sSeq sDpA
  rw [listAt_of_sm m hl]
  have q := i η m
  cases ra with
  | ok x =>
    dsimp only
    rw [show f η = .ok (eL ea x) from q]
    show RfS N out X e ((push xss x).tf h) ((if (xss.map (eL ea)).length < sizeLine then Fl.nx (η.set j (some (.list (xss.map (eL ea) ++ [.list (x.map ea)])))) else .bad).then g)
    unfold push
    rw [List.length_map]
    by_cases hz : xss.length < sizeLine
    · rw [if_pos hz, if_pos hz, eL_push]
      exact k (xss ++ [x]) _ (m.set hj _)
    · rw [if_neg hz]; trivial
  | ex c fl => dsimp only; rw [show f η = .ex c fl from q]; exact ⟨η, rfl, m.sub hX⟩
  | bad => trivial
theorem tb_dpO {h : List (List α) → TF σ ρ} (j j2 : Nat) (ea : α → PyData) (xss : List (List α)) (ys : List α) (hl : lookM M j = some (eL (eL ea) xss)) (hl2 : lookM M j2 = some (eL ea ys)) (k : ∀ ys, TB N ((j, eL (eL ea) ys) :: M) g out X e (h ys)) (hj : j < N := by decide) :
    TB N M (sSeq (sDpO j j2) g) out X e ((push xss ys).tf h) := fun η m => by
  unfold sSeq sDpO
  rw [listAt_of_sm m hl, listAt_of_sm m hl2]
  show RfS N out X e ((push xss ys).tf h) ((if (xss.map (eL ea)).length < sizeLine then Fl.nx (η.set j (some (.list (xss.map (eL ea) ++ [.list (ys.map ea)])))) else .bad).then g)
  unfold push
  rw [List.length_map]
  by_cases hz : xss.length < sizeLine
  · rw [if_pos hz, if_pos hz, eL_push]
    exact k (xss ++ [ys]) _ (m.set hj _)
  · rw [if_neg hz]; trivial
theorem tb_keep {h : List (List α) → TF σ ρ} (i j : Nat) (ea : α → PyData) (xss : List (List α)) (hl : lookM M i = some (eL (eL ea) xss)) (k : ∀ ys, TB N ((j, eL (eL ea) ys) :: M) g out X e (h ys)) (hj : j < N := by decide) :
    TB N M (sSeq (sKeep i j) g) out X e (h xss) := fun η m => by
  unfold sSeq sKeep
  rw [listAt_of_sm m hl]
  dsimp only
  rw [if_pos (List.all_eq_true.mpr fun d hd => by
    obtain ⟨xs, _, rfl⟩ := List.mem_map.mp hd
    rfl)]
  exact k xss _ (m.set hj _)
/-- what stays, told without lists -/
def LfM (i j : Nat) (A : TM) : Prop := ∀ k d, lookM A k = some d → lf d = true ∧ k ≠ i ∧ k ≠ j
theorem lfm_nil {i j : Nat} : LfM i j [] := fun _ _ h => by cases h
theorem lfm_cons {i j k : Nat} {d : PyData} {A : TM} (h : lf d = true) (h2 : k ≠ i ∧ k ≠ j) (r : LfM i j A) : LfM i j ((k, d) :: A) := fun l x e => by
  unfold lookM at e
  by_cases hj : k = l
  · rw [if_pos hj] at e; cases e; rw [← hj]; exact ⟨h, h2⟩
  · rw [if_neg hj] at e; exact r l x e
theorem sm_re {η : DEnv} {i j : Nat} {A : TM} {ds es : List PyData} (m : Sm N M η) (s : SubM A M) (l : LfM i j A) (hij : i ≠ j) (hi : i < N) (hj : j < N) : Sm N ((i, .list ds) :: (j, .list es) :: A) (reD η i j ds es) := by
  have hll : (lfOnly η).length = N := by unfold lfOnly; rw [List.length_map]; exact m.len
  refine ⟨by unfold reD; rw [List.length_set, List.length_set]; exact hll, fun k d e => ?_⟩
  unfold reD
  unfold lookM at e
  by_cases h1 : i = k
  · rw [if_pos h1] at e
    cases e
    subst h1
    rw [List.getElem?_set_ne (Ne.symm hij), List.getElem?_set_self (by rw [hll]; exact hi)]
  · rw [if_neg h1] at e
    unfold lookM at e
    by_cases h2 : j = k
    · rw [if_pos h2] at e
      cases e
      subst h2
      rw [List.getElem?_set_self (by rw [List.length_set, hll]; exact hj)]
    · rw [if_neg h2] at e
      rw [List.getElem?_set_ne h2, List.getElem?_set_ne h1]
      unfold lfOnly
      rw [List.getElem?_map, m.at_ k d (s k d e)]
      show some (if lf d = true then some d else none) = _
      rw [if_pos (l k d e).1]
/-- one list's things taken out -/
def clrAt (xss : List (List α)) (k : Int) : R (List (List α)) := match L2.ixN xss.length k with
  | some m => match xss[m]? with
    | some _ => .ok (xss.set m [])
    | none => .bad
  | none => .bad
/-- one list grown -/
def appAt (xss : List (List α)) (k : Int) (v : α) : R (List (List α)) := match L2.ixN xss.length k with
  | some m => match xss[m]? with
    | some ys => if ys.length < sizeLine then .ok (xss.set m (ys ++ [v])) else .bad
    | none => .bad
  | none => .bad
theorem map_set_eL (xss : List (List α)) (m : Nat) (ys : List α) : (xss.map (eL ea)).set m (.list (ys.map ea)) = (xss.set m ys).map (eL ea) := by rw [List.map_set]; rfl
theorem tb_inClr {ri : R Int} {A : TM} {h : List (List α) → TF σ ρ} (i j : Nat) (ea : α → PyData) [LfE ea] (xss yss : List (List α)) (hl : lookM M i = some (eL (eL ea) xss)) (hl2 : lookM M j = some (eL (eL ea) yss)) (hX : SubM X M) (q : TE N M fi eI ri) (s : SubM A M) (l : LfM i j A)
    (k : ∀ zs, TB N ((i, eL (eL ea) zs) :: (j, eL (eL ea) yss) :: A) g out X e (h zs)) (hij : i ≠ j := by decide) (hi : i < N := by decide) (hj : j < N := by decide) :
    TB N M (sSeq (sInClr i j fi) g) out X e (ri.tf fun n => (clrAt xss n).tf h) := fun η m => by
  unfold sSeq sInClr
  rw [listAt_of_sm m hl, listAt_of_sm m hl2]
  have q := q η m
  cases ri with
  | ex c fl => dsimp only; rw [show fi η = .ex c fl from q]; exact ⟨η, rfl, m.sub hX⟩
  | bad => trivial
  | ok n =>
    dsimp only
    rw [show fi η = .ok (.int n) from q]
    show RfS N out X e ((clrAt xss n).tf h) ((match L2.ixN (xss.map (eL ea)).length n with
      | some m => match (xss.map (eL ea))[m]? with
        | some (.list _) => if flatL (xss.map (eL ea)) && flatL (yss.map (eL ea)) then Fl.nx (reD η i j ((xss.map (eL ea)).set m (.list [])) (yss.map (eL ea))) else .bad
        | _ => .bad
      | none => .bad).then g)
    unfold clrAt
    rw [List.length_map]
    cases q1 : L2.ixN xss.length n with
    | none => trivial
    | some p =>
      dsimp only
      rw [List.getElem?_map]
      cases q2 : xss[p]? with
      | none => trivial
      | some ys =>
        show RfS N out X e (h (xss.set p [])) ((if flatL (xss.map (eL ea)) && flatL (yss.map (eL ea)) then Fl.nx (reD η i j ((xss.map (eL ea)).set p (.list [])) (yss.map (eL ea))) else .bad).then g)
        rw [flat_map, flat_map, if_pos (show (true && true) = true from rfl)]
        rw [show (xss.map (eL ea)).set p (.list []) = (xss.set p []).map (eL ea) from map_set_eL xss p []]
        exact k (xss.set p []) _ (sm_re m s l hij hi hj)
theorem tb_inApp {ri : R Int} {v : α} {A : TM} {h : List (List α) → TF σ ρ} (i j : Nat) (ea : α → PyData) [hea : LfE ea] (xss yss : List (List α)) (hl : lookM M i = some (eL (eL ea) xss)) (hl2 : lookM M j = some (eL (eL ea) yss)) (hX : SubM X M) (q : TE N M fi eI ri) (qv : TP N M f ea v) (s : SubM A M) (l : LfM i j A)
    (k : ∀ zs, TB N ((i, eL (eL ea) zs) :: (j, eL (eL ea) yss) :: A) g out X e (h zs)) (hij : i ≠ j := by decide) (hi : i < N := by decide) (hj : j < N := by decide) :
    TB N M (sSeq (sInApp i j fi f) g) out X e (ri.tf fun n => (appAt xss n v).tf h) := fun η m => by
  unfold sSeq sInApp
  rw [listAt_of_sm m hl, listAt_of_sm m hl2]
  have q := q η m
  cases ri with
  | ex c fl => dsimp only; rw [show fi η = .ex c fl from q]; exact ⟨η, rfl, m.sub hX⟩
  | bad => trivial
  | ok n =>
    dsimp only
    rw [show fi η = .ok (.int n) from q]
    rw [R.fl_ok]
    show RfS N out X e ((appAt xss n v).tf h) ((match L2.ixN (xss.map (eL ea)).length n with
      | some m => match (xss.map (eL ea))[m]? with
        | some (.list ys) => (f η).fl η fun dv => if flatL (xss.map (eL ea)) && flatL (yss.map (eL ea)) && lf dv && decide (ys.length < sizeLine) then Fl.nx (reD η i j ((xss.map (eL ea)).set m (.list (ys ++ [dv]))) (yss.map (eL ea))) else .bad
        | _ => .bad
      | none => .bad).then g)
    have qv := qv η m
    unfold appAt
    rw [List.length_map]
    cases q1 : L2.ixN xss.length n with
    | none => trivial
    | some p =>
      dsimp only
      rw [List.getElem?_map]
      cases q2 : xss[p]? with
      | none => trivial
      | some ys =>
        show RfS N out X e ((if ys.length < sizeLine then R.ok (xss.set p (ys ++ [v])) else .bad).tf h) (((f η).fl η fun dv => if flatL (xss.map (eL ea)) && flatL (yss.map (eL ea)) && lf dv && decide ((ys.map ea).length < sizeLine) then Fl.nx (reD η i j ((xss.map (eL ea)).set p (.list (ys.map ea ++ [dv]))) (yss.map (eL ea))) else .bad).then g)
        rw [show f η = .ok (ea v) from qv, R.fl_ok, flat_map, flat_map, hea.lf, List.length_map]
        by_cases hz : ys.length < sizeLine
        · rw [if_pos hz, if_pos (by simp [hz])]
          rw [show PyData.list (ys.map ea ++ [ea v]) = .list ((ys ++ [v]).map ea) by rw [List.map_append]; rfl, map_set_eL xss p (ys ++ [v])]
          exact k (xss.set p (ys ++ [v])) _ (sm_re m s l hij hi hj)
        · rw [if_neg hz]; trivial
theorem tb_outApp {rv : R (List α)} {A : TM} {h : List (List α) → TF σ ρ} (i j : Nat) (ea : α → PyData) [hea : LfE ea] (xss yss : List (List α)) (hl : lookM M i = some (eL (eL ea) xss)) (hl2 : lookM M j = some (eL (eL ea) yss)) (hX : SubM X M) (qv : TE N M f (eL ea) rv) (s : SubM A M) (l : LfM i j A)
    (k : ∀ zs, TB N ((i, eL (eL ea) zs) :: (j, eL (eL ea) yss) :: A) g out X e (h zs)) (hij : i ≠ j := by decide) (hi : i < N := by decide) (hj : j < N := by decide) :
    TB N M (sSeq (sOutApp i j f) g) out X e (rv.tf fun v => (push xss v).tf h) := fun η m => by
  unfold sSeq sOutApp
  rw [listAt_of_sm m hl, listAt_of_sm m hl2]
  have qv := qv η m
  cases rv with
  | ex c fl => dsimp only; rw [show f η = .ex c fl from qv]; exact ⟨η, rfl, m.sub hX⟩
  | bad => trivial
  | ok v =>
    dsimp only
    rw [show f η = .ok (eL ea v) from qv]
    show RfS N out X e ((push xss v).tf h) ((if flatL (xss.map (eL ea)) && flatL (yss.map (eL ea)) && lfAll (v.map ea) && decide ((xss.map (eL ea)).length < sizeLine) then Fl.nx (reD η i j (xss.map (eL ea) ++ [.list (v.map ea)]) (yss.map (eL ea))) else .bad).then g)
    unfold push
    rw [flat_map, flat_map, lfAll_map, List.length_map]
    by_cases hz : xss.length < sizeLine
    · rw [if_pos hz, if_pos (by simp [hz])]
      rw [show xss.map (eL ea) ++ [PyData.list (v.map ea)] = (xss ++ [v]).map (eL ea) by rw [List.map_append]; rfl]
      exact k (xss ++ [v]) _ (sm_re m s l hij hi hj)
    · rw [if_neg hz]; trivial
end
end DL
end

section
set_option Elab.async false
set_option linter.all false
set_option maxRecDepth 100000
/-! Typed: dict(pairs), dicts with numbers or texts as keys. -/
namespace DL
open PySem
section
variable {α β γ κ ν σ ρ τ : Type}
/-- a number or a text -/
class KyE {τ : Type} (e : τ → PyData) extends EqE e where
  ky : ∀ x, ∃ k, kOf (e x) = some k
instance : KyE eI := { (inferInstance : EqE eI) with ky := fun x => ⟨.inl x, rfl⟩ }
instance : KyE eS := { (inferInstance : EqE eS) with ky := fun x => ⟨.inr x, rfl⟩ }
theorem same_k (e : κ → PyData) [h : KyE e] (x y : κ) : (kOf (e y) = kOf (e x)) ↔ y = x := by
  constructor
  · intro q
    obtain ⟨k, hk⟩ := h.ky x
    have e1 : e y = e x := (kOf_eq (q.trans hk)).trans (kOf_eq hk).symm
    have e2 : PyData.eqv (e y) (e x) = true := by rw [e1, h.eqv]; exact eqE_self e x
    rw [h.eqv] at e2
    exact (eqE_iff e _ _).mp e2
  · rintro rfl; rfl
theorem same_ke (e : κ → PyData) [h : KyE e] {x y : κ} {k : L2.Key} (hk : kOf (e x) = some k) (v : PyData) : sameKD k (e y, v) = eqE e y x := by
  unfold sameKD
  rw [Bool.eq_iff_iff, decide_eq_true_eq, eqE_iff, ← hk]
  exact same_k e x y
theorem any_k (e : κ → PyData) [h : KyE e] (v : ν → PyData) {x : κ} {k : L2.Key} (hk : kOf (e x) = some k) (l : List (κ × ν)) : (l.map fun p => (e p.1, v p.2)).any (sameKD k) = hasE e x l := by
  unfold hasE
  rw [List.any_map]
  congr 1
  funext p
  exact same_ke e hk _
theorem allK_e (e : κ → PyData) [h : KyE e] (v : ν → PyData) (l : List (κ × ν)) : allK (l.map fun p => (e p.1, v p.2)) = true := by
  unfold allK
  rw [List.all_map, List.all_eq_true]
  intro p _
  obtain ⟨k, e1⟩ := h.ky p.1
  show (kOf (e p.1)).isSome = true
  rw [e1]; rfl
theorem o_inK (e : κ → PyData) [h : KyE e] (v : ν → PyData) (x : κ) (l : List (κ × ν)) : dInK false (e x) (eD e v l) = .ok (eB (hasE e x l)) := by
  obtain ⟨k, e1⟩ := h.ky x
  unfold dInK eD
  simp only [e1]
  rw [if_pos (allK_e e v l), any_k e v e1, Bool.false_xor]
  all_goals rfl
theorem o_niK (e : κ → PyData) [h : KyE e] (v : ν → PyData) (x : κ) (l : List (κ × ν)) : dInK true (e x) (eD e v l) = .ok (eB (!hasE e x l)) := by
  obtain ⟨k, e1⟩ := h.ky x
  unfold dInK eD
  simp only [e1]
  rw [if_pos (allK_e e v l), any_k e v e1, Bool.true_xor]
  all_goals rfl
theorem find_k (e : κ → PyData) [h : KyE e] (v : ν → PyData) {x : κ} {k : L2.Key} (hk : kOf (e x) = some k) : ∀ l : List (κ × ν), (l.map fun p => (e p.1, v p.2)).find? (sameKD k) = (l.find? fun p => eqE e p.1 x).map fun p => (e p.1, v p.2)
  | [] => rfl
  | p :: l => by
    rw [List.map_cons, List.find?_cons, List.find?_cons, same_ke e hk]
    cases eqE e p.1 x with
    | true => rfl
    | false => exact find_k e v hk l
theorem p_ixK (e : κ → PyData) [h : KyE e] (v : ν → PyData) (l : List (κ × ν)) (x : κ) : Rf v (getE e l x) (dIxK (eD e v l) (e x)) := by
  obtain ⟨k, e1⟩ := h.ky x
  unfold getE
  cases q : l.find? (fun p => eqE e p.1 x) with
  | none => trivial
  | some p =>
    show dIxK (eD e v l) (e x) = .ok (v p.2)
    unfold dIxK eD
    simp only [e1]
    rw [if_pos (allK_e e v l), find_k e v e1, q]
    all_goals rfl
/-- what a list of pairs tells as a dict -/
def dput (e : κ → PyData) [h : EqE e] (l : List (κ × ν)) (k : κ) (v : ν) : List (κ × ν) := if hasE e k l then l.map (fun p => if eqE e p.1 k then (p.1, v) else p) else l ++ [(k, v)]
def dictE (e : κ → PyData) [h : EqE e] (ps : List (κ × ν)) : List (κ × ν) := ps.foldl (fun l p => dput e l p.1 p.2) []
theorem dput_k (e : κ → PyData) [h : KyE e] (ev : ν → PyData) (l : List (κ × ν)) (k : κ) (v : ν) : putKD (l.map fun p => (e p.1, ev p.2)) (e k) (ev v) = (dput e l k v).map fun p => (e p.1, ev p.2) := by
  obtain ⟨j, e1⟩ := h.ky k
  have ea : ((l.map fun p => (e p.1, ev p.2)).any fun q => decide (kOf q.1 = kOf (e k))) = hasE e k l := by
    rw [← any_k e ev e1, e1]; rfl
  unfold putKD dput
  rw [ea]
  split
  · rw [List.map_map, List.map_map]
    refine List.map_congr_left fun p _ => ?_
    show (if kOf (e p.1) = kOf (e k) then (e p.1, ev v) else (e p.1, ev p.2)) = (e (if eqE e p.1 k then (p.1, v) else p).1, ev (if eqE e p.1 k then (p.1, v) else p).2)
    by_cases q : p.1 = k
    · rw [if_pos (by rw [q]), if_pos ((eqE_iff e _ _).mpr q)]
    · rw [if_neg (fun z => q ((same_k e k p.1).mp z)), if_neg (fun z => q ((eqE_iff e _ _).mp z))]
  · rw [List.map_append]; rfl
theorem pairs_e (e : κ → PyData) [h : KyE e] (ev : ν → PyData) : ∀ xs : List (κ × ν), pairsOf (xs.map (eP2 e ev)) = some (xs.map fun p => (e p.1, ev p.2))
  | [] => rfl
  | p :: xs => by
    obtain ⟨k, e1⟩ := h.ky p.1
    have e2 : pairOf (eP2 e ev p) = some (e p.1, ev p.2) := by
      show (if (kOf (e p.1)).isSome = true then some (e p.1, ev p.2) else none) = _
      rw [e1]; rfl
    rw [List.map_cons, pairsOf, e2, pairs_e e ev xs]
    all_goals rfl
theorem merge_e (e : κ → PyData) [h : KyE e] (ev : ν → PyData) : ∀ (xs l : List (κ × ν)), mergeKD (l.map fun p => (e p.1, ev p.2)) (xs.map fun p => (e p.1, ev p.2)) = (xs.foldl (fun l p => dput e l p.1 p.2) l).map fun p => (e p.1, ev p.2)
  | [], l => rfl
  | p :: xs, l => by
    rw [List.map_cons]
    show mergeKD (putKD (l.map fun p => (e p.1, ev p.2)) (e p.1) (ev p.2)) (xs.map fun p => (e p.1, ev p.2)) = _
    rw [dput_k, merge_e e ev xs]
    all_goals rfl
theorem o_dictT (e : κ → PyData) [h : KyE e] (ev : ν → PyData) (xs : List (κ × ν)) : dDictP (eT (eP2 e ev) xs) = .ok (eD e ev (dictE e xs)) := by
  unfold eT dDictP
  simp only [pairs_e e ev xs]
  rw [show ([] : List (PyData × PyData)) = ([] : List (κ × ν)).map fun p => (e p.1, ev p.2) from rfl, merge_e e ev xs []]
  all_goals rfl
theorem o_dictL (e : κ → PyData) [h : KyE e] (ev : ν → PyData) (xs : List (κ × ν)) : dDictP (eL (eP2 e ev) xs) = .ok (eD e ev (dictE e xs)) := by
  unfold eL dDictP
  simp only [pairs_e e ev xs]
  rw [show ([] : List (PyData × PyData)) = ([] : List (κ × ν)).map fun p => (e p.1, ev p.2) from rfl, merge_e e ev xs []]
  all_goals rfl
end
end DL
end

section
set_option Elab.async false
set_option linter.all false
set_option maxRecDepth 100000
/-! Typed: len(set(x)), t.index(x). -/
namespace DL
open PySem
section
variable {τ : Type}
def lenSet (e : τ → PyData) [h : SetE e] (xs : List τ) : R Int := if xs.length ≤ 75 then .ok ((nubE e xs).length : Nat) else .bad
theorem p_lenSetT (e : τ → PyData) [h : SetE e] (xs : List τ) : Rf eI (lenSet e xs) (dLenSet (eT e xs)) := by
  unfold lenSet
  by_cases hl : xs.length ≤ 75
  · rw [if_pos hl]
    show (DS.setOfD (xs.map e)).bind _ = _
    rw [setOfD_map e xs hl, R.bind_ok]
    dsimp only
    rw [List.length_map]
    have : (nubE e xs).length ≤ 75 := Nat.le_trans (nubE_len e xs) hl
    rw [if_pos (by omega)]
    all_goals rfl
  · rw [if_neg hl]; trivial
theorem p_lenSetL (e : τ → PyData) [h : SetE e] (xs : List τ) : Rf eI (lenSet e xs) (dLenSet (eL e xs)) := p_lenSetT e xs
theorem intsD_map : ∀ xs : List Int, intsD (xs.map eI) = some xs
  | [] => rfl
  | x :: xs => by
    rw [List.map_cons]
    show (intsD (xs.map eI)).map (x :: ·) = _
    rw [intsD_map xs]; rfl
theorem first_idx (y : Int) : ∀ xs : List Int, (xs.findIdx? fun z => eqE eI z y) = if y ∈ xs then some (xs.idxOf y) else none
  | [] => rfl
  | x :: xs => by
    rw [List.findIdx?_cons, first_idx y xs]
    by_cases q : x = y
    · subst q
      rw [if_pos (eqE_self eI x), if_pos List.mem_cons_self, List.idxOf_cons_self]
    · rw [if_neg (fun z => q ((eqE_iff eI _ _).mp z))]
      by_cases m : y ∈ xs
      · rw [if_pos m, if_pos (List.mem_cons_of_mem _ m), List.idxOf_cons, beq_false_of_ne q]; rfl
      · rw [if_neg m, if_neg (fun z => (List.mem_cons.mp z).elim (fun e => q e.symm) m)]; rfl
theorem te_idxT {N : Nat} {M : TM} {fa fb : DEnv → R PyData} {r : R (List Int)} {u : R Int} (h1 : TE N M fa (eT eI) r) (h2 : TE N M fb eI u) : TE N M (dIdxT fa fb) eI (r.bind fun x => u.bind fun y => firstE eI y x) := fun η s => by
  unfold dIdxT
  refine (h1 η s).bind fun xs => (h2 η s).bind fun y => ?_
  unfold firstE
  rw [first_idx]
  by_cases m : y ∈ xs
  · rw [if_pos m]
    show dIndexT (xs.map eI) (eI y) = .ok (eI (xs.idxOf y : Nat))
    unfold dIndexT
    rw [intsD_map]
    show (if y ∈ xs then R.ok (PyData.int (xs.idxOf y : Nat)) else .bad) = _
    rw [if_pos m]
    all_goals rfl
  · rw [if_neg m]; trivial
end
end DL
end

section
set_option Elab.async false
set_option linter.all false
set_option maxRecDepth 100000
set_option maxHeartbeats 4000000
namespace Qk03
open PySem PySem.Spec PyProof.Rows L2 DL
def top (i : Nat) : Stmt := PySem.Challenge.pw_pickalike_k03_moved.main.body.getD i (.Pass ⟨0, 0, 0, 0⟩)
def ecs : ECs := []
def ec : EC := ecOf ecs
def exs : List String := ecs.map (·.1)
def cdef (i j : Nat) : Stmt := match top i with
  | .ClassDef (body := b) .. => b.getD j (.Pass ⟨0, 0, 0, 0⟩)
  | _ => .Pass ⟨0, 0, 0, 0⟩
abbrev N_moved : List PySem.Str := ["world", "order", "marks", "arrows", "name", "points", "pairs", "point", "one", "other"]
def g_moved : DEnv → Fl := (sSeq (sSet 2 (dLst dNil))
    (sSeq (sFor (dIt (d2 dIxS (dV 0) (dC (.int 1)))) (tgT [4, 5]) (sApp 2 (dTup (dCons (dV 4) (dCons (d1 dToTup (d1 dSorted (dLc (dIt (dV 5)) (tgN 7) cT (d2 dIxS (dV 1) (dV 7))))) dNil)))))
    (sSeq (sSet 3 (dLst dNil))
    (sSeq (sFor (dIt (d2 dIxS (dV 0) (dC (.int 2)))) (tgT [4, 6]) (sApp 3 (dTup (dCons (dV 4) (dCons (d1 dToTup (d1 dSorted (dLc (dIt (dV 6)) (tgT [8, 9]) cT (dTup (dCons (d2 dIxS (dV 1) (dV 8)) (dCons (d2 dIxS (dV 1) (dV 9)) dNil)))))) dNil)))))
    (sRet (dTup (dCons (d2 dIxS (dV 0) (dC (.int 0))) (dCons (d1 dToTup (dV 2)) (dCons (d1 dToTup (dV 3)) dNil)))))))))
def m_moved (ds : List PyData) : R PyData := runF (g_moved (startD N_moved ds))
abbrev N__law_cell : List PySem.Str := ["_law_script", "_law_k"]
def g__law_cell : DEnv → Fl := (sSeq (sIf (dB (d2 dLt (dV 1) (d1 dLen (dV 0)))) (sRet (d2 dMod (d2 dIxS (dV 0) (dV 1)) (d2 dPow (dC (.int 2)) (dC (.int 64))))) sNil)
    (sRet (dC (.int 0))))
def m__law_cell (ds : List PyData) : R PyData := runF (g__law_cell (startD N__law_cell ds))
abbrev N__law_names : List PySem.Str := ["_law_cell_here", "_law_many", "_law_number", "_law_base", "_law_size", "_law_at", "_law_found", "_law_k", "_law_words", "_law_first", "_law_signs", "_law_sign"]
def g__law_names : DEnv → Fl := (sSeq (sSet 2 (d2 dMod (d2 dMul (dV 0) (dC (.int 7129))) (dC (.int 1000033))))
    (sSeq (sSet 3 (d2 dIxS (dC (.str "bcdfg")) (d2 dMod (dV 2) (dC (.int 5)))))
    (sSeq (sSet 4 (d2 dAdd (dC (.int 2)) (d2 dMod (d2 dDiv (dV 2) (dC (.int 5))) (dC (.int 7)))))
    (sSeq (sIf (dB (d2 dEq (d2 dMod (d2 dDiv (dV 2) (dC (.int 35))) (dC (.int 4))) (dC (.int 1)))) (sRet (dLc (dRange1 (dV 1)) (tgN 7) cT (d2 dMul (dV 3) (d2 dAdd (dC (.int 2)) (dV 7))))) sNil)
    (sSeq (sIf (dB (d2 dEq (d2 dMod (d2 dDiv (dV 2) (dC (.int 35))) (dC (.int 4))) (dC (.int 2)))) (sSeq (sSet 8 (dLst (dCons (dC (.str "and")) (dCons (dC (.str "or")) (dCons (dC (.str "not")) (dCons (dC (.str "some")) (dCons (dC (.str "every")) (dCons (dC (.str "least")) (dCons (dC (.str "true")) (dCons (dC (.str "false")) dNil))))))))))
    (sSeq (sSet 9 (d2 dMod (d2 dDiv (dV 2) (dC (.int 140))) (dC (.int 8))))
    (sSeq (sSet 10 (dC (.str "abcdefghijklmnopqrstuvwxyz")))
    (sRet (d1 dSorted (dLc (dRange1 (dV 1)) (tgN 7) cT (d2 dAdd (d2 dIxS (d2 dAdd (dV 8) (dV 8)) (d2 dAdd (dV 9) (dV 7))) (d2 dIxS (dV 10) (d2 dMod (d2 dDiv (dV 2) (dC (.int 1120))) (dC (.int 26))))))))))) sNil)
    (sSeq (sSet 5 (d2 dMod (d2 dDiv (dV 2) (dC (.int 105))) (dV 4)))
    (sSeq (sSet 6 (dLst dNil))
    (sSeq (sFor (dRange1 (dV 1)) (tgN 7) (sSeq (sSet 11 (d2 dIxS (dC (.str "abcdefghijklmnopqrstuvwxyz")) (d2 dMod (d2 dAdd (d2 dDiv (dV 2) (dC (.int 840))) (d2 dMul (dC (.int 5)) (dV 7))) (dC (.int 26)))))
    (sApp 6 (d2 dAdd (d2 dAdd (d2 dMul (dV 3) (dV 5)) (dV 11)) (d2 dMul (dV 3) (d2 dSub (d2 dSub (dV 4) (dC (.int 1))) (dV 5)))))))
    (sRet (d1 dSorted (dV 6)))))))))))
def m__law_names (ds : List PyData) : R PyData := runF (g__law_names (startD N__law_names ds))
abbrev N__law_some : List PySem.Str := ["_law_bits", "_law_many", "_law_found", "_law_point"]
def g__law_some : DEnv → Fl := (sSeq (sSet 2 (dLst dNil))
    (sSeq (sFor (dRange1 (dV 1)) (tgN 3) (sSeq (sIf (dB (d2 dEq (d2 dMod (dV 0) (dC (.int 2))) (dC (.int 1)))) (sApp 2 (dV 3)) sNil)
    (sSet 0 (d2 dDiv (dV 0) (dC (.int 2))))))
    (sRet (d1 dToTup (dV 2)))))
def m__law_some (ds : List PyData) : R PyData := runF (g__law_some (startD N__law_some ds))
abbrev N__law_pairs : List PySem.Str := ["_law_bits", "_law_many", "_law_found", "_law_one", "_law_other"]
def g__law_pairs : DEnv → Fl := (sSeq (sSet 2 (dLst dNil))
    (sSeq (sFor (dRange1 (dV 1)) (tgN 3) (sFor (dRange1 (dV 1)) (tgN 4) (sSeq (sIf (dB (d2 dEq (d2 dMod (dV 0) (dC (.int 2))) (dC (.int 1)))) (sApp 2 (dTup (dCons (dV 3) (dCons (dV 4) dNil)))) sNil)
    (sSet 0 (d2 dDiv (dV 0) (dC (.int 2)))))))
    (sRet (d1 dToTup (dV 2)))))
def m__law_pairs (ds : List PyData) : R PyData := runF (g__law_pairs (startD N__law_pairs ds))
abbrev N__law_tongue : List PySem.Str := ["_law_cell_here", "_law_names_here", "_law_number", "_law_first"]
def g__law_tongue : DEnv → Fl := (sSeq (sSet 1 (dCall m__law_names (dCons (dV 0) (dCons (dC (.int 6)) dNil))))
    (sSeq (sSet 2 (d2 dMod (d2 dMul (dV 0) (dC (.int 523))) (dC (.int 10007))))
    (sSeq (sSet 3 (d2 dMod (d2 dDiv (dV 2) (dC (.int 16))) (dC (.int 3))))
    (sRet (dTup (dCons (d1 dToTup (dSl (dV 1) dNo (dPart (d2 dMod (dV 2) (dC (.int 4)))))) (dCons (d1 dToTup (dSl (dV 1) (dPart (dV 3)) (dPart (d2 dAdd (dV 3) (d2 dMod (d2 dDiv (dV 2) (dC (.int 4))) (dC (.int 4))))))) dNil)))))))
def m__law_tongue (ds : List PyData) : R PyData := runF (g__law_tongue (startD N__law_tongue ds))
abbrev N__law_world : List PySem.Str := ["_law_script", "_law_at", "_law_many", "_law_tongue_here", "_law_marks_here", "_law_k", "_law_arrows_here", "_law_bits"]
def g__law_world : DEnv → Fl := (sSeq (sSet 4 (dLst dNil))
    (sSeq (sFor (dRange1 (d1 dLen (d2 dIxS (dV 3) (dC (.int 0))))) (tgN 5) (sApp 4 (dTup (dCons (d2 dIxS (d2 dIxS (dV 3) (dC (.int 0))) (dV 5)) (dCons (dCall m__law_some (dCons (d2 dMod (d2 dMul (dCall m__law_cell (dCons (dV 0) (dCons (d2 dAdd (dV 1) (dV 5)) dNil))) (dC (.int 167))) (d2 dPow (dC (.int 2)) (dC (.int 8)))) (dCons (dV 2) dNil))) dNil)))))
    (sSeq (sSet 6 (dLst dNil))
    (sSeq (sFor (dRange1 (d1 dLen (d2 dIxS (dV 3) (dC (.int 1))))) (tgN 5) (sSeq (sSet 7 (d2 dMod (d2 dMul (dCall m__law_cell (dCons (dV 0) (dCons (d2 dAdd (d2 dAdd (dV 1) (dC (.int 3))) (dV 5)) dNil))) (dC (.int 11400714819323198485))) (d2 dPow (dC (.int 2)) (dC (.int 64)))))
    (sApp 6 (dTup (dCons (d2 dIxS (d2 dIxS (dV 3) (dC (.int 1))) (dV 5)) (dCons (dCall m__law_pairs (dCons (dV 7) (dCons (dV 2) dNil))) dNil))))))
    (sRet (dTup (dCons (dV 2) (dCons (d1 dToTup (dV 4)) (dCons (d1 dToTup (dV 6)) dNil)))))))))
def m__law_world (ds : List PyData) : R PyData := runF (g__law_world (startD N__law_world ds))
abbrev N__law_order : List PySem.Str := ["_law_number", "_law_many", "_law_left", "_law_found", "_law_k", "_law_at"]
def g__law_order : DEnv → Fl := (sSeq (sSet 2 (dListRg (dV 1)))
    (sSeq (sSet 3 (dLst dNil))
    (sSeq (sFor (dRange1 (dV 1)) (tgN 4) (sSeq (sSet 5 (d2 dMod (dV 0) (d1 dLen (dV 2))))
    (sSeq (sSet 0 (d2 dAdd (d2 dDiv (dV 0) (dC (.int 11))) (d2 dMul (dC (.int 7)) (dV 5))))
    (sSeq (sApp 3 (d2 dIxS (dV 2) (dV 5)))
    (sSet 2 (d2 dAdd (dSl (dV 2) dNo (dPart (dV 5))) (dSl (dV 2) (dPart (d2 dAdd (dV 5) (dC (.int 1)))) dNo)))))))
    (sRet (d1 dToTup (dV 3))))))
def m__law_order (ds : List PyData) : R PyData := runF (g__law_order (startD N__law_order ds))
abbrev N__law_same : List PySem.Str := ["_law_found", "_law_due", "_law_k"]
def g__law_same (m_self : List PyData → R PyData) : DEnv → Fl := (sSeq (sIf (dB (d1 (dIsi .tuple) (dV 1))) (sSeq (sIf (bOr (bNot (dB (d1 (dIsi .tuple) (dV 0)))) (dB (d2 dNe (d1 dLen (dV 0)) (d1 dLen (dV 1))))) (sRet (dC (.bool false))) sNil)
    (sRet (d1 dAll (dLc (dRange1 (d1 dLen (dV 1))) (tgN 2) cT (dCall m_self (dCons (d2 dIxS (dV 0) (dV 2)) (dCons (d2 dIxS (dV 1) (dV 2)) dNil))))))) sNil)
    (sSeq (sIf (bOr (dB (d1 (dIsi .bool) (dV 1))) (dB (d1 (dIsi .int) (dV 1)))) (sRet (dAnd (d1 (dIsi .int) (dV 0)) (dAnd (d2 dEq (d1 (dIsi .bool) (dV 0)) (d1 (dIsi .bool) (dV 1))) (d2 dEq (dV 0) (dV 1))))) sNil)
    (sRet (dAnd (d1 (dIsi .str) (dV 0)) (d2 dEq (dV 0) (dV 1))))))
def m__law_same : Nat → List PyData → R PyData
  | 0, _ => .bad
  | n + 1, ds => runF (g__law_same (m__law_same n) (startD N__law_same ds))
abbrev N__law_marks : List PySem.Str := ["_law_world_here", "_law_found", "_law_order_here", "_law_part", "_law_told", "_law_points", "_law_due", "_law_point"]
def g__law_marks : DEnv → Fl := (sSeq (sIf (bOr (bNot (dB (d1 (dIsi .tuple) (dV 1)))) (dB (d2 dNe (d1 dLen (dV 1)) (d1 dLen (d2 dIxS (dV 0) (dC (.int 1))))))) (sRet (dC (.bool false))) sNil)
    (sSeq (sFor (dZip (d2 dIxS (dV 0) (dC (.int 1))) (dV 1)) (tgT [3, 4]) (sSeq (sSet 5 (dLc (dIt (d2 dIxS (dV 3) (dC (.int 1)))) (tgN 7) cT (d2 dIxS (dV 2) (dV 7))))
    (sSeq (sSet 6 (dTup (dCons (d2 dIxS (dV 3) (dC (.int 0))) (dCons (d1 dToTup (dLc (dRange1 (d2 dIxS (dV 0) (dC (.int 0)))) (tgN 7) (dB (d2 (dInS false) (dV 7) (dV 5))) (dV 7))) dNil))))
    (sIf (bNot (dB (dCall (m__law_same 6) (dCons (dV 4) (dCons (dV 6) dNil))))) (sRet (dC (.bool false))) sNil))))
    (sRet (dC (.bool true)))))
def m__law_marks (ds : List PyData) : R PyData := runF (g__law_marks (startD N__law_marks ds))
abbrev N__law_arrows : List PySem.Str := ["_law_world_here", "_law_found", "_law_order_here", "_law_part", "_law_told", "_law_pairs_here", "_law_due", "_law_one", "_law_other"]
def g__law_arrows : DEnv → Fl := (sSeq (sIf (bOr (bNot (dB (d1 (dIsi .tuple) (dV 1)))) (dB (d2 dNe (d1 dLen (dV 1)) (d1 dLen (d2 dIxS (dV 0) (dC (.int 2))))))) (sRet (dC (.bool false))) sNil)
    (sSeq (sFor (dZip (d2 dIxS (dV 0) (dC (.int 2))) (dV 1)) (tgT [3, 4]) (sSeq (sSet 5 (dLc (dIt (d2 dIxS (dV 3) (dC (.int 1)))) (tgT [7, 8]) cT (dTup (dCons (d2 dIxS (dV 2) (dV 7)) (dCons (d2 dIxS (dV 2) (dV 8)) dNil)))))
    (sSeq (sSet 6 (dLst dNil))
    (sSeq (sFor (dRange1 (d2 dIxS (dV 0) (dC (.int 0)))) (tgN 7) (sSet 6 (d2 dAdd (dV 6) (dLc (dRange1 (d2 dIxS (dV 0) (dC (.int 0)))) (tgN 8) (dB (d2 (dInS false) (dTup (dCons (dV 7) (dCons (dV 8) dNil))) (dV 5))) (dTup (dCons (dV 7) (dCons (dV 8) dNil)))))))
    (sIf (bNot (dB (dCall (m__law_same 6) (dCons (dV 4) (dCons (dTup (dCons (d2 dIxS (dV 3) (dC (.int 0))) (dCons (d1 dToTup (dV 6)) dNil))) dNil))))) (sRet (dC (.bool false))) sNil)))))
    (sRet (dC (.bool true)))))
def m__law_arrows (ds : List PyData) : R PyData := runF (g__law_arrows (startD N__law_arrows ds))
abbrev N_law : List PySem.Str := ["_law_script", "_law_many", "_law_world_here", "_law_one", "_law_two", "_law_order_here", "_law_both", "_law_back", "_law_found", "_law_k"]
def g_law : DEnv → Fl := (sSeq (sSet 1 (d2 dAdd (dC (.int 1)) (d2 dMod (dCall m__law_cell (dCons (dV 0) (dCons (dC (.int 0)) dNil))) (dC (.int 8)))))
    (sSeq (sSet 2 (dCall m__law_world (dCons (dV 0) (dCons (dC (.int 2)) (dCons (dV 1) (dCons (dCall m__law_tongue (dCons (dCall m__law_cell (dCons (dV 0) (dCons (dC (.int 1)) dNil))) dNil)) dNil))))))
    (sSeq (sSet 3 (dCall m__law_order (dCons (dCall m__law_cell (dCons (dV 0) (dCons (dC (.int 8)) dNil))) (dCons (dV 1) dNil))))
    (sSeq (sSet 4 (dCall m__law_order (dCons (dCall m__law_cell (dCons (dV 0) (dCons (dC (.int 9)) dNil))) (dCons (dV 1) dNil))))
    (sSeq (sFor (dIt (dLst (dCons (dV 3) (dCons (dV 4) dNil)))) (tgN 5) (sSeq (sSet 8 (dCall m_moved (dCons (dV 2) (dCons (dV 5) dNil))))
    (sSeq (sIf (bOr (bNot (dB (d1 (dIsi .tuple) (dV 8)))) (bOr (dB (d2 dNe (d1 dLen (dV 8)) (dC (.int 3)))) (bNot (dB (dCall (m__law_same 6) (dCons (d2 dIxS (dV 8) (dC (.int 0))) (dCons (dV 1) dNil))))))) (sRet (dC (.bool false))) sNil)
    (sIf (bOr (bNot (dB (dCall m__law_marks (dCons (dV 2) (dCons (d2 dIxS (dV 8) (dC (.int 1))) (dCons (dV 5) dNil)))))) (bNot (dB (dCall m__law_arrows (dCons (dV 2) (dCons (d2 dIxS (dV 8) (dC (.int 2))) (dCons (dV 5) dNil))))))) (sRet (dC (.bool false))) sNil))))
    (sSeq (sSet 6 (d1 dToTup (dLc (dRange1 (dV 1)) (tgN 9) cT (d2 dIxS (dV 4) (d2 dIxS (dV 3) (dV 9))))))
    (sSeq (sSet 7 (d1 dToTup (dLc (dRange1 (dV 1)) (tgN 9) cT (dIdxT (dV 3) (dV 9)))))
    (sSeq (sIf (bOr (dB (d2 dNe (dCall m_moved (dCons (dCall m_moved (dCons (dV 2) (dCons (dV 3) dNil))) (dCons (dV 4) dNil))) (dCall m_moved (dCons (dV 2) (dCons (dV 6) dNil))))) (dB (d2 dNe (dCall m_moved (dCons (dCall m_moved (dCons (dV 2) (dCons (dV 3) dNil))) (dCons (dV 7) dNil))) (dV 2)))) (sRet (dC (.bool false))) sNil)
    (sRet (d2 dEq (dV 2) (dCall m__law_world (dCons (dV 0) (dCons (dC (.int 2)) (dCons (dV 1) (dCons (dCall m__law_tongue (dCons (dCall m__law_cell (dCons (dV 0) (dCons (dC (.int 1)) dNil))) dNil)) dNil)))))))))))))))
def m_law (ds : List PyData) : R PyData := runF (g_law (startD N_law ds))
structure Facts (P : Program) (w : World) (K : PySem.W.Frag) (mg : PySem.Str → Option Value) (base : Heap) : Prop where
  f_moved : ∃ fd, FunD K "moved" "moved" (defArgs (top 1)) (defBody (top 1)) (defScope (top 1)) [] [] (He.ga K "moved") fd
  f__law_cell : ∃ fd, FunD K "_law_cell" "_law_cell" (defArgs (top 3)) (defBody (top 3)) (defScope (top 3)) [] [] (He.ga K "_law_cell") fd
  f__law_names : ∃ fd, FunD K "_law_names" "_law_names" (defArgs (top 4)) (defBody (top 4)) (defScope (top 4)) [] [] (He.ga K "_law_names") fd
  f__law_some : ∃ fd, FunD K "_law_some" "_law_some" (defArgs (top 5)) (defBody (top 5)) (defScope (top 5)) [] [] (He.ga K "_law_some") fd
  f__law_pairs : ∃ fd, FunD K "_law_pairs" "_law_pairs" (defArgs (top 6)) (defBody (top 6)) (defScope (top 6)) [] [] (He.ga K "_law_pairs") fd
  f__law_tongue : ∃ fd, FunD K "_law_tongue" "_law_tongue" (defArgs (top 7)) (defBody (top 7)) (defScope (top 7)) [] [] (He.ga K "_law_tongue") fd
  f__law_world : ∃ fd, FunD K "_law_world" "_law_world" (defArgs (top 8)) (defBody (top 8)) (defScope (top 8)) [] [] (He.ga K "_law_world") fd
  f__law_order : ∃ fd, FunD K "_law_order" "_law_order" (defArgs (top 9)) (defBody (top 9)) (defScope (top 9)) [] [] (He.ga K "_law_order") fd
  f__law_same : ∃ fd, FunD K "_law_same" "_law_same" (defArgs (top 10)) (defBody (top 10)) (defScope (top 10)) [] [] (He.ga K "_law_same") fd
  f__law_marks : ∃ fd, FunD K "_law_marks" "_law_marks" (defArgs (top 11)) (defBody (top 11)) (defScope (top 11)) [] [] (He.ga K "_law_marks") fd
  f__law_arrows : ∃ fd, FunD K "_law_arrows" "_law_arrows" (defArgs (top 12)) (defBody (top 12)) (defScope (top 12)) [] [] (He.ga K "_law_arrows") fd
  f_law : ∃ fd, FunD K "law" "law" (defArgs (top 13)) (defBody (top 13)) (defScope (top 13)) [] [] (He.ga K "law") fd
  g_moved : mg "moved" = some (.ref (He.ga K "moved"))
  g__law_cell : mg "_law_cell" = some (.ref (He.ga K "_law_cell"))
  g__law_names : mg "_law_names" = some (.ref (He.ga K "_law_names"))
  g__law_some : mg "_law_some" = some (.ref (He.ga K "_law_some"))
  g__law_pairs : mg "_law_pairs" = some (.ref (He.ga K "_law_pairs"))
  g__law_tongue : mg "_law_tongue" = some (.ref (He.ga K "_law_tongue"))
  g__law_world : mg "_law_world" = some (.ref (He.ga K "_law_world"))
  g__law_order : mg "_law_order" = some (.ref (He.ga K "_law_order"))
  g__law_same : mg "_law_same" = some (.ref (He.ga K "_law_same"))
  g__law_marks : mg "_law_marks" = some (.ref (He.ga K "_law_marks"))
  g__law_arrows : mg "_law_arrows" = some (.ref (He.ga K "_law_arrows"))
  g_law : mg "law" = some (.ref (He.ga K "law"))
  g_all : mg "all" = none
  g_bool : mg "bool" = none
  g_int : mg "int" = none
  g_isinstance : mg "isinstance" = none
  g_len : mg "len" = none
  g_list : mg "list" = none
  g_range : mg "range" = none
  g_sorted : mg "sorted" = none
  g_str : mg "str" = none
  g_tuple : mg "tuple" = none
  g_zip : mg "zip" = none
variable {P : Program} {w : World} {K : PySem.W.Frag} {mg : PySem.Str → Option Value} {base : Heap}
theorem sc_moved : FnScope N_moved ["world", "order"] (defScope (top 1)) := ⟨rfl, rfl, rfl, by decide +kernel, rfl, by decide +kernel, by decide +kernel⟩
theorem ok_moved (Z : Facts P w K mg base) : FOk ec P w K mg base 1 "moved" 2 m_moved :=
  fok_of Z.f_moved.choose_spec Z.g_moved sc_moved (fun _ _ _ _ _ _ us hl => match us, hl with | [_, _], _ => rfl) (O' := [3, 2])
    (fun cdv A outer s H E hr tk ps =>
      (dss_cons (O1 := [2]) (ds_own (i := 2) sc_moved.nd (dn_lst dn_nil))
      (dss_cons (O1 := [2]) (ds_for ps rfl (tg_tup (is := [4, 5]) (n := 2) rfl (by decide)) (di_any (de_ixS (DE.w (de_var 0)) (DE.w de_int))) (pg_tup rfl (pgs_cons (pg_name (i := 4) sc_moved.nd rfl (by first | exact .inl rfl | exact .inr rfl)) (pgs_cons (pg_name (i := 5) sc_moved.nd rfl (by first | exact .inl rfl | exact .inr rfl)) pgs_nil))) (dss_one (ds_app (i := 2) (de_tup (dn_cons (de_var 4) (dn_cons (de_bt cd_tuple Z.g_tuple (DN.dw (dn_bf (cn_sorted (rm_of hr)) Z.g_sorted (DN.dw (dn_lc0 rfl sc_moved.nd (di_w (DE.w (de_var 5))) (blkOk_by (own := [("point", 7)]) (by kernel_rfl)) (tg_name (i := 7) (by decide)) (fun _ _ _ _ _ => (pg_name sc_moved.nd rfl (by first | exact .inl rfl | exact .inr rfl))) (fun _ _ _ _ _ => (de_ixS (DE.w (de_var 1)) (DE.w (de_var 7)))))) rfl)) rfl) dn_nil))))))
      (dss_cons (O1 := [3, 2]) (ds_own (i := 3) sc_moved.nd (dn_lst dn_nil))
      (dss_cons (O1 := [3, 2]) (ds_for ps rfl (tg_tup (is := [4, 6]) (n := 2) rfl (by decide)) (di_any (de_ixS (DE.w (de_var 0)) (DE.w de_int))) (pg_tup rfl (pgs_cons (pg_name (i := 4) sc_moved.nd rfl (by first | exact .inl rfl | exact .inr rfl)) (pgs_cons (pg_name (i := 6) sc_moved.nd rfl (by first | exact .inl rfl | exact .inr rfl)) pgs_nil))) (dss_one (ds_app (i := 3) (de_tup (dn_cons (de_var 4) (dn_cons (de_bt cd_tuple Z.g_tuple (DN.dw (dn_bf (cn_sorted (rm_of hr)) Z.g_sorted (DN.dw (dn_lc0 rfl sc_moved.nd (di_w (DE.w (de_var 6))) (blkOk_by (own := [("one", 8), ("other", 9)]) (by kernel_rfl)) (tg_tup (is := [8, 9]) (n := 2) rfl (by decide)) (fun _ _ _ _ _ => (pg_tup rfl (pgs_cons (pg_name (i := 8) sc_moved.nd rfl (by first | exact .inl rfl | exact .inr rfl)) (pgs_cons (pg_name (i := 9) sc_moved.nd rfl (by first | exact .inl rfl | exact .inr rfl)) pgs_nil)))) (fun _ _ _ _ _ => (de_tup (dn_cons (de_ixS (DE.w (de_var 1)) (DE.w (de_var 8))) (dn_cons (de_ixS (DE.w (de_var 1)) (DE.w (de_var 9))) dn_nil)))))) rfl)) rfl) dn_nil))))))
      (dss_one (ds_ret (de_tup (dn_cons (de_ixS (DE.w (de_var 0)) (DE.w de_int)) (dn_cons (de_bt cd_tuple Z.g_tuple (dw_var 2) rfl) (dn_cons (de_bt cd_tuple Z.g_tuple (dw_var 3) rfl) dn_nil))))))))))) (fun _ _ => rfl)
theorem sc__law_cell : FnScope N__law_cell ["_law_script", "_law_k"] (defScope (top 3)) := ⟨rfl, rfl, rfl, by decide +kernel, rfl, by decide +kernel, by decide +kernel⟩
theorem ok__law_cell (Z : Facts P w K mg base) : FOk ec P w K mg base 1 "_law_cell" 2 m__law_cell :=
  fok_of Z.f__law_cell.choose_spec Z.g__law_cell sc__law_cell (fun _ _ _ _ _ _ us hl => match us, hl with | [_, _], _ => rfl) (O' := [])
    (fun cdv A outer s H E hr tk ps =>
      (dss_cons (O1 := []) (ds_if (dt_cmp (od_lt (rm_of hr)) (DE.w (de_var 1)) (DE.w (de_bf cd_len Z.g_len (DE.w (de_var 0)) rfl)) rfl) (dss_one (ds_ret (de_op od_mod (DE.w (de_ixS (DE.w (de_var 0)) (DE.w (de_var 1)))) (DE.w (de_op od_pow (DE.w de_int) (DE.w de_int)))))) dss_nil)
      (dss_one (ds_ret de_int)))) (fun _ _ => rfl)
theorem sc__law_names : FnScope N__law_names ["_law_cell_here", "_law_many"] (defScope (top 4)) := ⟨rfl, rfl, rfl, by decide +kernel, rfl, by decide +kernel, by decide +kernel⟩
theorem ok__law_names (Z : Facts P w K mg base) : FOk ec P w K mg base 1 "_law_names" 2 m__law_names :=
  fok_of Z.f__law_names.choose_spec Z.g__law_names sc__law_names (fun _ _ _ _ _ _ us hl => match us, hl with | [_, _], _ => rfl) (O' := [6])
    (fun cdv A outer s H E hr tk ps =>
      (dss_cons (O1 := []) (ds_set (i := 2) sc__law_names.nd (de_op od_mod (DE.w (de_op od_mul (DE.w (de_var 0)) (DE.w de_int))) (DE.w de_int)))
      (dss_cons (O1 := []) (ds_set (i := 3) sc__law_names.nd (de_ixS (DE.w de_str) (DE.w (de_op od_mod (DE.w (de_var 2)) (DE.w de_int)))))
      (dss_cons (O1 := []) (ds_set (i := 4) sc__law_names.nd (de_op od_add (DE.w de_int) (DE.w (de_op od_mod (DE.w (de_op od_div (DE.w (de_var 2)) (DE.w de_int))) (DE.w de_int)))))
      (dss_cons (O1 := []) (ds_if (dt_cmp (od_eq (rm_of hr)) (DE.w (de_op od_mod (DE.w (de_op od_div (DE.w (de_var 2)) (DE.w de_int))) (DE.w de_int))) (DE.w de_int) rfl) (dss_one (ds_ret (DN.de (dn_lc0 rfl sc__law_names.nd (di_range1 Z.g_range (de_var 1)) (blkOk_by (own := [("_law_k", 7)]) (by kernel_rfl)) (tg_name (i := 7) (by decide)) (fun _ _ _ _ _ => (pg_name sc__law_names.nd rfl (by first | exact .inl rfl | exact .inr rfl))) (fun _ _ _ _ _ => (de_op od_mul (DE.w (de_var 3)) (DE.w (de_op od_add (DE.w de_int) (DE.w (de_var 7)))))))))) dss_nil)
      (dss_cons (O1 := []) (ds_if (dt_cmp (od_eq (rm_of hr)) (DE.w (de_op od_mod (DE.w (de_op od_div (DE.w (de_var 2)) (DE.w de_int))) (DE.w de_int))) (DE.w de_int) rfl) (dss_cons (O1 := []) (ds_set (i := 8) sc__law_names.nd (DN.de (dn_lst (dn_cons de_str (dn_cons de_str (dn_cons de_str (dn_cons de_str (dn_cons de_str (dn_cons de_str (dn_cons de_str (dn_cons de_str dn_nil)))))))))))
      (dss_cons (O1 := []) (ds_set (i := 9) sc__law_names.nd (de_op od_mod (DE.w (de_op od_div (DE.w (de_var 2)) (DE.w de_int))) (DE.w de_int)))
      (dss_cons (O1 := []) (ds_set (i := 10) sc__law_names.nd de_str)
      (dss_one (ds_ret (DN.de (dn_bf (cn_sorted (rm_of hr)) Z.g_sorted (DN.dw (dn_lc0 rfl sc__law_names.nd (di_range1 Z.g_range (de_var 1)) (blkOk_by (own := [("_law_k", 7)]) (by kernel_rfl)) (tg_name (i := 7) (by decide)) (fun _ _ _ _ _ => (pg_name sc__law_names.nd rfl (by first | exact .inl rfl | exact .inr rfl))) (fun _ _ _ _ _ => (de_op od_add (DE.w (de_ixS (DE.w (de_op od_add (DE.w (de_var 8)) (DE.w (de_var 8)))) (DE.w (de_op od_add (DE.w (de_var 9)) (DE.w (de_var 7)))))) (DE.w (de_ixS (DE.w (de_var 10)) (DE.w (de_op od_mod (DE.w (de_op od_div (DE.w (de_var 2)) (DE.w de_int))) (DE.w de_int))))))))) rfl))))))) dss_nil)
      (dss_cons (O1 := []) (ds_set (i := 5) sc__law_names.nd (de_op od_mod (DE.w (de_op od_div (DE.w (de_var 2)) (DE.w de_int))) (DE.w (de_var 4))))
      (dss_cons (O1 := [6]) (ds_own (i := 6) sc__law_names.nd (dn_lst dn_nil))
      (dss_cons (O1 := [6]) (ds_for ps rfl (tg_name (i := 7) (by decide)) (di_range1 Z.g_range (de_var 1)) (pg_name sc__law_names.nd rfl (by first | exact .inl rfl | exact .inr rfl)) (dss_cons (O1 := [6]) (ds_set (i := 11) sc__law_names.nd (de_ixS (DE.w de_str) (DE.w (de_op od_mod (DE.w (de_op od_add (DE.w (de_op od_div (DE.w (de_var 2)) (DE.w de_int))) (DE.w (de_op od_mul (DE.w de_int) (DE.w (de_var 7)))))) (DE.w de_int)))))
      (dss_one (ds_app (i := 6) (de_op od_add (DE.w (de_op od_add (DE.w (de_op od_mul (DE.w (de_var 3)) (DE.w (de_var 5)))) (DE.w (de_var 11)))) (DE.w (de_op od_mul (DE.w (de_var 3)) (DE.w (de_op od_sub (DE.w (de_op od_sub (DE.w (de_var 4)) (DE.w de_int))) (DE.w (de_var 5)))))))))))
      (dss_one (ds_ret (DN.de (dn_bf (cn_sorted (rm_of hr)) Z.g_sorted (dw_var 6) rfl))))))))))))) (fun _ _ => rfl)
theorem sc__law_some : FnScope N__law_some ["_law_bits", "_law_many"] (defScope (top 5)) := ⟨rfl, rfl, rfl, by decide +kernel, rfl, by decide +kernel, by decide +kernel⟩
theorem ok__law_some (Z : Facts P w K mg base) : FOk ec P w K mg base 1 "_law_some" 2 m__law_some :=
  fok_of Z.f__law_some.choose_spec Z.g__law_some sc__law_some (fun _ _ _ _ _ _ us hl => match us, hl with | [_, _], _ => rfl) (O' := [2])
    (fun cdv A outer s H E hr tk ps =>
      (dss_cons (O1 := [2]) (ds_own (i := 2) sc__law_some.nd (dn_lst dn_nil))
      (dss_cons (O1 := [2]) (ds_for ps rfl (tg_name (i := 3) (by decide)) (di_range1 Z.g_range (de_var 1)) (pg_name sc__law_some.nd rfl (by first | exact .inl rfl | exact .inr rfl)) (dss_cons (O1 := [2]) (ds_if (dt_cmp (od_eq (rm_of hr)) (DE.w (de_op od_mod (DE.w (de_var 0)) (DE.w de_int))) (DE.w de_int) rfl) (dss_one (ds_app (i := 2) (de_var 3))) dss_nil)
      (dss_one (ds_set (i := 0) sc__law_some.nd (de_op od_div (DE.w (de_var 0)) (DE.w de_int))))))
      (dss_one (ds_ret (de_bt cd_tuple Z.g_tuple (dw_var 2) rfl)))))) (fun _ _ => rfl)
theorem sc__law_pairs : FnScope N__law_pairs ["_law_bits", "_law_many"] (defScope (top 6)) := ⟨rfl, rfl, rfl, by decide +kernel, rfl, by decide +kernel, by decide +kernel⟩
theorem ok__law_pairs (Z : Facts P w K mg base) : FOk ec P w K mg base 1 "_law_pairs" 2 m__law_pairs :=
  fok_of Z.f__law_pairs.choose_spec Z.g__law_pairs sc__law_pairs (fun _ _ _ _ _ _ us hl => match us, hl with | [_, _], _ => rfl) (O' := [2])
    (fun cdv A outer s H E hr tk ps =>
      (dss_cons (O1 := [2]) (ds_own (i := 2) sc__law_pairs.nd (dn_lst dn_nil))
      (dss_cons (O1 := [2]) (ds_for ps rfl (tg_name (i := 3) (by decide)) (di_range1 Z.g_range (de_var 1)) (pg_name sc__law_pairs.nd rfl (by first | exact .inl rfl | exact .inr rfl)) (dss_one (ds_for ps rfl (tg_name (i := 4) (by decide)) (di_range1 Z.g_range (de_var 1)) (pg_name sc__law_pairs.nd rfl (by first | exact .inl rfl | exact .inr rfl)) (dss_cons (O1 := [2]) (ds_if (dt_cmp (od_eq (rm_of hr)) (DE.w (de_op od_mod (DE.w (de_var 0)) (DE.w de_int))) (DE.w de_int) rfl) (dss_one (ds_app (i := 2) (de_tup (dn_cons (de_var 3) (dn_cons (de_var 4) dn_nil))))) dss_nil)
      (dss_one (ds_set (i := 0) sc__law_pairs.nd (de_op od_div (DE.w (de_var 0)) (DE.w de_int))))))))
      (dss_one (ds_ret (de_bt cd_tuple Z.g_tuple (dw_var 2) rfl)))))) (fun _ _ => rfl)
theorem sc__law_tongue : FnScope N__law_tongue ["_law_cell_here"] (defScope (top 7)) := ⟨rfl, rfl, rfl, by decide +kernel, rfl, by decide +kernel, by decide +kernel⟩
theorem ok__law_tongue (Z : Facts P w K mg base) : FOk ec P w K mg base 2 "_law_tongue" 1 m__law_tongue :=
  fok_of Z.f__law_tongue.choose_spec Z.g__law_tongue sc__law_tongue (fun _ _ _ _ _ _ us hl => match us, hl with | [_], _ => rfl) (O' := [])
    (fun cdv A outer s H E hr tk ps =>
      (dss_cons (O1 := []) (ds_set (i := 1) sc__law_tongue.nd (de_call (ok__law_names Z) (hr.mono (by decide)) tk (dn_cons (de_var 0) (dn_cons de_int dn_nil))))
      (dss_cons (O1 := []) (ds_set (i := 2) sc__law_tongue.nd (de_op od_mod (DE.w (de_op od_mul (DE.w (de_var 0)) (DE.w de_int))) (DE.w de_int)))
      (dss_cons (O1 := []) (ds_set (i := 3) sc__law_tongue.nd (de_op od_mod (DE.w (de_op od_div (DE.w (de_var 2)) (DE.w de_int))) (DE.w de_int)))
      (dss_one (ds_ret (de_tup (dn_cons (de_bt cd_tuple Z.g_tuple (DE.w (de_slice (DE.w (de_var 1)) do_none (do_some (DE.w (de_op od_mod (DE.w (de_var 2)) (DE.w de_int)))))) rfl) (dn_cons (de_bt cd_tuple Z.g_tuple (DE.w (de_slice (DE.w (de_var 1)) (do_some (DE.w (de_var 3))) (do_some (DE.w (de_op od_add (DE.w (de_var 3)) (DE.w (de_op od_mod (DE.w (de_op od_div (DE.w (de_var 2)) (DE.w de_int))) (DE.w de_int)))))))) rfl) dn_nil))))))))) (fun _ _ => rfl)
theorem sc__law_world : FnScope N__law_world ["_law_script", "_law_at", "_law_many", "_law_tongue_here"] (defScope (top 8)) := ⟨rfl, rfl, rfl, by decide +kernel, rfl, by decide +kernel, by decide +kernel⟩
theorem ok__law_world (Z : Facts P w K mg base) : FOk ec P w K mg base 2 "_law_world" 4 m__law_world :=
  fok_of Z.f__law_world.choose_spec Z.g__law_world sc__law_world (fun _ _ _ _ _ _ us hl => match us, hl with | [_, _, _, _], _ => rfl) (O' := [6, 4])
    (fun cdv A outer s H E hr tk ps =>
      (dss_cons (O1 := [4]) (ds_own (i := 4) sc__law_world.nd (dn_lst dn_nil))
      (dss_cons (O1 := [4]) (ds_for ps rfl (tg_name (i := 5) (by decide)) (di_range1 Z.g_range (de_bf cd_len Z.g_len (DE.w (de_ixS (DE.w (de_var 3)) (DE.w de_int))) rfl)) (pg_name sc__law_world.nd rfl (by first | exact .inl rfl | exact .inr rfl)) (dss_one (ds_app (i := 4) (de_tup (dn_cons (de_ixS (DE.w (de_ixS (DE.w (de_var 3)) (DE.w de_int))) (DE.w (de_var 5))) (dn_cons (de_call (ok__law_some Z) (hr.mono (by decide)) tk (dn_cons (de_op od_mod (DE.w (de_op od_mul (DE.w (de_call (ok__law_cell Z) (hr.mono (by decide)) tk (dn_cons (de_var 0) (dn_cons (de_op od_add (DE.w (de_var 1)) (DE.w (de_var 5))) dn_nil)))) (DE.w de_int))) (DE.w (de_op od_pow (DE.w de_int) (DE.w de_int)))) (dn_cons (de_var 2) dn_nil))) dn_nil))))))
      (dss_cons (O1 := [6, 4]) (ds_own (i := 6) sc__law_world.nd (dn_lst dn_nil))
      (dss_cons (O1 := [6, 4]) (ds_for ps rfl (tg_name (i := 5) (by decide)) (di_range1 Z.g_range (de_bf cd_len Z.g_len (DE.w (de_ixS (DE.w (de_var 3)) (DE.w de_int))) rfl)) (pg_name sc__law_world.nd rfl (by first | exact .inl rfl | exact .inr rfl)) (dss_cons (O1 := [6, 4]) (ds_set (i := 7) sc__law_world.nd (de_op od_mod (DE.w (de_op od_mul (DE.w (de_call (ok__law_cell Z) (hr.mono (by decide)) tk (dn_cons (de_var 0) (dn_cons (de_op od_add (DE.w (de_op od_add (DE.w (de_var 1)) (DE.w de_int))) (DE.w (de_var 5))) dn_nil)))) (DE.w de_int))) (DE.w (de_op od_pow (DE.w de_int) (DE.w de_int)))))
      (dss_one (ds_app (i := 6) (de_tup (dn_cons (de_ixS (DE.w (de_ixS (DE.w (de_var 3)) (DE.w de_int))) (DE.w (de_var 5))) (dn_cons (de_call (ok__law_pairs Z) (hr.mono (by decide)) tk (dn_cons (de_var 7) (dn_cons (de_var 2) dn_nil))) dn_nil)))))))
      (dss_one (ds_ret (de_tup (dn_cons (de_var 2) (dn_cons (de_bt cd_tuple Z.g_tuple (dw_var 4) rfl) (dn_cons (de_bt cd_tuple Z.g_tuple (dw_var 6) rfl) dn_nil))))))))))) (fun _ _ => rfl)
theorem sc__law_order : FnScope N__law_order ["_law_number", "_law_many"] (defScope (top 9)) := ⟨rfl, rfl, rfl, by decide +kernel, rfl, by decide +kernel, by decide +kernel⟩
theorem ok__law_order (Z : Facts P w K mg base) : FOk ec P w K mg base 1 "_law_order" 2 m__law_order :=
  fok_of Z.f__law_order.choose_spec Z.g__law_order sc__law_order (fun _ _ _ _ _ _ us hl => match us, hl with | [_, _], _ => rfl) (O' := [3])
    (fun cdv A outer s H E hr tk ps =>
      (dss_cons (O1 := []) (ds_set (i := 2) sc__law_order.nd (DN.de (dn_listRg1 rfl Z.g_list Z.g_range (DE.w (de_var 1)))))
      (dss_cons (O1 := [3]) (ds_own (i := 3) sc__law_order.nd (dn_lst dn_nil))
      (dss_cons (O1 := [3]) (ds_for ps rfl (tg_name (i := 4) (by decide)) (di_range1 Z.g_range (de_var 1)) (pg_name sc__law_order.nd rfl (by first | exact .inl rfl | exact .inr rfl)) (dss_cons (O1 := [3]) (ds_set (i := 5) sc__law_order.nd (de_op od_mod (DE.w (de_var 0)) (DE.w (de_bf cd_len Z.g_len (DE.w (de_var 2)) rfl))))
      (dss_cons (O1 := [3]) (ds_set (i := 0) sc__law_order.nd (de_op od_add (DE.w (de_op od_div (DE.w (de_var 0)) (DE.w de_int))) (DE.w (de_op od_mul (DE.w de_int) (DE.w (de_var 5))))))
      (dss_cons (O1 := [3]) (ds_app (i := 3) (de_ixS (DE.w (de_var 2)) (DE.w (de_var 5))))
      (dss_one (ds_set (i := 2) sc__law_order.nd (de_op od_add (DE.w (de_slice (DE.w (de_var 2)) do_none (do_some (DE.w (de_var 5))))) (DE.w (de_slice (DE.w (de_var 2)) (do_some (DE.w (de_op od_add (DE.w (de_var 5)) (DE.w de_int)))) do_none)))))))))
      (dss_one (ds_ret (de_bt cd_tuple Z.g_tuple (dw_var 3) rfl))))))) (fun _ _ => rfl)
theorem sc__law_same : FnScope N__law_same ["_law_found", "_law_due"] (defScope (top 10)) := ⟨rfl, rfl, rfl, by decide +kernel, rfl, by decide +kernel, by decide +kernel⟩
theorem ok__law_same (Z : Facts P w K mg base) : ∀ n, FOk ec P w K mg base (0 + n) "_law_same" 2 (m__law_same n)
  | 0 => fok_bad Z.f__law_same.choose_spec Z.g__law_same sc__law_same (fun _ _ _ _ _ _ us hl => match us, hl with | [_, _], _ => rfl) (fun _ => rfl)
  | n + 1 => have ih := ok__law_same Z n
    fok_of Z.f__law_same.choose_spec Z.g__law_same sc__law_same (fun _ _ _ _ _ _ us hl => match us, hl with | [_, _], _ => rfl) (O' := [])
    (fun cdv A outer s H E hr tk ps =>
      (dss_cons (O1 := []) (ds_if (dt_val (de_isi .tuple Z.g_isinstance Z.g_tuple (DE.w (de_var 1)) rfl)) (dss_cons (O1 := []) (ds_if (dt_q (dq_or (dt_not (dt_val (de_isi .tuple Z.g_isinstance Z.g_tuple (DE.w (de_var 0)) rfl))) (dq_or1 (dt_cmp (od_ne (rm_of hr)) (DE.w (de_bf cd_len Z.g_len (DE.w (de_var 0)) rfl)) (DE.w (de_bf cd_len Z.g_len (DE.w (de_var 1)) rfl)) rfl)))) (dss_one (ds_ret de_bool)) dss_nil)
      (dss_one (ds_ret (de_bf (cd_all rfl) Z.g_all (DN.dw (dn_lc0 rfl sc__law_same.nd (di_range1 Z.g_range (de_bf cd_len Z.g_len (DE.w (de_var 1)) rfl)) (blkOk_by (own := [("_law_k", 2)]) (by kernel_rfl)) (tg_name (i := 2) (by decide)) (fun _ _ _ _ _ => (pg_name sc__law_same.nd rfl (by first | exact .inl rfl | exact .inr rfl))) (fun _ _ _ _ _ => (de_call ih (hr.mono (Nat.le_refl _)) takes_no (dn_cons (de_ixS (DE.w (de_var 0)) (DE.w (de_var 2))) (dn_cons (de_ixS (DE.w (de_var 1)) (DE.w (de_var 2))) dn_nil)))))) rfl)))) dss_nil)
      (dss_cons (O1 := []) (ds_if (dt_q (dq_or (dt_val (de_isi .bool Z.g_isinstance Z.g_bool (DE.w (de_var 1)) rfl)) (dq_or1 (dt_val (de_isi .int Z.g_isinstance Z.g_int (DE.w (de_var 1)) rfl))))) (dss_one (ds_ret (de_and (de_isi .int Z.g_isinstance Z.g_int (DE.w (de_var 0)) rfl) (de_and (de_cmp (od_eq (rm_of hr)) (DE.w (de_isi .bool Z.g_isinstance Z.g_bool (DE.w (de_var 0)) rfl)) (DE.w (de_isi .bool Z.g_isinstance Z.g_bool (DE.w (de_var 1)) rfl)) rfl) (de_one (de_cmp (od_eq (rm_of hr)) (DE.w (de_var 0)) (DE.w (de_var 1)) rfl)))))) dss_nil)
      (dss_one (ds_ret (de_and (de_isi .str Z.g_isinstance Z.g_str (DE.w (de_var 0)) rfl) (de_one (de_cmp (od_eq (rm_of hr)) (DE.w (de_var 0)) (DE.w (de_var 1)) rfl)))))))) (fun _ _ => rfl)
theorem sc__law_marks : FnScope N__law_marks ["_law_world_here", "_law_found", "_law_order_here"] (defScope (top 11)) := ⟨rfl, rfl, rfl, by decide +kernel, rfl, by decide +kernel, by decide +kernel⟩
theorem ok__law_marks (Z : Facts P w K mg base) : FOk ec P w K mg base 8 "_law_marks" 3 m__law_marks :=
  fok_of Z.f__law_marks.choose_spec Z.g__law_marks sc__law_marks (fun _ _ _ _ _ _ us hl => match us, hl with | [_, _, _], _ => rfl) (O' := [])
    (fun cdv A outer s H E hr tk ps =>
      (dss_cons (O1 := []) (ds_if (dt_q (dq_or (dt_not (dt_val (de_isi .tuple Z.g_isinstance Z.g_tuple (DE.w (de_var 1)) rfl))) (dq_or1 (dt_cmp (od_ne (rm_of hr)) (DE.w (de_bf cd_len Z.g_len (DE.w (de_var 1)) rfl)) (DE.w (de_bf cd_len Z.g_len (DE.w (de_ixS (DE.w (de_var 0)) (DE.w de_int))) rfl)) rfl)))) (dss_one (ds_ret de_bool)) dss_nil)
      (dss_cons (O1 := []) (ds_for ps rfl (tg_tup (is := [3, 4]) (n := 2) rfl (by decide)) (di_zip Z.g_zip (de_ixS (DE.w (de_var 0)) (DE.w de_int)) (de_var 1)) (pg_tup rfl (pgs_cons (pg_name (i := 3) sc__law_marks.nd rfl (by first | exact .inl rfl | exact .inr rfl)) (pgs_cons (pg_name (i := 4) sc__law_marks.nd rfl (by first | exact .inl rfl | exact .inr rfl)) pgs_nil))) (dss_cons (O1 := []) (ds_set (i := 5) sc__law_marks.nd (DN.de (dn_lc0 rfl sc__law_marks.nd (di_w (DE.w (de_ixS (DE.w (de_var 3)) (DE.w de_int)))) (blkOk_by (own := [("_law_point", 7)]) (by kernel_rfl)) (tg_name (i := 7) (by decide)) (fun _ _ _ _ _ => (pg_name sc__law_marks.nd rfl (by first | exact .inl rfl | exact .inr rfl))) (fun _ _ _ _ _ => (de_ixS (DE.w (de_var 2)) (DE.w (de_var 7)))))))
      (dss_cons (O1 := []) (ds_set (i := 6) sc__law_marks.nd (de_tup (dn_cons (de_ixS (DE.w (de_var 3)) (DE.w de_int)) (dn_cons (de_bt cd_tuple Z.g_tuple (DN.dw (dn_lc1 rfl sc__law_marks.nd (di_range1 Z.g_range (de_ixS (DE.w (de_var 0)) (DE.w de_int))) (blkOk_by (own := [("_law_point", 7)]) (by kernel_rfl)) (tg_name (i := 7) (by decide)) (fun _ _ _ _ _ => (pg_name sc__law_marks.nd rfl (by first | exact .inl rfl | exact .inr rfl))) (fun _ _ _ _ _ => (dt_cmp (od_inS (rm_of hr)) (DE.w (de_var 7)) (DE.w (de_var 5)) rfl)) (fun _ _ _ _ _ => (de_var 7)))) rfl) dn_nil))))
      (dss_one (ds_if (dt_not (dt_val (de_call (ok__law_same Z 6) (hr.mono (by decide)) tk (dn_cons (de_var 4) (dn_cons (de_var 6) dn_nil))))) (dss_one (ds_ret de_bool)) dss_nil)))))
      (dss_one (ds_ret de_bool))))) (fun _ _ => rfl)
theorem sc__law_arrows : FnScope N__law_arrows ["_law_world_here", "_law_found", "_law_order_here"] (defScope (top 12)) := ⟨rfl, rfl, rfl, by decide +kernel, rfl, by decide +kernel, by decide +kernel⟩
theorem ok__law_arrows (Z : Facts P w K mg base) : FOk ec P w K mg base 8 "_law_arrows" 3 m__law_arrows :=
  fok_of Z.f__law_arrows.choose_spec Z.g__law_arrows sc__law_arrows (fun _ _ _ _ _ _ us hl => match us, hl with | [_, _, _], _ => rfl) (O' := [])
    (fun cdv A outer s H E hr tk ps =>
      (dss_cons (O1 := []) (ds_if (dt_q (dq_or (dt_not (dt_val (de_isi .tuple Z.g_isinstance Z.g_tuple (DE.w (de_var 1)) rfl))) (dq_or1 (dt_cmp (od_ne (rm_of hr)) (DE.w (de_bf cd_len Z.g_len (DE.w (de_var 1)) rfl)) (DE.w (de_bf cd_len Z.g_len (DE.w (de_ixS (DE.w (de_var 0)) (DE.w de_int))) rfl)) rfl)))) (dss_one (ds_ret de_bool)) dss_nil)
      (dss_cons (O1 := []) (ds_for ps rfl (tg_tup (is := [3, 4]) (n := 2) rfl (by decide)) (di_zip Z.g_zip (de_ixS (DE.w (de_var 0)) (DE.w de_int)) (de_var 1)) (pg_tup rfl (pgs_cons (pg_name (i := 3) sc__law_arrows.nd rfl (by first | exact .inl rfl | exact .inr rfl)) (pgs_cons (pg_name (i := 4) sc__law_arrows.nd rfl (by first | exact .inl rfl | exact .inr rfl)) pgs_nil))) (dss_cons (O1 := []) (ds_set (i := 5) sc__law_arrows.nd (DN.de (dn_lc0 rfl sc__law_arrows.nd (di_w (DE.w (de_ixS (DE.w (de_var 3)) (DE.w de_int)))) (blkOk_by (own := [("_law_one", 7), ("_law_other", 8)]) (by kernel_rfl)) (tg_tup (is := [7, 8]) (n := 2) rfl (by decide)) (fun _ _ _ _ _ => (pg_tup rfl (pgs_cons (pg_name (i := 7) sc__law_arrows.nd rfl (by first | exact .inl rfl | exact .inr rfl)) (pgs_cons (pg_name (i := 8) sc__law_arrows.nd rfl (by first | exact .inl rfl | exact .inr rfl)) pgs_nil)))) (fun _ _ _ _ _ => (de_tup (dn_cons (de_ixS (DE.w (de_var 2)) (DE.w (de_var 7))) (dn_cons (de_ixS (DE.w (de_var 2)) (DE.w (de_var 8))) dn_nil)))))))
      (dss_cons (O1 := []) (ds_set (i := 6) sc__law_arrows.nd (DN.de (dn_lst dn_nil)))
      (dss_cons (O1 := []) (ds_for ps rfl (tg_name (i := 7) (by decide)) (di_range1 Z.g_range (de_ixS (DE.w (de_var 0)) (DE.w de_int))) (pg_name sc__law_arrows.nd rfl (by first | exact .inl rfl | exact .inr rfl)) (dss_one (ds_set (i := 6) sc__law_arrows.nd (de_op od_add (DE.w (de_var 6)) (DN.dw (dn_lc1 rfl sc__law_arrows.nd (di_range1 Z.g_range (de_ixS (DE.w (de_var 0)) (DE.w de_int))) (blkOk_by (own := [("_law_other", 8)]) (by kernel_rfl)) (tg_name (i := 8) (by decide)) (fun _ _ _ _ _ => (pg_name sc__law_arrows.nd rfl (by first | exact .inl rfl | exact .inr rfl))) (fun _ _ _ _ _ => (dt_cmp (od_inS (rm_of hr)) (DE.w (de_tup (dn_cons (de_var 7) (dn_cons (de_var 8) dn_nil)))) (DE.w (de_var 5)) rfl)) (fun _ _ _ _ _ => (de_tup (dn_cons (de_var 7) (dn_cons (de_var 8) dn_nil))))))))))
      (dss_one (ds_if (dt_not (dt_val (de_call (ok__law_same Z 6) (hr.mono (by decide)) tk (dn_cons (de_var 4) (dn_cons (de_tup (dn_cons (de_ixS (DE.w (de_var 3)) (DE.w de_int)) (dn_cons (de_bt cd_tuple Z.g_tuple (DE.w (de_var 6)) rfl) dn_nil))) dn_nil))))) (dss_one (ds_ret de_bool)) dss_nil))))))
      (dss_one (ds_ret de_bool))))) (fun _ _ => rfl)
theorem sc_law : FnScope N_law ["_law_script"] (defScope (top 13)) := ⟨rfl, rfl, rfl, by decide +kernel, rfl, by decide +kernel, by decide +kernel⟩
theorem okl (Z : Facts P w K mg base) {fd : FuncData} (F : FunD K "law" "law" (defArgs (top 13)) (defBody (top 13)) (defScope (top 13)) [] [] (He.ga K "law") fd) : FnOk P w K mg base (L2.CX P w) 9 (He.ga K "law") fd ["_law_script"] (spD ec K 1 m_law) :=
  fnok_of F sc_law (O' := [])
    (fun cdv A outer s H E hr tk ps =>
      (dss_cons (O1 := []) (ds_set (i := 1) sc_law.nd (de_op od_add (DE.w de_int) (DE.w (de_op od_mod (DE.w (de_call (ok__law_cell Z) (hr.mono (by decide)) tk (dn_cons (de_var 0) (dn_cons de_int dn_nil)))) (DE.w de_int)))))
      (dss_cons (O1 := []) (ds_set (i := 2) sc_law.nd (de_call (ok__law_world Z) (hr.mono (by decide)) tk (dn_cons (de_var 0) (dn_cons de_int (dn_cons (de_var 1) (dn_cons (de_call (ok__law_tongue Z) (hr.mono (by decide)) tk (dn_cons (de_call (ok__law_cell Z) (hr.mono (by decide)) tk (dn_cons (de_var 0) (dn_cons de_int dn_nil))) dn_nil)) dn_nil))))))
      (dss_cons (O1 := []) (ds_set (i := 3) sc_law.nd (de_call (ok__law_order Z) (hr.mono (by decide)) tk (dn_cons (de_call (ok__law_cell Z) (hr.mono (by decide)) tk (dn_cons (de_var 0) (dn_cons de_int dn_nil))) (dn_cons (de_var 1) dn_nil))))
      (dss_cons (O1 := []) (ds_set (i := 4) sc_law.nd (de_call (ok__law_order Z) (hr.mono (by decide)) tk (dn_cons (de_call (ok__law_cell Z) (hr.mono (by decide)) tk (dn_cons (de_var 0) (dn_cons de_int dn_nil))) (dn_cons (de_var 1) dn_nil))))
      (dss_cons (O1 := []) (ds_for ps rfl (tg_name (i := 5) (by decide)) (di_any (DN.de (dn_lst (dn_cons (de_var 3) (dn_cons (de_var 4) dn_nil))))) (pg_name sc_law.nd rfl (by first | exact .inl rfl | exact .inr rfl)) (dss_cons (O1 := []) (ds_set (i := 8) sc_law.nd (de_call (ok_moved Z) (hr.mono (by decide)) tk (dn_cons (de_var 2) (dn_cons (de_var 5) dn_nil))))
      (dss_cons (O1 := []) (ds_if (dt_q (dq_or (dt_not (dt_val (de_isi .tuple Z.g_isinstance Z.g_tuple (DE.w (de_var 8)) rfl))) (dq_or (dt_cmp (od_ne (rm_of hr)) (DE.w (de_bf cd_len Z.g_len (DE.w (de_var 8)) rfl)) (DE.w de_int) rfl) (dq_or1 (dt_not (dt_val (de_call (ok__law_same Z 6) (hr.mono (by decide)) tk (dn_cons (de_ixS (DE.w (de_var 8)) (DE.w de_int)) (dn_cons (de_var 1) dn_nil))))))))) (dss_one (ds_ret de_bool)) dss_nil)
      (dss_one (ds_if (dt_q (dq_or (dt_not (dt_val (de_call (ok__law_marks Z) (hr.mono (by decide)) tk (dn_cons (de_var 2) (dn_cons (de_ixS (DE.w (de_var 8)) (DE.w de_int)) (dn_cons (de_var 5) dn_nil)))))) (dq_or1 (dt_not (dt_val (de_call (ok__law_arrows Z) (hr.mono (by decide)) tk (dn_cons (de_var 2) (dn_cons (de_ixS (DE.w (de_var 8)) (DE.w de_int)) (dn_cons (de_var 5) dn_nil))))))))) (dss_one (ds_ret de_bool)) dss_nil)))))
      (dss_cons (O1 := []) (ds_set (i := 6) sc_law.nd (de_bt cd_tuple Z.g_tuple (DN.dw (dn_lc0 rfl sc_law.nd (di_range1 Z.g_range (de_var 1)) (blkOk_by (own := [("_law_k", 9)]) (by kernel_rfl)) (tg_name (i := 9) (by decide)) (fun _ _ _ _ _ => (pg_name sc_law.nd rfl (by first | exact .inl rfl | exact .inr rfl))) (fun _ _ _ _ _ => (de_ixS (DE.w (de_var 4)) (DE.w (de_ixS (DE.w (de_var 3)) (DE.w (de_var 9)))))))) rfl))
      (dss_cons (O1 := []) (ds_set (i := 7) sc_law.nd (de_bt cd_tuple Z.g_tuple (DN.dw (dn_lc0 rfl sc_law.nd (di_range1 Z.g_range (de_var 1)) (blkOk_by (own := [("_law_k", 9)]) (by kernel_rfl)) (tg_name (i := 9) (by decide)) (fun _ _ _ _ _ => (pg_name sc_law.nd rfl (by first | exact .inl rfl | exact .inr rfl))) (fun _ _ _ _ _ => (de_indexT (rm_of hr) (DE.w (de_var 3)) (DE.w (de_var 9)))))) rfl))
      (dss_cons (O1 := []) (ds_if (dt_q (dq_or (dt_cmp (od_ne (rm_of hr)) (DE.w (de_call (ok_moved Z) (hr.mono (by decide)) tk (dn_cons (de_call (ok_moved Z) (hr.mono (by decide)) tk (dn_cons (de_var 2) (dn_cons (de_var 3) dn_nil))) (dn_cons (de_var 4) dn_nil)))) (DE.w (de_call (ok_moved Z) (hr.mono (by decide)) tk (dn_cons (de_var 2) (dn_cons (de_var 6) dn_nil)))) rfl) (dq_or1 (dt_cmp (od_ne (rm_of hr)) (DE.w (de_call (ok_moved Z) (hr.mono (by decide)) tk (dn_cons (de_call (ok_moved Z) (hr.mono (by decide)) tk (dn_cons (de_var 2) (dn_cons (de_var 3) dn_nil))) (dn_cons (de_var 7) dn_nil)))) (DE.w (de_var 2)) rfl)))) (dss_one (ds_ret de_bool)) dss_nil)
      (dss_one (ds_ret (de_cmp (od_eq (rm_of hr)) (DE.w (de_var 2)) (DE.w (de_call (ok__law_world Z) (hr.mono (by decide)) tk (dn_cons (de_var 0) (dn_cons de_int (dn_cons (de_var 1) (dn_cons (de_call (ok__law_tongue Z) (hr.mono (by decide)) tk (dn_cons (de_call (ok__law_cell Z) (hr.mono (by decide)) tk (dn_cons (de_var 0) (dn_cons de_int dn_nil))) dn_nil)) dn_nil)))))) rfl)))))))))))) (fun _ _ => rfl)
end Qk03
end

section
set_option Elab.async false
set_option linter.all false
set_option maxRecDepth 100000
set_option maxHeartbeats 4000000
namespace LA
open PySem DL
def f__law_cell (script_1 : (List Int)) (k_2 : Int) : R Int :=
(TF.run (fun z => nomatch z) (σ := Empty) (
(if (decide (k_2 < (script_1.length : Int))) then (((ixI script_1 k_2).bind (fun x => .ok (x % 18446744073709551616))).tf .rt) else
.rt 0)))
def f__law_names (cell_here_1 : Int) (many_2 : Int) : R (List PySem.Str) :=
(TF.run (fun z => nomatch z) (σ := Empty) (
(((mulI cell_here_1 7129).bind (fun x => .ok (x % 1000033))).tf fun (number_3 : Int) =>
((ixS ("bcdfg" : PySem.Str) (number_3 % 5)).tf fun (base_4 : PySem.Str) =>
let size_5 : Int := (2 + ((number_3 / 5) % 7))
(if (eqE eI ((number_3 / 35) % 4) 1) then (((rng1 many_2).bind fun l => noEx (compR0 (fun (z_6 : Int) => (mulS base_4 (2 + z_6))) l)).tf .rt) else
(if (eqE eI ((number_3 / 35) % 4) 2) then let words_7 : (List PySem.Str) := ([("and" : PySem.Str), ("or" : PySem.Str), ("not" : PySem.Str), ("some" : PySem.Str), ("every" : PySem.Str), ("least" : PySem.Str), ("true" : PySem.Str), ("false" : PySem.Str)] : (List PySem.Str))
let first_8 : Int := ((number_3 / 140) % 8)
let signs_9 : PySem.Str := ("abcdefghijklmnopqrstuvwxyz" : PySem.Str)
((((rng1 many_2).bind fun l => noEx (compR0 (fun (z_10 : Int) => (((exten words_7 words_7).bind (fun x => (ixI x (first_8 + z_10)))).bind fun x => (ixS signs_9 ((number_3 / 1120) % 26)).bind fun y => (addS x y))) l)).bind (fun x => .ok (sortE eS x))).tf .rt) else
((modI (number_3 / 105) size_5).tf fun (at_11 : Int) =>
let found_12 : (List PySem.Str) := ([] : (List PySem.Str))
TF.seq ((rng1 many_2).tf fun xs => forT (fun (i_13 : Int) (s_14 : (List PySem.Str)) =>
(((((mulI 5 i_13).bind (fun y => .ok ((number_3 / 840) + y))).bind (fun x => .ok (x % 26))).bind (fun y => (ixS ("abcdefghijklmnopqrstuvwxyz" : PySem.Str) y))).tf fun (sign_15 : PySem.Str) =>
((((mulS base_4 at_11).bind (fun x => (addS x sign_15))).bind fun x => (mulS base_4 ((size_5 - 1) - at_11)).bind fun y => (addS x y)).tf fun v => (push s_14 v).tf fun (found_16 : (List PySem.Str)) =>
.nx found_16))) xs found_12) (fun (s_17 : (List PySem.Str)) =>
.rt (sortE eS s_17)))))))))
def f__law_some (bits_1 : Int) (many_2 : Int) : R (List Int) :=
(TF.run (fun z => nomatch z) (σ := Empty) (
let found_3 : (List Int) := ([] : (List Int))
TF.seq ((rng1 many_2).tf fun xs => forT (fun (i_4 : Int) (s_5 : (Int × (List Int))) =>
TF.seq (if (eqE eI (s_5.1 % 2) 1) then ((push s_5.2 i_4).tf fun (found_6 : (List Int)) =>
.nx found_6) else .nx s_5.2) (fun (s_7 : (List Int)) =>
let bits_8 : Int := (s_5.1 / 2)
.nx (bits_8, s_7))) xs (bits_1, found_3)) (fun (s_9 : (Int × (List Int))) =>
.rt s_9.2)))
def f__law_pairs (bits_1 : Int) (many_2 : Int) : R (List (Int × Int)) :=
(TF.run (fun z => nomatch z) (σ := Empty) (
let found_3 : (List (Int × Int)) := ([] : (List (Int × Int)))
TF.seq ((rng1 many_2).tf fun xs => forT (fun (i_4 : Int) (s_5 : (Int × (List (Int × Int)))) =>
TF.seq ((rng1 many_2).tf fun xs => forT (fun (i_6 : Int) (s_7 : (Int × (List (Int × Int)))) =>
TF.seq (if (eqE eI (s_7.1 % 2) 1) then ((push s_7.2 (i_4, i_6)).tf fun (found_8 : (List (Int × Int))) =>
.nx found_8) else .nx s_7.2) (fun (s_9 : (List (Int × Int))) =>
let bits_10 : Int := (s_7.1 / 2)
.nx (bits_10, s_9))) xs (s_5.1, s_5.2)) (fun (s_11 : (Int × (List (Int × Int)))) =>
.nx (s_11.1, s_11.2))) xs (bits_1, found_3)) (fun (s_12 : (Int × (List (Int × Int)))) =>
.rt s_12.2)))
def f__law_tongue (cell_here_1 : Int) : R ((List PySem.Str) × (List PySem.Str)) :=
(TF.run (fun z => nomatch z) (σ := Empty) (
((f__law_names cell_here_1 6).tf fun (names_here_2 : (List PySem.Str)) =>
(((mulI cell_here_1 523).bind (fun x => .ok (x % 10007))).tf fun (number_3 : Int) =>
let first_4 : Int := ((number_3 / 16) % 3)
.rt ((cutL names_here_2 none (some (number_3 % 4))), (cutL names_here_2 (some first_4) (some (first_4 + ((number_3 / 4) % 4)))))))))
def f__law_world (script_1 : (List Int)) (at_2 : Int) (many_3 : Int) (tongue_here_4 : ((List PySem.Str) × (List PySem.Str))) : R (Int × (List (PySem.Str × (List Int))) × (List (PySem.Str × (List (Int × Int))))) :=
(TF.run (fun z => nomatch z) (σ := Empty) (
let marks_here_5 : (List (PySem.Str × (List Int))) := ([] : (List (PySem.Str × (List Int))))
TF.seq ((rng1 (tongue_here_4.1.length : Int)).tf fun xs => forT (fun (i_6 : Int) (s_7 : (List (PySem.Str × (List Int)))) =>
(((ixI tongue_here_4.1 i_6).bind fun x0 => ((((f__law_cell script_1 (at_2 + i_6)).bind (fun x => (mulI x 167))).bind (fun x => .ok (x % 256))).bind fun a0 => f__law_some a0 many_3).bind fun x1 => .ok (x0, x1)).tf fun v => (push s_7 v).tf fun (marks_here_8 : (List (PySem.Str × (List Int)))) =>
.nx marks_here_8)) xs marks_here_5) (fun (s_9 : (List (PySem.Str × (List Int)))) =>
let arrows_here_10 : (List (PySem.Str × (List (Int × Int)))) := ([] : (List (PySem.Str × (List (Int × Int)))))
TF.seq ((rng1 (tongue_here_4.2.length : Int)).tf fun xs => forT (fun (i_11 : Int) (s_12 : (List (PySem.Str × (List (Int × Int))))) =>
((((f__law_cell script_1 ((at_2 + 3) + i_11)).bind (fun x => (mulI x 11400714819323198485))).bind (fun x => .ok (x % 18446744073709551616))).tf fun (bits_13 : Int) =>
(((ixI tongue_here_4.2 i_11).bind fun x0 => (f__law_pairs bits_13 many_3).bind fun x1 => .ok (x0, x1)).tf fun v => (push s_12 v).tf fun (arrows_here_14 : (List (PySem.Str × (List (Int × Int))))) =>
.nx arrows_here_14))) xs arrows_here_10) (fun (s_15 : (List (PySem.Str × (List (Int × Int))))) =>
.rt (many_3, s_9, s_15)))))
def f_tongue_of (world_1 : (Int × (List (PySem.Str × (List Int))) × (List (PySem.Str × (List (Int × Int)))))) : R ((List PySem.Str) × (List PySem.Str)) :=
(TF.run (fun z => nomatch z) (σ := Empty) (
.rt ((world_1.2.1.map fun (z_2 : (PySem.Str × (List Int))) => z_2.1), (world_1.2.2.map fun (z_3 : (PySem.Str × (List (Int × Int)))) => z_3.1))))
def f_what_has (some_1 : (List (PySem.Str × (List PyData)))) (name_2 : PySem.Str) : R (List PyData) :=
(TF.run (fun z => nomatch z) (σ := Empty) (
TF.seq (forT (fun (i_3 : (PySem.Str × (List PyData))) (s_4 : Unit) =>
(if (eqE eS i_3.1 name_2) then .rt i_3.2 else
.nx ())) some_1 ()) (fun (s_5 : Unit) =>
.ex "NoName" (some (eS name_2)))))
def f_bears (world_1 : (Int × (List (PySem.Str × (List Int))) × (List (PySem.Str × (List (Int × Int)))))) (name_2 : PySem.Str) (point_3 : Int) : R Bool :=
(TF.run (fun z => nomatch z) (σ := Empty) (
((((f_what_has (world_1.2.1.map fun z => (z.1, (z.2.map fun z => (eI z)))) name_2).bind fun x => .ok ((eT eX) x)).bind (fun y => (boolR ((dInS false) (eI point_3) y)))).tf .rt)))
def f_leads (world_1 : (Int × (List (PySem.Str × (List Int))) × (List (PySem.Str × (List (Int × Int)))))) (name_2 : PySem.Str) (one_3 : Int) (other_4 : Int) : R Bool :=
(TF.run (fun z => nomatch z) (σ := Empty) (
((((f_what_has (world_1.2.2.map fun z => (z.1, (z.2.map fun z => ((eP2 eI eI) z)))) name_2).bind fun x => .ok ((eT eX) x)).bind (fun y => (boolR ((dInS false) ((eP2 eI eI) (one_3, other_4)) y)))).tf .rt)))
end LA
end

section
set_option Elab.async false
set_option linter.all false
set_option maxRecDepth 100000
set_option maxHeartbeats 4000000
/-! The worlds that the laws k01 to k16, k81 to k98 make: what their makers give. -/
namespace LA
open PySem DL
/-- a text by its signs -/
def mk (l : List Nat) : Str := ⟨l.toArray⟩
theorem mk_len (l : List Nat) : (mk l).length = l.length := by unfold mk; show l.toArray.size = _; simp
theorem mk_app (a b : List Nat) : mk a ++ mk b = mk (a ++ b) := by
  show Str.append (mk a) (mk b) = mk (a ++ b)
  unfold mk Str.append
  simp
theorem mk_inj {a b : List Nat} (h : mk a = mk b) : a = b := by
  have e : (mk a).cps.toList = (mk b).cps.toList := by rw [h]
  simpa [mk] using e
theorem mk_rep (b : Nat) (n : Nat) : repS (mk [b]) n = mk (List.replicate n b) := by
  unfold repS mk
  congr 2
  induction n with
  | zero => rfl
  | succ n ih => rw [List.replicate_succ, List.flatten_cons, ih, List.replicate_succ]; rfl
theorem rngI0 (n : Nat) : rngI 0 n = (List.range n).map fun (k : Nat) => (k : Int) := by
  unfold rngI; exact List.map_congr_left fun k _ => by omega
theorem cell_ok (s : List Int) (k : Int) (hk : 0 ≤ k) : ∃ c, f__law_cell s k = .ok c ∧ 0 ≤ c ∧ c < 18446744073709551616 := by
  unfold f__law_cell
  by_cases h : k < (s.length : Int)
  · rw [if_pos (decide_eq_true h), ixI_get hk (by omega)]
    exact ⟨_, rfl, by omega, by omega⟩
  · rw [if_neg (by simpa using h)]
    exact ⟨0, rfl, by omega, by omega⟩
def words : List Str := ["and", "or", "not", "some", "every", "least", "true", "false"]
def wordC (i : Nat) : List Nat := (([[97, 110, 100], [111, 114], [110, 111, 116], [115, 111, 109, 101], [101, 118, 101, 114, 121], [108, 101, 97, 115, 116], [116, 114, 117, 101], [102, 97, 108, 115, 101]] : List (List Nat))[i % 8]?).getD []
def baseC (i : Nat) : Nat := (([98, 99, 100, 102, 103] : List Nat)[i % 5]?).getD 0
inductive Shape (k : Nat) : List Str → Prop
  | one (b : Nat) : Shape k ((List.range k).map fun j => mk (List.replicate (2 + j) (baseC b)))
  | two (f s : Nat) : Shape k (sortE eS ((List.range k).map fun j => mk (wordC (f + j) ++ [97 + s % 26])))
  | three (b n t r : Nat) (hn : 2 ≤ n) (hn8 : n ≤ 8) (ht : t < n) : Shape k (sortE eS ((List.range k).map fun j => mk (List.replicate t (baseC b) ++ [97 + (r + 5 * j) % 26] ++ List.replicate (n - 1 - t) (baseC b))))
def okB {α : Type} [DecidableEq α] (r : R α) (x : α) : Bool := match r with
  | .ok y => decide (y = x)
  | _ => false
theorem okB_of {α : Type} [DecidableEq α] {r : R α} {x : α} (h : okB r x = true) : r = .ok x := by
  cases r with
  | ok y => rw [of_decide_eq_true h]
  | ex c f => cases h
  | bad => cases h
theorem base_ok (i : Int) (h0 : 0 ≤ i) (h : i < 5) : ixS ("bcdfg" : Str) i = .ok (mk [baseC i.toNat]) := by
  have hi : i = 0 ∨ i = 1 ∨ i = 2 ∨ i = 3 ∨ i = 4 := by omega
  rcases hi with rfl | rfl | rfl | rfl | rfl <;> exact okB_of (by decide +kernel)
theorem abc_all : ∀ n ∈ List.range 26, okB (ixS ("abcdefghijklmnopqrstuvwxyz" : Str) (n : Int)) (mk [97 + n]) = true := by decide +kernel
theorem abc_ok (i : Int) (h0 : 0 ≤ i) (h : i < 26) : ixS ("abcdefghijklmnopqrstuvwxyz" : Str) i = .ok (mk [97 + i.toNat]) := by
  have q := okB_of (abc_all i.toNat (List.mem_range.mpr (by omega)))
  rw [show ((i.toNat : Nat) : Int) = i from by omega] at q
  exact q
theorem words_all : ∀ n ∈ List.range 16, okB (ixI ((["and", "or", "not", "some", "every", "least", "true", "false"] : List Str) ++ (["and", "or", "not", "some", "every", "least", "true", "false"] : List Str)) (n : Int)) (mk (wordC n)) = true := by decide +kernel
theorem words_ok (i : Int) (h0 : 0 ≤ i) (h : i < 16) : ixI ((["and", "or", "not", "some", "every", "least", "true", "false"] : List Str) ++ (["and", "or", "not", "some", "every", "least", "true", "false"] : List Str)) i = .ok (mk (wordC i.toNat)) := by
  have q := okB_of (words_all i.toNat (List.mem_range.mpr (by omega)))
  rw [show ((i.toNat : Nat) : Int) = i from by omega] at q
  exact q
theorem wordC_len (i : Nat) : (wordC i).length ≤ 5 := by
  have : ∀ j ∈ List.range 8, (wordC j).length ≤ 5 := by decide +kernel
  have e : wordC i = wordC (i % 8) := by unfold wordC; rw [Nat.mod_mod]
  rw [e]
  exact this _ (List.mem_range.mpr (by omega))
theorem names_shape (c n : Int) (h0 : 0 ≤ c) (h1 : c ≤ 2 ^ 70) (hn0 : 0 ≤ n) (hn : n ≤ 8) : ∃ l, f__law_names c n = .ok l ∧ Shape n.toNat l := by
  unfold f__law_names
  have p70 : (2 : Int) ^ 70 = 1180591620717411303424 := by decide
  have p399 : (2 : Int) ^ 399 = 2 ^ 100 * 2 ^ 299 := by decide +kernel
  have big : (1000000000000000000000000000000 : Int) < 2 ^ 399 := by decide +kernel
  rw [mulI_ok (by omega) (by omega) (by omega) (by omega), R.bind_ok, R.tf_ok, base_ok _ (by omega) (by omega), R.tf_ok]
  generalize hq : c * 7129 % 1000033 = q
  have q0 : 0 ≤ q := by omega
  dsimp only
  simp only [eqE_eq, decide_eq_true_eq]
  by_cases c1 : q / 35 % 4 = 1
  · rw [if_pos c1, rng1_ok (by omega) (by omega), R.bind_ok, rngI0]
    rw [compR0_ok (u := fun z : Int => mk (List.replicate (2 + z).toNat (baseC (q % 5).toNat))) (fun z hz => by
      obtain ⟨j, hj, rfl⟩ := List.mem_map.mp hz
      have := List.mem_range.mp hj
      rw [mulS_ok (by omega) (by omega) (by rw [mk_len]; simp), mk_rep])]
    refine ⟨_, rfl, ?_⟩
    rw [List.map_map]
    have e : (List.range n.toNat).map ((fun z : Int => mk (List.replicate (2 + z).toNat (baseC (q % 5).toNat))) ∘ fun (k : Nat) => (k : Int)) = (List.range n.toNat).map fun j => mk (List.replicate (2 + j) (baseC (q % 5).toNat)) :=
      List.map_congr_left fun k _ => by show mk (List.replicate (2 + (k : Int)).toNat _) = _; rw [show (2 + (k : Int)).toNat = 2 + k from by omega]
    show Shape _ (List.map _ _)
    rw [e]
    exact .one _
  · rw [if_neg c1]
    by_cases c2 : q / 35 % 4 = 2
    · rw [if_pos c2, rng1_ok (by omega) (by omega), R.bind_ok, rngI0]
      rw [compR0_ok (u := fun z : Int => mk (wordC (q / 140 % 8 + z).toNat ++ [97 + (q / 1120 % 26).toNat])) (fun z hz => by
        obtain ⟨j, hj, rfl⟩ := List.mem_map.mp hz
        have := List.mem_range.mp hj
        rw [exten_ok (by decide), R.bind_ok, words_ok _ (by omega) (by omega), R.bind_ok, abc_ok _ (by omega) (by omega), R.bind_ok, addS_ok (by rw [mk_len, mk_len]; have := wordC_len (q / 140 % 8 + (j : Int)).toNat; simp only [List.length_singleton]; omega), mk_app])]
      refine ⟨_, rfl, ?_⟩
      rw [List.map_map]
      have e : (List.range n.toNat).map ((fun z : Int => mk (wordC (q / 140 % 8 + z).toNat ++ [97 + (q / 1120 % 26).toNat])) ∘ fun (k : Nat) => (k : Int)) = (List.range n.toNat).map fun j => mk (wordC ((q / 140 % 8).toNat + j) ++ [97 + (q / 1120 % 26).toNat % 26]) :=
        List.map_congr_left fun k _ => by
          show mk (wordC (q / 140 % 8 + (k : Int)).toNat ++ _) = _
          rw [show (q / 140 % 8 + (k : Int)).toNat = (q / 140 % 8).toNat + k from by omega, show (q / 1120 % 26).toNat % 26 = (q / 1120 % 26).toNat from by omega]
      rw [e]
      exact .two _ _
    · rw [if_neg c2, modI_ok (by omega), R.tf_ok, rng1_ok (by omega) (by omega), R.tf_ok, rngI0]
      generalize hz : 2 + q / 5 % 7 = z
      have hz2 : 2 ≤ z ∧ z ≤ 8 := by omega
      generalize ht : q / 105 % z = t
      have ht2 : 0 ≤ t ∧ t < z := ⟨by rw [← ht]; exact Int.emod_nonneg _ (by omega), by rw [← ht]; exact Int.emod_lt_of_pos _ (by omega)⟩
      rw [forT_push (u := fun j : Int => mk (List.replicate t.toNat (baseC (q % 5).toNat) ++ [97 + ((q / 840 + 5 * j) % 26).toNat] ++ List.replicate (z - 1 - t).toNat (baseC (q % 5).toNat))) (by simp; omega) (fun j hj s => by
        obtain ⟨k, hk, rfl⟩ := List.mem_map.mp hj
        have := List.mem_range.mp hk
        rw [mulI_ok (by omega) (by omega) (by omega) (by omega), R.bind_ok, R.bind_ok, R.bind_ok, abc_ok _ (by omega) (by omega), R.tf_ok, mulS_ok (by omega) (by omega) (by rw [mk_len]; simp), R.bind_ok, mk_rep, addS_ok (by rw [mk_len, mk_len, List.length_replicate, List.length_singleton]; omega), R.bind_ok,
          mulS_ok (by omega) (by omega) (by rw [mk_len]; simp), R.bind_ok, mk_rep, mk_app, addS_ok (by rw [mk_len, mk_len, List.length_append, List.length_replicate, List.length_singleton, List.length_replicate]; omega), mk_app]
        rfl)]
      refine ⟨_, rfl, ?_⟩
      rw [List.nil_append, List.map_map]
      have e : (List.range n.toNat).map ((fun j : Int => mk (List.replicate t.toNat (baseC (q % 5).toNat) ++ [97 + ((q / 840 + 5 * j) % 26).toNat] ++ List.replicate (z - 1 - t).toNat (baseC (q % 5).toNat))) ∘ fun (k : Nat) => (k : Int)) =
          (List.range n.toNat).map fun j => mk (List.replicate t.toNat (baseC (q % 5).toNat) ++ [97 + ((q / 840).toNat + 5 * j) % 26] ++ List.replicate (z.toNat - 1 - t.toNat) (baseC (q % 5).toNat)) :=
        List.map_congr_left fun k _ => by
          show mk (_ ++ [97 + ((q / 840 + 5 * (k : Int)) % 26).toNat] ++ _) = _
          rw [show ((q / 840 + 5 * (k : Int)) % 26).toNat = ((q / 840).toNat + 5 * k) % 26 from by
            obtain ⟨m, hm⟩ : ∃ m : Nat, q / 840 = (m : Int) := ⟨(q / 840).toNat, by omega⟩
            rw [hm, Int.toNat_natCast]; omega, show (z - 1 - t).toNat = z.toNat - 1 - t.toNat from by omega]
      rw [e]
      exact .three _ _ _ _ (by omega) (by omega) (by omega)
/-- no two of a list's things are one, by a map that parts them -/
theorem nodup_map {α β : Type} {f : α → β} : ∀ {l : List α}, l.Nodup → (∀ x ∈ l, ∀ y ∈ l, f x = f y → x = y) → (l.map f).Nodup
  | [], _, _ => List.nodup_nil
  | x :: l, h, i => by
    rw [List.map_cons, List.nodup_cons]
    rw [List.nodup_cons] at h
    refine ⟨fun hm => ?_, nodup_map h.2 fun a ha b hb => i a (List.mem_cons_of_mem _ ha) b (List.mem_cons_of_mem _ hb)⟩
    obtain ⟨y, hy, e⟩ := List.mem_map.mp hm
    rw [i y (List.mem_cons_of_mem _ hy) x (List.mem_cons_self ..) e] at hy
    exact h.1 hy
theorem sortE_perm {τ : Type} (e : τ → PyData) [h : OrE e] (xs : List τ) : (sortE e xs).Perm xs := List.mergeSort_perm _ _
theorem Shape.nodup {k : Nat} {l : List Str} (h : Shape k l) (hk : k ≤ 6) : l.Nodup := by
  cases h with
  | one b =>
    refine nodup_map List.nodup_range fun x _ y _ e => ?_
    have := congrArg List.length (mk_inj e)
    simp only [List.length_replicate] at this
    omega
  | two f s =>
    rw [(sortE_perm eS _).nodup_iff]
    refine nodup_map List.nodup_range fun x hx y hy e => ?_
    have e2 := List.append_cancel_right (mk_inj e)
    have hx := List.mem_range.mp hx
    have hy := List.mem_range.mp hy
    have all : ∀ i ∈ List.range 8, ∀ j ∈ List.range 8, wordC i = wordC j → i = j := by decide +kernel
    have w : ∀ i, wordC i = wordC (i % 8) := fun i => by unfold wordC; rw [Nat.mod_mod]
    rw [w (f + x), w (f + y)] at e2
    have := all _ (List.mem_range.mpr (by omega)) _ (List.mem_range.mpr (by omega)) e2
    omega
  | three b n t r hn hn8 ht =>
    rw [(sortE_perm eS _).nodup_iff]
    refine nodup_map List.nodup_range fun x hx y hy e => ?_
    have e2 := List.append_cancel_left (List.append_cancel_right (mk_inj e))
    have hx := List.mem_range.mp hx
    have hy := List.mem_range.mp hy
    simp only [List.cons.injEq, and_true] at e2
    omega
theorem Shape.length {k : Nat} {l : List Str} (h : Shape k l) : l.length = k := by
  cases h with
  | one b => simp
  | two f s => rw [(sortE_perm eS _).length_eq]; simp
  | three b n t r hn hn8 ht => rw [(sortE_perm eS _).length_eq]; simp
end LA
end

section
set_option Elab.async false
set_option linter.all false
set_option maxRecDepth 100000
set_option maxHeartbeats 4000000
namespace LA
open PySem DL
/-- a split of 0 .. n - 1 -/
theorem rng_split {lo : Int} {n : Nat} {pre post : List Int} {x : Int} (h : rngI lo n = pre ++ x :: post) : x = lo + pre.length ∧ pre.length < n := by
  have hl : pre.length < (rngI lo n).length := by rw [h]; simp
  have e : (rngI lo n)[pre.length]? = some x := by rw [h, List.getElem?_append_right (Nat.le_refl _)]; simp
  rw [rngI_len] at hl
  refine ⟨?_, hl⟩
  unfold rngI at e
  rw [List.getElem?_map, List.getElem?_range hl] at e
  exact (Option.some.inj e).symm
theorem some_ok (b m : Int) (h0 : 0 ≤ m) (h : m ≤ 8) : ∃ l, f__law_some b m = .ok l ∧ l.Sublist (rngI 0 m.toNat) := by
  unfold f__law_some
  rw [rng1_ok (by omega) (by omega)]
  dsimp only
  rw [R.tf_ok]
  refine forT_then (P := fun t => ∃ l : List Int, TF.run (fun z => nomatch z) (σ := Empty) t = .ok l ∧ l.Sublist (rngI 0 m.toNat)) (fun (pre : List Int) (s : Int × List Int) => s.2.Sublist pre) (List.nil_sublist _) ?_ (fun s q => ⟨_, rfl, q⟩)
  intro pre x post s hx hs
  have hp := (rng_split hx).2
  have hl := hs.length_le
  by_cases c : eqE eI (s.1 % 2) 1 = true
  · rw [if_pos c, push_ok (by omega)]
    exact ⟨_, rfl, hs.append (List.Sublist.refl _)⟩
  · rw [if_neg c]
    exact ⟨_, rfl, hs.trans (List.sublist_append_left _ _)⟩
def allPairs (m : Nat) : List (Int × Int) := (rngI 0 m).flatMap fun i => (rngI 0 m).map fun j => (i, j)
theorem pairs_len (m : Nat) (l : List Int) : (l.flatMap fun i => (rngI 0 m).map fun j => (i, j)).length = l.length * m := by
  rw [List.length_flatMap]
  have : (l.map fun i => ((rngI 0 m).map fun j => (i, j)).length) = l.map fun _ => m := List.map_congr_left fun i _ => by rw [List.length_map, rngI_len]
  rw [this, List.map_const', List.sum_replicate_nat]
theorem pairs_ok (b m : Int) (h0 : 0 ≤ m) (h : m ≤ 8) : ∃ l, f__law_pairs b m = .ok l ∧ l.Sublist (allPairs m.toNat) := by
  unfold f__law_pairs
  rw [rng1_ok (by omega) (by omega)]
  dsimp only
  simp only [R.tf_ok]
  refine forT_then (P := fun t => ∃ l : List (Int × Int), TF.run (fun z => nomatch z) (σ := Empty) t = .ok l ∧ l.Sublist (allPairs m.toNat)) (fun (pre : List Int) (s : Int × List (Int × Int)) => s.2.Sublist (pre.flatMap fun i => (rngI 0 m.toNat).map fun j => (i, j))) (List.nil_sublist _) ?_ (fun s q => ⟨_, rfl, q⟩)
  intro pre x post s hx hs
  have hp := (rng_split hx).2
  have hl : s.2.length ≤ 64 := by
    have h1 := hs.length_le
    rw [pairs_len] at h1
    have h3 : pre.length * m.toNat ≤ 8 * 8 := Nat.mul_le_mul (by omega) (by omega)
    omega
  refine forT_then (P := fun t => ∃ s' : Int × List (Int × Int), t = .nx s' ∧ s'.2.Sublist ((pre ++ [x]).flatMap fun i => (rngI 0 m.toNat).map fun j => (i, j))) (fun (pre2 : List Int) (t : Int × List (Int × Int)) => t.2.Sublist ((pre.flatMap fun i => (rngI 0 m.toNat).map fun j => (i, j)) ++ pre2.map fun j => (x, j)) ∧ t.2.length ≤ 64 + pre2.length) ⟨by simpa using hs, by simpa using hl⟩ ?_ (fun s q => ⟨_, rfl, by rw [List.flatMap_append]; simpa using q.1⟩)
  intro pre2 y post2 t hy ht
  have hp2 := (rng_split hy).2
  by_cases c : eqE eI (t.1 % 2) 1 = true
  · rw [if_pos c, push_ok (by omega)]
    refine ⟨_, rfl, ?_, ?_⟩
    · rw [List.map_append, ← List.append_assoc]
      exact ht.1.append (List.Sublist.refl _)
    · show (t.2 ++ [(x, y)]).length ≤ _
      rw [List.length_append, List.length_append, List.length_singleton, List.length_singleton]; omega
  · rw [if_neg c]
    refine ⟨_, rfl, ?_, ?_⟩
    · rw [List.map_append, ← List.append_assoc]
      exact ht.1.trans (List.sublist_append_left _ _)
    · show t.2.length ≤ _
      rw [List.length_append, List.length_singleton]; omega
/-- a tongue as the laws draw it -/
structure Tongue (t : List Str × List Str) : Prop where
  nd1 : t.1.Nodup
  nd2 : t.2.Nodup
  len1 : t.1.length ≤ 3
  len2 : t.2.length ≤ 3
theorem cut_sub {τ : Type} (xs : List τ) (lo hi : Option Int) : (cutL xs lo hi).Sublist xs := (List.take_sublist _ _).trans (List.drop_sublist _ _)
theorem cut_len {τ : Type} (xs : List τ) (lo hi : Option Int) : (cutL xs lo hi).length ≤ HT.sIx xs.length xs.length hi - HT.sIx xs.length 0 lo := by
  unfold cutL; rw [List.length_take]; exact Nat.min_le_left _ _
theorem tongue_ok (c : Int) (h0 : 0 ≤ c) (h1 : c ≤ 2 ^ 70) : ∃ t, f__law_tongue c = .ok t ∧ Tongue t := by
  have p70 : (2 : Int) ^ 70 = 1180591620717411303424 := by decide
  have big : (1000000000000000000000000000000 : Int) < 2 ^ 399 := by decide +kernel
  obtain ⟨l, e, hl⟩ := names_shape c 6 h0 h1 (by omega) (by omega)
  have nd := hl.nodup (by decide)
  have ln : l.length = 6 := hl.length
  unfold f__law_tongue
  rw [e, R.tf_ok, mulI_ok (by omega) (by omega) (by omega) (by omega), R.bind_ok, R.tf_ok]
  dsimp only
  generalize c * 523 % 10007 = q
  have a1 : q % 4 = 0 ∨ q % 4 = 1 ∨ q % 4 = 2 ∨ q % 4 = 3 := by omega
  have a2 : q / 4 % 4 = 0 ∨ q / 4 % 4 = 1 ∨ q / 4 % 4 = 2 ∨ q / 4 % 4 = 3 := by omega
  have a3 : q / 16 % 3 = 0 ∨ q / 16 % 3 = 1 ∨ q / 16 % 3 = 2 := by omega
  refine ⟨_, rfl, nd.sublist (cut_sub _ _ _), nd.sublist (cut_sub _ _ _), Nat.le_trans (cut_len _ _ _) ?_, Nat.le_trans (cut_len _ _ _) ?_⟩
  · rw [ln]
    rcases a1 with e | e | e | e <;> rw [e] <;> decide
  · rw [ln]
    rcases a2 with e | e | e | e <;> rcases a3 with e3 | e3 | e3 <;> rw [e, e3] <;> decide
abbrev Wd := Int × List (Str × List Int) × List (Str × List (Int × Int))
/-- a world as the laws draw it -/
structure World (m : Int) (t : List Str × List Str) (w : Wd) : Prop where
  m0 : 0 ≤ m
  m8 : m ≤ 8
  many : w.1 = m
  marks : w.2.1.map (·.1) = t.1
  arrows : w.2.2.map (·.1) = t.2
  pts : ∀ e ∈ w.2.1, e.2.Sublist (rngI 0 m.toNat)
  prs : ∀ e ∈ w.2.2, e.2.Sublist (allPairs m.toNat)
theorem take_snoc {τ : Type} {l : List τ} {n : Nat} {x : τ} (h : l[n]? = some x) : l.take n ++ [x] = l.take (n + 1) := by
  rw [List.take_add_one, h]; rfl
theorem world_ok (s : List Int) (a m : Int) (t : List Str × List Str) (ha : 0 ≤ a) (h0 : 0 ≤ m) (h : m ≤ 8) (l1 : t.1.length ≤ 3) (l2 : t.2.length ≤ 3) : ∃ w, f__law_world s a m t = .ok w ∧ World m t w := by
  have big : (2 : Int) ^ 140 < 2 ^ 399 := by decide +kernel
  have p140 : (2 : Int) ^ 140 = 1393796574908163946345982392040522594123776 := by decide +kernel
  unfold f__law_world
  dsimp only
  rw [rng1_ok (by omega) (by omega), R.tf_ok]
  refine forT_then (s0 := []) (P := fun x => ∃ w, TF.run (fun z => nomatch z) (σ := Empty) x = .ok w ∧ World m t w) (fun (pre : List Int) (s : List (Str × List Int)) => s.length = pre.length ∧ s.map (·.1) = t.1.take pre.length ∧ ∀ e ∈ s, e.2.Sublist (rngI 0 m.toNat)) (by simp) ?_ ?_
  · intro pre x post st hx ⟨q1, q2, q3⟩
    obtain ⟨hx1, hx2⟩ := rng_split hx
    obtain ⟨c, ec, hc0, hc1⟩ := cell_ok s (a + x) (by omega)
    obtain ⟨l, el, hl⟩ := some_ok (c * 167 % 256) m h0 h
    rw [ixI_get (by omega) (by omega), R.bind_ok, ec, R.bind_ok, mulI_ok (by omega) (by omega) (by omega) (by omega), R.bind_ok, R.bind_ok, el, R.bind_ok, R.tf_ok, push_ok (by omega)]
    refine ⟨_, rfl, ?_, ?_, ?_⟩
    · simp [q1]
    · rw [List.map_append, q2, List.length_append, List.length_singleton]
      exact take_snoc (by rw [← List.getElem?_eq_getElem]; congr 1; omega)
    · intro e he
      rcases List.mem_append.mp he with he | he
      · exact q3 e he
      · rw [List.mem_singleton] at he; rw [he]; exact hl
  · intro s1 ⟨q1, q2, q3⟩
    rw [rng1_ok (by omega) (by omega), R.tf_ok]
    rw [rngI_len] at q2
    refine forT_then (s0 := []) (P := fun x => ∃ w, TF.run (fun z => nomatch z) (σ := Empty) x = .ok w ∧ World m t w) (fun (pre : List Int) (s : List (Str × List (Int × Int))) => s.length = pre.length ∧ s.map (·.1) = t.2.take pre.length ∧ ∀ e ∈ s, e.2.Sublist (allPairs m.toNat)) (by simp) ?_ ?_
    · intro pre x post st hx ⟨r1, r2, r3⟩
      obtain ⟨hx1, hx2⟩ := rng_split hx
      obtain ⟨c, ec, hc0, hc1⟩ := cell_ok s (a + 3 + x) (by omega)
      obtain ⟨l, el, hl⟩ := pairs_ok (c * 11400714819323198485 % 18446744073709551616) m h0 h
      rw [ec, R.bind_ok, mulI_ok (by omega) (by omega) (by omega) (by omega), R.bind_ok, R.tf_ok, ixI_get (by omega) (by omega), R.bind_ok, el, R.bind_ok, R.tf_ok, push_ok (by omega)]
      refine ⟨_, rfl, ?_, ?_, ?_⟩
      · simp [r1]
      · rw [List.map_append, r2, List.length_append, List.length_singleton]
        exact take_snoc (by rw [← List.getElem?_eq_getElem]; congr 1; omega)
      · intro e he
        rcases List.mem_append.mp he with he | he
        · exact r3 e he
        · rw [List.mem_singleton] at he; rw [he]; exact hl
    · intro s2 ⟨r1, r2, r3⟩
      rw [rngI_len] at r2
      refine ⟨_, rfl, h0, h, rfl, ?_, ?_, q3, r3⟩
      · show s1.map _ = _
        rw [q2]; exact List.take_of_length_le (by omega)
      · show s2.map _ = _
        rw [r2]; exact List.take_of_length_le (by omega)
end LA
end

section
set_option Elab.async false
set_option linter.all false
set_option maxRecDepth 100000
set_option maxHeartbeats 4000000
/-! What a world's marks and arrows are asked. -/
namespace LA
open PySem DL
theorem forT_find {α ρ : Type} {c : α → Bool} {g : α → ρ} {xs : List α} : forT (fun (x : α) (_ : Unit) => if c x then (.rt (g x) : TF Unit ρ) else .nx ()) xs () = match xs.find? c with
    | some x => .rt (g x)
    | none => .nx () := by
  induction xs with
  | nil => rfl
  | cons x xs ih =>
    unfold forT
    rw [List.find?_cons]
    cases h : c x with
    | true => rfl
    | false => exact ih
theorem find_key {v : Type} {l : List (Str × v)} {n : Str} {x : v} (nd : (l.map (·.1)).Nodup) (h : (n, x) ∈ l) : l.find? (fun e => eqE eS e.1 n) = some (n, x) := by
  induction l with
  | nil => cases h
  | cons e l ih =>
    rw [List.map_cons, List.nodup_cons] at nd
    rw [List.find?_cons]
    cases q : eqE eS e.1 n with
    | true =>
      rw [eqE_iff] at q
      rcases List.mem_cons.mp h with h | h
      · rw [h]
      · exact absurd (List.mem_map.mpr ⟨_, h, q.symm⟩) nd.1
    | false =>
      rcases List.mem_cons.mp h with h | h
      · rw [← h, eqE_self] at q; cases q
      · exact ih nd.2 h
theorem find_none {v : Type} {l : List (Str × v)} {n : Str} (h : n ∉ l.map (·.1)) : l.find? (fun e => eqE eS e.1 n) = none := by
  rw [List.find?_eq_none]
  intro e he q
  rw [eqE_iff] at q
  exact h (List.mem_map.mpr ⟨e, he, q⟩)
theorem what_has_in {l : List (Str × List PyData)} {n : Str} {x : List PyData} (nd : (l.map (·.1)).Nodup) (h : (n, x) ∈ l) : f_what_has l n = .ok x := by
  unfold f_what_has
  rw [forT_find (c := fun e : Str × List PyData => eqE eS e.1 n), find_key nd h]; rfl
theorem what_has_out {l : List (Str × List PyData)} {n : Str} (h : n ∉ l.map (·.1)) : f_what_has l n = .ex "NoName" (some (eS n)) := by
  unfold f_what_has
  rw [forT_find (c := fun e : Str × List PyData => eqE eS e.1 n), find_none h]; rfl
theorem keys_map {v : Type} (l : List (Str × v)) (g : v → List PyData) : (l.map fun z => (z.1, g z.2)).map (·.1) = l.map (·.1) := by rw [List.map_map]; rfl
variable {m : Int} {t : List Str × List Str} {w : Wd}
theorem bears_ok (T : Tongue t) (W : World m t w) {e : Str × List Int} (h : e ∈ w.2.1) (p : Int) : f_bears w e.1 p = .ok (inE eI p e.2) := by
  unfold f_bears
  rw [what_has_in (x := e.2.map fun z => eI z) (by rw [keys_map w.2.1 fun l => l.map fun z => eI z, W.marks]; exact T.nd1) (List.mem_map.mpr ⟨e, h, rfl⟩), R.bind_ok, R.bind_ok]
  have := o_inT eI (by decide) p e.2
  rw [show (eX : PyData → PyData) = fun x => x from rfl]
  unfold eT at this ⊢
  rw [List.map_id', this]; rfl
theorem leads_ok (T : Tongue t) (W : World m t w) {e : Str × List (Int × Int)} (h : e ∈ w.2.2) (p q : Int) : f_leads w e.1 p q = .ok (inE (eP2 eI eI) (p, q) e.2) := by
  unfold f_leads
  rw [what_has_in (x := e.2.map fun z => eP2 eI eI z) (by rw [keys_map w.2.2 fun l => l.map fun z => eP2 eI eI z, W.arrows]; exact T.nd2) (List.mem_map.mpr ⟨e, h, rfl⟩), R.bind_ok, R.bind_ok]
  have := o_inT (eP2 eI eI) (by decide) (p, q) e.2
  rw [show (eX : PyData → PyData) = fun x => x from rfl]
  unfold eT at this ⊢
  rw [List.map_id', this]; rfl
theorem bears_out (W : World m t w) {n : Str} (h : n ∉ t.1) (p : Int) : f_bears w n p = .ex "NoName" (some (eS n)) := by
  unfold f_bears
  rw [what_has_out (by rw [keys_map w.2.1 fun l => l.map fun z => eI z, W.marks]; exact h)]; rfl
theorem leads_out (W : World m t w) {n : Str} (h : n ∉ t.2) (p q : Int) : f_leads w n p q = .ex "NoName" (some (eS n)) := by
  unfold f_leads
  rw [what_has_out (by rw [keys_map w.2.2 fun l => l.map fun z => eP2 eI eI z, W.arrows]; exact h)]; rfl
theorem tongue_of_ok (W : World m t w) : f_tongue_of w = .ok t := by
  unfold f_tongue_of
  show R.ok (w.2.1.map (·.1), w.2.2.map (·.1)) = _
  rw [W.marks, W.arrows]
theorem rngI_nodup (n : Nat) : (rngI 0 n).Nodup := by
  unfold rngI
  exact nodup_map List.nodup_range fun x _ y _ e => by omega
/-- what is picked out by being in a part of it is the part -/
theorem filter_sub {τ : Type} (e : τ → PyData) [h : EqE e] {l r : List τ} (q : l.Sublist r) (nd : r.Nodup) : r.filter (fun x => inE e x l) = l := by
  induction q with
  | slnil => rfl
  | @cons l r a q ih =>
    rw [List.nodup_cons] at nd
    rw [List.filter_cons_of_neg (by rw [inE_iff]; exact fun z => nd.1 (q.subset z))]
    exact ih nd.2
  | @cons_cons l r a q ih =>
    rw [List.nodup_cons] at nd
    rw [List.filter_cons_of_pos (by rw [inE_iff]; exact List.mem_cons_self ..)]
    congr 1
    rw [← ih nd.2]
    refine List.filter_congr fun x hx => ?_
    rw [ih nd.2, Bool.eq_iff_iff, inE_iff, inE_iff, List.mem_cons]
    exact ⟨fun z => z.elim (fun z => absurd (z ▸ hx) nd.1) id, .inr⟩
theorem allPairs_len (m : Nat) : (allPairs m).length = m * m := by
  unfold allPairs; rw [pairs_len, rngI_len]
theorem World.ptl (W : World m t w) {e : Str × List Int} (h : e ∈ w.2.1) : e.2.length ≤ 8 := by
  have := (W.pts e h).length_le
  rw [rngI_len] at this
  have := W.m8
  omega
theorem World.prl (W : World m t w) {e : Str × List (Int × Int)} (h : e ∈ w.2.2) : e.2.length ≤ 64 := by
  have := (W.prs e h).length_le
  rw [allPairs_len] at this
  have h8 := W.m8
  have h3 : m.toNat * m.toNat ≤ 8 * 8 := Nat.mul_le_mul (by omega) (by omega)
  omega
end LA
end

section
set_option Elab.async false
set_option linter.all false
set_option maxRecDepth 100000
set_option maxHeartbeats 4000000
/-! Order, sorted lists; worlds moved by an order. -/
namespace LO
open PySem DL LA
section
variable {τ : Type} (e : τ → PyData) [h : OrE e]
theorem ltE_data (x y : τ) : ltE e x y = PyProof.Rows.lexLt PyProof.Rows.itemOrd (PySem.W.keyToks (e x)) (PySem.W.keyToks (e y)) := (h.dlt x y).symm
theorem ltE_irr (x : τ) : ltE e x x = false := by rw [ltE_data]; exact PyProof.Rows.lex_irrefl _
theorem ltE_tr {x y z : τ} (h1 : ltE e x y = true) (h2 : ltE e y z = true) : ltE e x z = true := by
  rw [ltE_data] at h1 h2 ⊢; exact PyProof.Rows.lex_trans _ _ _ h1 h2
theorem ltE_tot {x y : τ} (h1 : ltE e x y = false) (h2 : ltE e y x = false) : x = y := by
  rw [ltE_data] at h1 h2
  have k := PyProof.Rows.lex_total _ _ h1 h2
  cases q : PyData.eqv (e x) (e y) with
  | true =>
    have : eqE e x y = true := (h.eqv x y).symm.trans q
    exact (eqE_iff e x y).mp this
  | false =>
    have t := (PySem.W.toks_eqv (e x) (e y) (h.alike x y)).2 q [] [Sum.inl 0]
    rw [k, PySem.W.lex_pre, PyProof.Rows.lex_irrefl] at t
    exact absurd (show true = false from t) (by decide)
theorem ltE_asym {x y : τ} (h1 : ltE e x y = true) : ltE e y x = false := by
  cases q : ltE e y x with
  | false => rfl
  | true => rw [← ltE_tr e h1 q, ltE_irr]
/-- strictly rising -/
def Ris (l : List τ) : Prop := l.Pairwise fun a b => ltE e a b = true
theorem Ris.nodup {l : List τ} (q : Ris e l) : l.Nodup := List.Pairwise.imp (fun {a b} hab => by rintro rfl; rw [ltE_irr] at hab; cases hab) q
theorem ris_ext : ∀ {l r : List τ}, Ris e l → Ris e r → (∀ x, x ∈ l ↔ x ∈ r) → l = r
  | [], [], _, _, _ => rfl
  | [], b :: r, _, _, q => absurd ((q b).mpr (List.mem_cons_self ..)) (by simp)
  | a :: l, [], _, _, q => absurd ((q a).mp (List.mem_cons_self ..)) (by simp)
  | a :: l, b :: r, h1, h2, q => by
    obtain ⟨a1, a2⟩ := List.pairwise_cons.mp h1
    obtain ⟨b1, b2⟩ := List.pairwise_cons.mp h2
    have eab : a = b := by
      rcases List.mem_cons.mp ((q a).mp (List.mem_cons_self ..)) with e1 | e1
      · exact e1
      · rcases List.mem_cons.mp ((q b).mpr (List.mem_cons_self ..)) with e2 | e2
        · exact e2.symm
        · have t1 := b1 a e1
          have t2 := a1 b e2
          rw [ltE_asym e t1] at t2; cases t2
    subst eab
    congr 1
    refine ris_ext a2 b2 fun x => ⟨fun hx => ?_, fun hx => ?_⟩
    · rcases List.mem_cons.mp ((q x).mp (List.mem_cons_of_mem _ hx)) with e1 | e1
      · have := a1 x hx
        rw [e1, ltE_irr] at this; cases this
      · exact e1
    · rcases List.mem_cons.mp ((q x).mpr (List.mem_cons_of_mem _ hx)) with e1 | e1
      · have := b1 x hx
        rw [e1, ltE_irr] at this; cases this
      · exact e1
theorem sort_le (xs : List τ) : (sortE e xs).Pairwise fun a b => (!ltE e b a) = true := by
  unfold sortE
  refine List.pairwise_mergeSort (le := fun a b => !ltE e b a) ?_ ?_ xs
  · intro a b c h1 h2
    simp only [Bool.not_eq_true'] at h1 h2 ⊢
    cases q : ltE e c a with
    | false => rfl
    | true =>
      cases q2 : ltE e a b with
      | true => rw [ltE_tr e q q2] at h2; cases h2
      | false =>
        have := ltE_tot e q2 h1
        subst this
        rw [q] at h2; cases h2
  · intro a b
    simp only [Bool.or_eq_true, Bool.not_eq_true']
    cases q : ltE e b a with
    | false => exact .inl rfl
    | true => exact .inr (ltE_asym e q)
theorem sort_mem {xs : List τ} {x : τ} : x ∈ sortE e xs ↔ x ∈ xs := (sortE_perm e xs).mem_iff
theorem sort_ris {xs : List τ} (nd : xs.Nodup) : Ris e (sortE e xs) := by
  have n2 : (sortE e xs).Nodup := (sortE_perm e xs).nodup_iff.mpr nd
  have := List.Pairwise.and (sort_le e xs) n2
  refine List.Pairwise.imp (fun {a b} hab => ?_) this
  obtain ⟨h1, h2⟩ := hab
  cases q : ltE e a b with
  | true => rfl
  | false => exact absurd (ltE_tot e q (by simpa using h1)) h2
theorem sort_canon {r xs : List τ} (hr : Ris e r) (nd : xs.Nodup) (hs : ∀ x ∈ xs, x ∈ r) : sortE e xs = r.filter fun x => inE e x xs := by
  refine ris_ext e (sort_ris e nd) (List.Pairwise.filter _ hr) fun x => ?_
  rw [sort_mem, List.mem_filter, inE_iff]
  exact ⟨fun q => ⟨hs x q, q⟩, fun q => q.2⟩
theorem Ris.sub {l r : List τ} (q : Ris e r) (s : l.Sublist r) : Ris e l := List.Pairwise.sublist s q
theorem sort_of_ris {l : List τ} (q : Ris e l) : sortE e l = l := ris_ext e (sort_ris e q.nodup) q fun _ => sort_mem e
end
theorem ltI (x y : Int) : ltE eI x y = decide (x < y) := rfl
theorem ltP (x y : Int × Int) : ltE (eP2 eI eI) x y = true ↔ x.1 < y.1 ∨ x.1 = y.1 ∧ x.2 < y.2 := by
  show (if eqE eI x.1 y.1 then (if eqE eI x.2 y.2 then false else ltE eI x.2 y.2) else ltE eI x.1 y.1) = true ↔ _
  simp only [eqE_eq, ltI, decide_eq_true_eq]
  by_cases h1 : x.1 = y.1
  · rw [if_pos h1]
    by_cases h2 : x.2 = y.2
    · rw [if_pos h2]; constructor
      · intro q; cases q
      · rintro (q | q) <;> omega
    · rw [if_neg h2, decide_eq_true_eq]; constructor
      · intro q; exact .inr ⟨h1, q⟩
      · rintro (q | q)
        · omega
        · exact q.2
  · rw [if_neg h1, decide_eq_true_eq]; constructor
    · intro q; exact .inl q
    · rintro (q | q)
      · exact q
      · exact absurd q.1 h1
theorem rng_ris (lo : Int) (n : Nat) : Ris eI (rngI lo n) := by
  unfold Ris rngI
  rw [List.pairwise_map]
  refine List.Pairwise.imp (fun {a b} hab => ?_) List.pairwise_lt_range
  rw [ltI, decide_eq_true_eq]; omega
theorem mem_pairs {n : Nat} {p : Int × Int} : p ∈ allPairs n ↔ (0 ≤ p.1 ∧ p.1 < n) ∧ 0 ≤ p.2 ∧ p.2 < n := by
  unfold allPairs
  rw [List.mem_flatMap]
  constructor
  · rintro ⟨i, hi, q⟩
    obtain ⟨j, hj, rfl⟩ := List.mem_map.mp q
    have a := mem_rngI.mp hi
    have b := mem_rngI.mp hj
    refine ⟨⟨a.1, ?_⟩, b.1, ?_⟩ <;> simp only <;> omega
  · rintro ⟨a, b⟩
    exact ⟨p.1, mem_rngI.mpr ⟨a.1, by omega⟩, List.mem_map.mpr ⟨p.2, mem_rngI.mpr ⟨b.1, by omega⟩, rfl⟩⟩
theorem pairs_ris_aux (m : Nat) : ∀ l : List Int, Ris eI l → Ris (eP2 eI eI) (l.flatMap fun i => (rngI 0 m).map fun j => (i, j))
  | [], _ => List.Pairwise.nil
  | i :: l, q => by
    obtain ⟨q1, q2⟩ := List.pairwise_cons.mp q
    rw [List.flatMap_cons]
    unfold Ris
    rw [List.pairwise_append]
    refine ⟨?_, pairs_ris_aux m l q2, ?_⟩
    · rw [List.pairwise_map]
      refine List.Pairwise.imp (fun {a b} hab => ?_) (rng_ris 0 m)
      rw [ltP]
      rw [ltI, decide_eq_true_eq] at hab
      exact .inr ⟨rfl, hab⟩
    · rintro a ha b hb
      obtain ⟨j, _, rfl⟩ := List.mem_map.mp ha
      obtain ⟨k, hk, hb⟩ := List.mem_flatMap.mp hb
      obtain ⟨n, _, rfl⟩ := List.mem_map.mp hb
      have := q1 k hk
      rw [ltI, decide_eq_true_eq] at this
      rw [ltP]
      exact .inl this
theorem pairs_ris (m : Nat) : Ris (eP2 eI eI) (allPairs m) := pairs_ris_aux m _ (rng_ris 0 m)
/-! ### an order of the points -/
structure Ord (m : Int) (o : List Int) : Prop where
  len : o.length = m.toNat
  rg : ∀ x ∈ o, 0 ≤ x ∧ x < m
  nd : o.Nodup
def at' (o : List Int) (p : Int) : Int := (o[p.toNat]?).getD 0
theorem at_ix {m : Int} {o : List Int} (q : Ord m o) {p : Int} (h0 : 0 ≤ p) (h1 : p < m) : ixI o p = .ok (at' o p) := by
  have := q.len
  refine ixI_ok h0 ?_
  unfold at'
  rw [List.getElem?_eq_getElem (by omega)]; rfl
theorem at_mem {m : Int} {o : List Int} (q : Ord m o) {p : Int} (h0 : 0 ≤ p) (h1 : p < m) : at' o p ∈ o := by
  have := q.len
  unfold at'
  rw [List.getElem?_eq_getElem (by omega)]
  exact List.getElem_mem _
theorem at_rg {m : Int} {o : List Int} (q : Ord m o) {p : Int} (h0 : 0 ≤ p) (h1 : p < m) : 0 ≤ at' o p ∧ at' o p < m := q.rg _ (at_mem q h0 h1)
theorem at_inj {m : Int} {o : List Int} (q : Ord m o) {p r : Int} (h0 : 0 ≤ p) (h1 : p < m) (k0 : 0 ≤ r) (k1 : r < m) (e : at' o p = at' o r) : p = r := by
  have hl := q.len
  have a1 : p.toNat < o.length := by omega
  have a2 : r.toNat < o.length := by omega
  unfold at' at e
  rw [List.getElem?_eq_getElem a1, List.getElem?_eq_getElem a2] at e
  have e' : o[p.toNat] = o[r.toNat] := e
  have nd := List.pairwise_iff_getElem.mp q.nd
  rcases Nat.lt_trichotomy p.toNat r.toNat with c | c | c
  · exact absurd e' (nd _ _ a1 a2 c)
  · omega
  · exact absurd e'.symm (nd _ _ a2 a1 c)
/-- a map of the points that is one to one -/
structure Perm (m : Int) (g : Int → Int) : Prop where
  rg : ∀ p, 0 ≤ p → p < m → 0 ≤ g p ∧ g p < m
  inj : ∀ p r, 0 ≤ p → p < m → 0 ≤ r → r < m → g p = g r → p = r
theorem Ord.perm {m : Int} {o : List Int} (q : Ord m o) : Perm m (at' o) := ⟨fun _ a b => at_rg q a b, fun _ _ a b c d => at_inj q a b c d⟩
def g2 (g : Int → Int) (p : Int × Int) : Int × Int := (g p.1, g p.2)
def mvW (g : Int → Int) (w : Wd) : Wd := (w.1, w.2.1.map (fun e => (e.1, sortE eI (e.2.map g))), w.2.2.map (fun e => (e.1, sortE (eP2 eI eI) (e.2.map (g2 g)))))
section
variable {m : Int} {t : List Str × List Str} {w : Wd} {g k : Int → Int}
theorem sub_rg {l : List Int} (s : l.Sublist (rngI 0 m.toNat)) {p : Int} (hp : p ∈ l) : 0 ≤ p ∧ p < m := by
  have := mem_rngI.mp (s.subset hp); omega
theorem sub_rg2 {l : List (Int × Int)} (s : l.Sublist (allPairs m.toNat)) {p : Int × Int} (hp : p ∈ l) : (0 ≤ p.1 ∧ p.1 < m) ∧ 0 ≤ p.2 ∧ p.2 < m := by
  have := mem_pairs.mp (s.subset hp); omega
theorem nd_map (P : Perm m g) {l : List Int} (s : l.Sublist (rngI 0 m.toNat)) : (l.map g).Nodup :=
  nodup_map ((rng_ris 0 m.toNat).sub eI s).nodup fun x hx y hy e => P.inj x y (sub_rg s hx).1 (sub_rg s hx).2 (sub_rg s hy).1 (sub_rg s hy).2 e
theorem nd_map2 (P : Perm m g) {l : List (Int × Int)} (s : l.Sublist (allPairs m.toNat)) : (l.map (g2 g)).Nodup :=
  nodup_map ((pairs_ris m.toNat).sub (eP2 eI eI) s).nodup fun x hx y hy e => by
    obtain ⟨⟨a1, a2⟩, a3, a4⟩ := sub_rg2 s hx
    obtain ⟨⟨b1, b2⟩, b3, b4⟩ := sub_rg2 s hy
    have e1 : g x.1 = g y.1 := congrArg Prod.fst e
    have e2 : g x.2 = g y.2 := congrArg Prod.snd e
    exact Prod.ext (P.inj _ _ a1 a2 b1 b2 e1) (P.inj _ _ a3 a4 b3 b4 e2)
theorem mv_pt (P : Perm m g) {l : List Int} (s : l.Sublist (rngI 0 m.toNat)) : sortE eI (l.map g) = (rngI 0 m.toNat).filter fun x => inE eI x (l.map g) :=
  sort_canon eI (rng_ris 0 _) (nd_map P s) fun x hx => by
    obtain ⟨p, hp, rfl⟩ := List.mem_map.mp hx
    have a := sub_rg s hp
    have b := P.rg p a.1 a.2
    exact mem_rngI.mpr ⟨b.1, by omega⟩
theorem mv_pr (P : Perm m g) {l : List (Int × Int)} (s : l.Sublist (allPairs m.toNat)) : sortE (eP2 eI eI) (l.map (g2 g)) = (allPairs m.toNat).filter fun x => inE (eP2 eI eI) x (l.map (g2 g)) :=
  sort_canon (eP2 eI eI) (pairs_ris _) (nd_map2 P s) fun x hx => by
    obtain ⟨p, hp, rfl⟩ := List.mem_map.mp hx
    obtain ⟨⟨a1, a2⟩, a3, a4⟩ := sub_rg2 s hp
    have b := P.rg p.1 a1 a2
    have c := P.rg p.2 a3 a4
    exact mem_pairs.mpr ⟨⟨b.1, by show g p.1 < _; omega⟩, c.1, by show g p.2 < _; omega⟩
theorem World.mv (W : World m t w) (P : Perm m g) : World m t (mvW g w) where
  m0 := W.m0
  m8 := W.m8
  many := W.many
  marks := by show (w.2.1.map _).map _ = _; rw [List.map_map]; exact W.marks
  arrows := by show (w.2.2.map _).map _ = _; rw [List.map_map]; exact W.arrows
  pts := fun e he => by
    obtain ⟨d, hd, rfl⟩ := List.mem_map.mp he
    show (sortE eI _).Sublist _
    rw [mv_pt P (W.pts d hd)]
    exact List.filter_sublist
  prs := fun e he => by
    obtain ⟨d, hd, rfl⟩ := List.mem_map.mp he
    show (sortE (eP2 eI eI) _).Sublist _
    rw [mv_pr P (W.prs d hd)]
    exact List.filter_sublist
theorem Perm.comp (P : Perm m g) (Q : Perm m k) : Perm m fun p => k (g p) where
  rg := fun p a b => Q.rg _ (P.rg p a b).1 (P.rg p a b).2
  inj := fun p r a b c d e => P.inj p r a b c d (Q.inj _ _ (P.rg p a b).1 (P.rg p a b).2 (P.rg r c d).1 (P.rg r c d).2 e)
theorem mv_mv (W : World m t w) (P : Perm m g) (Q : Perm m k) : mvW k (mvW g w) = mvW (fun p => k (g p)) w := by
  unfold mvW
  congr 2
  · rw [List.map_map]
    refine List.map_congr_left fun e he => ?_
    show (e.1, sortE eI ((sortE eI (e.2.map g)).map k)) = _
    congr 1
    have s1 := (World.mv W P).pts (e.1, sortE eI (e.2.map g)) (List.mem_map.mpr ⟨e, he, rfl⟩)
    refine ris_ext eI (sort_ris eI (nd_map Q s1)) (sort_ris eI (nd_map (P.comp Q) (W.pts e he))) fun x => ?_
    simp only [sort_mem, List.mem_map]
    constructor
    · rintro ⟨y, ⟨z, hz, rfl⟩, rfl⟩; exact ⟨z, hz, rfl⟩
    · rintro ⟨z, hz, rfl⟩; exact ⟨_, ⟨z, hz, rfl⟩, rfl⟩
  · rw [List.map_map]
    refine List.map_congr_left fun e he => ?_
    show (e.1, sortE (eP2 eI eI) ((sortE (eP2 eI eI) (e.2.map (g2 g))).map (g2 k))) = _
    congr 1
    have s1 := (World.mv W P).prs (e.1, sortE (eP2 eI eI) (e.2.map (g2 g))) (List.mem_map.mpr ⟨e, he, rfl⟩)
    refine ris_ext (eP2 eI eI) (sort_ris (eP2 eI eI) (nd_map2 Q s1)) (sort_ris (eP2 eI eI) (nd_map2 (P.comp Q) (W.prs e he))) fun x => ?_
    simp only [sort_mem, List.mem_map]
    constructor
    · rintro ⟨y, ⟨z, hz, rfl⟩, rfl⟩; exact ⟨z, hz, rfl⟩
    · rintro ⟨z, hz, rfl⟩; exact ⟨_, ⟨z, hz, rfl⟩, rfl⟩
theorem mv_congr (W : World m t w) (h : ∀ p, 0 ≤ p → p < m → g p = k p) : mvW g w = mvW k w := by
  unfold mvW
  congr 2
  · refine List.map_congr_left fun e he => ?_
    rw [List.map_congr_left fun p hp => h p (sub_rg (W.pts e he) hp).1 (sub_rg (W.pts e he) hp).2]
  · refine List.map_congr_left fun e he => ?_
    rw [List.map_congr_left fun p hp => (by
      obtain ⟨⟨a1, a2⟩, a3, a4⟩ := sub_rg2 (W.prs e he) hp
      unfold g2; rw [h _ a1 a2, h _ a3 a4] : g2 g p = g2 k p)]
theorem mv_id (W : World m t w) : mvW (fun p => p) w = w := by
  obtain ⟨w1, w2, w3⟩ := w
  unfold mvW
  congr 2
  · rw [List.map_congr_left (g := fun e => e) fun e he => by
      show (e.1, sortE eI (e.2.map fun p => p)) = e
      rw [List.map_id', sort_of_ris eI ((rng_ris 0 _).sub eI (W.pts e he))], List.map_id']
  · rw [List.map_congr_left (g := fun e => e) fun e he => by
      show (e.1, sortE (eP2 eI eI) (e.2.map (g2 fun p => p))) = e
      rw [show e.2.map (g2 fun p => p) = e.2 from (List.map_congr_left (g := fun p => p) fun p _ => rfl).trans (List.map_id' _), sort_of_ris (eP2 eI eI) ((pairs_ris _).sub (eP2 eI eI) (W.prs e he))], List.map_id']
end
end LO
end

section
set_option Elab.async false
set_option linter.all false
set_option maxRecDepth 100000
set_option maxHeartbeats 4000000
namespace Qk03
open PySem DL LA
def f_moved (world_1 : (Int × (List (PySem.Str × (List Int))) × (List (PySem.Str × (List (Int × Int)))))) (order_2 : (List Int)) : R (Int × (List (PySem.Str × (List Int))) × (List (PySem.Str × (List (Int × Int))))) :=
(TF.run (fun z => nomatch z) (σ := Empty) (
let marks_3 : (List (PySem.Str × (List Int))) := ([] : (List (PySem.Str × (List Int))))
TF.seq (forT (fun (i_4 : (PySem.Str × (List Int))) (s_5 : (List (PySem.Str × (List Int)))) =>
(((((noEx (compR0 (fun (z_6 : Int) => (ixI order_2 z_6)) i_4.2)).bind (fun x => .ok (sortE eI x))).bind (fun x => .ok x)).bind fun x0 => .ok (i_4.1, x0)).tf fun v => (push s_5 v).tf fun (marks_7 : (List (PySem.Str × (List Int)))) =>
.nx marks_7)) world_1.2.1 marks_3) (fun (s_8 : (List (PySem.Str × (List Int)))) =>
let arrows_9 : (List (PySem.Str × (List (Int × Int)))) := ([] : (List (PySem.Str × (List (Int × Int)))))
TF.seq (forT (fun (i_10 : (PySem.Str × (List (Int × Int)))) (s_11 : (List (PySem.Str × (List (Int × Int))))) =>
(((((noEx (compR0 (fun (z_12 : (Int × Int)) => ((ixI order_2 z_12.1).bind fun x0 => (ixI order_2 z_12.2).bind fun x1 => .ok (x0, x1))) i_10.2)).bind (fun x => .ok (sortE (eP2 eI eI) x))).bind (fun x => .ok x)).bind fun x0 => .ok (i_10.1, x0)).tf fun v => (push s_11 v).tf fun (arrows_13 : (List (PySem.Str × (List (Int × Int))))) =>
.nx arrows_13)) world_1.2.2 arrows_9) (fun (s_14 : (List (PySem.Str × (List (Int × Int))))) =>
.rt (world_1.1, s_8, s_14)))))
theorem r_moved (world_1 : (Int × (List (PySem.Str × (List Int))) × (List (PySem.Str × (List (Int × Int)))))) (order_2 : (List Int)) : Rf (eP3 eI (eT (eP2 eS (eT eI))) (eT (eP2 eS (eT (eP2 eI eI))))) (f_moved world_1 order_2) (m_moved [(eP3 eI (eT (eP2 eS (eT eI))) (eT (eP2 eS (eT (eP2 eI eI))))) world_1, (eT eI) order_2]) := by
  have h := (rf_fun0 (Ns := N_moved) (ds := [(eP3 eI (eT (eP2 eS (eT eI))) (eT (eP2 eS (eT (eP2 eI eI))))) world_1, (eT eI) order_2]) (e := (eP3 eI (eT (eP2 eS (eT eI))) (eT (eP2 eS (eT (eP2 eI eI)))))) (Nat.le_of_ble_eq_true rfl) [(0, (eP3 eI (eT (eP2 eS (eT eI))) (eT (eP2 eS (eT (eP2 eI eI))))) world_1), (1, (eT eI) order_2)] rfl
(tb_setP 2 (tp_lst (eL (eP2 eS (eT eI))) ([] : (List (PySem.Str × (List Int)))) tpa_nil rfl) (fun (marks_3 : (List (PySem.Str × (List Int)))) =>
(tb_forP (fun (s_5 : (List (PySem.Str × (List Int)))) => [(2, (eL (eP2 eS (eT eI))) s_5), (0, (eP3 eI (eT (eP2 eS (eT eI))) (eT (eP2 eS (eT (eP2 eI eI))))) world_1), (1, (eT eI) order_2)]) marks_3 (tg_two 4 5 eS (eT eI)) (tp_itT (tp2v (g := dIxS) (eT (eP2 eS (eT eI))) world_1.2.1 rfl (tp_var 0 (eP3 eI (eT (eP2 eS (eT eI))) (eT (eP2 eS (eT (eP2 eI eI))))) world_1 rfl) (tp_c eI 1))) (fun (i_4 : (PySem.Str × (List Int))) (s_5 : (List (PySem.Str × (List Int)))) =>
(tb_last (tb_app 2 (eP2 eS (eT eI)) s_5 rfl sub_nil (te_tup (e := (eP2 eS (eT eI))) (tea_consP (tp_var 4 eS i_4.1 rfl) (tea_cons (te1e (ea := (eL eI)) (et := (eT eI)) (fun x => .ok x) (fun x => (o_totupL eI x)) (te1e (ea := (eL eI)) (et := (eL eI)) (fun x => .ok (sortE eI x)) (fun x => (o_sorted eI (by decide) x)) (te_lc0P (tl := fun (z_6 : Int) => (ixI order_2 z_6)) (eb := eI) (tg_one 7 eI) (tp_itT (tp_var 5 (eT eI) i_4.2 rfl)) (fun (z_6 : Int) => (te2v (et := eI) (ixI order_2 z_6) (p_ixT eI order_2 z_6) (tp_var 1 (eT eI) order_2 rfl) (tp_var 7 eI z_6 rfl)))))) (fun x0 => (tea_nil (rt := .ok (i_4.1, x0)) rfl))))) (fun (marks_7 : (List (PySem.Str × (List Int)))) =>
(tb_end (s := marks_7) (sub_cons rfl (sub_cons rfl (sub_cons rfl sub_nil)))))))) (sub_cons rfl (sub_cons rfl (sub_cons rfl sub_nil))) (fun (s_8 : (List (PySem.Str × (List Int)))) =>
(tb_setP 3 (tp_lst (eL (eP2 eS (eT (eP2 eI eI)))) ([] : (List (PySem.Str × (List (Int × Int))))) tpa_nil rfl) (fun (arrows_9 : (List (PySem.Str × (List (Int × Int))))) =>
(tb_forP (fun (s_11 : (List (PySem.Str × (List (Int × Int))))) => [(3, (eL (eP2 eS (eT (eP2 eI eI)))) s_11), (2, (eL (eP2 eS (eT eI))) s_8), (0, (eP3 eI (eT (eP2 eS (eT eI))) (eT (eP2 eS (eT (eP2 eI eI))))) world_1), (1, (eT eI) order_2)]) arrows_9 (tg_two 4 6 eS (eT (eP2 eI eI))) (tp_itT (tp2v (g := dIxS) (eT (eP2 eS (eT (eP2 eI eI)))) world_1.2.2 rfl (tp_var 0 (eP3 eI (eT (eP2 eS (eT eI))) (eT (eP2 eS (eT (eP2 eI eI))))) world_1 rfl) (tp_c eI 2))) (fun (i_10 : (PySem.Str × (List (Int × Int)))) (s_11 : (List (PySem.Str × (List (Int × Int))))) =>
(tb_last (tb_app 3 (eP2 eS (eT (eP2 eI eI))) s_11 rfl sub_nil (te_tup (e := (eP2 eS (eT (eP2 eI eI)))) (tea_consP (tp_var 4 eS i_10.1 rfl) (tea_cons (te1e (ea := (eL (eP2 eI eI))) (et := (eT (eP2 eI eI))) (fun x => .ok x) (fun x => (o_totupL (eP2 eI eI) x)) (te1e (ea := (eL (eP2 eI eI))) (et := (eL (eP2 eI eI))) (fun x => .ok (sortE (eP2 eI eI) x)) (fun x => (o_sorted (eP2 eI eI) (by decide) x)) (te_lc0P (tl := fun (z_12 : (Int × Int)) => ((ixI order_2 z_12.1).bind fun x0 => (ixI order_2 z_12.2).bind fun x1 => .ok (x0, x1))) (eb := (eP2 eI eI)) (tg_two 8 9 eI eI) (tp_itT (tp_var 6 (eT (eP2 eI eI)) i_10.2 rfl)) (fun (z_12 : (Int × Int)) => (te_tup (e := (eP2 eI eI)) (tea_cons (te2v (et := eI) (ixI order_2 z_12.1) (p_ixT eI order_2 z_12.1) (tp_var 1 (eT eI) order_2 rfl) (tp_var 8 eI z_12.1 rfl)) (fun x0 => (tea_cons (te2v (et := eI) (ixI order_2 z_12.2) (p_ixT eI order_2 z_12.2) (tp_var 1 (eT eI) order_2 rfl) (tp_var 9 eI z_12.2 rfl)) (fun x1 => (tea_nil (rt := .ok (x0, x1)) rfl)))))))))) (fun x0 => (tea_nil (rt := .ok (i_10.1, x0)) rfl))))) (fun (arrows_13 : (List (PySem.Str × (List (Int × Int))))) =>
(tb_end (s := arrows_13) (sub_cons rfl (sub_cons rfl (sub_cons rfl (sub_cons rfl sub_nil))))))))) (sub_cons rfl (sub_cons rfl (sub_cons rfl (sub_cons rfl sub_nil)))) (fun (s_14 : (List (PySem.Str × (List (Int × Int))))) =>
(tb_retP (tp_tup (eP3 eI (eT (eP2 eS (eT eI))) (eT (eP2 eS (eT (eP2 eI eI))))) (world_1.1, s_8, s_14) (tpa_cons (tp2v (g := dIxS) eI world_1.1 rfl (tp_var 0 (eP3 eI (eT (eP2 eS (eT eI))) (eT (eP2 eS (eT (eP2 eI eI))))) world_1 rfl) (tp_c eI 0)) (tpa_cons (tp1v (eT (eP2 eS (eT eI))) s_8 (o_totupL (eP2 eS (eT eI)) s_8) (tp_var 2 (eL (eP2 eS (eT eI))) s_8 rfl)) (tpa_cons (tp1v (eT (eP2 eS (eT (eP2 eI eI)))) s_14 (o_totupL (eP2 eS (eT (eP2 eI eI))) s_14) (tp_var 3 (eL (eP2 eS (eT (eP2 eI eI)))) s_14 rfl)) tpa_nil))) rfl)))))))))))
  exact h
theorem r__law_cell (script_1 : (List Int)) (k_2 : Int) : Rf eI (f__law_cell script_1 k_2) (m__law_cell [(eL eI) script_1, eI k_2]) := by
  have h := (rf_fun0 (Ns := N__law_cell) (ds := [(eL eI) script_1, eI k_2]) (e := eI) (Nat.le_of_ble_eq_true rfl) [(0, (eL eI) script_1), (1, eI k_2)] rfl
(tb_ifEP ex_ret (tp_dB (tp2v eB (decide (k_2 < (script_1.length : Int))) (o_ltI k_2 (script_1.length : Int)) (tp_var 1 eI k_2 rfl) (tp1v (g := (dLen)) eI (script_1.length : Int) (o_lenL eI script_1) (tp_var 0 (eL eI) script_1 rfl)))) (tb_ret (te2ep (ea := eI) (eb := eI) (b := 18446744073709551616) (et := eI) (fun x => .ok (x % 18446744073709551616)) (fun x => (o_modC x 18446744073709551616)) (te2v (et := eI) (ixI script_1 k_2) (p_ixL eI script_1 k_2) (tp_var 0 (eL eI) script_1 rfl) (tp_var 1 eI k_2 rfl)) (tp2v eI 18446744073709551616 (o_powC 2 64 18446744073709551616) (tp_c eI 2) (tp_c eI 64))) sub_nil)
(tb_retP (tp_c eI 0))))
  exact h
theorem r__law_names (cell_here_1 : Int) (many_2 : Int) : Rf (eL eS) (f__law_names cell_here_1 many_2) (m__law_names [eI cell_here_1, eI many_2]) := by
  have h := (rf_fun0 (Ns := N__law_names) (ds := [eI cell_here_1, eI many_2]) (e := (eL eS)) (Nat.le_of_ble_eq_true rfl) [(0, eI cell_here_1), (1, eI many_2)] rfl
(tb_set 2 sub_nil (te2ep (ea := eI) (eb := eI) (b := 1000033) (et := eI) (fun x => .ok (x % 1000033)) (fun x => (o_modC x 1000033)) (te2v (et := eI) (mulI cell_here_1 7129) (p_mulI cell_here_1 7129) (tp_var 0 eI cell_here_1 rfl) (tp_c eI 7129)) (tp_c eI 1000033)) (fun (number_3 : Int) =>
(tb_set 3 sub_nil (te2v (et := eS) (ixS ("bcdfg" : PySem.Str) (number_3 % 5)) (p_ixS ("bcdfg" : PySem.Str) (number_3 % 5)) (tp_c eS ("bcdfg" : PySem.Str)) (tp2v eI (number_3 % 5) (o_modC number_3 5) (tp_var 2 eI number_3 rfl) (tp_c eI 5))) (fun (base_4 : PySem.Str) =>
(tb_setP 4 (tp2v eI (2 + ((number_3 / 5) % 7)) (o_add 2 ((number_3 / 5) % 7)) (tp_c eI 2) (tp2v eI ((number_3 / 5) % 7) (o_modC (number_3 / 5) 7) (tp2v eI (number_3 / 5) (o_divC number_3 5) (tp_var 2 eI number_3 rfl) (tp_c eI 5)) (tp_c eI 7))) (fun (size_5 : Int) =>
(tb_ifEP ex_ret (tp_dB (tp2v eB (eqE eI ((number_3 / 35) % 4) 1) (o_eq eI (by decide) ((number_3 / 35) % 4) 1) (tp2v eI ((number_3 / 35) % 4) (o_modC (number_3 / 35) 4) (tp2v eI (number_3 / 35) (o_divC number_3 35) (tp_var 2 eI number_3 rfl) (tp_c eI 35)) (tp_c eI 4)) (tp_c eI 1))) (tb_ret (te_lc0 (tl := fun (z_6 : Int) => (mulS base_4 (2 + z_6))) (eb := eS) (tg_one 7 eI) (te_rng1 (TP.te (tp_var 1 eI many_2 rfl))) (fun (z_6 : Int) => (te2v (et := eS) (mulS base_4 (2 + z_6)) (p_mulS base_4 (2 + z_6)) (tp_var 3 eS base_4 rfl) (tp2v eI (2 + z_6) (o_add 2 z_6) (tp_c eI 2) (tp_var 7 eI z_6 rfl))))) sub_nil)
(tb_ifEP (ex_seq (ex_seq (ex_seq ex_ret))) (tp_dB (tp2v eB (eqE eI ((number_3 / 35) % 4) 2) (o_eq eI (by decide) ((number_3 / 35) % 4) 2) (tp2v eI ((number_3 / 35) % 4) (o_modC (number_3 / 35) 4) (tp2v eI (number_3 / 35) (o_divC number_3 35) (tp_var 2 eI number_3 rfl) (tp_c eI 35)) (tp_c eI 4)) (tp_c eI 2))) (tb_setP 8 (tp_lst (eL eS) ([("and" : PySem.Str), ("or" : PySem.Str), ("not" : PySem.Str), ("some" : PySem.Str), ("every" : PySem.Str), ("least" : PySem.Str), ("true" : PySem.Str), ("false" : PySem.Str)] : (List PySem.Str)) (tpa_cons (tp_c eS ("and" : PySem.Str)) (tpa_cons (tp_c eS ("or" : PySem.Str)) (tpa_cons (tp_c eS ("not" : PySem.Str)) (tpa_cons (tp_c eS ("some" : PySem.Str)) (tpa_cons (tp_c eS ("every" : PySem.Str)) (tpa_cons (tp_c eS ("least" : PySem.Str)) (tpa_cons (tp_c eS ("true" : PySem.Str)) (tpa_cons (tp_c eS ("false" : PySem.Str)) tpa_nil)))))))) rfl) (fun (words_7 : (List PySem.Str)) =>
(tb_setP 9 (tp2v eI ((number_3 / 140) % 8) (o_modC (number_3 / 140) 8) (tp2v eI (number_3 / 140) (o_divC number_3 140) (tp_var 2 eI number_3 rfl) (tp_c eI 140)) (tp_c eI 8)) (fun (first_8 : Int) =>
(tb_setP 10 (tp_c eS ("abcdefghijklmnopqrstuvwxyz" : PySem.Str)) (fun (signs_9 : PySem.Str) =>
(tb_ret (te1e (ea := (eL eS)) (et := (eL eS)) (fun x => .ok (sortE eS x)) (fun x => (o_sorted eS (by decide) x)) (te_lc0 (tl := fun (z_10 : Int) => (((exten words_7 words_7).bind (fun x => (ixI x (first_8 + z_10)))).bind fun x => (ixS signs_9 ((number_3 / 1120) % 26)).bind fun y => (addS x y))) (eb := eS) (tg_one 7 eI) (te_rng1 (TP.te (tp_var 1 eI many_2 rfl))) (fun (z_10 : Int) => (te2ee (ea := eS) (eb := eS) (et := eS) (fun x y => (addS x y)) (fun x y => (p_addS x y)) (te2ep (ea := (eL eS)) (eb := eI) (b := (first_8 + z_10)) (et := eS) (fun x => (ixI x (first_8 + z_10))) (fun x => (p_ixL eS x (first_8 + z_10))) (te2v (et := (eL eS)) (exten words_7 words_7) (p_addL eS words_7 words_7) (tp_var 8 (eL eS) words_7 rfl) (tp_var 8 (eL eS) words_7 rfl)) (tp2v eI (first_8 + z_10) (o_add first_8 z_10) (tp_var 9 eI first_8 rfl) (tp_var 7 eI z_10 rfl))) (te2v (et := eS) (ixS signs_9 ((number_3 / 1120) % 26)) (p_ixS signs_9 ((number_3 / 1120) % 26)) (tp_var 10 eS signs_9 rfl) (tp2v eI ((number_3 / 1120) % 26) (o_modC (number_3 / 1120) 26) (tp2v eI (number_3 / 1120) (o_divC number_3 1120) (tp_var 2 eI number_3 rfl) (tp_c eI 1120)) (tp_c eI 26))))))) sub_nil)))))))
(tb_set 5 sub_nil (te2v (et := eI) (modI (number_3 / 105) size_5) (p_modI (number_3 / 105) size_5) (tp2v eI (number_3 / 105) (o_divC number_3 105) (tp_var 2 eI number_3 rfl) (tp_c eI 105)) (tp_var 4 eI size_5 rfl)) (fun (at_11 : Int) =>
(tb_setP 6 (tp_lst (eL eS) ([] : (List PySem.Str)) tpa_nil rfl) (fun (found_12 : (List PySem.Str)) =>
(tb_for (fun (s_14 : (List PySem.Str)) => [(6, (eL eS) s_14), (0, eI cell_here_1), (1, eI many_2), (2, eI number_3), (3, eS base_4), (4, eI size_5), (5, eI at_11)]) found_12 sub_nil (tg_one 7 eI) (te_rng1 (TP.te (tp_var 1 eI many_2 rfl))) (fun (i_13 : Int) (s_14 : (List PySem.Str)) =>
(tb_set 11 sub_nil (te2pe (ea := eS) (eb := eI) (a := ("abcdefghijklmnopqrstuvwxyz" : PySem.Str)) (et := eS) (fun y => (ixS ("abcdefghijklmnopqrstuvwxyz" : PySem.Str) y)) (fun y => (p_ixS ("abcdefghijklmnopqrstuvwxyz" : PySem.Str) y)) (tp_c eS ("abcdefghijklmnopqrstuvwxyz" : PySem.Str)) (te2ep (ea := eI) (eb := eI) (b := 26) (et := eI) (fun x => .ok (x % 26)) (fun x => (o_modC x 26)) (te2pe (ea := eI) (eb := eI) (a := (number_3 / 840)) (et := eI) (fun y => .ok ((number_3 / 840) + y)) (fun y => (o_add (number_3 / 840) y)) (tp2v eI (number_3 / 840) (o_divC number_3 840) (tp_var 2 eI number_3 rfl) (tp_c eI 840)) (te2v (et := eI) (mulI 5 i_13) (p_mulI 5 i_13) (tp_c eI 5) (tp_var 7 eI i_13 rfl))) (tp_c eI 26))) (fun (sign_15 : PySem.Str) =>
(tb_last (tb_app 6 eS s_14 rfl sub_nil (te2ee (ea := eS) (eb := eS) (et := eS) (fun x y => (addS x y)) (fun x y => (p_addS x y)) (te2ep (ea := eS) (eb := eS) (b := sign_15) (et := eS) (fun x => (addS x sign_15)) (fun x => (p_addS x sign_15)) (te2v (et := eS) (mulS base_4 at_11) (p_mulS base_4 at_11) (tp_var 3 eS base_4 rfl) (tp_var 5 eI at_11 rfl)) (tp_var 11 eS sign_15 rfl)) (te2v (et := eS) (mulS base_4 ((size_5 - 1) - at_11)) (p_mulS base_4 ((size_5 - 1) - at_11)) (tp_var 3 eS base_4 rfl) (tp2v eI ((size_5 - 1) - at_11) (o_sub (size_5 - 1) at_11) (tp2v eI (size_5 - 1) (o_sub size_5 1) (tp_var 4 eI size_5 rfl) (tp_c eI 1)) (tp_var 5 eI at_11 rfl)))) (fun (found_16 : (List PySem.Str)) =>
(tb_end (s := found_16) (sub_cons rfl (sub_cons rfl (sub_cons rfl (sub_cons rfl (sub_cons rfl (sub_cons rfl (sub_cons rfl sub_nil)))))))))))))) (sub_cons rfl (sub_cons rfl (sub_cons rfl (sub_cons rfl (sub_cons rfl (sub_cons rfl (sub_cons rfl sub_nil))))))) (fun (s_17 : (List PySem.Str)) =>
(tb_retP (tp1v (eL eS) (sortE eS s_17) (o_sorted eS (by decide) s_17) (tp_var 6 (eL eS) s_17 rfl))))))))))))))))))
  exact h
theorem r__law_some (bits_1 : Int) (many_2 : Int) : Rf (eT eI) (f__law_some bits_1 many_2) (m__law_some [eI bits_1, eI many_2]) := by
  have h := (rf_fun0 (Ns := N__law_some) (ds := [eI bits_1, eI many_2]) (e := (eT eI)) (Nat.le_of_ble_eq_true rfl) [(0, eI bits_1), (1, eI many_2)] rfl
(tb_setP 2 (tp_lst (eL eI) ([] : (List Int)) tpa_nil rfl) (fun (found_3 : (List Int)) =>
(tb_for (fun (s_5 : (Int × (List Int))) => [(0, eI s_5.1), (2, (eL eI) s_5.2), (1, eI many_2)]) (bits_1, found_3) sub_nil (tg_one 3 eI) (te_rng1 (TP.te (tp_var 1 eI many_2 rfl))) (fun (i_4 : Int) (s_5 : (Int × (List Int))) =>
(tb_ifP (fun (s_7 : (List Int)) => [(2, (eL eI) s_7), (0, eI s_5.1), (1, eI many_2), (3, eI i_4)]) (tp_dB (tp2v eB (eqE eI (s_5.1 % 2) 1) (o_eq eI (by decide) (s_5.1 % 2) 1) (tp2v eI (s_5.1 % 2) (o_modC s_5.1 2) (tp_var 0 eI s_5.1 rfl) (tp_c eI 2)) (tp_c eI 1))) (tb_last (tb_appP 2 eI s_5.2 rfl (tp_var 3 eI i_4 rfl) (fun (found_6 : (List Int)) =>
(tb_end (s := found_6) (sub_cons rfl (sub_cons rfl (sub_cons rfl (sub_cons rfl sub_nil)))))))) (tb_end (s := s_5.2) (sub_cons rfl (sub_cons rfl (sub_cons rfl (sub_cons rfl sub_nil))))) (fun (s_7 : (List Int)) =>
(tb_last (tb_setP 0 (tp2v eI (s_5.1 / 2) (o_divC s_5.1 2) (tp_var 0 eI s_5.1 rfl) (tp_c eI 2)) (fun (bits_8 : Int) =>
(tb_end (s := (bits_8, s_7)) (sub_cons rfl (sub_cons rfl (sub_cons rfl sub_nil)))))))))) (sub_cons rfl (sub_cons rfl (sub_cons rfl sub_nil))) (fun (s_9 : (Int × (List Int))) =>
(tb_retP (tp1v (eT eI) s_9.2 (o_totupL eI s_9.2) (tp_var 2 (eL eI) s_9.2 rfl))))))))
  exact h
theorem r__law_pairs (bits_1 : Int) (many_2 : Int) : Rf (eT (eP2 eI eI)) (f__law_pairs bits_1 many_2) (m__law_pairs [eI bits_1, eI many_2]) := by
  have h := (rf_fun0 (Ns := N__law_pairs) (ds := [eI bits_1, eI many_2]) (e := (eT (eP2 eI eI))) (Nat.le_of_ble_eq_true rfl) [(0, eI bits_1), (1, eI many_2)] rfl
(tb_setP 2 (tp_lst (eL (eP2 eI eI)) ([] : (List (Int × Int))) tpa_nil rfl) (fun (found_3 : (List (Int × Int))) =>
(tb_for (fun (s_5 : (Int × (List (Int × Int)))) => [(0, eI s_5.1), (2, (eL (eP2 eI eI)) s_5.2), (1, eI many_2)]) (bits_1, found_3) sub_nil (tg_one 3 eI) (te_rng1 (TP.te (tp_var 1 eI many_2 rfl))) (fun (i_4 : Int) (s_5 : (Int × (List (Int × Int)))) =>
(tb_last (tb_for (fun (s_7 : (Int × (List (Int × Int)))) => [(0, eI s_7.1), (2, (eL (eP2 eI eI)) s_7.2), (1, eI many_2), (3, eI i_4)]) (s_5.1, s_5.2) sub_nil (tg_one 4 eI) (te_rng1 (TP.te (tp_var 1 eI many_2 rfl))) (fun (i_6 : Int) (s_7 : (Int × (List (Int × Int)))) =>
(tb_ifP (fun (s_9 : (List (Int × Int))) => [(2, (eL (eP2 eI eI)) s_9), (0, eI s_7.1), (1, eI many_2), (3, eI i_4), (4, eI i_6)]) (tp_dB (tp2v eB (eqE eI (s_7.1 % 2) 1) (o_eq eI (by decide) (s_7.1 % 2) 1) (tp2v eI (s_7.1 % 2) (o_modC s_7.1 2) (tp_var 0 eI s_7.1 rfl) (tp_c eI 2)) (tp_c eI 1))) (tb_last (tb_appP 2 (eP2 eI eI) s_7.2 rfl (tp_tup (eP2 eI eI) (i_4, i_6) (tpa_cons (tp_var 3 eI i_4 rfl) (tpa_cons (tp_var 4 eI i_6 rfl) tpa_nil)) rfl) (fun (found_8 : (List (Int × Int))) =>
(tb_end (s := found_8) (sub_cons rfl (sub_cons rfl (sub_cons rfl (sub_cons rfl (sub_cons rfl sub_nil))))))))) (tb_end (s := s_7.2) (sub_cons rfl (sub_cons rfl (sub_cons rfl (sub_cons rfl (sub_cons rfl sub_nil)))))) (fun (s_9 : (List (Int × Int))) =>
(tb_last (tb_setP 0 (tp2v eI (s_7.1 / 2) (o_divC s_7.1 2) (tp_var 0 eI s_7.1 rfl) (tp_c eI 2)) (fun (bits_10 : Int) =>
(tb_end (s := (bits_10, s_9)) (sub_cons rfl (sub_cons rfl (sub_cons rfl (sub_cons rfl sub_nil))))))))))) (sub_cons rfl (sub_cons rfl (sub_cons rfl (sub_cons rfl sub_nil)))) (fun (s_11 : (Int × (List (Int × Int)))) =>
(tb_end (s := (s_11.1, s_11.2)) (sub_cons rfl (sub_cons rfl (sub_cons rfl sub_nil)))))))) (sub_cons rfl (sub_cons rfl (sub_cons rfl sub_nil))) (fun (s_12 : (Int × (List (Int × Int)))) =>
(tb_retP (tp1v (eT (eP2 eI eI)) s_12.2 (o_totupL (eP2 eI eI) s_12.2) (tp_var 2 (eL (eP2 eI eI)) s_12.2 rfl))))))))
  exact h
theorem r__law_tongue (cell_here_1 : Int) : Rf (eP2 (eT eS) (eT eS)) (f__law_tongue cell_here_1) (m__law_tongue [eI cell_here_1]) := by
  have h := (rf_fun0 (Ns := N__law_tongue) (ds := [eI cell_here_1]) (e := (eP2 (eT eS) (eT eS))) (Nat.le_of_ble_eq_true rfl) [(0, eI cell_here_1)] rfl
(tb_set 1 sub_nil (tp_callP (e := (eL eS)) (tpa_cons (tp_var 0 eI cell_here_1 rfl) (tpa_cons (tp_c eI 6) tpa_nil)) (r__law_names cell_here_1 6)) (fun (names_here_2 : (List PySem.Str)) =>
(tb_set 2 sub_nil (te2ep (ea := eI) (eb := eI) (b := 10007) (et := eI) (fun x => .ok (x % 10007)) (fun x => (o_modC x 10007)) (te2v (et := eI) (mulI cell_here_1 523) (p_mulI cell_here_1 523) (tp_var 0 eI cell_here_1 rfl) (tp_c eI 523)) (tp_c eI 10007)) (fun (number_3 : Int) =>
(tb_setP 3 (tp2v eI ((number_3 / 16) % 3) (o_modC (number_3 / 16) 3) (tp2v eI (number_3 / 16) (o_divC number_3 16) (tp_var 2 eI number_3 rfl) (tp_c eI 16)) (tp_c eI 3)) (fun (first_4 : Int) =>
(tb_retP (tp_tup (eP2 (eT eS) (eT eS)) ((cutL names_here_2 none (some (number_3 % 4))), (cutL names_here_2 (some first_4) (some (first_4 + ((number_3 / 4) % 4))))) (tpa_cons (tp1v (eT eS) (cutL names_here_2 none (some (number_3 % 4))) (o_totupL eS (cutL names_here_2 none (some (number_3 % 4)))) (tp_slL (tp_var 1 (eL eS) names_here_2 rfl) tp_no (tp_part (tp2v eI (number_3 % 4) (o_modC number_3 4) (tp_var 2 eI number_3 rfl) (tp_c eI 4))))) (tpa_cons (tp1v (eT eS) (cutL names_here_2 (some first_4) (some (first_4 + ((number_3 / 4) % 4)))) (o_totupL eS (cutL names_here_2 (some first_4) (some (first_4 + ((number_3 / 4) % 4))))) (tp_slL (tp_var 1 (eL eS) names_here_2 rfl) (tp_part (tp_var 3 eI first_4 rfl)) (tp_part (tp2v eI (first_4 + ((number_3 / 4) % 4)) (o_add first_4 ((number_3 / 4) % 4)) (tp_var 3 eI first_4 rfl) (tp2v eI ((number_3 / 4) % 4) (o_modC (number_3 / 4) 4) (tp2v eI (number_3 / 4) (o_divC number_3 4) (tp_var 2 eI number_3 rfl) (tp_c eI 4)) (tp_c eI 4)))))) tpa_nil)) rfl)))))))))
  exact h
theorem r__law_world (script_1 : (List Int)) (at_2 : Int) (many_3 : Int) (tongue_here_4 : ((List PySem.Str) × (List PySem.Str))) : Rf (eP3 eI (eT (eP2 eS (eT eI))) (eT (eP2 eS (eT (eP2 eI eI))))) (f__law_world script_1 at_2 many_3 tongue_here_4) (m__law_world [(eL eI) script_1, eI at_2, eI many_3, (eP2 (eT eS) (eT eS)) tongue_here_4]) := by
  have h := (rf_fun0 (Ns := N__law_world) (ds := [(eL eI) script_1, eI at_2, eI many_3, (eP2 (eT eS) (eT eS)) tongue_here_4]) (e := (eP3 eI (eT (eP2 eS (eT eI))) (eT (eP2 eS (eT (eP2 eI eI)))))) (Nat.le_of_ble_eq_true rfl) [(0, (eL eI) script_1), (1, eI at_2), (2, eI many_3), (3, (eP2 (eT eS) (eT eS)) tongue_here_4)] rfl
(tb_setP 4 (tp_lst (eL (eP2 eS (eT eI))) ([] : (List (PySem.Str × (List Int)))) tpa_nil rfl) (fun (marks_here_5 : (List (PySem.Str × (List Int)))) =>
(tb_for (fun (s_7 : (List (PySem.Str × (List Int)))) => [(4, (eL (eP2 eS (eT eI))) s_7), (0, (eL eI) script_1), (1, eI at_2), (2, eI many_3), (3, (eP2 (eT eS) (eT eS)) tongue_here_4)]) marks_here_5 sub_nil (tg_one 5 eI) (te_rng1 (TP.te (tp1v (g := (dLen)) eI (tongue_here_4.1.length : Int) (o_lenT eS tongue_here_4.1) (tp2v (g := dIxS) (eT eS) tongue_here_4.1 rfl (tp_var 3 (eP2 (eT eS) (eT eS)) tongue_here_4 rfl) (tp_c eI 0))))) (fun (i_6 : Int) (s_7 : (List (PySem.Str × (List Int)))) =>
(tb_last (tb_app 4 (eP2 eS (eT eI)) s_7 rfl sub_nil (te_tup (e := (eP2 eS (eT eI))) (tea_cons (te2v (et := eS) (ixI tongue_here_4.1 i_6) (p_ixT eS tongue_here_4.1 i_6) (tp2v (g := dIxS) (eT eS) tongue_here_4.1 rfl (tp_var 3 (eP2 (eT eS) (eT eS)) tongue_here_4 rfl) (tp_c eI 0)) (tp_var 5 eI i_6 rfl)) (fun x0 => (tea_cons (te_call (e := (eT eI)) (tea_cons (te2ep (ea := eI) (eb := eI) (b := 256) (et := eI) (fun x => .ok (x % 256)) (fun x => (o_modC x 256)) (te2ep (ea := eI) (eb := eI) (b := 167) (et := eI) (fun x => (mulI x 167)) (fun x => (p_mulI x 167)) (tp_callP (e := eI) (tpa_cons (tp_var 0 (eL eI) script_1 rfl) (tpa_cons (tp2v eI (at_2 + i_6) (o_add at_2 i_6) (tp_var 1 eI at_2 rfl) (tp_var 5 eI i_6 rfl)) tpa_nil)) (r__law_cell script_1 (at_2 + i_6))) (tp_c eI 167)) (tp2v eI 256 (o_powC 2 8 256) (tp_c eI 2) (tp_c eI 8))) (fun a0 => (tea_consP (tp_var 2 eI many_3 rfl) (tea_nil (r__law_some a0 many_3)))))) (fun x1 => (tea_nil (rt := .ok (x0, x1)) rfl)))))) (fun (marks_here_8 : (List (PySem.Str × (List Int)))) =>
(tb_end (s := marks_here_8) (sub_cons rfl (sub_cons rfl (sub_cons rfl (sub_cons rfl (sub_cons rfl sub_nil)))))))))) (sub_cons rfl (sub_cons rfl (sub_cons rfl (sub_cons rfl (sub_cons rfl sub_nil))))) (fun (s_9 : (List (PySem.Str × (List Int)))) =>
(tb_setP 6 (tp_lst (eL (eP2 eS (eT (eP2 eI eI)))) ([] : (List (PySem.Str × (List (Int × Int))))) tpa_nil rfl) (fun (arrows_here_10 : (List (PySem.Str × (List (Int × Int))))) =>
(tb_for (fun (s_12 : (List (PySem.Str × (List (Int × Int))))) => [(6, (eL (eP2 eS (eT (eP2 eI eI)))) s_12), (4, (eL (eP2 eS (eT eI))) s_9), (0, (eL eI) script_1), (1, eI at_2), (2, eI many_3), (3, (eP2 (eT eS) (eT eS)) tongue_here_4)]) arrows_here_10 sub_nil (tg_one 5 eI) (te_rng1 (TP.te (tp1v (g := (dLen)) eI (tongue_here_4.2.length : Int) (o_lenT eS tongue_here_4.2) (tp2v (g := dIxS) (eT eS) tongue_here_4.2 rfl (tp_var 3 (eP2 (eT eS) (eT eS)) tongue_here_4 rfl) (tp_c eI 1))))) (fun (i_11 : Int) (s_12 : (List (PySem.Str × (List (Int × Int))))) =>
(tb_set 7 sub_nil (te2ep (ea := eI) (eb := eI) (b := 18446744073709551616) (et := eI) (fun x => .ok (x % 18446744073709551616)) (fun x => (o_modC x 18446744073709551616)) (te2ep (ea := eI) (eb := eI) (b := 11400714819323198485) (et := eI) (fun x => (mulI x 11400714819323198485)) (fun x => (p_mulI x 11400714819323198485)) (tp_callP (e := eI) (tpa_cons (tp_var 0 (eL eI) script_1 rfl) (tpa_cons (tp2v eI ((at_2 + 3) + i_11) (o_add (at_2 + 3) i_11) (tp2v eI (at_2 + 3) (o_add at_2 3) (tp_var 1 eI at_2 rfl) (tp_c eI 3)) (tp_var 5 eI i_11 rfl)) tpa_nil)) (r__law_cell script_1 ((at_2 + 3) + i_11))) (tp_c eI 11400714819323198485)) (tp2v eI 18446744073709551616 (o_powC 2 64 18446744073709551616) (tp_c eI 2) (tp_c eI 64))) (fun (bits_13 : Int) =>
(tb_last (tb_app 6 (eP2 eS (eT (eP2 eI eI))) s_12 rfl sub_nil (te_tup (e := (eP2 eS (eT (eP2 eI eI)))) (tea_cons (te2v (et := eS) (ixI tongue_here_4.2 i_11) (p_ixT eS tongue_here_4.2 i_11) (tp2v (g := dIxS) (eT eS) tongue_here_4.2 rfl (tp_var 3 (eP2 (eT eS) (eT eS)) tongue_here_4 rfl) (tp_c eI 1)) (tp_var 5 eI i_11 rfl)) (fun x0 => (tea_cons (tp_callP (e := (eT (eP2 eI eI))) (tpa_cons (tp_var 7 eI bits_13 rfl) (tpa_cons (tp_var 2 eI many_3 rfl) tpa_nil)) (r__law_pairs bits_13 many_3)) (fun x1 => (tea_nil (rt := .ok (x0, x1)) rfl)))))) (fun (arrows_here_14 : (List (PySem.Str × (List (Int × Int))))) =>
(tb_end (s := arrows_here_14) (sub_cons rfl (sub_cons rfl (sub_cons rfl (sub_cons rfl (sub_cons rfl (sub_cons rfl sub_nil))))))))))))) (sub_cons rfl (sub_cons rfl (sub_cons rfl (sub_cons rfl (sub_cons rfl (sub_cons rfl sub_nil)))))) (fun (s_15 : (List (PySem.Str × (List (Int × Int))))) =>
(tb_retP (tp_tup (eP3 eI (eT (eP2 eS (eT eI))) (eT (eP2 eS (eT (eP2 eI eI))))) (many_3, s_9, s_15) (tpa_cons (tp_var 2 eI many_3 rfl) (tpa_cons (tp1v (eT (eP2 eS (eT eI))) s_9 (o_totupL (eP2 eS (eT eI)) s_9) (tp_var 4 (eL (eP2 eS (eT eI))) s_9 rfl)) (tpa_cons (tp1v (eT (eP2 eS (eT (eP2 eI eI)))) s_15 (o_totupL (eP2 eS (eT (eP2 eI eI))) s_15) (tp_var 6 (eL (eP2 eS (eT (eP2 eI eI)))) s_15 rfl)) tpa_nil))) rfl)))))))))))
  exact h
def f__law_order (number_1 : Int) (many_2 : Int) : R (List Int) :=
(TF.run (fun z => nomatch z) (σ := Empty) (
((rng1 many_2).tf fun (left_3 : (List Int)) =>
let found_4 : (List Int) := ([] : (List Int))
TF.seq ((rng1 many_2).tf fun xs => forT (fun (i_5 : Int) (s_6 : (Int × (List Int) × (List Int))) =>
((modI s_6.1 (s_6.2.1.length : Int)).tf fun (at_7 : Int) =>
(((mulI 7 at_7).bind (fun y => .ok ((s_6.1 / 11) + y))).tf fun (number_8 : Int) =>
((ixI s_6.2.1 at_7).tf fun v => (push s_6.2.2 v).tf fun (found_9 : (List Int)) =>
((exten (cutL s_6.2.1 none (some at_7)) (cutL s_6.2.1 (some (at_7 + 1)) none)).tf fun (left_10 : (List Int)) =>
.nx (number_8, left_10, found_9)))))) xs (number_1, left_3, found_4)) (fun (s_11 : (Int × (List Int) × (List Int))) =>
.rt s_11.2.2))))
theorem r__law_order (number_1 : Int) (many_2 : Int) : Rf (eT eI) (f__law_order number_1 many_2) (m__law_order [eI number_1, eI many_2]) := by
  have h := (rf_fun0 (Ns := N__law_order) (ds := [eI number_1, eI many_2]) (e := (eT eI)) (Nat.le_of_ble_eq_true rfl) [(0, eI number_1), (1, eI many_2)] rfl
(tb_set 2 sub_nil (te_listRg (TP.te (tp_var 1 eI many_2 rfl))) (fun (left_3 : (List Int)) =>
(tb_setP 3 (tp_lst (eL eI) ([] : (List Int)) tpa_nil rfl) (fun (found_4 : (List Int)) =>
(tb_for (fun (s_6 : (Int × (List Int) × (List Int))) => [(0, eI s_6.1), (2, (eL eI) s_6.2.1), (3, (eL eI) s_6.2.2), (1, eI many_2)]) (number_1, left_3, found_4) sub_nil (tg_one 4 eI) (te_rng1 (TP.te (tp_var 1 eI many_2 rfl))) (fun (i_5 : Int) (s_6 : (Int × (List Int) × (List Int))) =>
(tb_set 5 sub_nil (te2v (et := eI) (modI s_6.1 (s_6.2.1.length : Int)) (p_modI s_6.1 (s_6.2.1.length : Int)) (tp_var 0 eI s_6.1 rfl) (tp1v (g := (dLen)) eI (s_6.2.1.length : Int) (o_lenL eI s_6.2.1) (tp_var 2 (eL eI) s_6.2.1 rfl))) (fun (at_7 : Int) =>
(tb_set 0 sub_nil (te2pe (ea := eI) (eb := eI) (a := (s_6.1 / 11)) (et := eI) (fun y => .ok ((s_6.1 / 11) + y)) (fun y => (o_add (s_6.1 / 11) y)) (tp2v eI (s_6.1 / 11) (o_divC s_6.1 11) (tp_var 0 eI s_6.1 rfl) (tp_c eI 11)) (te2v (et := eI) (mulI 7 at_7) (p_mulI 7 at_7) (tp_c eI 7) (tp_var 5 eI at_7 rfl))) (fun (number_8 : Int) =>
(tb_app 3 eI s_6.2.2 rfl sub_nil (te2v (et := eI) (ixI s_6.2.1 at_7) (p_ixL eI s_6.2.1 at_7) (tp_var 2 (eL eI) s_6.2.1 rfl) (tp_var 5 eI at_7 rfl)) (fun (found_9 : (List Int)) =>
(tb_last (tb_set 2 sub_nil (te2v (et := (eL eI)) (exten (cutL s_6.2.1 none (some at_7)) (cutL s_6.2.1 (some (at_7 + 1)) none)) (p_addL eI (cutL s_6.2.1 none (some at_7)) (cutL s_6.2.1 (some (at_7 + 1)) none)) (tp_slL (tp_var 2 (eL eI) s_6.2.1 rfl) tp_no (tp_part (tp_var 5 eI at_7 rfl))) (tp_slL (tp_var 2 (eL eI) s_6.2.1 rfl) (tp_part (tp2v eI (at_7 + 1) (o_add at_7 1) (tp_var 5 eI at_7 rfl) (tp_c eI 1))) tp_no)) (fun (left_10 : (List Int)) =>
(tb_end (s := (number_8, left_10, found_9)) (sub_cons rfl (sub_cons rfl (sub_cons rfl (sub_cons rfl sub_nil))))))))))))))) (sub_cons rfl (sub_cons rfl (sub_cons rfl (sub_cons rfl sub_nil)))) (fun (s_11 : (Int × (List Int) × (List Int))) =>
(tb_retP (tp1v (eT eI) s_11.2.2 (o_totupL eI s_11.2.2) (tp_var 3 (eL eI) s_11.2.2 rfl))))))))))
  exact h
def b__law_same (self : PyData → PyData → R Bool) (found_1 : PyData) (due_2 : PyData) : R Bool :=
(TF.run (fun z => nomatch z) (σ := Empty) (
((boolR (dIsi .tuple due_2)).tf fun c => if c then ((((boolR (dIsi .tuple found_1)).bind fun x => .ok (!x)).bind fun c => if c then .ok true else ((intR (dLen found_1)).bind fun x => (intR (dLen due_2)).bind fun y => .ok (!eqE eI x y))).tf fun c => if c then .rt false else
(((((intR (dLen due_2)).bind rng1).bind fun l => noEx (compR0 (fun (z_3 : Int) => ((dIxS found_1 (eI z_3)).bind fun a0 => (dIxS due_2 (eI z_3)).bind fun a1 => self a0 a1)) l)).bind (fun x => .ok (x.all id))).tf .rt)) else
(((boolR (dIsi .bool due_2)).bind fun c => if c then .ok true else (boolR (dIsi .int due_2))).tf fun c => if c then (((boolR (dIsi .int found_1)).bind fun c => if c then (((boolR (dIsi .bool found_1)).bind fun x => (boolR (dIsi .bool due_2)).bind fun y => .ok (eqE eB x y)).bind fun c => if c then (boolR (dEq found_1 due_2)) else .ok false) else .ok false).tf .rt) else
(((boolR (dIsi .str found_1)).bind fun c => if c then (boolR (dEq found_1 due_2)) else .ok false).tf .rt)))))
def f__law_same : Nat → PyData → PyData → R Bool
  | 0 => fun _ _ => .bad
  | n + 1 => b__law_same (f__law_same n)
theorem rb__law_same {self : PyData → PyData → R Bool} {m_self : List PyData → R PyData} (hs : ∀ (found_1 : PyData) (due_2 : PyData), Rf eB (self found_1 due_2) (m_self [eX found_1, eX due_2])) (found_1 : PyData) (due_2 : PyData) : Rf eB (b__law_same self found_1 due_2) (runF (g__law_same m_self (startD N__law_same [eX found_1, eX due_2]))) := by
  have h := (rf_fun0 (Ns := N__law_same) (ds := [eX found_1, eX due_2]) (e := eB) (Nat.le_of_ble_eq_true rfl) [(0, eX found_1), (1, eX due_2)] rfl
(tb_ifE sub_nil (ex_seq ex_ret) (te_dB (te1v (et := eB) (boolR (dIsi .tuple due_2)) (p_boolR _) (tp_var 1 eX due_2 rfl))) (tb_ifE sub_nil ex_ret (te_bor (te_bnot (te_dB (te1v (et := eB) (boolR (dIsi .tuple found_1)) (p_boolR _) (tp_var 0 eX found_1 rfl)))) (te_dB (te2ee (ea := eI) (eb := eI) (et := eB) (fun x y => .ok (!eqE eI x y)) (fun x y => (o_ne eI (by decide) x y)) (te1v (gu := (dLen)) (et := eI) (intR (dLen found_1)) (p_intR _) (tp_var 0 eX found_1 rfl)) (te1v (gu := (dLen)) (et := eI) (intR (dLen due_2)) (p_intR _) (tp_var 1 eX due_2 rfl))))) (tb_retP (tp_c eB false))
(tb_ret (te1e (gu := (dAll)) (ea := (eL eB)) (et := eB) (fun x => .ok (x.all id)) (fun x => (o_all x)) (te_lc0 (tl := fun (z_3 : Int) => ((dIxS found_1 (eI z_3)).bind fun a0 => (dIxS due_2 (eI z_3)).bind fun a1 => self a0 a1)) (eb := eB) (tg_one 2 eI) (te_rng1 (te1v (gu := (dLen)) (et := eI) (intR (dLen due_2)) (p_intR _) (tp_var 1 eX due_2 rfl))) (fun (z_3 : Int) => (te_call (e := eB) (tea_cons (te2v (et := eX) (dIxS found_1 (eI z_3)) (p_any _) (tp_var 0 eX found_1 rfl) (TP.coe (e := eX) (t := (eI z_3)) (tp_var 2 eI z_3 rfl) rfl)) (fun a0 => (tea_cons (te2v (et := eX) (dIxS due_2 (eI z_3)) (p_any _) (tp_var 1 eX due_2 rfl) (TP.coe (e := eX) (t := (eI z_3)) (tp_var 2 eI z_3 rfl) rfl)) (fun a1 => (tea_nil (hs a0 a1)))))))))) sub_nil))
(tb_ifE sub_nil ex_ret (te_bor (te_dB (te1v (et := eB) (boolR (dIsi .bool due_2)) (p_boolR _) (tp_var 1 eX due_2 rfl))) (te_dB (te1v (et := eB) (boolR (dIsi .int due_2)) (p_boolR _) (tp_var 1 eX due_2 rfl)))) (tb_ret (te_and (te1v (et := eB) (boolR (dIsi .int found_1)) (p_boolR _) (tp_var 0 eX found_1 rfl)) (te_and (te2ee (ea := eB) (eb := eB) (et := eB) (fun x y => .ok (eqE eB x y)) (fun x y => (o_eq eB (by decide) x y)) (te1v (et := eB) (boolR (dIsi .bool found_1)) (p_boolR _) (tp_var 0 eX found_1 rfl)) (te1v (et := eB) (boolR (dIsi .bool due_2)) (p_boolR _) (tp_var 1 eX due_2 rfl))) (te2v (et := eB) (boolR (dEq found_1 due_2)) (p_boolR _) (tp_var 0 eX found_1 rfl) (tp_var 1 eX due_2 rfl)))) sub_nil)
(tb_ret (te_and (te1v (et := eB) (boolR (dIsi .str found_1)) (p_boolR _) (tp_var 0 eX found_1 rfl)) (te2v (et := eB) (boolR (dEq found_1 due_2)) (p_boolR _) (tp_var 0 eX found_1 rfl) (tp_var 1 eX due_2 rfl))) sub_nil))))
  exact h
theorem r__law_same : ∀ (n : Nat) (found_1 : PyData) (due_2 : PyData), Rf eB (f__law_same n found_1 due_2) (m__law_same n [eX found_1, eX due_2])
  | 0, _, _ => trivial
  | n + 1, found_1, due_2 => rb__law_same (r__law_same n) found_1 due_2
@[irreducible] def i__law_same (found_1 : PyData) (due_2 : PyData) : R Bool := f__law_same 6 found_1 due_2
theorem i__law_same_eq (found_1 : PyData) (due_2 : PyData) : i__law_same found_1 due_2 = f__law_same 6 found_1 due_2 := by unfold i__law_same; rfl
theorem ri__law_same (found_1 : PyData) (due_2 : PyData) : Rf eB (i__law_same found_1 due_2) (m__law_same 6 [eX found_1, eX due_2]) := by rw [i__law_same_eq]; exact r__law_same 6 found_1 due_2
def f__law_marks (world_here_1 : (Int × (List (PySem.Str × (List Int))) × (List (PySem.Str × (List (Int × Int)))))) (found_2 : (List (PySem.Str × (List Int)))) (order_here_3 : (List Int)) : R Bool :=
(TF.run (fun z => nomatch z) (σ := Empty) (
(if ((!true) || (!eqE eI (found_2.length : Int) (world_here_1.2.1.length : Int))) then .rt false else
TF.seq ((zipR world_here_1.2.1 found_2).tf fun xs => forT (fun (i_4 : ((PySem.Str × (List Int)) × (PySem.Str × (List Int)))) (s_5 : Unit) =>
((noEx (compR0 (fun (z_6 : Int) => (ixI order_here_3 z_6)) i_4.1.2)).tf fun (points_7 : (List Int)) =>
(((((rng1 world_here_1.1).bind fun l => .ok ((l.filter fun (z_8 : Int) => (inE eI z_8 points_7)).map fun (z_8 : Int) => z_8)).bind (fun x => .ok x)).bind fun x0 => .ok (i_4.1.1, x0)).tf fun (due_9 : (PySem.Str × (List Int))) =>
(((i__law_same ((eP2 eS (eT eI)) i_4.2) ((eP2 eS (eT eI)) due_9)).bind fun x => .ok (!x)).tf fun c => if c then .rt false else
.nx ())))) xs ()) (fun (s_10 : Unit) =>
.rt true))))
theorem r__law_marks (world_here_1 : (Int × (List (PySem.Str × (List Int))) × (List (PySem.Str × (List (Int × Int)))))) (found_2 : (List (PySem.Str × (List Int)))) (order_here_3 : (List Int)) : Rf eB (f__law_marks world_here_1 found_2 order_here_3) (m__law_marks [(eP3 eI (eT (eP2 eS (eT eI))) (eT (eP2 eS (eT (eP2 eI eI))))) world_here_1, (eT (eP2 eS (eT eI))) found_2, (eT eI) order_here_3]) := by
  have h := (rf_fun0 (Ns := N__law_marks) (ds := [(eP3 eI (eT (eP2 eS (eT eI))) (eT (eP2 eS (eT (eP2 eI eI))))) world_here_1, (eT (eP2 eS (eT eI))) found_2, (eT eI) order_here_3]) (e := eB) (Nat.le_of_ble_eq_true rfl) [(0, (eP3 eI (eT (eP2 eS (eT eI))) (eT (eP2 eS (eT (eP2 eI eI))))) world_here_1), (1, (eT (eP2 eS (eT eI))) found_2), (2, (eT eI) order_here_3)] rfl
(tb_ifEP ex_ret (tp_bor (tp_bnot (tp_dB (tp1v (g := (dIsi .tuple)) eB true rfl (tp_var 1 (eT (eP2 eS (eT eI))) found_2 rfl)))) (tp_dB (tp2v eB (!eqE eI (found_2.length : Int) (world_here_1.2.1.length : Int)) (o_ne eI (by decide) (found_2.length : Int) (world_here_1.2.1.length : Int)) (tp1v (g := (dLen)) eI (found_2.length : Int) (o_lenT (eP2 eS (eT eI)) found_2) (tp_var 1 (eT (eP2 eS (eT eI))) found_2 rfl)) (tp1v (g := (dLen)) eI (world_here_1.2.1.length : Int) (o_lenT (eP2 eS (eT eI)) world_here_1.2.1) (tp2v (g := dIxS) (eT (eP2 eS (eT eI))) world_here_1.2.1 rfl (tp_var 0 (eP3 eI (eT (eP2 eS (eT eI))) (eT (eP2 eS (eT (eP2 eI eI))))) world_here_1 rfl) (tp_c eI 1)))))) (tb_retP (tp_c eB false))
(tb_for (fun (s_5 : Unit) => [(0, (eP3 eI (eT (eP2 eS (eT eI))) (eT (eP2 eS (eT (eP2 eI eI))))) world_here_1), (1, (eT (eP2 eS (eT eI))) found_2), (2, (eT eI) order_here_3)]) () sub_nil (tg_two 3 4 (eP2 eS (eT eI)) (eP2 eS (eT eI))) (te_zipT (a := (eP2 eS (eT eI))) (b := (eP2 eS (eT eI))) (TP.te (tp2v (g := dIxS) (eT (eP2 eS (eT eI))) world_here_1.2.1 rfl (tp_var 0 (eP3 eI (eT (eP2 eS (eT eI))) (eT (eP2 eS (eT (eP2 eI eI))))) world_here_1 rfl) (tp_c eI 1))) (TP.te (tp_var 1 (eT (eP2 eS (eT eI))) found_2 rfl))) (fun (i_4 : ((PySem.Str × (List Int)) × (PySem.Str × (List Int)))) (s_5 : Unit) =>
(tb_set 5 sub_nil (te_lc0P (tl := fun (z_6 : Int) => (ixI order_here_3 z_6)) (eb := eI) (tg_one 7 eI) (tp_itT (tp2v (g := dIxS) (eT eI) i_4.1.2 rfl (tp_var 3 (eP2 eS (eT eI)) i_4.1 rfl) (tp_c eI 1))) (fun (z_6 : Int) => (te2v (et := eI) (ixI order_here_3 z_6) (p_ixT eI order_here_3 z_6) (tp_var 2 (eT eI) order_here_3 rfl) (tp_var 7 eI z_6 rfl)))) (fun (points_7 : (List Int)) =>
(tb_set 6 sub_nil (te_tup (e := (eP2 eS (eT eI))) (tea_consP (tp2v (g := dIxS) eS i_4.1.1 rfl (tp_var 3 (eP2 eS (eT eI)) i_4.1 rfl) (tp_c eI 0)) (tea_cons (te1e (ea := (eL eI)) (et := (eT eI)) (fun x => .ok x) (fun x => (o_totupL eI x)) (te_lcE (tc := fun (z_8 : Int) => (inE eI z_8 points_7)) (tl := fun (z_8 : Int) => z_8) (eb := eI) (tg_one 7 eI) (te_rng1 (TP.te (tp2v (g := dIxS) eI world_here_1.1 rfl (tp_var 0 (eP3 eI (eT (eP2 eS (eT eI))) (eT (eP2 eS (eT (eP2 eI eI))))) world_here_1 rfl) (tp_c eI 0)))) (fun (z_8 : Int) => (tp_dB (tp2v eB (inE eI z_8 points_7) (o_inL eI (by decide) z_8 points_7) (tp_var 7 eI z_8 rfl) (tp_var 5 (eL eI) points_7 rfl)))) (fun (z_8 : Int) => (tp_var 7 eI z_8 rfl)))) (fun x0 => (tea_nil (rt := .ok (i_4.1.1, x0)) rfl))))) (fun (due_9 : (PySem.Str × (List Int))) =>
(tb_last (tb_ifE sub_nil ex_ret (te_bnot (te_dB (tp_callP (e := eB) (tpa_cons (TP.coe (e := eX) (t := ((eP2 eS (eT eI)) i_4.2)) (tp_var 4 (eP2 eS (eT eI)) i_4.2 rfl) rfl) (tpa_cons (TP.coe (e := eX) (t := ((eP2 eS (eT eI)) due_9)) (tp_var 6 (eP2 eS (eT eI)) due_9 rfl) rfl) tpa_nil)) (ri__law_same ((eP2 eS (eT eI)) i_4.2) ((eP2 eS (eT eI)) due_9))))) (tb_retP (tp_c eB false))
(tb_end (s := ()) (sub_cons rfl (sub_cons rfl (sub_cons rfl sub_nil))))))))))) (sub_cons rfl (sub_cons rfl (sub_cons rfl sub_nil))) (fun (s_10 : Unit) =>
(tb_retP (tp_c eB true))))))
  exact h
def f__law_arrows (world_here_1 : (Int × (List (PySem.Str × (List Int))) × (List (PySem.Str × (List (Int × Int)))))) (found_2 : (List (PySem.Str × (List (Int × Int))))) (order_here_3 : (List Int)) : R Bool :=
(TF.run (fun z => nomatch z) (σ := Empty) (
(if ((!true) || (!eqE eI (found_2.length : Int) (world_here_1.2.2.length : Int))) then .rt false else
TF.seq ((zipR world_here_1.2.2 found_2).tf fun xs => forT (fun (i_4 : ((PySem.Str × (List (Int × Int))) × (PySem.Str × (List (Int × Int))))) (s_5 : Unit) =>
((noEx (compR0 (fun (z_6 : (Int × Int)) => ((ixI order_here_3 z_6.1).bind fun x0 => (ixI order_here_3 z_6.2).bind fun x1 => .ok (x0, x1))) i_4.1.2)).tf fun (pairs_here_7 : (List (Int × Int))) =>
let due_8 : (List (Int × Int)) := ([] : (List (Int × Int)))
TF.seq ((rng1 world_here_1.1).tf fun xs => forT (fun (i_9 : Int) (s_10 : (List (Int × Int))) =>
((((rng1 world_here_1.1).bind fun l => .ok ((l.filter fun (z_11 : Int) => (inE (eP2 eI eI) (i_9, z_11) pairs_here_7)).map fun (z_11 : Int) => (i_9, z_11))).bind (fun y => (exten s_10 y))).tf fun (due_12 : (List (Int × Int))) =>
.nx due_12)) xs due_8) (fun (s_13 : (List (Int × Int))) =>
(((i__law_same ((eP2 eS (eT (eP2 eI eI))) i_4.2) ((eP2 eS (eT (eP2 eI eI))) (i_4.1.1, s_13))).bind fun x => .ok (!x)).tf fun c => if c then .rt false else
.nx ())))) xs ()) (fun (s_14 : Unit) =>
.rt true))))
theorem r__law_arrows (world_here_1 : (Int × (List (PySem.Str × (List Int))) × (List (PySem.Str × (List (Int × Int)))))) (found_2 : (List (PySem.Str × (List (Int × Int))))) (order_here_3 : (List Int)) : Rf eB (f__law_arrows world_here_1 found_2 order_here_3) (m__law_arrows [(eP3 eI (eT (eP2 eS (eT eI))) (eT (eP2 eS (eT (eP2 eI eI))))) world_here_1, (eT (eP2 eS (eT (eP2 eI eI)))) found_2, (eT eI) order_here_3]) := by
  have h := (rf_fun0 (Ns := N__law_arrows) (ds := [(eP3 eI (eT (eP2 eS (eT eI))) (eT (eP2 eS (eT (eP2 eI eI))))) world_here_1, (eT (eP2 eS (eT (eP2 eI eI)))) found_2, (eT eI) order_here_3]) (e := eB) (Nat.le_of_ble_eq_true rfl) [(0, (eP3 eI (eT (eP2 eS (eT eI))) (eT (eP2 eS (eT (eP2 eI eI))))) world_here_1), (1, (eT (eP2 eS (eT (eP2 eI eI)))) found_2), (2, (eT eI) order_here_3)] rfl
(tb_ifEP ex_ret (tp_bor (tp_bnot (tp_dB (tp1v (g := (dIsi .tuple)) eB true rfl (tp_var 1 (eT (eP2 eS (eT (eP2 eI eI)))) found_2 rfl)))) (tp_dB (tp2v eB (!eqE eI (found_2.length : Int) (world_here_1.2.2.length : Int)) (o_ne eI (by decide) (found_2.length : Int) (world_here_1.2.2.length : Int)) (tp1v (g := (dLen)) eI (found_2.length : Int) (o_lenT (eP2 eS (eT (eP2 eI eI))) found_2) (tp_var 1 (eT (eP2 eS (eT (eP2 eI eI)))) found_2 rfl)) (tp1v (g := (dLen)) eI (world_here_1.2.2.length : Int) (o_lenT (eP2 eS (eT (eP2 eI eI))) world_here_1.2.2) (tp2v (g := dIxS) (eT (eP2 eS (eT (eP2 eI eI)))) world_here_1.2.2 rfl (tp_var 0 (eP3 eI (eT (eP2 eS (eT eI))) (eT (eP2 eS (eT (eP2 eI eI))))) world_here_1 rfl) (tp_c eI 2)))))) (tb_retP (tp_c eB false))
(tb_for (fun (s_5 : Unit) => [(0, (eP3 eI (eT (eP2 eS (eT eI))) (eT (eP2 eS (eT (eP2 eI eI))))) world_here_1), (1, (eT (eP2 eS (eT (eP2 eI eI)))) found_2), (2, (eT eI) order_here_3)]) () sub_nil (tg_two 3 4 (eP2 eS (eT (eP2 eI eI))) (eP2 eS (eT (eP2 eI eI)))) (te_zipT (a := (eP2 eS (eT (eP2 eI eI)))) (b := (eP2 eS (eT (eP2 eI eI)))) (TP.te (tp2v (g := dIxS) (eT (eP2 eS (eT (eP2 eI eI)))) world_here_1.2.2 rfl (tp_var 0 (eP3 eI (eT (eP2 eS (eT eI))) (eT (eP2 eS (eT (eP2 eI eI))))) world_here_1 rfl) (tp_c eI 2))) (TP.te (tp_var 1 (eT (eP2 eS (eT (eP2 eI eI)))) found_2 rfl))) (fun (i_4 : ((PySem.Str × (List (Int × Int))) × (PySem.Str × (List (Int × Int))))) (s_5 : Unit) =>
(tb_set 5 sub_nil (te_lc0P (tl := fun (z_6 : (Int × Int)) => ((ixI order_here_3 z_6.1).bind fun x0 => (ixI order_here_3 z_6.2).bind fun x1 => .ok (x0, x1))) (eb := (eP2 eI eI)) (tg_two 7 8 eI eI) (tp_itT (tp2v (g := dIxS) (eT (eP2 eI eI)) i_4.1.2 rfl (tp_var 3 (eP2 eS (eT (eP2 eI eI))) i_4.1 rfl) (tp_c eI 1))) (fun (z_6 : (Int × Int)) => (te_tup (e := (eP2 eI eI)) (tea_cons (te2v (et := eI) (ixI order_here_3 z_6.1) (p_ixT eI order_here_3 z_6.1) (tp_var 2 (eT eI) order_here_3 rfl) (tp_var 7 eI z_6.1 rfl)) (fun x0 => (tea_cons (te2v (et := eI) (ixI order_here_3 z_6.2) (p_ixT eI order_here_3 z_6.2) (tp_var 2 (eT eI) order_here_3 rfl) (tp_var 8 eI z_6.2 rfl)) (fun x1 => (tea_nil (rt := .ok (x0, x1)) rfl)))))))) (fun (pairs_here_7 : (List (Int × Int))) =>
(tb_setP 6 (tp_lst (eL (eP2 eI eI)) ([] : (List (Int × Int))) tpa_nil rfl) (fun (due_8 : (List (Int × Int))) =>
(tb_for (fun (s_10 : (List (Int × Int))) => [(6, (eL (eP2 eI eI)) s_10), (0, (eP3 eI (eT (eP2 eS (eT eI))) (eT (eP2 eS (eT (eP2 eI eI))))) world_here_1), (1, (eT (eP2 eS (eT (eP2 eI eI)))) found_2), (2, (eT eI) order_here_3), (3, (eP2 eS (eT (eP2 eI eI))) i_4.1), (4, (eP2 eS (eT (eP2 eI eI))) i_4.2), (5, (eL (eP2 eI eI)) pairs_here_7)]) due_8 sub_nil (tg_one 7 eI) (te_rng1 (TP.te (tp2v (g := dIxS) eI world_here_1.1 rfl (tp_var 0 (eP3 eI (eT (eP2 eS (eT eI))) (eT (eP2 eS (eT (eP2 eI eI))))) world_here_1 rfl) (tp_c eI 0)))) (fun (i_9 : Int) (s_10 : (List (Int × Int))) =>
(tb_last (tb_set 6 sub_nil (te2pe (ea := (eL (eP2 eI eI))) (eb := (eL (eP2 eI eI))) (a := s_10) (et := (eL (eP2 eI eI))) (fun y => (exten s_10 y)) (fun y => (p_addL (eP2 eI eI) s_10 y)) (tp_var 6 (eL (eP2 eI eI)) s_10 rfl) (te_lcE (tc := fun (z_11 : Int) => (inE (eP2 eI eI) (i_9, z_11) pairs_here_7)) (tl := fun (z_11 : Int) => (i_9, z_11)) (eb := (eP2 eI eI)) (tg_one 8 eI) (te_rng1 (TP.te (tp2v (g := dIxS) eI world_here_1.1 rfl (tp_var 0 (eP3 eI (eT (eP2 eS (eT eI))) (eT (eP2 eS (eT (eP2 eI eI))))) world_here_1 rfl) (tp_c eI 0)))) (fun (z_11 : Int) => (tp_dB (tp2v eB (inE (eP2 eI eI) (i_9, z_11) pairs_here_7) (o_inL (eP2 eI eI) (by decide) (i_9, z_11) pairs_here_7) (tp_tup (eP2 eI eI) (i_9, z_11) (tpa_cons (tp_var 7 eI i_9 rfl) (tpa_cons (tp_var 8 eI z_11 rfl) tpa_nil)) rfl) (tp_var 5 (eL (eP2 eI eI)) pairs_here_7 rfl)))) (fun (z_11 : Int) => (tp_tup (eP2 eI eI) (i_9, z_11) (tpa_cons (tp_var 7 eI i_9 rfl) (tpa_cons (tp_var 8 eI z_11 rfl) tpa_nil)) rfl)))) (fun (due_12 : (List (Int × Int))) =>
(tb_end (s := due_12) (sub_cons rfl (sub_cons rfl (sub_cons rfl (sub_cons rfl (sub_cons rfl (sub_cons rfl (sub_cons rfl sub_nil)))))))))))) (sub_cons rfl (sub_cons rfl (sub_cons rfl (sub_cons rfl (sub_cons rfl (sub_cons rfl (sub_cons rfl sub_nil))))))) (fun (s_13 : (List (Int × Int))) =>
(tb_last (tb_ifE sub_nil ex_ret (te_bnot (te_dB (tp_callP (e := eB) (tpa_cons (TP.coe (e := eX) (t := ((eP2 eS (eT (eP2 eI eI))) i_4.2)) (tp_var 4 (eP2 eS (eT (eP2 eI eI))) i_4.2 rfl) rfl) (tpa_cons (TP.coe (e := eX) (t := ((eP2 eS (eT (eP2 eI eI))) (i_4.1.1, s_13))) (tp_tup (eP2 eS (eT (eP2 eI eI))) (i_4.1.1, s_13) (tpa_cons (tp2v (g := dIxS) eS i_4.1.1 rfl (tp_var 3 (eP2 eS (eT (eP2 eI eI))) i_4.1 rfl) (tp_c eI 0)) (tpa_cons (tp1v (eT (eP2 eI eI)) s_13 (o_totupL (eP2 eI eI) s_13) (tp_var 6 (eL (eP2 eI eI)) s_13 rfl)) tpa_nil)) rfl) rfl) tpa_nil)) (ri__law_same ((eP2 eS (eT (eP2 eI eI))) i_4.2) ((eP2 eS (eT (eP2 eI eI))) (i_4.1.1, s_13)))))) (tb_retP (tp_c eB false))
(tb_end (s := ()) (sub_cons rfl (sub_cons rfl (sub_cons rfl sub_nil))))))))))))) (sub_cons rfl (sub_cons rfl (sub_cons rfl sub_nil))) (fun (s_14 : Unit) =>
(tb_retP (tp_c eB true))))))
  exact h
def f_law (script_1 : (List Int)) : R Bool :=
(TF.run (fun z => nomatch z) (σ := Empty) (
((((f__law_cell script_1 0).bind (fun x => .ok (x % 8))).bind (fun y => .ok (1 + y))).tf fun (many_2 : Int) =>
((((f__law_cell script_1 1).bind fun a0 => f__law_tongue a0).bind fun a0 => f__law_world script_1 2 many_2 a0).tf fun (world_here_3 : (Int × (List (PySem.Str × (List Int))) × (List (PySem.Str × (List (Int × Int)))))) =>
(((f__law_cell script_1 8).bind fun a0 => f__law_order a0 many_2).tf fun (one_4 : (List Int)) =>
(((f__law_cell script_1 9).bind fun a0 => f__law_order a0 many_2).tf fun (two_5 : (List Int)) =>
TF.seq (forT (fun (i_6 : (List Int)) (s_7 : Unit) =>
((f_moved world_here_3 i_6).tf fun (found_8 : (Int × (List (PySem.Str × (List Int))) × (List (PySem.Str × (List (Int × Int)))))) =>
((if (!true) then .ok true else (if (!eqE eI 3 3) then .ok true else ((i__law_same (eI found_8.1) (eI many_2)).bind fun x => .ok (!x)))).tf fun c => if c then .rt false else
((((f__law_marks world_here_3 found_8.2.1 i_6).bind fun x => .ok (!x)).bind fun c => if c then .ok true else ((f__law_arrows world_here_3 found_8.2.2 i_6).bind fun x => .ok (!x))).tf fun c => if c then .rt false else
.nx ())))) ([one_4, two_5] : (List (List Int))) ()) (fun (s_9 : Unit) =>
((((rng1 many_2).bind fun l => noEx (compR0 (fun (z_10 : Int) => ((ixI one_4 z_10).bind (fun y => (ixI two_5 y)))) l)).bind (fun x => .ok x)).tf fun (both_11 : (List Int)) =>
((((rng1 many_2).bind fun l => noEx (compR0 (fun (z_12 : Int) => ((R.ok one_4).bind fun x => (R.ok z_12).bind fun y => firstE eI y x)) l)).bind (fun x => .ok x)).tf fun (back_13 : (List Int)) =>
(((((f_moved world_here_3 one_4).bind fun a0 => f_moved a0 two_5).bind fun x => (f_moved world_here_3 both_11).bind fun y => .ok (!eqE (eP3 eI (eT (eP2 eS (eT eI))) (eT (eP2 eS (eT (eP2 eI eI))))) x y)).bind fun c => if c then .ok true else (((f_moved world_here_3 one_4).bind fun a0 => f_moved a0 back_13).bind (fun x => .ok (!eqE (eP3 eI (eT (eP2 eS (eT eI))) (eT (eP2 eS (eT (eP2 eI eI))))) x world_here_3)))).tf fun c => if c then .rt false else
(((((f__law_cell script_1 1).bind fun a0 => f__law_tongue a0).bind fun a0 => f__law_world script_1 2 many_2 a0).bind (fun y => .ok (eqE (eP3 eI (eT (eP2 eS (eT eI))) (eT (eP2 eS (eT (eP2 eI eI))))) world_here_3 y))).tf .rt)))))))))))
theorem r_law (script_1 : (List Int)) : Rf eB (f_law script_1) (m_law [(eL eI) script_1]) := by
  have h := (rf_fun0 (Ns := N_law) (ds := [(eL eI) script_1]) (e := eB) (Nat.le_of_ble_eq_true rfl) [(0, (eL eI) script_1)] rfl
(tb_set 1 sub_nil (te2pe (ea := eI) (eb := eI) (a := 1) (et := eI) (fun y => .ok (1 + y)) (fun y => (o_add 1 y)) (tp_c eI 1) (te2ep (ea := eI) (eb := eI) (b := 8) (et := eI) (fun x => .ok (x % 8)) (fun x => (o_modC x 8)) (tp_callP (e := eI) (tpa_cons (tp_var 0 (eL eI) script_1 rfl) (tpa_cons (tp_c eI 0) tpa_nil)) (r__law_cell script_1 0)) (tp_c eI 8))) (fun (many_2 : Int) =>
(tb_set 2 sub_nil (te_call (e := (eP3 eI (eT (eP2 eS (eT eI))) (eT (eP2 eS (eT (eP2 eI eI)))))) (tea_consP (tp_var 0 (eL eI) script_1 rfl) (tea_consP (tp_c eI 2) (tea_consP (tp_var 1 eI many_2 rfl) (tea_cons (te_call (e := (eP2 (eT eS) (eT eS))) (tea_cons (tp_callP (e := eI) (tpa_cons (tp_var 0 (eL eI) script_1 rfl) (tpa_cons (tp_c eI 1) tpa_nil)) (r__law_cell script_1 1)) (fun a0 => (tea_nil (r__law_tongue a0))))) (fun a0 => (tea_nil (r__law_world script_1 2 many_2 a0)))))))) (fun (world_here_3 : (Int × (List (PySem.Str × (List Int))) × (List (PySem.Str × (List (Int × Int)))))) =>
(tb_set 3 sub_nil (te_call (e := (eT eI)) (tea_cons (tp_callP (e := eI) (tpa_cons (tp_var 0 (eL eI) script_1 rfl) (tpa_cons (tp_c eI 8) tpa_nil)) (r__law_cell script_1 8)) (fun a0 => (tea_consP (tp_var 1 eI many_2 rfl) (tea_nil (r__law_order a0 many_2)))))) (fun (one_4 : (List Int)) =>
(tb_set 4 sub_nil (te_call (e := (eT eI)) (tea_cons (tp_callP (e := eI) (tpa_cons (tp_var 0 (eL eI) script_1 rfl) (tpa_cons (tp_c eI 9) tpa_nil)) (r__law_cell script_1 9)) (fun a0 => (tea_consP (tp_var 1 eI many_2 rfl) (tea_nil (r__law_order a0 many_2)))))) (fun (two_5 : (List Int)) =>
(tb_forP (fun (s_7 : Unit) => [(0, (eL eI) script_1), (1, eI many_2), (2, (eP3 eI (eT (eP2 eS (eT eI))) (eT (eP2 eS (eT (eP2 eI eI))))) world_here_3), (3, (eT eI) one_4), (4, (eT eI) two_5)]) () (tg_one 5 (eT eI)) (tp_itL (tp_lst (eL (eT eI)) ([one_4, two_5] : (List (List Int))) (tpa_cons (tp_var 3 (eT eI) one_4 rfl) (tpa_cons (tp_var 4 (eT eI) two_5 rfl) tpa_nil)) rfl)) (fun (i_6 : (List Int)) (s_7 : Unit) =>
(tb_set 8 sub_nil (tp_callP (e := (eP3 eI (eT (eP2 eS (eT eI))) (eT (eP2 eS (eT (eP2 eI eI)))))) (tpa_cons (tp_var 2 (eP3 eI (eT (eP2 eS (eT eI))) (eT (eP2 eS (eT (eP2 eI eI))))) world_here_3 rfl) (tpa_cons (tp_var 5 (eT eI) i_6 rfl) tpa_nil)) (r_moved world_here_3 i_6)) (fun (found_8 : (Int × (List (PySem.Str × (List Int))) × (List (PySem.Str × (List (Int × Int)))))) =>
(tb_ifE sub_nil ex_ret (te_borP (tp_bnot (tp_dB (tp1v (g := (dIsi .tuple)) eB true rfl (tp_var 8 (eP3 eI (eT (eP2 eS (eT eI))) (eT (eP2 eS (eT (eP2 eI eI))))) found_8 rfl)))) (te_borP (tp_dB (tp2v eB (!eqE eI 3 3) (o_ne eI (by decide) 3 3) (tp1v (g := (dLen)) eI 3 rfl (tp_var 8 (eP3 eI (eT (eP2 eS (eT eI))) (eT (eP2 eS (eT (eP2 eI eI))))) found_8 rfl)) (tp_c eI 3))) (te_bnot (te_dB (tp_callP (e := eB) (tpa_cons (TP.coe (e := eX) (t := (eI found_8.1)) (tp2v (g := dIxS) eI found_8.1 rfl (tp_var 8 (eP3 eI (eT (eP2 eS (eT eI))) (eT (eP2 eS (eT (eP2 eI eI))))) found_8 rfl) (tp_c eI 0)) rfl) (tpa_cons (TP.coe (e := eX) (t := (eI many_2)) (tp_var 1 eI many_2 rfl) rfl) tpa_nil)) (ri__law_same (eI found_8.1) (eI many_2))))))) (tb_retP (tp_c eB false))
(tb_last (tb_ifE sub_nil ex_ret (te_bor (te_bnot (te_dB (tp_callP (e := eB) (tpa_cons (tp_var 2 (eP3 eI (eT (eP2 eS (eT eI))) (eT (eP2 eS (eT (eP2 eI eI))))) world_here_3 rfl) (tpa_cons (tp2v (g := dIxS) (eT (eP2 eS (eT eI))) found_8.2.1 rfl (tp_var 8 (eP3 eI (eT (eP2 eS (eT eI))) (eT (eP2 eS (eT (eP2 eI eI))))) found_8 rfl) (tp_c eI 1)) (tpa_cons (tp_var 5 (eT eI) i_6 rfl) tpa_nil))) (r__law_marks world_here_3 found_8.2.1 i_6)))) (te_bnot (te_dB (tp_callP (e := eB) (tpa_cons (tp_var 2 (eP3 eI (eT (eP2 eS (eT eI))) (eT (eP2 eS (eT (eP2 eI eI))))) world_here_3 rfl) (tpa_cons (tp2v (g := dIxS) (eT (eP2 eS (eT (eP2 eI eI)))) found_8.2.2 rfl (tp_var 8 (eP3 eI (eT (eP2 eS (eT eI))) (eT (eP2 eS (eT (eP2 eI eI))))) found_8 rfl) (tp_c eI 2)) (tpa_cons (tp_var 5 (eT eI) i_6 rfl) tpa_nil))) (r__law_arrows world_here_3 found_8.2.2 i_6))))) (tb_retP (tp_c eB false))
(tb_end (s := ()) (sub_cons rfl (sub_cons rfl (sub_cons rfl (sub_cons rfl (sub_cons rfl sub_nil)))))))))))) (sub_cons rfl (sub_cons rfl (sub_cons rfl (sub_cons rfl (sub_cons rfl sub_nil))))) (fun (s_9 : Unit) =>
(tb_set 6 sub_nil (te1e (ea := (eL eI)) (et := (eT eI)) (fun x => .ok x) (fun x => (o_totupL eI x)) (te_lc0 (tl := fun (z_10 : Int) => ((ixI one_4 z_10).bind (fun y => (ixI two_5 y)))) (eb := eI) (tg_one 9 eI) (te_rng1 (TP.te (tp_var 1 eI many_2 rfl))) (fun (z_10 : Int) => (te2pe (ea := (eT eI)) (eb := eI) (a := two_5) (et := eI) (fun y => (ixI two_5 y)) (fun y => (p_ixT eI two_5 y)) (tp_var 4 (eT eI) two_5 rfl) (te2v (et := eI) (ixI one_4 z_10) (p_ixT eI one_4 z_10) (tp_var 3 (eT eI) one_4 rfl) (tp_var 9 eI z_10 rfl)))))) (fun (both_11 : (List Int)) =>
(tb_set 7 sub_nil (te1e (ea := (eL eI)) (et := (eT eI)) (fun x => .ok x) (fun x => (o_totupL eI x)) (te_lc0 (tl := fun (z_12 : Int) => ((R.ok one_4).bind fun x => (R.ok z_12).bind fun y => firstE eI y x)) (eb := eI) (tg_one 9 eI) (te_rng1 (TP.te (tp_var 1 eI many_2 rfl))) (fun (z_12 : Int) => (te_idxT (TP.te (tp_var 3 (eT eI) one_4 rfl)) (TP.te (tp_var 9 eI z_12 rfl)))))) (fun (back_13 : (List Int)) =>
(tb_ifE sub_nil ex_ret (te_bor (te_dB (te2ee (ea := (eP3 eI (eT (eP2 eS (eT eI))) (eT (eP2 eS (eT (eP2 eI eI)))))) (eb := (eP3 eI (eT (eP2 eS (eT eI))) (eT (eP2 eS (eT (eP2 eI eI)))))) (et := eB) (fun x y => .ok (!eqE (eP3 eI (eT (eP2 eS (eT eI))) (eT (eP2 eS (eT (eP2 eI eI))))) x y)) (fun x y => (o_ne (eP3 eI (eT (eP2 eS (eT eI))) (eT (eP2 eS (eT (eP2 eI eI))))) (by decide) x y)) (te_call (e := (eP3 eI (eT (eP2 eS (eT eI))) (eT (eP2 eS (eT (eP2 eI eI)))))) (tea_cons (tp_callP (e := (eP3 eI (eT (eP2 eS (eT eI))) (eT (eP2 eS (eT (eP2 eI eI)))))) (tpa_cons (tp_var 2 (eP3 eI (eT (eP2 eS (eT eI))) (eT (eP2 eS (eT (eP2 eI eI))))) world_here_3 rfl) (tpa_cons (tp_var 3 (eT eI) one_4 rfl) tpa_nil)) (r_moved world_here_3 one_4)) (fun a0 => (tea_consP (tp_var 4 (eT eI) two_5 rfl) (tea_nil (r_moved a0 two_5)))))) (tp_callP (e := (eP3 eI (eT (eP2 eS (eT eI))) (eT (eP2 eS (eT (eP2 eI eI)))))) (tpa_cons (tp_var 2 (eP3 eI (eT (eP2 eS (eT eI))) (eT (eP2 eS (eT (eP2 eI eI))))) world_here_3 rfl) (tpa_cons (tp_var 6 (eT eI) both_11 rfl) tpa_nil)) (r_moved world_here_3 both_11)))) (te_dB (te2ep (ea := (eP3 eI (eT (eP2 eS (eT eI))) (eT (eP2 eS (eT (eP2 eI eI)))))) (eb := (eP3 eI (eT (eP2 eS (eT eI))) (eT (eP2 eS (eT (eP2 eI eI)))))) (b := world_here_3) (et := eB) (fun x => .ok (!eqE (eP3 eI (eT (eP2 eS (eT eI))) (eT (eP2 eS (eT (eP2 eI eI))))) x world_here_3)) (fun x => (o_ne (eP3 eI (eT (eP2 eS (eT eI))) (eT (eP2 eS (eT (eP2 eI eI))))) (by decide) x world_here_3)) (te_call (e := (eP3 eI (eT (eP2 eS (eT eI))) (eT (eP2 eS (eT (eP2 eI eI)))))) (tea_cons (tp_callP (e := (eP3 eI (eT (eP2 eS (eT eI))) (eT (eP2 eS (eT (eP2 eI eI)))))) (tpa_cons (tp_var 2 (eP3 eI (eT (eP2 eS (eT eI))) (eT (eP2 eS (eT (eP2 eI eI))))) world_here_3 rfl) (tpa_cons (tp_var 3 (eT eI) one_4 rfl) tpa_nil)) (r_moved world_here_3 one_4)) (fun a0 => (tea_consP (tp_var 7 (eT eI) back_13 rfl) (tea_nil (r_moved a0 back_13)))))) (tp_var 2 (eP3 eI (eT (eP2 eS (eT eI))) (eT (eP2 eS (eT (eP2 eI eI))))) world_here_3 rfl)))) (tb_retP (tp_c eB false))
(tb_ret (te2pe (ea := (eP3 eI (eT (eP2 eS (eT eI))) (eT (eP2 eS (eT (eP2 eI eI)))))) (eb := (eP3 eI (eT (eP2 eS (eT eI))) (eT (eP2 eS (eT (eP2 eI eI)))))) (a := world_here_3) (et := eB) (fun y => .ok (eqE (eP3 eI (eT (eP2 eS (eT eI))) (eT (eP2 eS (eT (eP2 eI eI))))) world_here_3 y)) (fun y => (o_eq (eP3 eI (eT (eP2 eS (eT eI))) (eT (eP2 eS (eT (eP2 eI eI))))) (by decide) world_here_3 y)) (tp_var 2 (eP3 eI (eT (eP2 eS (eT eI))) (eT (eP2 eS (eT (eP2 eI eI))))) world_here_3 rfl) (te_call (e := (eP3 eI (eT (eP2 eS (eT eI))) (eT (eP2 eS (eT (eP2 eI eI)))))) (tea_consP (tp_var 0 (eL eI) script_1 rfl) (tea_consP (tp_c eI 2) (tea_consP (tp_var 1 eI many_2 rfl) (tea_cons (te_call (e := (eP2 (eT eS) (eT eS))) (tea_cons (tp_callP (e := eI) (tpa_cons (tp_var 0 (eL eI) script_1 rfl) (tpa_cons (tp_c eI 1) tpa_nil)) (r__law_cell script_1 1)) (fun a0 => (tea_nil (r__law_tongue a0))))) (fun a0 => (tea_nil (r__law_world script_1 2 many_2 a0))))))))) sub_nil)))))))))))))))))
  exact h
end Qk03
end

section
set_option Elab.async false
set_option linter.all false
set_option maxRecDepth 100000
set_option maxHeartbeats 4000000
namespace Qk03
open PySem PySem.Spec PyProof.Rows L2 DL
def dD_moved : He.DefD := ⟨("moved", none), "moved", "moved", defArgs (top 1), defBody (top 1), defScope (top 1), [], []⟩
def dD__law_cell : He.DefD := ⟨("_law_cell", none), "_law_cell", "_law_cell", defArgs (top 3), defBody (top 3), defScope (top 3), [], []⟩
def dD__law_names : He.DefD := ⟨("_law_names", none), "_law_names", "_law_names", defArgs (top 4), defBody (top 4), defScope (top 4), [], []⟩
def dD__law_some : He.DefD := ⟨("_law_some", none), "_law_some", "_law_some", defArgs (top 5), defBody (top 5), defScope (top 5), [], []⟩
def dD__law_pairs : He.DefD := ⟨("_law_pairs", none), "_law_pairs", "_law_pairs", defArgs (top 6), defBody (top 6), defScope (top 6), [], []⟩
def dD__law_tongue : He.DefD := ⟨("_law_tongue", none), "_law_tongue", "_law_tongue", defArgs (top 7), defBody (top 7), defScope (top 7), [], []⟩
def dD__law_world : He.DefD := ⟨("_law_world", none), "_law_world", "_law_world", defArgs (top 8), defBody (top 8), defScope (top 8), [], []⟩
def dD__law_order : He.DefD := ⟨("_law_order", none), "_law_order", "_law_order", defArgs (top 9), defBody (top 9), defScope (top 9), [], []⟩
def dD__law_same : He.DefD := ⟨("_law_same", none), "_law_same", "_law_same", defArgs (top 10), defBody (top 10), defScope (top 10), [], []⟩
def dD__law_marks : He.DefD := ⟨("_law_marks", none), "_law_marks", "_law_marks", defArgs (top 11), defBody (top 11), defScope (top 11), [], []⟩
def dD__law_arrows : He.DefD := ⟨("_law_arrows", none), "_law_arrows", "_law_arrows", defArgs (top 12), defBody (top 12), defScope (top 12), [], []⟩
def dD_law : He.DefD := ⟨("law", none), "law", "law", defArgs (top 13), defBody (top 13), defScope (top 13), [], []⟩
def fn : List He.DefD := [dD_moved, dD__law_cell, dD__law_names, dD__law_some, dD__law_pairs, dD__law_tongue, dD__law_world, dD__law_order, dD__law_same, dD__law_marks, dD__law_arrows, dD_law]
def fa : List He.Fa := [.glo "moved", .glo "_law_cell", .glo "_law_names", .glo "_law_some", .glo "_law_pairs", .glo "_law_tongue", .glo "_law_world", .glo "_law_order", .glo "_law_same", .glo "_law_marks", .glo "_law_arrows", .glo "law", .free "all", .free "bool", .free "int", .free "isinstance", .free "len", .free "list", .free "range", .free "sorted", .free "str", .free "tuple", .free "zip"]
def more (K : PySem.W.Frag) : Bool := noLists K
abbrev Rw : PySem.W.OpenRow := PySem.W.OpenLaw.row PySem.Challenge.rw_pickalike_k03_moved
abbrev hk : PySem.W.Hook := hookX 5 fa fn more
def ob (s : PySem.W.SharedT) : Bool × He.AlD := obsX fa fn more (He.frG (HandSHeadRun.getT s) (asX (HandSHeadRun.getT s) 5))
theorem ob_eq (s : PySem.W.SharedT) : ob s = hk.obs s.abs := obsX_eq (HandSHeadRun.getT_eq s)
def loose0 : List PySem.Str := ["moved", "_law_cell", "_law_names", "_law_some", "_law_pairs", "_law_tongue", "_law_world", "_law_order", "_law_same", "_law_marks", "_law_arrows"]
def loose : List PySem.Str := loose0
theorem run (w : World) : HandSHeadRun.RunEq Rw (PySem.W.view Rw.prog [13]) hk ob 100000 loose w := by
  intro os
  kernel_rfl
theorem facts {P : Program} {w : World} {K : PySem.W.Frag} {h : Heap} {mg : PySem.Str → Option Value} {base : Heap} (X : K.In h) (G : h.Ns mainGlobals mg) (c : obsX fa fn more K = (true, He.valD fn)) : Facts P w K mg base := by
  have c1 : more K = true := congrArg Prod.fst c
  have c2 : He.SaysD fa fn K := congrArg Prod.snd c
  simp only [more, Bool.and_eq_true] at c1
  exact {
    f_moved := c2.def_ 0 (d := dD_moved) rfl,
    f__law_cell := c2.def_ 1 (d := dD__law_cell) rfl,
    f__law_names := c2.def_ 2 (d := dD__law_names) rfl,
    f__law_some := c2.def_ 3 (d := dD__law_some) rfl,
    f__law_pairs := c2.def_ 4 (d := dD__law_pairs) rfl,
    f__law_tongue := c2.def_ 5 (d := dD__law_tongue) rfl,
    f__law_world := c2.def_ 6 (d := dD__law_world) rfl,
    f__law_order := c2.def_ 7 (d := dD__law_order) rfl,
    f__law_same := c2.def_ 8 (d := dD__law_same) rfl,
    f__law_marks := c2.def_ 9 (d := dD__law_marks) rfl,
    f__law_arrows := c2.def_ 10 (d := dD__law_arrows) rfl,
    f_law := c2.def_ 11 (d := dD_law) rfl,
    g_moved := He.glo_ok X G (c2.fact 0 (f := .glo "moved") rfl),
    g__law_cell := He.glo_ok X G (c2.fact 1 (f := .glo "_law_cell") rfl),
    g__law_names := He.glo_ok X G (c2.fact 2 (f := .glo "_law_names") rfl),
    g__law_some := He.glo_ok X G (c2.fact 3 (f := .glo "_law_some") rfl),
    g__law_pairs := He.glo_ok X G (c2.fact 4 (f := .glo "_law_pairs") rfl),
    g__law_tongue := He.glo_ok X G (c2.fact 5 (f := .glo "_law_tongue") rfl),
    g__law_world := He.glo_ok X G (c2.fact 6 (f := .glo "_law_world") rfl),
    g__law_order := He.glo_ok X G (c2.fact 7 (f := .glo "_law_order") rfl),
    g__law_same := He.glo_ok X G (c2.fact 8 (f := .glo "_law_same") rfl),
    g__law_marks := He.glo_ok X G (c2.fact 9 (f := .glo "_law_marks") rfl),
    g__law_arrows := He.glo_ok X G (c2.fact 10 (f := .glo "_law_arrows") rfl),
    g_law := He.glo_ok X G (c2.fact 11 (f := .glo "law") rfl),
    g_all := He.free_ok X G (c2.fact 12 (f := .free "all") rfl),
    g_bool := He.free_ok X G (c2.fact 13 (f := .free "bool") rfl),
    g_int := He.free_ok X G (c2.fact 14 (f := .free "int") rfl),
    g_isinstance := He.free_ok X G (c2.fact 15 (f := .free "isinstance") rfl),
    g_len := He.free_ok X G (c2.fact 16 (f := .free "len") rfl),
    g_list := He.free_ok X G (c2.fact 17 (f := .free "list") rfl),
    g_range := He.free_ok X G (c2.fact 18 (f := .free "range") rfl),
    g_sorted := He.free_ok X G (c2.fact 19 (f := .free "sorted") rfl),
    g_str := He.free_ok X G (c2.fact 20 (f := .free "str") rfl),
    g_tuple := He.free_ok X G (c2.fact 21 (f := .free "tuple") rfl),
    g_zip := He.free_ok X G (c2.fact 22 (f := .free "zip") rfl) }
end Qk03
section
open PySem PySem.W PySem.Calls PyProof.Rows
theorem Qk03.holds_of (hm : ∀ ns : List Int, ns.length ≤ 63 → Qk03.m_law [.list (ns.map PyData.int)] = .ok (.bool true)) : PySem.Challenge.rw_pickalike_k03_moved.Holds := by
  w_on; o_law
  refine HandSHeadRun.head_any (r := OpenLaw.row PySem.Challenge.rw_pickalike_k03_moved) (q := view (OpenLaw.row PySem.Challenge.rw_pickalike_k03_moved).prog [13]) (H := Qk03.hk) (ob := Qk03.ob) (M := 100000) (loose := Qk03.loose) (d := HandSHeadRun.topDef (OpenLaw.row PySem.Challenge.rw_pickalike_k03_moved).prog 13) (kwd := []) Qk03.ob_eq
    (by kernel_rfl) (fun s => by kernel_rfl) Qk03.run (by kernel_rfl) (by kernel_rfl) (by kernel_rfl) (by rfl) (by first | assumption | decide +kernel) (by decide +kernel) ⟨rfl, rfl, rfl, rfl, rfl, by decide +kernel⟩ ?hw ?hc
  case hw => w_witness2
  case hc =>
    refine L2.walk_ofE (l := PySem.Challenge.rw_pickalike_k03_moved) (n := 63) (k := 9) (x := "_law_script") (CX := L2.CX0) rfl (by decide) (by kernel_rfl) ⟨rfl, by decide, by decide⟩ ?F (fun _ _ _ _ z => z)
    intro w mg fa h Y G hmg0
    obtain ⟨K, KX, c⟩ := Y
    have hmg : mg ("law" : PySem.Str) = some (.ref fa) := by
      have e : (HandSHeadRun.topDef (OpenLaw.row PySem.Challenge.rw_pickalike_k03_moved).prog 13).name = ("law" : PySem.Str) := by kernel_rfl
      rw [← e]
      exact hmg0
    have Z0 : Qk03.Facts (PySem.Challenge.rw_pickalike_k03_moved).prog w K mg h := Qk03.facts KX G c
    obtain ⟨fd, F⟩ := Z0.f_law
    have ef := hmg.symm.trans Z0.g_law
    cases ef
    have hb := L2.FunD.bindsA (ps := ["_law_script"]) F fun _ _ _ _ _ _ us hl => match us, hl with | [_], _ => rfl
    have hK : DL.noLists K = true := by
      have c1 : Qk03.more K = true := congrArg Prod.fst c
      simp only [Qk03.more, Bool.and_eq_true] at c1
      first | exact c1 | exact c1.1 | exact c1.1.1 | exact c1.1.1.1 | exact c1.1.1.1.1 | exact c1.1.1.1.1.1 | exact c1.1.1.1.1.1.1 | exact c1.1.1.1.1.1.1.1 | exact c1.1.1.1.1.1.1.1.1 | exact c1.1.1.1.1.1.1.1.1.1 | exact c1.1.1.1.1.1.1.1.1.1.1 | exact c1.1.1.1.1.1.1.1.1.1.1.1 | exact c1.1.1.1.1.1.1.1.1.1.1.1.1 | exact c1.1.1.1.1.1.1.1.1.1.1.1.1.1 | exact c1.1.1.1.1.1.1.1.1.1.1.1.1.1.1 | exact c1.1.1.1.1.1.1.1.1.1.1.1.1.1.1.1 | exact c1.1.1.1.1.1.1.1.1.1.1.1.1.1.1.1.1 | exact c1.1.1.1.1.1.1.1.1.1.1.1.1.1.1.1.1.1 | exact c1.1.1.1.1.1.1.1.1.1.1.1.1.1.1.1.1.1.1 | exact c1.1.1.1.1.1.1.1.1.1.1.1.1.1.1.1.1.1.1.1 | exact c1.1.1.1.1.1.1.1.1.1.1.1.1.1.1.1.1.1.1.1.1 | exact c1.1.1.1.1.1.1.1.1.1.1.1.1.1.1.1.1.1.1.1.1.1 | exact c1.1.1.1.1.1.1.1.1.1.1.1.1.1.1.1.1.1.1.1.1.1.1 | exact c1.1.1.1.1.1.1.1.1.1.1.1.1.1.1.1.1.1.1.1.1.1.1.1 | exact c1.1.1.1.1.1.1.1.1.1.1.1.1.1.1.1.1.1.1.1.1.1.1.1.1 | exact c1.1.1.1.1.1.1.1.1.1.1.1.1.1.1.1.1.1.1.1.1.1.1.1.1.1 | exact c1.1.1.1.1.1.1.1.1.1.1.1.1.1.1.1.1.1.1.1.1.1.1.1.1.1.1 | exact c1.1.1.1.1.1.1.1.1.1.1.1.1.1.1.1.1.1.1.1.1.1.1.1.1.1.1.1 | exact c1.1.1.1.1.1.1.1.1.1.1.1.1.1.1.1.1.1.1.1.1.1.1.1.1.1.1.1.1 | exact c1.1.1.1.1.1.1.1.1.1.1.1.1.1.1.1.1.1.1.1.1.1.1.1.1.1.1.1.1.1 | exact c1.1.1.1.1.1.1.1.1.1.1.1.1.1.1.1.1.1.1.1.1.1.1.1.1.1.1.1.1.1.1 | exact c1.1.1.1.1.1.1.1.1.1.1.1.1.1.1.1.1.1.1.1.1.1.1.1.1.1.1.1.1.1.1.1 | exact c1.1.1.1.1.1.1.1.1.1.1.1.1.1.1.1.1.1.1.1.1.1.1.1.1.1.1.1.1.1.1.1.1 | exact c1.1.1.1.1.1.1.1.1.1.1.1.1.1.1.1.1.1.1.1.1.1.1.1.1.1.1.1.1.1.1.1.1.1 | exact c1.1.1.1.1.1.1.1.1.1.1.1.1.1.1.1.1.1.1.1.1.1.1.1.1.1.1.1.1.1.1.1.1.1.1 | exact c1.1.1.1.1.1.1.1.1.1.1.1.1.1.1.1.1.1.1.1.1.1.1.1.1.1.1.1.1.1.1.1.1.1.1.1 | exact c1.1.1.1.1.1.1.1.1.1.1.1.1.1.1.1.1.1.1.1.1.1.1.1.1.1.1.1.1.1.1.1.1.1.1.1.1 | exact c1.1.1.1.1.1.1.1.1.1.1.1.1.1.1.1.1.1.1.1.1.1.1.1.1.1.1.1.1.1.1.1.1.1.1.1.1.1 | exact c1.1.1.1.1.1.1.1.1.1.1.1.1.1.1.1.1.1.1.1.1.1.1.1.1.1.1.1.1.1.1.1.1.1.1.1.1.1.1 | exact c1.1.1.1.1.1.1.1.1.1.1.1.1.1.1.1.1.1.1.1.1.1.1.1.1.1.1.1.1.1.1.1.1.1.1.1.1.1.1.1 | exact c1.1.1.1.1.1.1.1.1.1.1.1.1.1.1.1.1.1.1.1.1.1.1.1.1.1.1.1.1.1.1.1.1.1.1.1.1.1.1.1.1 | exact c1.1.1.1.1.1.1.1.1.1.1.1.1.1.1.1.1.1.1.1.1.1.1.1.1.1.1.1.1.1.1.1.1.1.1.1.1.1.1.1.1.1 | exact c1.1.1.1.1.1.1.1.1.1.1.1.1.1.1.1.1.1.1.1.1.1.1.1.1.1.1.1.1.1.1.1.1.1.1.1.1.1.1.1.1.1.1 | exact c1.1.1.1.1.1.1.1.1.1.1.1.1.1.1.1.1.1.1.1.1.1.1.1.1.1.1.1.1.1.1.1.1.1.1.1.1.1.1.1.1.1.1.1 | exact c1.1.1.1.1.1.1.1.1.1.1.1.1.1.1.1.1.1.1.1.1.1.1.1.1.1.1.1.1.1.1.1.1.1.1.1.1.1.1.1.1.1.1.1.1 | exact c1.1.1.1.1.1.1.1.1.1.1.1.1.1.1.1.1.1.1.1.1.1.1.1.1.1.1.1.1.1.1.1.1.1.1.1.1.1.1.1.1.1.1.1.1.1 | exact c1.1.1.1.1.1.1.1.1.1.1.1.1.1.1.1.1.1.1.1.1.1.1.1.1.1.1.1.1.1.1.1.1.1.1.1.1.1.1.1.1.1.1.1.1.1.1 | exact c1.1.1.1.1.1.1.1.1.1.1.1.1.1.1.1.1.1.1.1.1.1.1.1.1.1.1.1.1.1.1.1.1.1.1.1.1.1.1.1.1.1.1.1.1.1.1.1 | exact c1.1.1.1.1.1.1.1.1.1.1.1.1.1.1.1.1.1.1.1.1.1.1.1.1.1.1.1.1.1.1.1.1.1.1.1.1.1.1.1.1.1.1.1.1.1.1.1.1 | exact c1.1.1.1.1.1.1.1.1.1.1.1.1.1.1.1.1.1.1.1.1.1.1.1.1.1.1.1.1.1.1.1.1.1.1.1.1.1.1.1.1.1.1.1.1.1.1.1.1.1
    exact ⟨K, fd, (fun vs H Q _ => DL.spD Qk03.ec K 1 Qk03.m_law vs H Q fun _ _ _ => False), KX, fun s v => hb s [v] rfl, fun H a ns hl _ hS => DL.law_sp hK hm H a ns hl hS, fun base XB GB => DL.fn_law (Qk03.okl (Qk03.facts XB GB c) F)⟩
end
end

section
set_option Elab.async false
set_option linter.all false
set_option maxRecDepth 100000
set_option maxHeartbeats 4000000
namespace Qk03
open PySem DL LA LO
variable {m : Int} {t : List Str × List Str} {w : Wd}
theorem same_int (n : Nat) (i : Int) : f__law_same (n + 1) (eI i) (eI i) = .ok true := by
  show b__law_same _ _ _ = _
  unfold b__law_same
  rw [show boolR (dIsi .tuple (eI i)) = .ok false from rfl, R.tf_ok, if_neg (by decide), show boolR (dIsi .bool (eI i)) = .ok false from rfl, show boolR (dIsi .int (eI i)) = .ok true from rfl, R.bind_ok, if_neg (by decide), R.tf_ok, if_pos rfl, R.bind_ok, if_pos rfl, R.bind_ok, R.bind_ok, eqE_self, R.bind_ok, if_pos rfl, o_eq eI (by decide), eqE_self]
  rfl
theorem same_str (n : Nat) (i : Str) : f__law_same (n + 1) (eS i) (eS i) = .ok true := by
  show b__law_same _ _ _ = _
  unfold b__law_same
  rw [show boolR (dIsi .tuple (eS i)) = .ok false from rfl, R.tf_ok, if_neg (by decide), show boolR (dIsi .bool (eS i)) = .ok false from rfl, show boolR (dIsi .int (eS i)) = .ok false from rfl, show boolR (dIsi .str (eS i)) = .ok true from rfl, R.bind_ok, if_neg (by decide), R.tf_ok, if_neg (by decide), R.bind_ok, if_pos rfl, o_eq eS (by decide), eqE_self]
  rfl
theorem same_tup (n : Nat) (l : List PyData) (hl : l.length ≤ 1000) (h : ∀ x ∈ l, f__law_same n x x = .ok true) : f__law_same (n + 1) (.tuple l) (.tuple l) = .ok true := by
  show b__law_same _ _ _ = _
  unfold b__law_same
  rw [show boolR (dIsi .tuple (PyData.tuple l)) = .ok true from rfl, R.tf_ok, if_pos rfl, R.bind_ok, R.bind_ok, if_neg (by decide), show intR (dLen (PyData.tuple l)) = .ok (l.length : Int) from rfl, R.bind_ok, R.bind_ok, eqE_self, R.tf_ok, if_neg (by decide), R.bind_ok, rng1_ok (by omega) (by omega), R.bind_ok, compR0_ok (u := fun _ => true) (fun z hz => by
    obtain ⟨h1, h2⟩ := mem_rngI.mp hz
    have e : dIxS (.tuple l) (eI z) = .ok l[z.toNat] := by
      have := p_ixT eX l z
      rw [ixI_get h1 (by omega)] at this
      have h2 : dIxS (eT eX l) (eI z) = _ := this
      unfold eT at h2
      rw [show (eX : PyData → PyData) = fun x => x from rfl, List.map_id'] at h2
      exact h2
    rw [e, R.bind_ok, R.bind_ok]
    exact h _ (List.getElem_mem _))]
  rw [show ∀ x : List Bool, noEx (R.ok x) = .ok x from fun _ => rfl, R.bind_ok, R.tf_ok, List.map_const', show (List.replicate (rngI 0 (l.length : Int).toNat).length true).all id = true from by simp]
  rfl
theorem same_tupE {τ : Type} (e : τ → PyData) (n : Nat) (l : List τ) (hl : l.length ≤ 1000) (h : ∀ x ∈ l, f__law_same n (e x) (e x) = .ok true) : f__law_same (n + 1) (eT e l) (eT e l) = .ok true :=
  same_tup n _ (by rw [List.length_map]; exact hl) fun x hx => by obtain ⟨y, hy, rfl⟩ := List.mem_map.mp hx; exact h y hy
theorem same_two (n : Nat) (x y : PyData) (h1 : f__law_same n x x = .ok true) (h2 : f__law_same n y y = .ok true) : f__law_same (n + 1) (.tuple [x, y]) (.tuple [x, y]) = .ok true :=
  same_tup n _ (by simp) fun z hz => by simp at hz; rcases hz with rfl | rfl <;> assumption

theorem i_same (n : PyData) (h : f__law_same 6 n n = .ok true) : i__law_same n n = .ok true := (i__law_same_eq n n).trans h
/-! ### the orders -/
theorem cutTo {τ : Type} (xs : List τ) (i : Int) (h0 : 0 ≤ i) (h : i.toNat ≤ xs.length) : cutL xs none (some i) = xs.take i.toNat := by
  unfold cutL HT.sIx
  simp only [if_neg (show ¬ i < 0 by omega), List.drop_zero, Nat.sub_zero]
  rw [Nat.min_eq_left h]
theorem cutFrom {τ : Type} (xs : List τ) (i : Int) (h0 : 0 ≤ i) (h : i.toNat ≤ xs.length) : cutL xs (some i) none = xs.drop i.toNat := by
  unfold cutL HT.sIx
  simp only [if_neg (show ¬ i < 0 by omega)]
  rw [Nat.min_eq_left h, List.take_of_length_le (by rw [List.length_drop]; omega)]
theorem order_ok (c m : Int) (h0 : 0 ≤ m) (h : m ≤ 8) : ∃ o, f__law_order c m = .ok o ∧ Ord m o := by
  have big : (1000 : Int) < 2 ^ 399 := by decide +kernel
  unfold f__law_order
  rw [rng1_ok (by omega) (by omega), R.tf_ok]
  dsimp only
  rw [R.tf_ok]
  refine forT_then (s0 := (c, rngI 0 m.toNat, [])) (P := fun x => ∃ o, TF.run (fun z => nomatch z) (σ := Empty) x = .ok o ∧ Ord m o) (fun (pre : List Int) (s : Int × List Int × List Int) => s.2.2.length = pre.length ∧ (s.2.2 ++ s.2.1).Perm (rngI 0 m.toNat)) ⟨rfl, List.Perm.refl _⟩ ?_ ?_
  · intro pre x post st hx ⟨q1, q2⟩
    obtain ⟨hx1, hx2⟩ := rng_split hx
    have hl := q2.length_eq
    rw [List.length_append, rngI_len] at hl
    have hp : 0 < (st.2.1.length : Int) := by omega
    have a1 := Int.emod_nonneg st.1 (b := (st.2.1.length : Int)) (by omega)
    have a2 := Int.emod_lt_of_pos st.1 hp
    have a3 : (st.1 % (st.2.1.length : Int)).toNat < st.2.1.length := by omega
    rw [modI_ok hp, R.tf_ok, mulI_ok (by omega) (by omega) (by omega) (by omega), R.bind_ok, R.tf_ok, ixI_get a1 a3, R.tf_ok, push_ok (by omega), R.tf_ok, cutTo _ _ a1 (by omega), cutFrom _ _ (by omega) (by omega),
      exten_ok (by rw [List.length_take, List.length_drop]; omega), R.tf_ok]
    refine ⟨_, rfl, by show (st.2.2 ++ [_]).length = _; rw [List.length_append, List.length_append, q1]; rfl, ?_⟩
    refine List.Perm.trans ?_ q2
    show ((st.2.2 ++ [_]) ++ (st.2.1.take _ ++ st.2.1.drop _)).Perm _
    rw [List.append_assoc]
    refine List.Perm.append_left _ ?_
    have e := List.eraseIdx_eq_take_drop_succ st.2.1 (st.1 % (st.2.1.length : Int)).toNat
    rw [show (st.1 % (st.2.1.length : Int) + 1).toNat = (st.1 % (st.2.1.length : Int)).toNat + 1 from by omega, ← e]
    exact L2.erase_perm st.2.1 _ _ (List.getElem?_eq_getElem a3)
  · intro s1 ⟨q1, q2⟩
    have hl := q2.length_eq
    rw [List.length_append, rngI_len] at hl
    rw [rngI_len] at q1
    have e : s1.2.1 = [] := List.eq_nil_of_length_eq_zero (by omega)
    rw [e, List.append_nil] at q2
    refine ⟨_, rfl, q1, fun x hx => ?_, q2.nodup_iff.mpr (rngI_nodup _)⟩
    have := mem_rngI.mp (q2.mem_iff.mp hx)
    omega
/-! ### the world moved -/
theorem len1 (W : World m t w) : w.2.1.length = t.1.length := by rw [← W.marks, List.length_map]
theorem len2 (W : World m t w) : w.2.2.length = t.2.length := by rw [← W.arrows, List.length_map]
theorem pts_at {o : List Int} (W : World m t w) (q : Ord m o) {e : Str × List Int} (he : e ∈ w.2.1) : compR0 (fun (z : Int) => ixI o z) e.2 = .ok (e.2.map (at' o)) :=
  compR0_ok fun p hp => at_ix q (sub_rg (W.pts e he) hp).1 (sub_rg (W.pts e he) hp).2
theorem prs_at {o : List Int} (W : World m t w) (q : Ord m o) {e : Str × List (Int × Int)} (he : e ∈ w.2.2) : compR0 (fun (z : Int × Int) => (ixI o z.1).bind fun x0 => (ixI o z.2).bind fun x1 => .ok (x0, x1)) e.2 = .ok (e.2.map (g2 (at' o))) :=
  compR0_ok fun p hp => by
    obtain ⟨⟨a1, a2⟩, a3, a4⟩ := sub_rg2 (W.prs e he) hp
    rw [at_ix q a1 a2, R.bind_ok, at_ix q a3 a4, R.bind_ok]; rfl
theorem moved_ok {o : List Int} (W : World m t w) (l1 : t.1.length ≤ 3) (l2 : t.2.length ≤ 3) (q : Ord m o) : f_moved w o = .ok (mvW (at' o) w) := by
  have a1 := len1 W
  have a2 := len2 W
  unfold f_moved
  dsimp only
  rw [forT_push (u := fun z : Str × List Int => (z.1, sortE eI (z.2.map (at' o)))) (by simp; omega) (fun z hz s => by
    rw [pts_at W q hz]; rfl), TF.seq_nx, forT_push (u := fun z : Str × List (Int × Int) => (z.1, sortE (eP2 eI eI) (z.2.map (g2 (at' o))))) (by simp; omega) (fun z hz s => by
    rw [prs_at W q hz]; rfl)]
  rfl
theorem zip_self_map {α β : Type} (l : List α) (f : α → β) : l.zip (l.map f) = l.map fun x => (x, f x) := by
  induction l with
  | nil => rfl
  | cons x l ih => rw [List.map_cons, List.zip_cons_cons, ih]; rfl
theorem marks_ok {o : List Int} (W : World m t w) (l1 : t.1.length ≤ 3) (q : Ord m o) : f__law_marks w (mvW (at' o) w).2.1 o = .ok true := by
  have a1 := len1 W
  have m0 := W.m0
  have m8 := W.m8
  unfold f__law_marks
  have hl : (mvW (at' o) w).2.1.length = w.2.1.length := by show (w.2.1.map _).length = _; rw [List.length_map]
  rw [hl, eqE_self, if_neg (by decide), zipR_ok (by omega), R.tf_ok]
  rw [show (mvW (at' o) w).2.1 = w.2.1.map (fun e => (e.1, sortE eI (e.2.map (at' o)))) from rfl, zip_self_map, forT_unit]
  · rfl
  intro z hz
  obtain ⟨e, he, rfl⟩ := List.mem_map.mp hz
  dsimp only
  rw [pts_at W q he, noEx_ok, R.tf_ok, W.many, rng1_ok (by omega) (by omega), R.bind_ok, R.bind_ok, R.bind_ok, R.tf_ok, List.map_id', ← mv_pt q.perm (W.pts e he)]
  have hn : (sortE eI (e.2.map (at' o))).length ≤ 8 := by rw [(sortE_perm eI _).length_eq, List.length_map]; exact W.ptl he
  have H : ∀ l : List Int, l.length ≤ 1000 → i__law_same (eP2 eS (eT eI) (e.1, l)) (eP2 eS (eT eI) (e.1, l)) = .ok true :=
    fun l hl => i_same _ (same_two 5 _ _ (same_str _ _) (same_tupE _ 4 _ hl fun _ _ => same_int _ _))
  rw [H _ (by omega)]
  rfl
theorem pairs_filter {c : Int × Int → Bool} (n : Nat) : ∀ l : List Int, (l.flatMap fun i => (rngI 0 n).map fun j => (i, j)).filter c = l.flatMap fun i => ((rngI 0 n).filter fun j => c (i, j)).map fun j => (i, j)
  | [] => rfl
  | i :: l => by
    rw [List.flatMap_cons, List.flatMap_cons, List.filter_append, pairs_filter n l, List.filter_map]
    rfl
theorem arrows_ok {o : List Int} (W : World m t w) (l2 : t.2.length ≤ 3) (q : Ord m o) : f__law_arrows w (mvW (at' o) w).2.2 o = .ok true := by
  have a2 := len2 W
  have m0 := W.m0
  have m8 := W.m8
  unfold f__law_arrows
  have hl : (mvW (at' o) w).2.2.length = w.2.2.length := by show (w.2.2.map _).length = _; rw [List.length_map]
  rw [hl, eqE_self, if_neg (by decide), zipR_ok (by omega), R.tf_ok]
  rw [show (mvW (at' o) w).2.2 = w.2.2.map (fun e => (e.1, sortE (eP2 eI eI) (e.2.map (g2 (at' o))))) from rfl, zip_self_map, forT_unit]
  · rfl
  intro z hz
  obtain ⟨e, he, rfl⟩ := List.mem_map.mp hz
  dsimp only
  rw [prs_at W q he, noEx_ok, R.tf_ok, W.many, rng1_ok (by omega) (by omega), R.tf_ok]
  have hn : (sortE (eP2 eI eI) (e.2.map (g2 (at' o)))).length ≤ 64 := by rw [(sortE_perm (eP2 eI eI) _).length_eq, List.length_map]; exact W.prl he
  refine forT_then (s0 := ([] : List (Int × Int))) (P := fun x => x = (.nx () : TF Unit Bool)) (fun (pre : List Int) (s : List (Int × Int)) => s = (pre.flatMap fun i => ((rngI 0 m.toNat).filter fun j => inE (eP2 eI eI) (i, j) (e.2.map (g2 (at' o)))).map fun j => (i, j)) ∧ s.length ≤ pre.length * 8) ⟨rfl, by simp⟩ ?_ ?_
  · intro pre x post st hx ⟨hs, hk⟩
    obtain ⟨hx1, hx2⟩ := rng_split hx
    have hf : (((rngI 0 m.toNat).filter fun j => inE (eP2 eI eI) (x, j) (e.2.map (g2 (at' o)))).map fun j => (x, j)).length ≤ 8 := by
      rw [List.length_map]
      refine Nat.le_trans (List.length_filter_le _ _) ?_
      rw [rngI_len]; omega
    have hp : pre.length < 8 := by omega
    rw [R.bind_ok, R.bind_ok, exten_ok (by omega), R.tf_ok]
    refine ⟨_, rfl, ?_, ?_⟩
    · rw [List.flatMap_append, hs]
      simp
    · rw [List.length_append, List.length_append, List.length_singleton]; omega
  · intro s ⟨hs, _⟩
    have es : s = sortE (eP2 eI eI) (e.2.map (g2 (at' o))) := by
      rw [mv_pr q.perm (W.prs e he), hs]
      exact (pairs_filter (c := fun x => inE (eP2 eI eI) x (e.2.map (g2 (at' o)))) m.toNat (rngI 0 m.toNat)).symm
    have H : ∀ l : List (Int × Int), l.length ≤ 1000 → i__law_same (eP2 eS (eT (eP2 eI eI)) (e.1, l)) (eP2 eS (eT (eP2 eI eI)) (e.1, l)) = .ok true :=
      fun l hl => i_same _ (same_two 5 _ _ (same_str _ _) (same_tupE _ 4 _ hl fun _ _ => same_two 3 _ _ (same_int _ _) (same_int _ _)))
    rw [es, H _ (by omega)]
    rfl
/-! ### the law -/
theorem both_ok {one two : List Int} (q1 : Ord m one) (q2 : Ord m two) : Ord m ((rngI 0 m.toNat).map fun k => at' two (at' one k)) := by
  have rg : ∀ {k : Int}, k ∈ rngI 0 m.toNat → 0 ≤ k ∧ k < m := fun h => by have := mem_rngI.mp h; omega
  refine ⟨by rw [List.length_map, rngI_len], fun x hx => ?_, nodup_map (rngI_nodup _) fun x hx y hy e => ?_⟩
  · obtain ⟨k, hk, rfl⟩ := List.mem_map.mp hx
    have a := at_rg q1 (rg hk).1 (rg hk).2
    exact at_rg q2 a.1 a.2
  · have a := at_rg q1 (rg hx).1 (rg hx).2
    have b := at_rg q1 (rg hy).1 (rg hy).2
    exact at_inj q1 (rg hx).1 (rg hx).2 (rg hy).1 (rg hy).2 (at_inj q2 a.1 a.2 b.1 b.2 e)
theorem at_map {f : Int → Int} {k : Int} (h0 : 0 ≤ k) (h1 : k < m) : at' ((rngI 0 m.toNat).map f) k = f k := by
  unfold at' rngI
  rw [List.map_map, List.getElem?_map, List.getElem?_range (by omega)]
  show f (0 + (k.toNat : Int)) = f k
  congr 1
  omega
theorem at_get {o : List Int} (q : Ord m o) {k : Int} (h0 : 0 ≤ k) (h1 : k < m) : o[k.toNat]? = some (at' o k) := by
  have := q.len
  unfold at'
  rw [List.getElem?_eq_getElem (by omega)]; rfl
theorem all_in {o : List Int} (h : 0 ≤ m) (q : Ord m o) {k : Int} (h0 : 0 ≤ k) (h1 : k < m) : k ∈ o := by
  have sub : ∀ x ∈ o, x ∈ rngI 0 m.toNat := fun x hx => by have := q.rg x hx; exact mem_rngI.mpr ⟨this.1, by omega⟩
  have r := sort_ris eI q.nd
  have e : sortE eI o = (rngI 0 m.toNat).filter fun x => inE eI x (sortE eI o) := ris_ext eI r (List.Pairwise.filter _ (rng_ris 0 _)) fun x => by
    rw [List.mem_filter, inE_iff]
    exact ⟨fun z => ⟨sub x ((sort_mem eI).mp z), z⟩, fun z => z.2⟩
  have f : (rngI 0 m.toNat).filter (fun x => inE eI x (sortE eI o)) = rngI 0 m.toNat := by
    refine List.filter_eq_self.mpr fun x hx => ?_
    have hl : ((rngI 0 m.toNat).filter fun x => inE eI x (sortE eI o)).length = (rngI 0 m.toNat).length := by rw [← e, (sortE_perm eI o).length_eq, q.len, rngI_len]
    exact List.length_filter_eq_length_iff.mp hl x hx
  have hk : k ∈ rngI 0 m.toNat := mem_rngI.mpr ⟨h0, by omega⟩
  rw [← f, ← e] at hk
  exact (sort_mem eI).mp hk
theorem law_ok (s : List Int) : f_law s = .ok true := by
  unfold f_law
  have p70 : (2 : Int) ^ 70 = 1180591620717411303424 := by decide
  obtain ⟨c0, e0, a0, b0⟩ := cell_ok s 0 (by omega)
  obtain ⟨c1, e1, a1, b1⟩ := cell_ok s 1 (by omega)
  obtain ⟨c8, e8, a8, b8⟩ := cell_ok s 8 (by omega)
  obtain ⟨c9, e9, a9, b9⟩ := cell_ok s 9 (by omega)
  obtain ⟨t, et, T⟩ := tongue_ok c1 a1 (by omega)
  rw [e0, R.bind_ok, R.bind_ok, R.tf_ok, e1, R.bind_ok, et, R.bind_ok]
  obtain ⟨m, hm⟩ : ∃ m, m = 1 + c0 % 8 := ⟨_, rfl⟩
  rw [← hm]
  obtain ⟨w, ew, W⟩ := world_ok s 2 m t (by omega) (by omega) (by omega) T.len1 T.len2
  obtain ⟨one, eo, q1⟩ := order_ok c8 m (by omega) (by omega)
  obtain ⟨two, eu, q2⟩ := order_ok c9 m (by omega) (by omega)
  rw [ew, R.tf_ok, e8, R.bind_ok, eo, R.tf_ok, e9, R.bind_ok, eu, R.tf_ok]
  rw [forT_unit (fun o ho => by
    have q : Ord m o := by
      rcases List.mem_cons.mp ho with rfl | ho
      · exact q1
      · rw [List.mem_singleton.mp ho]; exact q2
    rw [moved_ok W T.len1 T.len2 q, R.tf_ok, if_neg (by decide), if_neg (by decide), show (mvW (at' o) w).1 = m from W.many, i_same _ (same_int 5 m), R.bind_ok, R.tf_ok, if_neg (by decide), marks_ok W T.len1 q, arrows_ok W T.len2 q]
    rfl), TF.seq_nx]
  have rg : ∀ {k : Int}, k ∈ rngI 0 m.toNat → 0 ≤ k ∧ k < m := fun h => by have := mem_rngI.mp h; omega
  have m0 : 0 ≤ m := by omega
  rw [rng1_ok (by omega) (by omega), R.bind_ok, compR0_ok (u := fun k => at' two (at' one k)) (fun k hk => by
    have a := at_rg q1 (rg hk).1 (rg hk).2
    rw [at_ix q1 (rg hk).1 (rg hk).2, R.bind_ok, at_ix q2 a.1 a.2])]
  rw [noEx_ok, R.bind_ok, R.tf_ok, R.bind_ok, compR0_ok (u := fun k => ((one.idxOf k : Nat) : Int)) (fun k hk => by
    rw [R.bind_ok, R.bind_ok]
    unfold firstE
    rw [first_idx, if_pos (all_in m0 q1 (rg hk).1 (rg hk).2)])]
  rw [noEx_ok, R.bind_ok, R.tf_ok]
  have qb := both_ok q1 q2
  have ix : ∀ {k : Int}, 0 ≤ k → k < m → one.idxOf k < one.length := fun h0 h1 => List.idxOf_lt_length_iff.mpr (all_in m0 q1 h0 h1)
  have qk : Ord m ((rngI 0 m.toNat).map fun k => ((one.idxOf k : Nat) : Int)) := by
    have hl := q1.len
    refine ⟨by rw [List.length_map, rngI_len], fun x hx => ?_, nodup_map (rngI_nodup _) fun x hx y hy e => ?_⟩
    · obtain ⟨k, hk, rfl⟩ := List.mem_map.mp hx
      have := ix (rg hk).1 (rg hk).2
      omega
    · have e' : one.idxOf x = one.idxOf y := by omega
      have g1 := List.getElem_idxOf (ix (rg hx).1 (rg hx).2)
      have g2 := List.getElem_idxOf (ix (rg hy).1 (rg hy).2)
      rw [← g1, ← g2]
      congr 1
  have W1 : World m t (mvW (at' one) w) := World.mv W q1.perm
  have ae : ∀ x : Wd, eqE (eP3 eI (eT (eP2 eS (eT eI))) (eT (eP2 eS (eT (eP2 eI eI))))) x x = true := fun x => eqE_self _ x
  have e1' : mvW (at' two) (mvW (at' one) w) = mvW (at' ((rngI 0 m.toNat).map fun k => at' two (at' one k))) w := by
    rw [mv_mv W q1.perm q2.perm]
    exact mv_congr W fun p h0 h1 => (at_map (f := fun k => at' two (at' one k)) h0 h1).symm
  have e2' : mvW (at' ((rngI 0 m.toNat).map fun k => ((one.idxOf k : Nat) : Int))) (mvW (at' one) w) = w := by
    rw [mv_mv W q1.perm qk.perm]
    refine (mv_congr W fun p h0 h1 => ?_).trans (mv_id W)
    have a := at_rg q1 h0 h1
    rw [at_map (f := fun k => ((one.idxOf k : Nat) : Int)) a.1 a.2]
    have hl := q1.len
    have hp : p.toNat < one.length := by omega
    have e3 : at' one p = one[p.toNat] := by
      have := at_get q1 h0 h1
      rw [List.getElem?_eq_getElem hp] at this
      exact (Option.some.inj this).symm
    rw [e3, List.Nodup.idxOf_getElem q1.nd]
    omega
  rw [moved_ok W T.len1 T.len2 q1, R.bind_ok, moved_ok W1 T.len1 T.len2 q2, R.bind_ok, moved_ok W T.len1 T.len2 qb, R.bind_ok, ← e1', ae, R.bind_ok, if_neg (by decide), R.bind_ok, moved_ok W1 T.len1 T.len2 qk, e2', R.bind_ok, ae, R.tf_ok, if_neg (by decide), R.bind_ok, ae]
  rfl
end Qk03
theorem PySem.Challenge.cw_pickalike_k03_moved_holds : PySem.Challenge.rw_pickalike_k03_moved.Holds := by
  refine Qk03.holds_of fun ns _ => ?_
  have h := Qk03.r_law ns
  rw [Qk03.law_ok] at h
  exact h
end
