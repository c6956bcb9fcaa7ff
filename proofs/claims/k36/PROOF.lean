import PyProof.Rows.All
import Wide.All
import OpenK.AllK
import Wide.FinOn
import HandS.ForMost
import HandS.Flow
import HandS.TupAny
import HandS.Zip
import HandS.More
import HandS.Deep
import HandS.TupLe
import HandS.TupMul
import HandS.Conv
import HandS.IsInst
import HandS.SortInts
import KE.KIndexOf
import KE.DataFind
import KE.SortData
import KE.GoesNew
import HandS.Iter
import HandS.Style
import HandS.SetFor
import KE.DataAny
import HandS.Strs
import KE.DatumOrd
import ObjForm.LawKit
import HandS.TupSets
import HandS.TupLen
import KE.KDictPairs
import KE.DataMinMax
import HandS.ExcOwn
import HandS.TryOnly
import HandS.WordsExc
import KE.KSortAsk
import KE.KTupSum
import HandS.SetBool
import PySem.Challenge.RW_keyorders_k36_whole_pairs_that_follow
set_option Elab.async false
set_option linter.all false
set_option maxRecDepth 100000
set_option maxHeartbeats 4000000
namespace L2.Lv
open PySem PySem.Spec PyProof.Rows
/-- what a slot holds, by value -/
inductive W where
  | no
  | d (x : PyData)
  | town
  | ol (xs : List PyData)
  | od (kvs : List (PyData × PyData))
abbrev Hz : Hp := fun _ => none
theorem rdz {a : Addr} {u : HO} : ¬ Rd Hz a u := by
  rintro (h | ⟨o, h⟩) <;> cases h
theorem sqLz {K : PySem.W.Frag} {H : Hp} {a : Addr} {xs : List V} (h : SqL K Hz a xs) : SqL K H a xs := by
  rcases h with h | h
  · exact (rdz h).elim
  · exact .inr h
theorem sqTz {K : PySem.W.Frag} {H : Hp} {a : Addr} {xs : List V} (h : SqT K Hz a xs) : SqT K H a xs := by
  rcases h with h | h
  · exact (rdz h).elim
  · exact .inr h
/-- a tuple, as it was made (it has no dict) -/
def TupAt (H : Hp) (a : Addr) (xs : List V) : Prop := ∃ o, H a = some (.frz o (.tup xs)) ∧ o.dict = none
def KTup (K : PySem.W.Frag) (a : Addr) (xs : List V) : Prop := SqT K Hz a xs ∧ ∃ o, K.lookup a = some o ∧ o.cls = .type "tuple" ∧ o.dict = none
theorem TupAt.sq {K : PySem.W.Frag} {H : Hp} {a : Addr} {xs : List V} (h : TupAt H a xs) : SqT K H a xs := by
  obtain ⟨o, h, _⟩ := h
  exact .inl (.inr ⟨o, h⟩)
theorem sqT_of {A : Addr → Prop} {K : PySem.W.Frag} {H : Hp} {a : Addr} {xs : List V} (h : (¬ A a ∧ TupAt H a xs) ∨ KTup K a xs) : SqT K H a xs := h.elim (fun z => z.2.sq) fun z => sqTz z.1
mutual
/-- v reads as the data d, by way of no address of A -/
inductive Dv (A : Addr → Prop) (K : PySem.W.Frag) (H : Hp) : V → PyData → Prop
  | non : Dv A K H .non .none
  | bl (b : Bool) : Dv A K H (.bl b) (.bool b)
  | int (i : Int) : Dv A K H (.int i) (.int i)
  | str (x : Str) : Dv A K H (.str x) (.str x)
  | lst {a : Addr} {xs : List V} {ds : List PyData} : (¬ A a ∧ Rd H a (.lst xs)) ∨ SqL K Hz a xs → DvAll A K H xs ds → Dv A K H (.ref a) (.list ds)
  | tup {a : Addr} {xs : List V} {ds : List PyData} : (¬ A a ∧ TupAt H a xs) ∨ KTup K a xs → DvAll A K H xs ds → Dv A K H (.ref a) (.tuple ds)
inductive DvAll (A : Addr → Prop) (K : PySem.W.Frag) (H : Hp) : List V → List PyData → Prop
  | nil : DvAll A K H [] []
  | cons {v : V} {vs : List V} {d : PyData} {ds : List PyData} : Dv A K H v d → DvAll A K H vs ds → DvAll A K H (v :: vs) (d :: ds)
end
/-- from A, H to A', H': what is read stays -/
def Keep (A A' : Addr → Prop) (H H' : Hp) : Prop := ∀ a o, ¬ A a → H a = some o → ¬ A' a ∧ H' a = some o
theorem Keep.rd {A A' : Addr → Prop} {H H' : Hp} (m : Keep A A' H H') {a : Addr} {u : HO} (n : ¬ A a) (r : Rd H a u) : ¬ A' a ∧ Rd H' a u := by
  rcases r with r | ⟨o, r⟩
  · exact ⟨(m a _ n r).1, .inl (m a _ n r).2⟩
  · exact ⟨(m a _ n r).1, .inr ⟨o, (m a _ n r).2⟩⟩
section
variable {A A' : Addr → Prop} {K : PySem.W.Frag} {H H' : Hp}
mutual
theorem Dv.keep (m : Keep A A' H H') : ∀ (d : PyData) (v : V), Dv A K H v d → Dv A' K H' v d
  | .none, _, h => by cases h; exact .non
  | .bool _, _, h => by cases h; exact .bl _
  | .int _, _, h => by cases h; exact .int _
  | .str _, _, h => by cases h; exact .str _
  | .list ds, _, h => by
    cases h with
    | lst hs ha => exact .lst (hs.imp (fun z => m.rd z.1 z.2) id) (DvAll.keep m ds _ ha)
  | .tuple ds, _, h => by
    cases h with
    | tup hs ha => exact .tup (hs.imp (fun ⟨n, o, r, d⟩ => ⟨(m _ _ n r).1, o, (m _ _ n r).2, d⟩) id) (DvAll.keep m ds _ ha)
  | .dict _, _, h => by cases h
theorem DvAll.keep (m : Keep A A' H H') : ∀ (ds : List PyData) (vs : List V), DvAll A K H vs ds → DvAll A' K H' vs ds
  | [], _, h => by cases h; exact .nil
  | d :: ds, _, h => by
    cases h with
    | cons h1 h2 => exact .cons (Dv.keep m d _ h1) (DvAll.keep m ds _ h2)
end
theorem Dv.mono (m : Keep A A' H H') {d : PyData} {v : V} (h : Dv A K H v d) : Dv A' K H' v d := Dv.keep m d v h
theorem DvAll.mono (m : Keep A A' H H') {ds : List PyData} {vs : List V} (h : DvAll A K H vs ds) : DvAll A' K H' vs ds := DvAll.keep m ds vs h
mutual
theorem Dv.dpK : ∀ (d : PyData) (v : V), Dv A K H v d → Dp K H v d
  | .none, _, h => by cases h; exact .non
  | .bool _, _, h => by cases h; exact .bl _
  | .int _, _, h => by cases h; exact .int _
  | .str _, _, h => by cases h; exact .str _
  | .list ds, _, h => by
    cases h with
    | lst hs ha => exact .lst (hs.elim (fun z => .inl z.2) sqLz) (DvAll.dpK ds _ ha)
  | .tuple ds, _, h => by
    cases h with
    | tup hs ha => exact .tup (sqT_of hs) (DvAll.dpK ds _ ha)
  | .dict _, _, h => by cases h
theorem DvAll.dpK : ∀ (ds : List PyData) (vs : List V), DvAll A K H vs ds → DpAll K H vs ds
  | [], _, h => by cases h; exact .nil
  | d :: ds, _, h => by
    cases h with
    | cons h1 h2 => exact .cons (Dv.dpK d _ h1) (DvAll.dpK ds _ h2)
end
theorem Dv.dp {d : PyData} {v : V} (h : Dv A K H v d) : Dp K H v d := Dv.dpK d v h
theorem DvAll.dp {d : List PyData} {v : List V} (h : DvAll A K H v d) : DpAll K H v d := DvAll.dpK d v h
theorem DvAll.length : ∀ {vs : List V} {ds : List PyData}, DvAll A K H vs ds → vs.length = ds.length
  | _, _, .nil => rfl
  | _, _, .cons _ t => congrArg (· + 1) (DvAll.length t)
theorem DvAll.append : ∀ {vs us : List V} {ds es : List PyData}, DvAll A K H vs ds → DvAll A K H us es → DvAll A K H (vs ++ us) (ds ++ es)
  | _, _, _, _, .nil, s => s
  | _, _, _, _, .cons r t, s => .cons r (DvAll.append t s)
theorem DvAll.take : ∀ (n : Nat) {vs : List V} {ds : List PyData}, DvAll A K H vs ds → DvAll A K H (vs.take n) (ds.take n)
  | 0, _, _, _ => by simpa using DvAll.nil
  | _ + 1, _, _, .nil => .nil
  | n + 1, _, _, .cons r t => .cons r (DvAll.take n t)
theorem DvAll.drop : ∀ (n : Nat) {vs : List V} {ds : List PyData}, DvAll A K H vs ds → DvAll A K H (vs.drop n) (ds.drop n)
  | 0, _, _, h => h
  | _ + 1, _, _, .nil => .nil
  | n + 1, _, _, .cons _ t => DvAll.drop n t
theorem DvAll.get : ∀ {vs : List V} {ds : List PyData} {i : Nat} {d : PyData}, DvAll A K H vs ds → ds[i]? = some d → ∃ v, vs[i]? = some v ∧ Dv A K H v d
  | _, _, _, _, .nil, e => by simp at e
  | _, _, 0, _, .cons r _, e => by simp at e; subst e; exact ⟨_, rfl, r⟩
  | _, _, i + 1, _, .cons _ t, e => by
    obtain ⟨v, h1, h2⟩ := DvAll.get (i := i) t (by simpa using e)
    exact ⟨v, by simpa using h1, h2⟩
theorem DvAll.set : ∀ {vs : List V} {ds : List PyData} {v : V} {d : PyData} (i : Nat), DvAll A K H vs ds → Dv A K H v d → DvAll A K H (vs.set i v) (ds.set i d)
  | _, _, _, _, _, .nil, _ => .nil
  | _, _, _, _, 0, .cons _ t, r => .cons r t
  | _, _, _, _, i + 1, .cons r t, q => .cons r (DvAll.set i t q)
theorem DvAll.eraseIdx : ∀ {vs : List V} {ds : List PyData} (i : Nat), DvAll A K H vs ds → DvAll A K H (vs.eraseIdx i) (ds.eraseIdx i)
  | _, _, _, .nil => .nil
  | _, _, 0, .cons _ t => t
  | _, _, i + 1, .cons r t => .cons r (DvAll.eraseIdx i t)
end
/-! ### dicts -/
inductive KeyD : Key → PyData → Prop
  | int (i : Int) : KeyD (.inl i) (.int i)
  | str (x : Str) : KeyD (.inr x) (.str x)
/-- the mark of a dict whose keys are tuples of ints -/
def markT : PyData × PyData := (.none, .none)
/-- the mark of a dict that is gone through: it is read alone -/
def markF : PyData × PyData := (.none, .bool true)
def DTat (h : Heap) (a : Addr) (xs : List (List Int × Addr × Value)) : Prop :=
  xs.length ≤ sizeLine ∧ (a == sysModules) = false ∧ ∃ (P : Program) (w : World) (o : Obj) (es : Array DictEntry) (ep : Nat), h.get? a = some o ∧ o.ExactDict ∧ o.data = .dict es ep ∧ es.toList = xs.map (entryOfKey (tupleKind (intKind P w))) ∧ (xs.map (·.1)).Nodup
def DO (a : Addr) (xs : List (List Int × Addr × Value)) : HO := .ext fun h => DTat h a xs
def DRel (A : Addr → Prop) (K : PySem.W.Frag) (H : Hp) (q : List Int × Addr × Value) (kv : PyData × PyData) : Prop :=
  kv.1 = .tuple (q.1.map .int) ∧ ((¬ A q.2.1 ∧ TupAt H q.2.1 (q.1.map V.int)) ∨ KTup K q.2.1 (q.1.map V.int)) ∧ ∃ v, RelV v q.2.2 ∧ Dv A K H v kv.2
def DctAt (A : Addr → Prop) (K : PySem.W.Frag) (H : Hp) (a : Addr) (kvs : List (PyData × PyData)) : Prop :=
  (∃ ks, H a = some (.dK ks) ∧ Paired (fun p q => KeyD p.1 q.1 ∧ Dv A K H p.2 q.2) ks kvs) ∨
  (∃ xs rest, kvs = markT :: rest ∧ H a = some (DO a xs) ∧ Paired (DRel A K H) xs rest) ∨
  (∃ ks rest o, kvs = markF :: rest ∧ H a = some (.frz o (.dK ks)) ∧ Paired (fun p q => KeyD p.1 q.1 ∧ Dv A K H p.2 q.2) ks rest)
theorem Paired.impl {α β : Type} {F G : α → β → Prop} (f : ∀ a b, F a b → G a b) : ∀ {l : List α} {m : List β}, Paired F l m → Paired G l m
  | _, _, .nil => .nil
  | _, _, .cons r t => .cons (f _ _ r) (Paired.impl f t)
theorem DRel.mono {A A' : Addr → Prop} {K : PySem.W.Frag} {H H' : Hp} (m : Keep A A' H H') {q : List Int × Addr × Value} {kv : PyData × PyData} (h : DRel A K H q kv) : DRel A' K H' q kv := by
  obtain ⟨h1, h2, v, h3, h4⟩ := h
  exact ⟨h1, h2.imp (fun ⟨n, o, r, d⟩ => ⟨(m _ _ n r).1, o, (m _ _ n r).2, d⟩) id, v, h3, h4.mono m⟩
theorem DctAt.mono {A A' : Addr → Prop} {K : PySem.W.Frag} {H H' : Hp} {a : Addr} {kvs : List (PyData × PyData)} (m : Keep A A' H H') (k : ∀ o, H a = some o → H' a = some o) (h : DctAt A K H a kvs) : DctAt A' K H' a kvs := by
  rcases h with ⟨ks, e, p⟩ | ⟨xs, rest, e0, e, p⟩ | ⟨ks, rest, o, e0, e, p⟩
  · exact .inl ⟨ks, k _ e, Paired.impl (fun x y z => ⟨z.1, z.2.mono m⟩) p⟩
  · exact .inr (.inl ⟨xs, rest, e0, k _ e, Paired.impl (fun x y z => z.mono m) p⟩)
  · exact .inr (.inr ⟨ks, rest, o, e0, k _ e, Paired.impl (fun x y z => ⟨z.1, z.2.mono m⟩) p⟩)
theorem DctAt.there {A : Addr → Prop} {K : PySem.W.Frag} {H : Hp} {a : Addr} {kvs : List (PyData × PyData)} (h : DctAt A K H a kvs) : H a ≠ none := by
  rcases h with ⟨ks, e, _⟩ | ⟨xs, rest, _, e, _⟩ | ⟨ks, rest, o, _, e, _⟩ <;> (rw [e]; simp)
/-! ### the state by value -/
/-- T: where the town stands; P: what others own; H0: the heap at the entry -/
structure Cn where
  T : Option Addr
  P : Addr → Prop
  H0 : Hp
abbrev Ow := Nat → Option Addr
def Av (C : Cn) (O : Ow) : Addr → Prop := fun a => C.P a ∨ C.T = some a ∨ ∃ i, O i = some a
abbrev Ow0 : Ow := fun _ => none
def TownAt (C : Cn) (H : Hp) (n : Nat) : Prop := ∀ a, C.T = some a → H a = some (.lst (List.replicate n (.int 0)))
/-- what an expression does to the heap -/
structure Step (C : Cn) (H H' : Hp) : Prop where
  st : ∀ a o, H a = some o → C.T ≠ some a → H' a = some o
  fr : ∀ a, H' a = none → H a = none
def Grow (H H' : Hp) : Prop := ∀ a o, H a = some o → H' a = some o
theorem Grow.refl {H : Hp} : Grow H H := fun _ _ h => h
theorem Grow.trans {H H1 H2 : Hp} (a : Grow H H1) (b : Grow H1 H2) : Grow H H2 := fun x o h => b x o (a x o h)
theorem Grow.upd {H : Hp} {p : Addr} {o : HO} (h : H p = none) : Grow H (upd H p o) := fun a u e => by rw [upd_ne (ne_of_none e h)]; exact e
theorem Grow.step {C : Cn} {H H' : Hp} (g : Grow H H') : Step C H H' := ⟨fun a o h _ => g a o h, fun a h => by
  cases e : H a with
  | none => rfl
  | some o => rw [g a o e] at h; cases h⟩
theorem Grow.town {C : Cn} {H H' : Hp} {n : Nat} (g : Grow H H') (t : TownAt C H n) : TownAt C H' n := fun a e => g _ _ (t a e)
theorem Step.refl {C : Cn} {H : Hp} : Step C H H := Grow.refl.step
theorem Step.trans {C : Cn} {H H1 H2 : Hp} (a : Step C H H1) (b : Step C H1 H2) : Step C H H2 := ⟨fun x o h n => b.st x o (a.st x o h n) n, fun x h => a.fr x (b.fr x h)⟩
theorem Step.rd {C : Cn} {H H' : Hp} (s : Step C H H') {a : Addr} {u : HO} (n : C.T ≠ some a) (r : Rd H a u) : Rd H' a u := by
  rcases r with r | ⟨o, r⟩
  · exact .inl (s.st _ _ r n)
  · exact .inr ⟨o, s.st _ _ r n⟩
theorem Grow.rd {H H' : Hp} (s : Grow H H') {a : Addr} {u : HO} (r : Rd H a u) : Rd H' a u := by
  rcases r with r | ⟨o, r⟩
  · exact .inl (s _ _ r)
  · exact .inr ⟨o, s _ _ r⟩
theorem Rd.there {H : Hp} {a : Addr} {u : HO} (r : Rd H a u) : H a ≠ none := by
  rcases r with r | ⟨o, r⟩ <;> (rw [r]; simp)
theorem Step.keep {C : Cn} {H H' : Hp} {A : Addr → Prop} (s : Step C H H') (t : ∀ a, C.T = some a → A a) : Keep A A H H' := fun a u n r => ⟨n, s.st a u r (fun e => n (t a e))⟩
theorem Grow.keep {H H' : Hp} {A : Addr → Prop} (s : Grow H H') : Keep A A H H' := fun a u n r => ⟨n, s a u r⟩
theorem Av.t {C : Cn} {O : Ow} : ∀ a, C.T = some a → Av C O a := fun a e => .inr (.inl e)
/-- an expression's value: from the heap H ahead of it to H' -/
def Res (A : Addr → Prop) (T : Option Addr) (K : PySem.W.Frag) (H H' : Hp) (v : V) : W → Prop
  | .no => False
  | .d x => Dv A K H' v x
  | .town => ∃ a, T = some a ∧ v = .ref a
  | .ol xs => ∃ a vs, v = .ref a ∧ H a = none ∧ H' a = some (.lst vs) ∧ DvAll (fun b => A b ∨ b = a) K H' vs xs
  | .od kvs => ∃ a, v = .ref a ∧ H a = none ∧ DctAt (fun b => A b ∨ b = a) K H' a kvs
/-- a value that is looked at: it may be a list or a dict of one's own -/
def DvB (A : Addr → Prop) (T : Option Addr) (K : PySem.W.Frag) (H : Hp) (v : V) (x : PyData) : Prop :=
  Dv A K H v x ∨ (∃ a vs ds, v = .ref a ∧ x = .list ds ∧ T ≠ some a ∧ H a = some (.lst vs) ∧ DvAll A K H vs ds) ∨
  (∃ a kvs, v = .ref a ∧ x = .dict kvs ∧ T ≠ some a ∧ DctAt A K H a kvs)
def W.dat : W → Option PyData
  | .d x => some x
  | .ol xs => some (.list xs)
  | .od kvs => some (.dict kvs)
  | _ => none
/-- taken as it is, for ever -/
def W.frz : W → W
  | .ol xs => .d (.list xs)
  | w => w
def SlOk (A : Addr → Prop) (T : Option Addr) (K : PySem.W.Frag) (H : Hp) (v : Option (Option V)) (o : Option Addr) : W → Prop
  | .no => True
  | .d x => ∃ u, v = some (some u) ∧ Dv A K H u x
  | .town => ∃ a, T = some a ∧ v = some (some (.ref a))
  | .ol xs => ∃ a vs, o = some a ∧ v = some (some (.ref a)) ∧ H a = some (.lst vs) ∧ DvAll A K H vs xs
  | .od kvs => ∃ a, o = some a ∧ v = some (some (.ref a)) ∧ DctAt A K H a kvs
structure EnvOk (C : Cn) (O : Ow) (K : PySem.W.Frag) (σ : St) (H : Hp) (ρ : List W) (n : Nat) : Prop where
  len : ρ.length = σ.length
  sl : ∀ i w, ρ[i]? = some w → SlOk (Av C O) C.T K H σ[i]? (O i) w
  inj : ∀ i j a, O i = some a → O j = some a → i = j
  own : ∀ i a, O i = some a → C.T ≠ some a ∧ C.H0 a = none ∧ H a ≠ none
  town : TownAt C H n
  base : ∀ a o, C.H0 a = some o → C.T ≠ some a → H a = some o
  ptr : ∀ a, C.P a → H a ≠ none
  fr : ∀ a, H a = none → C.H0 a = none
section
variable {C : Cn} {O O' : Ow} {K : PySem.W.Frag} {σ : St} {H H' H1 H2 : Hp} {ρ : List W} {n n' : Nat} {A A' : Addr → Prop} {T : Option Addr} {v : V} {w : W} {x : PyData}
theorem EnvOk.av (E : EnvOk C O K σ H ρ n) : ∀ a, Av C O a → H a ≠ none := by
  rintro a (h | h | ⟨i, h⟩)
  · exact E.ptr a h
  · rw [E.town a h]; simp
  · exact (E.own i a h).2.2
theorem EnvOk.step (E : EnvOk C O K σ H ρ n) (S : Step C H H') (t : TownAt C H' n') : EnvOk C O K σ H' ρ n' := by
  have k : Keep (Av C O) (Av C O) H H' := S.keep Av.t
  have nn : ∀ a, H a ≠ none → H' a ≠ none := fun a h e => h (S.fr a e)
  refine ⟨E.len, fun i w hw => ?_, E.inj, fun i a h => ⟨(E.own i a h).1, (E.own i a h).2.1, nn a (E.own i a h).2.2⟩, t, fun a o h hn => S.st a o (E.base a o h hn) hn, fun a h => nn a (E.ptr a h), fun a h => E.fr a (S.fr a h)⟩
  have q := E.sl i w hw
  cases w with
  | no => trivial
  | d x => obtain ⟨u, h1, h2⟩ := q; exact ⟨u, h1, h2.mono k⟩
  | town => exact q
  | ol xs =>
    obtain ⟨a, vs, h1, h2, h3, h4⟩ := q
    exact ⟨a, vs, h1, h2, S.st _ _ h3 (E.own i a h1).1, h4.mono k⟩
  | od kvs =>
    obtain ⟨a, h1, h2, h3⟩ := q
    exact ⟨a, h1, h2, h3.mono k fun o e => S.st _ _ e (E.own i a h1).1⟩
theorem DvB.step (S : Step C H H') (t : ∀ a, C.T = some a → A a) (h : DvB A C.T K H v x) : DvB A C.T K H' v x := by
  rcases h with h | ⟨a, vs, ds, h1, h2, h3, h4, h5⟩ | ⟨a, kvs, h1, h2, h3, h4⟩
  · exact .inl (h.mono (S.keep t))
  · exact .inr (.inl ⟨a, vs, ds, h1, h2, h3, S.st _ _ h4 h3, h5.mono (S.keep t)⟩)
  · exact .inr (.inr ⟨a, kvs, h1, h2, h3, h4.mono (S.keep t) fun o e => S.st _ _ e h3⟩)
theorem Res.dat (tr : ∀ a, T = some a → H a ≠ none) (h : Res A T K H H' v w) (e : w.dat = some x) : DvB A T K H' v x := by
  cases w with
  | no => cases e
  | d y => cases e; exact .inl h
  | town => cases e
  | ol xs =>
    cases e
    obtain ⟨a, vs, h1, h2, h3, h4⟩ := h
    exact .inr (.inl ⟨a, vs, xs, h1, rfl, fun z => tr a z h2, h3, h4.mono fun b u nb r => ⟨fun z => nb (.inl z), r⟩⟩)
  | od kvs =>
    cases e
    obtain ⟨a, h1, h2, h3⟩ := h
    exact .inr (.inr ⟨a, kvs, h1, rfl, fun z => tr a z h2, h3.mono (fun b u nb r => ⟨fun z => nb (.inl z), r⟩) fun o e => e⟩)
theorem Res.frz (tr : ∀ a, A a → H a ≠ none) (h : Res A T K H H' v w) : Res A T K H H' v w.frz := by
  cases w with
  | ol xs =>
    obtain ⟨a, vs, h1, h2, h3, h4⟩ := h
    subst h1
    exact .lst (.inl ⟨fun z => tr a z h2, .inl h3⟩) (h4.mono fun b u nb r => ⟨fun z => nb (.inl z), r⟩)
  | no => exact h
  | d _ => exact h
  | town => exact h
  | od _ => exact h
end
end L2.Lv
namespace L2.Lv
open PySem PySem.Spec PyProof.Rows
abbrev Fe := List W → Nat → Option (W × Nat)
abbrev Fd := List W → Nat → Option (PyData × Nat)
abbrev Ft := List W → Nat → Option (Bool × Nat)
abbrev Fa := List W → Nat → Option (List W × Nat)
def tV (K : PySem.W.Frag) (f : Fe) : TE := fun σ H Q => ∃ C O ρ n w n', f ρ n = some (w, n') ∧ EnvOk C O K σ H ρ n ∧ ∀ v H', Step C H H' → TownAt C H' n' → Res (Av C O) C.T K H H' v w → Q v H'
def tVB (K : PySem.W.Frag) (f : Fd) : TE := fun σ H Q => ∃ C O ρ n x n', f ρ n = some (x, n') ∧ EnvOk C O K σ H ρ n ∧ ∀ v H', Step C H H' → TownAt C H' n' → DvB (Av C O) C.T K H' v x → Q v H'
def tVT (K : PySem.W.Frag) (f : Ft) : TT := fun σ H Q => ∃ C O ρ n b n', f ρ n = some (b, n') ∧ EnvOk C O K σ H ρ n ∧ ∀ H', Step C H H' → TownAt C H' n' → Q b H'
/-- an argument: data that stays, or the town -/
def ArgOk (A : Addr → Prop) (T : Option Addr) (K : PySem.W.Frag) (H : Hp) (v : V) : W → Prop
  | .d x => Dv A K H v x
  | .town => ∃ a, T = some a ∧ v = .ref a
  | _ => False
abbrev ArgsOk (A : Addr → Prop) (T : Option Addr) (K : PySem.W.Frag) (H : Hp) : List V → List W → Prop := Paired (ArgOk A T K H)
def tVA (K : PySem.W.Frag) (f : Fa) : TA := fun σ H Q => ∃ C O ρ n ws n', f ρ n = some (ws, n') ∧ EnvOk C O K σ H ρ n ∧ ∀ vs H', Step C H H' → TownAt C H' n' → ArgsOk (Av C O) C.T K H' vs ws → Q vs H'
abbrev EvE (X : Cx) (e : Expr) (f : Fe) : Prop := PE X e (tV X.K f)
abbrev EvB (X : Cx) (e : Expr) (f : Fd) : Prop := PE X e (tVB X.K f)
abbrev EvT (X : Cx) (e : Expr) (f : Ft) : Prop := PT X e (tVT X.K f)
abbrev EvW (X : Cx) (e : Expr) (f : Ft) : Prop := PW X e (tVT X.K f)
theorem peI {X : Cx} {e : Expr} {t t' : TE} (h : PE X e t) (w : ∀ σ H Q, t' σ H Q → t σ H Q) : PE X e t' := ⟨fun pins s σ H Q I q => h.run pins s σ H Q I (w σ H Q q)⟩
theorem ptI {X : Cx} {e : Expr} {t t' : TT} (h : PT X e t) (w : ∀ σ H Q, t' σ H Q → t σ H Q) : PT X e t' := ⟨fun pins s σ H Q I q => h.run pins s σ H Q I (w σ H Q q)⟩
theorem pwI {X : Cx} {e : Expr} {t t' : TT} (h : PW X e t) (w : ∀ σ H Q, t' σ H Q → t σ H Q) : PW X e t' := ⟨fun wh pins s σ H Q I q => h.run wh pins s σ H Q I (w σ H Q q)⟩
theorem paI {X : Cx} {e : List Expr} {t t' : TA} (h : PA X e t) (w : ∀ σ H Q, t' σ H Q → t σ H Q) : PA X e t' := ⟨fun p pins s σ H Q I q => h.run p pins s σ H Q I (w σ H Q q)⟩
section
variable {X : Cx} {e a b : Expr} {f fa fb : Fe} {da db : Fd} {pos : Pos}
theorem EnvOk.tr {C : Cn} {O : Ow} {K : PySem.W.Frag} {σ : St} {H : Hp} {ρ : List W} {n : Nat} (E : EnvOk C O K σ H ρ n) : ∀ a, C.T = some a → H a ≠ none := fun a e => E.av a (.inr (.inl e))
/-! names, constants -/
def eVar (i : Nat) : Fe := fun ρ n => match ρ[i]? with
  | some (.d x) => some (.d x, n)
  | some .town => some (.town, n)
  | _ => none
theorem ev_var {i : Nat} (h : PE X e (tVar i)) : EvE X e (eVar i) := peI h (by
  rintro σ H Q ⟨C, O, ρ, n, w, n', hf, E, q⟩
  unfold eVar at hf
  split at hf
  · rename_i x hx
    cases hf
    obtain ⟨u, h1, h2⟩ := E.sl _ _ hx
    exact ⟨u, h1, q _ _ Step.refl E.town h2⟩
  · rename_i hx
    cases hf
    obtain ⟨u, h1, h2⟩ := E.sl _ _ hx
    exact ⟨_, h2, q _ _ Step.refl E.town ⟨u, h1, rfl⟩⟩
  · cases hf)
/-- a name, looked at -/
def dVar (i : Nat) : Fd := fun ρ n => (ρ[i]?.bind W.dat).map (·, n)
theorem eb_var {i : Nat} (h : PE X e (tVar i)) : EvB X e (dVar i) := peI h (by
  rintro σ H Q ⟨C, O, ρ, n, x, n', hf, E, q⟩
  unfold dVar at hf
  cases hx : ρ[i]? with
  | none => rw [hx] at hf; cases hf
  | some w =>
    rw [hx] at hf
    have sl := E.sl _ _ hx
    cases w with
    | no => cases hf
    | town => cases hf
    | d y =>
      cases hf
      obtain ⟨u, h1, h2⟩ := sl
      exact ⟨u, h1, q _ _ Step.refl E.town (.inl h2)⟩
    | ol xs =>
      cases hf
      obtain ⟨a, vs, h1, h2, h3, h4⟩ := sl
      exact ⟨_, h2, q _ _ Step.refl E.town (.inr (.inl ⟨a, vs, xs, rfl, rfl, (E.own i a h1).1, h3, h4⟩))⟩
    | od kvs =>
      cases hf
      obtain ⟨a, h1, h2, h3⟩ := sl
      exact ⟨_, h2, q _ _ Step.refl E.town (.inr (.inr ⟨a, kvs, rfl, rfl, (E.own i a h1).1, h3⟩))⟩)
def eC (x : PyData) : Fe := fun _ n => some (.d x, n)
theorem ev_c {v : V} {x : PyData} (h : PE X e (tC v)) (r : ∀ A H, Dv A X.K H v x) : EvE X e (eC x) := peI h (by
  rintro σ H Q ⟨C, O, ρ, n, w, n', hf, E, q⟩
  cases hf
  exact q _ _ Step.refl E.town (r _ _))
theorem ev_int {i j pos} : EvE X (.Constant (.int i) j pos) (eC (.int i)) := ev_c pe_int fun _ _ => .int _
theorem ev_bl {i j pos} : EvE X (.Constant (.bool i) j pos) (eC (.bool i)) := ev_c pe_bl fun _ _ => .bl _
theorem ev_non {j pos} : EvE X (.Constant .none j pos) (eC .none) := ev_c pe_non fun _ _ => .non
theorem ev_str {i j pos} : EvE X (.Constant (.str i) j pos) (eC (.str i)) := ev_c pe_str fun _ _ => .str _
/-- a value that is looked at -/
def dOf (f : Fe) : Fd := fun ρ n => (f ρ n).bind fun p => p.1.dat.map (·, p.2)
theorem eb_of (h : EvE X e f) : EvB X e (dOf f) := peI h (by
  rintro σ H Q ⟨C, O, ρ, n, x, n', hf, E, q⟩
  unfold dOf at hf
  obtain ⟨⟨w, n1⟩, h1, h2⟩ := Option.bind_eq_some_iff.mp hf
  obtain ⟨y, h3, h4⟩ := Option.map_eq_some_iff.mp h2
  cases h4
  exact ⟨C, O, ρ, n, w, n1, h1, E, fun v H' st t r => q v H' st t (r.dat E.tr h3)⟩)
/-- .. kept as it is for ever -/
def eFrz (f : Fe) : Fe := fun ρ n => (f ρ n).map fun p => (p.1.frz, p.2)
theorem ev_frz (h : EvE X e f) : EvE X e (eFrz f) := peI h (by
  rintro σ H Q ⟨C, O, ρ, n, x, n', hf, E, q⟩
  unfold eFrz at hf
  obtain ⟨⟨w, n1⟩, h1, h2⟩ := Option.map_eq_some_iff.mp hf
  cases h2
  exact ⟨C, O, ρ, n, w, n1, h1, E, fun v H' st t r => q v H' st t (r.frz E.av)⟩)
/-! operators -/
def OpV (X : Cx) (f : Value → Value → Sem Value) (g : PyData → PyData → Option W) : Prop := ∃ r : R2, OpR X f r ∧
  ∀ (A : Addr → Prop) (T : Option Addr) (x y : V) (dx dy : PyData) (w : W) (H : Hp) (Q : VK), (∀ a, A a → H a ≠ none) → DvB A T X.K H x dx → DvB A T X.K H y dy → g dx dy = some w →
    (∀ v H', Grow H H' → Res A none X.K H H' v w → Q v H') → r x y H Q
theorem OpV.or {f : Value → Value → Sem Value} {g h : PyData → PyData → Option W} (hg : OpV X f g) (hh : OpV X f h) : OpV X f (fun x y => (g x y).or (h x y)) := by
  obtain ⟨r, h1, h2⟩ := hg
  obtain ⟨r', h1', h2'⟩ := hh
  refine ⟨_, h1.or h1', fun A T x y dx dy w H Q tr rx ry e q => ?_⟩
  have e : (g dx dy).or (h dx dy) = some w := e
  cases hx : g dx dy with
  | none =>
    rw [hx] at e
    exact .inr (h2' A T x y dx dy w H Q tr rx ry (by simpa using e) q)
  | some w' =>
    rw [hx] at e
    exact .inl (h2 A T x y dx dy w H Q tr rx ry (hx.trans (by simpa using e)) q)
def eBin (g : PyData → PyData → Option W) (fa fb : Fd) : Fe := fun ρ n => (fa ρ n).bind fun p => (fb ρ p.2).bind fun q => (g p.1 q.1).map (·, q.2)
theorem Res.none_any {A : Addr → Prop} {T : Option Addr} {K : PySem.W.Frag} {H H' : Hp} {v : V} {w : W} (h : Res A none K H H' v w) : Res A T K H H' v w := by
  cases w with
  | town => obtain ⟨a, e, _⟩ := h; cases e
  | no => exact h
  | d _ => exact h
  | ol _ => exact h
  | od _ => exact h
theorem Res.back {A : Addr → Prop} {T : Option Addr} {K : PySem.W.Frag} {H0 H H' : Hp} {v : V} {w : W} (b : ∀ a, H a = none → H0 a = none) (h : Res A T K H H' v w) : Res A T K H0 H' v w := by
  cases w with
  | no => exact h
  | d _ => exact h
  | town => exact h
  | ol xs => obtain ⟨a, vs, h1, h2, h3⟩ := h; exact ⟨a, vs, h1, b a h2, h3⟩
  | od xs => obtain ⟨a, h1, h2, h3⟩ := h; exact ⟨a, h1, b a h2, h3⟩
theorem op_run {fo : Value → Value → Sem Value} {g : PyData → PyData → Option W} {r : R2} {σ : St} {H : Hp} {Q : VK}
    (h2 : ∀ (A : Addr → Prop) (T : Option Addr) (x y : V) (dx dy : PyData) (w : W) (H : Hp) (Q : VK), (∀ a, A a → H a ≠ none) → DvB A T X.K H x dx → DvB A T X.K H y dy → g dx dy = some w → (∀ v H', Grow H H' → Res A none X.K H H' v w → Q v H') → r x y H Q)
    (h : tV X.K (eBin g da db) σ H Q) : tOp r (tVB X.K da) (tVB X.K db) σ H Q := by
  obtain ⟨C, O, ρ, n, w, n', hf, E, q⟩ := h
  unfold eBin at hf
  obtain ⟨⟨x, n1⟩, e1, hf⟩ := Option.bind_eq_some_iff.mp hf
  obtain ⟨⟨y, n2⟩, e2, hf⟩ := Option.bind_eq_some_iff.mp hf
  obtain ⟨z, e3, hf⟩ := Option.map_eq_some_iff.mp hf
  cases hf
  refine ⟨C, O, ρ, n, x, n1, e1, E, fun vx H1 s1 t1 r1 => ?_⟩
  have E1 := E.step s1 t1
  refine ⟨C, O, ρ, n1, y, n2, e2, E1, fun vy H2 s2 t2 r2 => ?_⟩
  have E2 := E1.step s2 t2
  refine h2 (Av C O) C.T vx vy x y w H2 Q E2.av (r1.step s2 Av.t) r2 e3 fun v H3 g3 r3 => ?_
  exact q v H3 ((s1.trans s2).trans g3.step) (g3.town t2) (r3.none_any.back fun a ha => s1.fr a (s2.fr a ha))
theorem ev_bin {op : Operator} {g : PyData → PyData → Option W} (ho : OpV X (binaryOp op) g) (ha : EvB X a da) (hb : EvB X b db) : EvE X (.BinOp a op b pos) (eBin g da db) := by
  obtain ⟨r, h1, h2⟩ := ho
  exact peI (pe_op h1 ha hb) fun σ H Q h => op_run (fo := binaryOp op) h2 h
theorem ev_cmp {op : CmpOp} {g : PyData → PyData → Option W} (ho : OpV X (compareOp op) g) (ha : EvB X a da) (hb : EvB X b db) (hm : behindInMarks op b = false) : EvE X (.Compare a [op] [b] pos) (eBin g da db) := by
  obtain ⟨r, h1, h2⟩ := ho
  exact peI (pe_cmpR h1 ha hb hm) fun σ H Q h => op_run (fo := compareOp op) h2 h
/-- a comparison's truth -/
def bTest (f : Fe) : Ft := fun ρ n => (f ρ n).bind fun p => match p.1 with
  | .d (.bool c) => some (c, p.2)
  | _ => none
theorem tV_bool {K : PySem.W.Frag} {f : Fe} {σ : St} {H : Hp} {Q : Bool → Hp → Prop} (h : tVT K (bTest f) σ H Q) : tV K f σ H (fun x H' => ∃ k, x = .bl k ∧ Q k H') := by
  obtain ⟨C, O, ρ, n, c, n', hf, E, q⟩ := h
  unfold bTest at hf
  obtain ⟨⟨x, n1⟩, e1, hf⟩ := Option.bind_eq_some_iff.mp hf
  cases x with
  | d y =>
    cases y with
    | bool c' =>
      cases hf
      refine ⟨C, O, ρ, n, _, _, e1, E, fun v H' s t r => ?_⟩
      have r : Dv (Av C O) K H' v (.bool c) := r
      cases r
      exact ⟨c, rfl, q H' s t⟩
    | _ => cases hf
  | _ => cases hf
theorem et_cmp {op : CmpOp} {g : PyData → PyData → Option W} (ho : OpV X (compareOp op) g) (ha : EvB X a da) (hb : EvB X b db) (hm : behindInMarks op b = false) : EvT X (.Compare a [op] [b] pos) (bTest (eBin g da db)) := by
  obtain ⟨r, h1, h2⟩ := ho
  exact ptI (pt_cmpR h1 ha hb hm) fun σ H Q h => op_run (fo := compareOp op) h2 (tV_bool h)
/-! truth -/
def dTru : PyData → Option Bool
  | .none => some false
  | .bool b => some b
  | .int i => some (i != 0)
  | .str y => if y.length ≤ sizeLine then some ((y.length : Int) != 0) else none
  | .list xs => some (!xs.isEmpty)
  | .tuple xs => some (!xs.isEmpty)
  | .dict _ => none
def bTru (f : Fd) : Ft := fun ρ n => (f ρ n).bind fun p => (dTru p.1).map (·, p.2)
theorem DvAll.empty {A : Addr → Prop} {K : PySem.W.Frag} {H : Hp} {vs : List V} {ds : List PyData} (h : DvAll A K H vs ds) : vs.isEmpty = ds.isEmpty := by cases h <;> rfl
theorem DvB.tup {A : Addr → Prop} {T : Option Addr} {K : PySem.W.Frag} {H : Hp} {v : V} {ds : List PyData} (h : DvB A T K H v (.tuple ds)) : ∃ a xs, v = .ref a ∧ SqT K H a xs ∧ DvAll A K H xs ds ∧ Dv A K H v (.tuple ds) := by
  rcases h with h | ⟨a, vs, ds, h1, h2, _⟩ | ⟨a, kvs, h1, h2, _⟩
  · cases id h with
    | tup hs ha => exact ⟨_, _, rfl, sqT_of hs, ha, h⟩
  · cases h2
  · cases h2
theorem DvB.lst {A : Addr → Prop} {T : Option Addr} {K : PySem.W.Frag} {H : Hp} {v : V} {ds : List PyData} (h : DvB A T K H v (.list ds)) : ∃ a xs, v = .ref a ∧ SqL K H a xs ∧ DvAll A K H xs ds := by
  rcases h with h | ⟨a, vs, ds, h1, h2, h3, h4, h5⟩ | ⟨a, kvs, h1, h2, _⟩
  · cases h with
    | lst hs ha => exact ⟨_, _, rfl, hs.elim (fun z => .inl z.2) sqLz, ha⟩
  · cases h2
    exact ⟨a, vs, h1, SqL.of h4, h5⟩
  · cases h2
theorem DvB.int {A : Addr → Prop} {T : Option Addr} {K : PySem.W.Frag} {H : Hp} {v : V} {i : Int} (h : DvB A T K H v (.int i)) : v = .int i := by
  rcases h with h | ⟨a, vs, ds, h1, h2, _⟩ | ⟨a, kvs, h1, h2, _⟩
  · cases h; rfl
  · cases h2
  · cases h2
theorem DvB.str {A : Addr → Prop} {T : Option Addr} {K : PySem.W.Frag} {H : Hp} {v : V} {i : Str} (h : DvB A T K H v (.str i)) : v = .str i := by
  rcases h with h | ⟨a, vs, ds, h1, h2, _⟩ | ⟨a, kvs, h1, h2, _⟩
  · cases h; rfl
  · cases h2
  · cases h2
theorem DvB.bl {A : Addr → Prop} {T : Option Addr} {K : PySem.W.Frag} {H : Hp} {v : V} {i : Bool} (h : DvB A T K H v (.bool i)) : v = .bl i := by
  rcases h with h | ⟨a, vs, ds, h1, h2, _⟩ | ⟨a, kvs, h1, h2, _⟩
  · cases h; rfl
  · cases h2
  · cases h2
theorem DvB.non {A : Addr → Prop} {T : Option Addr} {K : PySem.W.Frag} {H : Hp} {v : V} (h : DvB A T K H v .none) : v = .non := by
  rcases h with h | ⟨a, vs, ds, h1, h2, _⟩ | ⟨a, kvs, h1, h2, _⟩
  · cases h; rfl
  · cases h2
  · cases h2
theorem DvB.dct {A : Addr → Prop} {T : Option Addr} {K : PySem.W.Frag} {H : Hp} {v : V} {kvs : List (PyData × PyData)} (h : DvB A T K H v (.dict kvs)) : ∃ a, v = .ref a ∧ DctAt A K H a kvs := by
  rcases h with h | ⟨a, vs, ds, h1, h2, _⟩ | ⟨a, kvs, h1, h2, h3, h4⟩
  · cases h
  · cases h2
  · cases h2; exact ⟨a, h1, h4⟩
theorem dTru_ok {A : Addr → Prop} {T : Option Addr} {K : PySem.W.Frag} {H : Hp} {v : V} {x : PyData} {c : Bool} (h : DvB A T K H v x) (e : dTru x = some c) : TruV K v H c := by
  cases x with
  | none => have := h.non; subst this; cases e; rfl
  | bool b => have := h.bl; subst this; cases e; rfl
  | int i => have := h.int; subst this; cases e; rfl
  | str y =>
    have := h.str; subst this
    simp only [dTru] at e
    split at e
    · rename_i hy
      cases e; exact ⟨hy, rfl⟩
    · cases e
  | list xs =>
    obtain ⟨a, vs, rfl, h1, h2⟩ := h.lst
    cases e
    exact .inl ⟨vs, h1, by rw [h2.empty]⟩
  | tuple xs =>
    obtain ⟨a, vs, rfl, h1, h2, _⟩ := h.tup
    cases e
    exact .inr (.inl ⟨vs, h1, by rw [h2.empty]⟩)
  | dict _ => cases e
theorem et_tru (ha : EvB X a da) (he : ∀ whole, isTrue a X.env whole = (do let v ← whole; standAt a.pos; holding [v] (truthy v))) : EvT X a (bTru da) := ptI (pt_truth ha he) (by
  rintro σ H Q ⟨C, O, ρ, n, c, n', hf, E, q⟩
  unfold bTru at hf
  obtain ⟨⟨x, n1⟩, e1, hf⟩ := Option.bind_eq_some_iff.mp hf
  obtain ⟨z, e3, hf⟩ := Option.map_eq_some_iff.mp hf
  cases hf
  exact ⟨C, O, ρ, n, x, n1, e1, E, fun v H' s t r => ⟨c, dTru_ok r e3, q H' s t⟩⟩)
/-! and, or, not, if -/
variable {ta tb tc : Ft} {rest : List Expr} {c : Expr}
def bAnd (ta tb : Ft) : Ft := fun ρ n => (ta ρ n).bind fun p => if p.1 then tb ρ p.2 else some (false, p.2)
def bOr (ta tb : Ft) : Ft := fun ρ n => (ta ρ n).bind fun p => if p.1 then some (true, p.2) else tb ρ p.2
def bNot (ta : Ft) : Ft := fun ρ n => (ta ρ n).map fun p => (!p.1, p.2)
theorem ew_and1 (ha : EvT X a ta) : EvW X (.BoolOp .And [a] pos) ta := pw_and1 ha
theorem ew_or1 (ha : EvT X a ta) : EvW X (.BoolOp .Or [a] pos) ta := pw_or1 ha
theorem ew_and (ha : EvT X a ta) (hb : EvW X (.BoolOp .And (b :: rest) pos) tb) : EvW X (.BoolOp .And (a :: b :: rest) pos) (bAnd ta tb) := pwI (pw_and ha hb) (by
  rintro σ H Q ⟨C, O, ρ, n, c, n', hf, E, q⟩
  unfold bAnd at hf
  obtain ⟨⟨x, n1⟩, e1, hf⟩ := Option.bind_eq_some_iff.mp hf
  refine ⟨C, O, ρ, n, x, n1, e1, E, fun H1 s1 t1 => ?_⟩
  cases x with
  | true =>
    rw [if_pos rfl]
    exact ⟨C, O, ρ, n1, c, n', by simpa using hf, E.step s1 t1, fun H2 s2 t2 => q H2 (s1.trans s2) t2⟩
  | false =>
    rw [if_neg (by simp)]
    simp at hf
    obtain ⟨rfl, rfl⟩ := hf
    exact q H1 s1 t1)
theorem ew_or (ha : EvT X a ta) (hb : EvW X (.BoolOp .Or (b :: rest) pos) tb) : EvW X (.BoolOp .Or (a :: b :: rest) pos) (bOr ta tb) := pwI (pw_or ha hb) (by
  rintro σ H Q ⟨C, O, ρ, n, c, n', hf, E, q⟩
  unfold bOr at hf
  obtain ⟨⟨x, n1⟩, e1, hf⟩ := Option.bind_eq_some_iff.mp hf
  refine ⟨C, O, ρ, n, x, n1, e1, E, fun H1 s1 t1 => ?_⟩
  cases x with
  | false =>
    rw [if_neg (by simp)]
    exact ⟨C, O, ρ, n1, c, n', by simpa using hf, E.step s1 t1, fun H2 s2 t2 => q H2 (s1.trans s2) t2⟩
  | true =>
    rw [if_pos rfl]
    simp at hf
    obtain ⟨rfl, rfl⟩ := hf
    exact q H1 s1 t1)
theorem et_w (h : EvW X a ta) : EvT X a ta := h.pt
theorem et_not (ha : EvT X a ta) : EvT X (.UnaryOp .Not a pos) (bNot ta) := ptI (pt_not ha) (by
  rintro σ H Q ⟨C, O, ρ, n, c, n', hf, E, q⟩
  unfold bNot at hf
  obtain ⟨⟨x, n1⟩, e1, hf⟩ := Option.map_eq_some_iff.mp hf
  cases hf
  exact ⟨C, O, ρ, n, x, n1, e1, E, fun H1 s1 t1 => q H1 s1 t1⟩)
def eIf (tc : Ft) (fa fb : Fe) : Fe := fun ρ n => (tc ρ n).bind fun p => if p.1 then fa ρ p.2 else fb ρ p.2
theorem Res.step0 {A : Addr → Prop} {T : Option Addr} {K : PySem.W.Frag} {C : Cn} {H H1 H' : Hp} {v : V} {w : W} (s : Step C H H1) (h : Res A T K H1 H' v w) : Res A T K H H' v w := h.back s.fr
theorem ev_ife (hc : EvT X c tc) (ha : EvE X a fa) (hb : EvE X b fb) : EvE X (.IfExp c a b pos) (eIf tc fa fb) := peI (pe_ifExp hc ha hb) (by
  rintro σ H Q ⟨C, O, ρ, n, w, n', hf, E, q⟩
  unfold eIf at hf
  obtain ⟨⟨x, n1⟩, e1, hf⟩ := Option.bind_eq_some_iff.mp hf
  refine ⟨C, O, ρ, n, x, n1, e1, E, fun H1 s1 t1 => ?_⟩
  cases x with
  | true => exact ⟨C, O, ρ, n1, w, n', by simpa using hf, E.step s1 t1, fun v H2 s2 t2 r => q v H2 (s1.trans s2) t2 (r.step0 s1)⟩
  | false => exact ⟨C, O, ρ, n1, w, n', by simpa using hf, E.step s1 t1, fun v H2 s2 t2 r => q v H2 (s1.trans s2) t2 (r.step0 s1)⟩)
/-- and, or, not as values (bools) -/
def eB (t : Ft) : Fe := fun ρ n => (t ρ n).map fun p => (.d (.bool p.1), p.2)
/-- and as a value: all but the last are truths -/
def eAnd (fa fb : Fe) : Fe := fun ρ n => (fa ρ n).bind fun p => match p.1 with
  | .d (.bool true) => fb ρ p.2
  | .d (.bool false) => some (.d (.bool false), p.2)
  | _ => none
def eOr (fa fb : Fe) : Fe := fun ρ n => (fa ρ n).bind fun p => match p.1 with
  | .d (.bool false) => fb ρ p.2
  | .d (.bool true) => some (.d (.bool true), p.2)
  | _ => none
end
end L2.Lv
namespace L2.Lv
open PySem PySem.Spec PyProof.Rows
abbrev Fds := List W → Nat → Option (List PyData × Nat)
abbrev DvBs (A : Addr → Prop) (T : Option Addr) (K : PySem.W.Frag) (H : Hp) : List V → List PyData → Prop := Paired (DvB A T K H)
def tVD (K : PySem.W.Frag) (f : Fds) : TA := fun σ H Q => ∃ C O ρ n xs n', f ρ n = some (xs, n') ∧ EnvOk C O K σ H ρ n ∧ ∀ vs H', Step C H H' → TownAt C H' n' → DvBs (Av C O) C.T K H' vs xs → Q vs H'
structure EvA (X : Cx) (es : List Expr) (f : Fa) : Prop where
  pa : PA X es (tVA X.K f)
  len : ∀ ρ n ws n', f ρ n = some (ws, n') → ws.length = es.length
abbrev EvD (X : Cx) (es : List Expr) (f : Fds) : Prop := PA X es (tVD X.K f)
section
variable {X : Cx} {e a b : Expr} {es : List Expr} {f fa fb : Fe} {d da db : Fd} {fs : Fa} {ds : Fds} {pos : Pos}
/-! arguments -/
def aNil : Fa := fun _ n => some ([], n)
def W.arg : W → Option W
  | .d x => some (.d x)
  | .ol xs => some (.d (.list xs))
  | .town => some .town
  | _ => none
def aCons (f : Fe) (fs : Fa) : Fa := fun ρ n => (f ρ n).bind fun p => p.1.arg.bind fun w => (fs ρ p.2).map fun q => (w :: q.1, q.2)
theorem ArgOk.step {C : Cn} {A : Addr → Prop} {K : PySem.W.Frag} {H H' : Hp} {v : V} {w : W} (s : Step C H H') (t : ∀ a, C.T = some a → A a) (h : ArgOk A C.T K H v w) : ArgOk A C.T K H' v w := by
  cases w with
  | d x => exact Dv.mono (s.keep t) h
  | town => exact h
  | no => exact h
  | ol _ => exact h
  | od _ => exact h
theorem Res.arg {A : Addr → Prop} {T : Option Addr} {K : PySem.W.Frag} {H H' : Hp} {v : V} {w w' : W} (tr : ∀ a, A a → H a ≠ none) (h : Res A T K H H' v w) (e : w.arg = some w') : ArgOk A T K H' v w' := by
  have q := h.frz tr
  cases w with
  | d x => cases e; exact q
  | ol x => cases e; exact q
  | town => cases e; exact q
  | no => cases e
  | od _ => cases e
theorem ea_nil : EvA X [] aNil := ⟨paI pa_nil (by
  rintro σ H Q ⟨C, O, ρ, n, w, n', hf, E, q⟩
  cases hf
  exact q _ _ Step.refl E.town .nil), by rintro ρ n ws n' h; cases h; rfl⟩
theorem ea_cons (ha : EvE X e f) (hr : EvA X es fs) (hs : starEach (e :: es) X.env = (false, eval e X.env) :: starEach es X.env := by rfl) : EvA X (e :: es) (aCons f fs) := by
  refine ⟨paI (pa_cons ha hr.pa hs) ?_, ?_⟩
  · rintro σ H Q ⟨C, O, ρ, n, w, n', hf, E, q⟩
    unfold aCons at hf
    obtain ⟨⟨x, n1⟩, e1, hf⟩ := Option.bind_eq_some_iff.mp hf
    obtain ⟨x', e2, hf⟩ := Option.bind_eq_some_iff.mp hf
    obtain ⟨⟨ws, n2⟩, e3, hf⟩ := Option.map_eq_some_iff.mp hf
    cases hf
    refine ⟨C, O, ρ, n, x, n1, e1, E, fun v H1 s1 t1 r1 => ?_⟩
    refine ⟨C, O, ρ, n1, ws, n2, e3, E.step s1 t1, fun vs H2 s2 t2 r2 => ?_⟩
    exact q _ _ (s1.trans s2) t2 (.cons ((r1.arg E.av e2).step s2 Av.t) r2)
  · intro ρ n ws n' h
    unfold aCons at h
    obtain ⟨⟨x, n1⟩, e1, h⟩ := Option.bind_eq_some_iff.mp h
    obtain ⟨x', e2, h⟩ := Option.bind_eq_some_iff.mp h
    obtain ⟨⟨ws, n2⟩, e3, h⟩ := Option.map_eq_some_iff.mp h
    cases h
    simp [hr.len _ _ _ _ e3]
def sNil : Fds := fun _ n => some ([], n)
def sCons (f : Fd) (fs : Fds) : Fds := fun ρ n => (f ρ n).bind fun p => (fs ρ p.2).map fun q => (p.1 :: q.1, q.2)
theorem ed_nil : EvD X [] sNil := paI pa_nil (by
  rintro σ H Q ⟨C, O, ρ, n, w, n', hf, E, q⟩
  cases hf
  exact q _ _ Step.refl E.town .nil)
theorem DvBs.step {C : Cn} {A : Addr → Prop} {K : PySem.W.Frag} {H H' : Hp} (s : Step C H H') (t : ∀ a, C.T = some a → A a) {vs : List V} {xs : List PyData} (h : DvBs A C.T K H vs xs) : DvBs A C.T K H' vs xs := Paired.impl (fun _ _ z => DvB.step s t z) h
theorem ed_cons (ha : EvB X e d) (hr : EvD X es ds) (hs : starEach (e :: es) X.env = (false, eval e X.env) :: starEach es X.env := by rfl) : EvD X (e :: es) (sCons d ds) := paI (pa_cons ha hr hs) (by
  rintro σ H Q ⟨C, O, ρ, n, w, n', hf, E, q⟩
  unfold sCons at hf
  obtain ⟨⟨x, n1⟩, e1, hf⟩ := Option.bind_eq_some_iff.mp hf
  obtain ⟨⟨ws, n2⟩, e3, hf⟩ := Option.map_eq_some_iff.mp hf
  cases hf
  refine ⟨C, O, ρ, n, x, n1, e1, E, fun v H1 s1 t1 r1 => ?_⟩
  refine ⟨C, O, ρ, n1, ws, n2, e3, E.step s1 t1, fun vs H2 s2 t2 r2 => ?_⟩
  exact q _ _ (s1.trans s2) t2 (.cons (r1.step s2 Av.t) r2))
/-! displays -/
def W.val : W → Option PyData
  | .d x => some x
  | _ => none
def vals : List W → Option (List PyData)
  | [] => some []
  | w :: ws => w.val.bind fun x => (vals ws).map (x :: ·)
theorem vals_ok {A : Addr → Prop} {T : Option Addr} {K : PySem.W.Frag} {H : Hp} : ∀ {ws : List W} {vs : List V} {xs : List PyData}, ArgsOk A T K H vs ws → vals ws = some xs → DvAll A K H vs xs ∧ xs.length = ws.length
  | _, _, _, .nil, e => by cases e; exact ⟨.nil, rfl⟩
  | w :: ws, _, _, .cons r t, e => by
    unfold vals at e
    obtain ⟨x, e1, e⟩ := Option.bind_eq_some_iff.mp e
    obtain ⟨ys, e2, e⟩ := Option.map_eq_some_iff.mp e
    cases e
    obtain ⟨q1, q2⟩ := vals_ok t e2
    cases w with
    | d y => cases e1; exact ⟨.cons r q1, by simp [q2]⟩
    | _ => cases e1
def eTup (fs : Fa) : Fe := fun ρ n => (fs ρ n).bind fun p => (vals p.1).map fun xs => (.d (.tuple xs), p.2)
def eLst (fs : Fa) : Fe := fun ρ n => (fs ρ n).bind fun p => (vals p.1).map fun xs => (.ol xs, p.2)
theorem small_line {n : Nat} (h : n ≤ 1000) : n ≤ sizeLine := Nat.le_of_lt (small1000 h)
theorem new_tup {A : Addr → Prop} {K : PySem.W.Frag} {H : Hp} {p : Addr} {vs : List V} {xs : List PyData} {o : Obj} (hp : H p = none) (tr : ∀ a, A a → H a ≠ none) (ho : o.dict = none) (h : DvAll A K H vs xs) : Dv A K (upd H p (.frz o (.tup vs))) (.ref p) (.tuple xs) :=
  .tup (.inl ⟨fun z => tr p z hp, o, upd_same, ho⟩) (h.mono (Grow.upd hp).keep)
/-! tuples as they are made -/
def rNewT (xs : List V) (H : Hp) (Q : VK) : Prop := ∀ p o, o.dict = none → H p = none → Q (.ref p) (upd H p (.frz o (.tup xs)))
theorem Inv.newT {pins : List (Addr × Obj)} {σ : St} {H : Hp} {s : Shared} {Q : VK} {xs : List V} {us : List Value} (I : Inv X pins σ H s) (r : Vals xs us) (hz : xs.length ≤ sizeLine) (q : rNewT xs H Q) :
    EP X pins σ Q (.ref s.heap.objs.size) { s with heap := s.heap.push { cls := .type "tuple", data := .seq us.toArray } } :=
  ⟨.ref s.heap.objs.size, _, I.laid (t' := s.toks) (o := .frz { cls := .type "tuple", data := .seq us.toArray } (.tup xs)) (fun b u e => Heap.get?_push_of_some _ e) (Nat.le_refl _) ⟨Heap.get?_push_size _ rfl, hz, us, r, IsTup.new _ _⟩, rfl,
    q _ _ rfl (I.hok.fresh (Nat.le_refl _))⟩
def tTupF (t : L2.TA) : TE := fun σ H Q => t σ H fun xs H1 => xs.length ≤ sizeLine ∧ rNewT xs H1 Q
theorem pe_tupF {t : L2.TA} {x1} (h : PA X es t) : PE X (.Tuple es x1 pos) (tTupF t) := ⟨fun pins s σ H Q I hq =>
  wpAny_Tuple_spliced (thn (h.run pos pins s σ H _ I hq) fun us s1 ⟨xs, H1, I1, r, z, q⟩ => ⟨by rw [← r.length]; exact z, Inv.newT I1 r z q⟩)⟩
/-- t + u -/
def rCatF (K : PySem.W.Frag) : R2 := fun x y H Q => ∃ a b xs ys, x = .ref a ∧ y = .ref b ∧ SqT K H a xs ∧ SqT K H b ys ∧ xs.length + ys.length ≤ sizeLine ∧
  (xs = [] → Q (.ref b) H) ∧ (ys = [] → Q (.ref a) H) ∧ rNewT (xs ++ ys) H Q
theorem op_catF : OpR X (binaryOp .Add) (rCatF X.K) := by
  rintro pins s σ H x y v u Q I rx ry ⟨a, b, xs, ys, rfl, rfl, ha, hb, hz, q0, q1, q2⟩
  have hv : v = .ref a := rx
  have hu : u = .ref b := ry
  subst hv hu
  obtain ⟨its, r1, p1, _⟩ := I.tuple ha
  obtain ⟨its2, r2, p2, _⟩ := I.tuple hb
  by_cases hx : xs = []
  · subst hx
    cases r1
    exact cat_tup0 p1 p2 ⟨.ref b, H, I, rfl, q0 rfl⟩
  · refine HT.cat_tup p1 p2 (fun z => hx (r1.nil_iff.mp z)) (fun z => ⟨.ref a, H, I, rfl, q1 (r2.nil_iff.mp z)⟩) (fun _ => ?_) (by rw [← r1.length, ← r2.length]; exact hz)
    exact Inv.newT I (r1.append r2) (by rw [List.length_append]; exact hz) q2
/-- t[lo:hi] -/
def rSlF (K : PySem.W.Frag) : V → Option Int → Option Int → Hp → VK → Prop := fun x lo hi H Q => ∃ a xs, x = .ref a ∧ SqT K H a xs ∧
  (HT.sIx xs.length 0 lo = 0 ∧ HT.sIx xs.length xs.length hi = xs.length → Q (.ref a) H) ∧ rNewT (cutV xs lo hi) H Q
theorem sl_tupF : SlR X (rSlF X.K) := by
  rintro pins s σ H x v vl vu lo hi sl Q I rx hs pl pu ⟨a, xs, rfl, hx, q1, q2⟩
  by_cases hw : HT.sIx xs.length 0 lo = 0 ∧ HT.sIx xs.length xs.length hi = xs.length
  · exact sl_tupA pins s σ H _ v vl vu lo hi sl Q I rx hs pl pu ⟨a, xs, rfl, hx, q1, fun z => (z hw).elim⟩
  · have hv : v = .ref a := rx
    subst hv
    obtain ⟨its, r, ht, hz⟩ := I.tuple hx
    have hlen : its.toArray.size = xs.length := by rw [List.size_toArray]; exact r.length.symm
    refine ⟨"tuple", _, PyProof.Rows.slot_tuple_getitem.lookup, ht.typeIs, HT.getItem_tuple_cut ht hs pl pu (by rw [hlen]; exact hw) ?_ (by rw [hlen]; exact hz)⟩
    rw [hlen]
    exact Inv.newT I ((r.drop _).take _) (Nat.le_trans (cutV_length xs lo hi) hz) q2
/-- tuple(x) -/
theorem call_tupF : CallR X (.type "tuple") (fun xs H Q => ∃ p ys, xs = [.ref p] ∧ ((SqL X.K H p ys ∧ rNewT ys H Q) ∨ (SqT X.K H p ys ∧ Q (.ref p) H))) := by
  rintro pins s σ H xs us Q I r ⟨p, ys, rfl, h⟩
  obtain ⟨u, rfl, rx⟩ := vals1 r
  have hu : u = .ref p := rx
  subst hu
  rcases h with ⟨hq, q⟩ | ⟨hq, q⟩
  · obtain ⟨its, r', pl, hz⟩ := I.list hq
    have hlen := r'.length
    refine call_tuple_list pl.isList (fun h' kp => ?_) (by simp only [List.size_toArray] <;> omega)
    exact Inv.newT (I.kept (t' := s.toks) kp) r' hz q
  · obtain ⟨its, r', pl, hz⟩ := I.tuple hq
    exact call_tuple_same pl ⟨.ref p, H, I, rfl, q⟩
theorem new_lst {A : Addr → Prop} {T : Option Addr} {K : PySem.W.Frag} {H : Hp} {p : Addr} {vs : List V} {xs : List PyData} (hp : H p = none) (h : DvAll A K H vs xs) : Res A T K H (upd H p (.lst vs)) (.ref p) (.ol xs) :=
  ⟨p, vs, rfl, hp, upd_same, h.mono fun a u n r => ⟨fun z => z.elim n fun e => (by rw [e, hp] at r; cases r), Grow.upd hp _ _ r⟩⟩
theorem ev_tup {x1} (h : EvA X es fs) (hz : es.length ≤ 1000 := by decide) : EvE X (.Tuple es x1 pos) (eTup fs) := peI (pe_tupF h.pa) (by
  rintro σ H Q ⟨C, O, ρ, n, w, n', hf, E, q⟩
  unfold eTup at hf
  obtain ⟨⟨ws, n1⟩, e1, hf⟩ := Option.bind_eq_some_iff.mp hf
  obtain ⟨xs, e2, hf⟩ := Option.map_eq_some_iff.mp hf
  cases hf
  refine ⟨C, O, ρ, n, ws, _, e1, E, fun vs H1 s1 t1 r1 => ?_⟩
  obtain ⟨d1, d2⟩ := vals_ok r1 e2
  have hl := h.len _ _ _ _ e1
  refine ⟨by rw [d1.length]; exact small_line (by omega), fun p o ho hp => ?_⟩
  exact q _ _ (s1.trans (Grow.upd hp).step) ((Grow.upd hp).town t1) (new_tup hp (E.step s1 t1).av ho d1))
theorem ev_lst (h : EvA X es fs) (hz : es.length ≤ 1000 := by decide) : EvE X (.List es pos) (eLst fs) := peI (pe_lst h.pa) (by
  rintro σ H Q ⟨C, O, ρ, n, w, n', hf, E, q⟩
  unfold eLst at hf
  obtain ⟨⟨ws, n1⟩, e1, hf⟩ := Option.bind_eq_some_iff.mp hf
  obtain ⟨xs, e2, hf⟩ := Option.map_eq_some_iff.mp hf
  cases hf
  refine ⟨C, O, ρ, n, ws, _, e1, E, fun vs H1 s1 t1 r1 => ?_⟩
  obtain ⟨d1, d2⟩ := vals_ok r1 e2
  have hl := h.len _ _ _ _ e1
  refine ⟨by rw [d1.length]; exact small_line (by omega), fun p hp => ?_⟩
  exact q _ _ (s1.trans (Grow.upd hp).step) ((Grow.upd hp).town t1) ((new_lst hp d1).back s1.fr))
/-! calls of a def -/
abbrev Fn := List W → Nat → Option (W × Nat)
/-- the promise: by value -/
def spOf (K : PySem.W.Frag) (k : Nat) (F : Fn) : Sp := fun vs H Q E => ∃ (T : Option Addr) (P : Addr → Prop) (ws : List W) (n : Nat) (w : W) (n' : Nat),
  (∀ a, P a → H a ≠ none) ∧ TownAt ⟨T, P, H⟩ H n ∧ ws.length = k ∧ ArgsOk (Av ⟨T, P, H⟩ Ow0) T K H vs ws ∧ F ws n = some (w, n') ∧
  ∀ v H', Step ⟨T, P, H⟩ H H' → TownAt ⟨T, P, H⟩ H' n' → Res (Av ⟨T, P, H⟩ Ow0) T K H H' v w → Q v H'
theorem spOf.len {K : PySem.W.Frag} {k : Nat} {F : Fn} : ∀ vs H Q E, spOf K k F vs H Q E → vs.length = k := by
  rintro vs H Q E ⟨T, P, ws, n, w, n', _, _, hl, ha, _⟩
  rw [← hl]
  exact Paired.length ha
def eCall (F : Fn) (fs : Fa) : Fe := fun ρ n => (fs ρ n).bind fun p => F p.1 p.2
theorem Res.av {A A' : Addr → Prop} {T : Option Addr} {K : PySem.W.Frag} {H H' : Hp} {v : V} {w : W} (i : ∀ a, A' a → A a) (h : Res A T K H H' v w) : Res A' T K H H' v w := by
  cases w with
  | no => exact h
  | d _ => exact Dv.mono (fun a u n r => ⟨fun z => n (i a z), r⟩) h
  | town => exact h
  | ol xs => obtain ⟨a, vs, h1, h2, h3, h4⟩ := h; exact ⟨a, vs, h1, h2, h3, h4.mono fun b u n r => ⟨fun z => n (z.imp (i b) id), r⟩⟩
  | od xs => obtain ⟨a, h1, h2, h3⟩ := h; exact ⟨a, h1, h2, h3.mono (fun b u n r => ⟨fun z => n (z.imp (i b) id), r⟩) fun o e => e⟩
theorem call_run {k : Nat} {F : Fn} (h0 : EvA X es fs) (hk : es.length = k) {σ : St} {H : Hp} {Q : VK} (h : tV X.K (eCall F fs) σ H Q) : tCall (spOf X.K k F) [] E0 (tVA X.K fs) σ H Q := by
  obtain ⟨C, O, ρ, n, w, n', hf, E, q⟩ := h
  unfold eCall at hf
  obtain ⟨⟨ws, n1⟩, e1, hf⟩ := Option.bind_eq_some_iff.mp hf
  refine ⟨C, O, ρ, n, ws, n1, e1, E, fun vs H1 s1 t1 r1 => ?_⟩
  have E1 := E.step s1 t1
  have av1 : ∀ a, Av ⟨C.T, fun a => C.P a ∨ ∃ i, O i = some a, H1⟩ Ow0 a → Av C O a := by
    rintro a ((z | z) | z | ⟨i, z⟩)
    · exact .inl z
    · exact .inr (.inr z)
    · exact .inr (.inl z)
    · cases z
  have av2 : ∀ a, Av C O a → Av ⟨C.T, fun a => C.P a ∨ ∃ i, O i = some a, H1⟩ Ow0 a := by
    rintro a (z | z | z)
    · exact .inl (.inl z)
    · exact .inr (.inl z)
    · exact .inl (.inr z)
  show spOf X.K k F (vs ++ []) H1 Q E0
  rw [List.append_nil]
  refine ⟨C.T, fun a => C.P a ∨ ∃ i, O i = some a, ws, n1, w, n', fun a z => E1.av a (z.elim .inl fun z => .inr (.inr z)), t1, ?_, ?_, hf, fun v H2 s2 t2 r2 => ?_⟩
  · rw [h0.len _ _ _ _ e1, hk]
  · refine Paired.impl (fun v w z => ?_) r1
    cases w with
    | d x => exact Dv.mono (fun a u n r => ⟨fun z => n (av1 a z), r⟩) z
    | town => exact z
    | no => exact z
    | ol _ => exact z
    | od _ => exact z
  · have s2' : Step C H1 H2 := ⟨s2.st, s2.fr⟩
    exact q v H2 (s1.trans s2') t2 ((r2.av av2).back s1.fr)
section
variable {k j : Nat} {F : Fn} {g : Addr} {fd : FuncData} {ps : List Str} {x : Str} {p : Pos}
theorem ev_call (G : FnOk X.prog X.w X.K X.mg X.base CX0 j g fd ps (spOf X.K k F)) (hr : Room j X.A) (hg : Gl X x) (hm : X.mg x = some (.ref g)) (hk : PySem.W.keepIn X.K (.ref g) = true) (hb : Binds X.K fd ps []) (ha : EvA X (e :: es) fs)
    (hl : (e :: es).length = k := by rfl) (hdb : (x == ("__debug__" : Str)) = false := by decide) (he : starEach (e :: es) X.env = (false, eval e X.env) :: starEach es X.env := by rfl) (hpl : (backTo pos (starEach es X.env)).any (·.1) = false := by rfl) :
    EvE X (.Call (.Name x p) (e :: es) [] pos) (eCall F fs) := peI (pe_call G hr hg hm hk hb .nil pass0 ha.pa hdb he hpl) fun σ H Q h => call_run ha hl h
end
/-! calls of built-ins, by values -/
def CallV (X : Cx) (f : Value) (g : List PyData → Option W) : Prop := ∃ r, CallR X f r ∧
  ∀ (A : Addr → Prop) (T : Option Addr) (vs : List V) (xs : List PyData) (w : W) (H : Hp) (Q : VK), (∀ a, A a → H a ≠ none) → DvBs A T X.K H vs xs → g xs = some w →
    (∀ v H', Grow H H' → Res A none X.K H H' v w → Q v H') → r vs H Q
def eApp (g : List PyData → Option W) (ds : Fds) : Fe := fun ρ n => (ds ρ n).bind fun p => (g p.1).map (·, p.2)
theorem app_run {g : List PyData → Option W} {r : List V → Hp → VK → Prop} {σ : St} {H : Hp} {Q : VK}
    (h2 : ∀ (A : Addr → Prop) (T : Option Addr) (vs : List V) (xs : List PyData) (w : W) (H : Hp) (Q : VK), (∀ a, A a → H a ≠ none) → DvBs A T X.K H vs xs → g xs = some w →
      (∀ v H', Grow H H' → Res A none X.K H H' v w → Q v H') → r vs H Q)
    (h : tV X.K (eApp g ds) σ H Q) : tCB r (tVD X.K ds) σ H Q := by
  obtain ⟨C, O, ρ, n, w, n', hf, E, q⟩ := h
  unfold eApp at hf
  obtain ⟨⟨xs, n1⟩, e1, hf⟩ := Option.bind_eq_some_iff.mp hf
  obtain ⟨z, e2, hf⟩ := Option.map_eq_some_iff.mp hf
  cases hf
  refine ⟨C, O, ρ, n, xs, _, e1, E, fun vs H1 s1 t1 r1 => ?_⟩
  exact h2 (Av C O) C.T vs xs _ H1 Q (E.step s1 t1).av r1 e2 fun v H2 g2 r2 => q v H2 (s1.trans g2.step) (g2.town t1) (r2.none_any.back s1.fr)
section
variable {x : Str} {p : Pos} {id T : String} {g g' : List PyData → Option W}
theorem ev_callB (hc : CallV X (.builtin id) g) (hg : Gl X x) (hm : X.mg x = none) (hv : bootBuiltins x = some (.builtin id)) (ha : EvD X (e :: es) ds) (hn : x ≠ "__name__" := by decide) (hdb : (x == ("__debug__" : Str)) = false := by decide)
    (he : starEach (e :: es) X.env = (false, eval e X.env) :: starEach es X.env := by rfl) (hpl : (backTo pos (starEach es X.env)).any (·.1) = false := by rfl) : EvE X (.Call (.Name x p) (e :: es) [] pos) (eApp g ds) := by
  obtain ⟨r, h1, h2⟩ := hc
  exact peI (pe_callB h1 hg hm hv ha hn hdb he hpl) fun σ H Q h => app_run h2 h
theorem ev_callTy (hc : CallV X (.type T) g) (hg : Gl X x) (hm : X.mg x = none) (hv : bootBuiltins x = some (.type T)) (ha : EvD X (e :: es) ds) (hn : x ≠ "__name__" := by decide) (hdb : (x == ("__debug__" : Str)) = false := by decide)
    (he : starEach (e :: es) X.env = (false, eval e X.env) :: starEach es X.env := by rfl) (hpl : (backTo pos (starEach es X.env)).any (·.1) = false := by rfl) : EvE X (.Call (.Name x p) (e :: es) [] pos) (eApp g ds) := by
  obtain ⟨r, h1, h2⟩ := hc
  exact peI (pe_callTy h1 hg hm hv ha hn hdb he hpl) fun σ H Q h => app_run h2 h
theorem CallV.or {f : Value} (hg : CallV X f g) (hh : CallV X f g') : CallV X f (fun xs => (g xs).or (g' xs)) := by
  obtain ⟨r, h1, h2⟩ := hg
  obtain ⟨r', h1', h2'⟩ := hh
  refine ⟨_, h1.or h1', fun A T vs xs w H Q tr rx e q => ?_⟩
  have e : (g xs).or (g' xs) = some w := e
  cases hx : g xs with
  | none =>
    rw [hx] at e
    exact .inr (h2' A T vs xs w H Q tr rx (by simpa using e) q)
  | some w' =>
    rw [hx] at e
    exact .inl (h2 A T vs xs w H Q tr rx (hx.trans (by simpa using e)) q)
end
/-! subscripts, slices -/
def IxV (X : Cx) (g : PyData → PyData → Option W) : Prop := ∃ r : R2, IxR X r ∧
  ∀ (A : Addr → Prop) (T : Option Addr) (x y : V) (dx dy : PyData) (w : W) (H : Hp) (Q : VK), (∀ a, A a → H a ≠ none) → DvB A T X.K H x dx → DvB A T X.K H y dy → g dx dy = some w →
    (∀ v H', Grow H H' → Res A none X.K H H' v w → Q v H') → r x y H Q
theorem ev_ix {g : PyData → PyData → Option W} (ho : IxV X g) (ha : EvB X a da) (hb : EvB X b db) (hs : PlainIx b) : EvE X (.Subscript a b pos) (eBin g da db) := by
  obtain ⟨r, h1, h2⟩ := ho
  exact peI (pe_ix h1 ha hb hs) fun σ H Q h => op_run (fo := binaryOp .Add) h2 h
def dIx : PyData → PyData → Option W
  | .list xs, .int i => (atI xs i).map .d
  | .tuple xs, .int i => (atI xs i).map .d
  | _, _ => none
theorem DvAll.at {A : Addr → Prop} {K : PySem.W.Frag} {H : Hp} {vs : List V} {xs : List PyData} {i : Int} {x : PyData} (h : DvAll A K H vs xs) (e : atI xs i = some x) : ∃ v, atI vs i = some v ∧ Dv A K H v x := by
  unfold atI at e ⊢
  rw [h.length]
  cases hj : ixN xs.length i with
  | none => rw [hj] at e; cases e
  | some j =>
    rw [hj] at e
    obtain ⟨v, h1, h2⟩ := h.get e
    exact ⟨v, h1, h2⟩
theorem ixv : IxV X dIx := ⟨_, ix_list.or ix_tup, fun A T x y dx dy w H Q tr rx ry e q => by
  cases dy with
  | int i =>
    have := ry.int; subst this
    cases dx with
    | list xs =>
      obtain ⟨z, e1, rfl⟩ := Option.map_eq_some_iff.mp (show (atI xs i).map W.d = some w from e)
      obtain ⟨a, vs, rfl, h1, h2⟩ := rx.lst
      obtain ⟨v, h3, h4⟩ := h2.at e1
      exact .inl ⟨a, vs, i, v, rfl, rfl, h1, h3, q _ _ Grow.refl h4⟩
    | tuple xs =>
      obtain ⟨z, e1, rfl⟩ := Option.map_eq_some_iff.mp (show (atI xs i).map W.d = some w from e)
      obtain ⟨a, vs, rfl, h1, h2, _⟩ := rx.tup
      obtain ⟨v, h3, h4⟩ := h2.at e1
      exact .inr ⟨a, vs, i, v, rfl, rfl, h1, h3, q _ _ Grow.refl h4⟩
    | _ => cases e
  | _ => cases dx <;> cases e⟩
abbrev Fo := List W → Nat → Option (Option Int × Nat)
def tVO (K : PySem.W.Frag) (f : Fo) : TO := fun σ H Q => ∃ C O ρ n o n', f ρ n = some (o, n') ∧ EnvOk C O K σ H ρ n ∧ ∀ H', Step C H H' → TownAt C H' n' → Q o H'
structure EvO (X : Cx) (e : Option Expr) (f : Fo) : Prop where
  ex : ∃ t, PO X e t ∧ ∀ σ H Q, tVO X.K f σ H Q → t σ H Q
def oNone : Fo := fun _ n => some (none, n)
def oSome (d : Fd) : Fo := fun ρ n => (d ρ n).bind fun p => match p.1 with
  | .int i => some (some i, p.2)
  | _ => none
theorem eo_none : EvO X none oNone := ⟨_, po_none, by
  rintro σ H Q ⟨C, O, ρ, n, w, n', hf, E, q⟩
  cases hf
  exact q _ Step.refl E.town⟩
theorem eo_some (h : EvB X e d) : EvO X (some e) (oSome d) := ⟨_, po_some h, by
  rintro σ H Q ⟨C, O, ρ, n, w, n', hf, E, q⟩
  unfold oSome at hf
  obtain ⟨⟨x, n1⟩, e1, hf⟩ := Option.bind_eq_some_iff.mp hf
  cases x with
  | int i =>
    cases hf
    refine ⟨C, O, ρ, n, _, _, e1, E, fun v H1 s1 t1 r1 => ?_⟩
    exact ⟨i, r1.int, q _ s1 t1⟩
  | _ => cases hf⟩
def SlV (X : Cx) (g : PyData → Option Int → Option Int → Option W) : Prop := ∃ r, SlR X r ∧
  ∀ (A : Addr → Prop) (T : Option Addr) (x : V) (dx : PyData) (lo hi : Option Int) (w : W) (H : Hp) (Q : VK), (∀ a, A a → H a ≠ none) → DvB A T X.K H x dx → g dx lo hi = some w →
    (∀ v H', Grow H H' → Res A none X.K H H' v w → Q v H') → r x lo hi H Q
def eSl (g : PyData → Option Int → Option Int → Option W) (d : Fd) (o o' : Fo) : Fe := fun ρ n => (d ρ n).bind fun p => (o ρ p.2).bind fun q => (o' ρ q.2).bind fun r => (g p.1 q.1 r.1).map (·, r.2)
theorem ev_slice {g : PyData → Option Int → Option Int → Option W} {lo hi : Option Expr} {o o' : Fo} {p2 : Pos} (hs : SlV X g) (ha : EvB X a d) (hl : EvO X lo o) (hu : EvO X hi o') : EvE X (.Subscript a (.Slice lo hi none p2) pos) (eSl g d o o') := by
  obtain ⟨r, h1, h2⟩ := hs
  obtain ⟨t, p1, w1⟩ := hl.ex
  obtain ⟨t', p1', w1'⟩ := hu.ex
  refine peI (pe_slice h1 ha p1 p1') ?_
  rintro σ H Q ⟨C, O, ρ, n, w, n', hf, E, q⟩
  unfold eSl at hf
  obtain ⟨⟨x, n1⟩, e1, hf⟩ := Option.bind_eq_some_iff.mp hf
  obtain ⟨⟨i, n2⟩, e2, hf⟩ := Option.bind_eq_some_iff.mp hf
  obtain ⟨⟨j, n3⟩, e3, hf⟩ := Option.bind_eq_some_iff.mp hf
  obtain ⟨z, e4, hf⟩ := Option.map_eq_some_iff.mp hf
  cases hf
  refine ⟨C, O, ρ, n, x, _, e1, E, fun v H1 s1 t1 r1 => ?_⟩
  have E1 := E.step s1 t1
  refine w1 σ H1 _ ⟨C, O, ρ, n1, i, n2, e2, E1, fun H2 s2 t2 => ?_⟩
  have E2 := E1.step s2 t2
  refine w1' σ H2 _ ⟨C, O, ρ, n2, j, _, e3, E2, fun H3 s3 t3 => ?_⟩
  refine h2 (Av C O) C.T v x i j _ H3 Q (E2.step s3 t3).av ((r1.step s2 Av.t).step s3 Av.t) e4 fun v H4 g4 r4 => ?_
  exact q v H4 (((s1.trans s2).trans s3).trans g4.step) (g4.town t3) (r4.none_any.back fun a ha => s1.fr a (s2.fr a (s3.fr a ha)))
/-- what stands from lo to ahead of hi -/
def cutD (xs : List PyData) (lo hi : Option Int) : List PyData := (xs.drop (HT.sIx xs.length 0 lo)).take (HT.sIx xs.length xs.length hi - HT.sIx xs.length 0 lo)
def dSl : PyData → Option Int → Option Int → Option W
  | .list xs, lo, hi => some (.ol (cutD xs lo hi))
  | .tuple xs, lo, hi => some (.d (.tuple (cutD xs lo hi)))
  | _, _, _ => none
theorem DvAll.cut {A : Addr → Prop} {K : PySem.W.Frag} {H : Hp} {vs : List V} {xs : List PyData} {lo hi : Option Int} (h : DvAll A K H vs xs) : DvAll A K H (cutV vs lo hi) (cutD xs lo hi) := by
  unfold cutV cutD
  rw [h.length]
  exact (h.drop _).take _
theorem slv : SlV X dSl := ⟨_, sl_list.or sl_tupF, fun A T x dx lo hi w H Q tr rx e q => by
  cases dx with
  | list xs =>
    cases e
    obtain ⟨a, vs, rfl, h1, h2⟩ := rx.lst
    exact .inl ⟨a, vs, rfl, h1, fun p hp => q _ _ (Grow.upd hp) (new_lst hp h2.cut)⟩
  | tuple xs =>
    cases e
    obtain ⟨a, vs, rfl, h1, h2, h3⟩ := rx.tup
    refine .inr ⟨a, vs, rfl, h1, fun hw => ?_, fun p o ho hp => q _ _ (Grow.upd hp) (new_tup hp tr ho h2.cut)⟩
    have e : cutD xs lo hi = xs := by
      rw [h2.length] at hw
      unfold cutD
      rw [hw.1, hw.2, List.drop_zero, Nat.sub_zero, List.take_length]
    rw [e] at q
    exact q _ _ Grow.refl h3
  | _ => cases e⟩
end
end L2.Lv
namespace L2.Lv
open PySem PySem.Spec PyProof.Rows
inductive Out where
  | nx (ρ : List W) (n : Nat)
  | rt (w : W) (n : Nat)
  | bk (ρ : List W) (n : Nat)
abbrev Fs := List W → Nat → Option Out
/-- what statements do to the heap -/
structure StepS (C : Cn) (O O' : Ow) (H H' : Hp) : Prop where
  st : ∀ a o, H a = some o → C.T ≠ some a → (∀ i, O i ≠ some a) → H' a = some o
  fr : ∀ a, H' a = none → H a = none
  ow : ∀ i a, O' i = some a → (∃ j, O j = some a) ∨ H a = none
section
variable {C : Cn} {O O' O1 O2 : Ow} {K : PySem.W.Frag} {σ : St} {H H' H1 H2 : Hp} {ρ : List W} {n n' : Nat} {v : V} {w : W} {x : PyData}
theorem Step.stepS (s : Step C H H') (h : ∀ i a, O' i = some a → (∃ j, O j = some a) ∨ H a = none) : StepS C O O' H H' := ⟨fun a o e t _ => s.st a o e t, s.fr, h⟩
theorem Step.stepS0 (s : Step C H H') : StepS C O O H H' := s.stepS fun i a h => .inl ⟨i, h⟩
theorem StepS.trans (a : StepS C O O1 H H1) (b : StepS C O1 O2 H1 H2) : StepS C O O2 H H2 := by
  refine ⟨fun x o e t ne => b.st x o (a.st x o e t ne) t fun i z => ?_, fun x h => a.fr x (b.fr x h), fun i x h => ?_⟩
  · rcases a.ow i x z with ⟨j, q⟩ | q
    · exact ne j q
    · rw [q] at e; cases e
  · rcases b.ow i x h with ⟨j, q⟩ | q
    · exact a.ow j x q
    · exact .inr (a.fr x q)
/-- what is read by no way of ours stays -/
theorem StepS.keep (s : StepS C O O' H H') : Keep (Av C O) (Av C O') H H' := fun a u na r => by
  have nt : C.T ≠ some a := fun e => na (.inr (.inl e))
  have no : ∀ i, O i ≠ some a := fun i e => na (.inr (.inr ⟨i, e⟩))
  refine ⟨?_, ?_⟩
  · rintro (z | z | ⟨i, z⟩)
    · exact na (.inl z)
    · exact nt z
    · rcases s.ow i a z with ⟨j, q⟩ | q
      · exact no j q
      · rw [q] at r; cases r
  · exact s.st _ _ r nt no
structure EndRt (C : Cn) (K : PySem.W.Frag) (H' : Hp) (n' : Nat) (v : V) (w : W) : Prop where
  base : ∀ a o, C.H0 a = some o → C.T ≠ some a → H' a = some o
  fr : ∀ a, H' a = none → C.H0 a = none
  town : TownAt C H' n'
  res : Res (Av C Ow0) C.T K C.H0 H' v w
def EndOk (C : Cn) (O : Ow) (K : PySem.W.Frag) (H : Hp) (D : Ends) : Out → Prop
  | .nx ρ' n' => ∀ O' σ' H', StepS C O O' H H' → EnvOk C O' K σ' H' ρ' n' → D.nx σ' H'
  | .rt w n' => ∀ v H', EndRt C K H' n' v w → D.rt v H'
  | .bk ρ' n' => ∀ O' σ' H', StepS C O O' H H' → EnvOk C O' K σ' H' ρ' n' → D.bk σ' H'
/-- what is ours is no one else's -/
def OwnP (C : Cn) (O : Ow) : Prop := ∀ i a, O i = some a → ¬ C.P a
theorem OwnP.step (h : OwnP C O) (E : EnvOk C O K σ H ρ n) (s : StepS C O O' H H') : OwnP C O' := fun i a e z => by
  rcases s.ow i a e with ⟨j, q⟩ | q
  · exact h j a q z
  · exact E.ptr a z q
def tVS (K : PySem.W.Frag) (f : Fs) : TS := fun D σ H => ∃ C O ρ n out, f ρ n = some out ∧ EnvOk C O K σ H ρ n ∧ OwnP C O ∧ EndOk C O K H D out
abbrev EvS (X : Cx) (st : Stmt) (f : Fs) : Prop := PS X st (tVS X.K f)
abbrev EvSs (X : Cx) (st : List Stmt) (f : Fs) : Prop := PSs X st (tVS X.K f)
theorem EndOk.after {D : Ends} {out : Out} (s : StepS C O O' H H') (h : EndOk C O K H D out) : EndOk C O' K H' D out := by
  cases out with
  | nx ρ n => exact fun O2 σ2 H2 s2 E2 => h O2 σ2 H2 (s.trans s2) E2
  | bk ρ n => exact fun O2 σ2 H2 s2 E2 => h O2 σ2 H2 (s.trans s2) E2
  | rt w n => exact h
end
section
variable {X : Cx} {e a b : Expr} {es : List Expr} {f fa fb : Fe} {d da db : Fd} {fs : Fa} {ds : Fds} {pos : Pos} {st : Stmt} {rest sts sts' : List Stmt} {g h : Fs}
theorem psI {t t' : TS} (h : PS X st t) (w : ∀ D σ H, t' D σ H → t D σ H) : PS X st t' := ⟨fun pins s σ H D I q => h.run pins s σ H D I (w D σ H q)⟩
theorem pssI {t t' : TS} (h : PSs X sts t) (w : ∀ D σ H, t' D σ H → t D σ H) : PSs X sts t' := ⟨fun pins s σ H D I q => h.run pins s σ H D I (w D σ H q)⟩
def sNil' : Fs := fun ρ n => some (.nx ρ n)
def sSeq (g h : Fs) : Fs := fun ρ n => (g ρ n).bind fun o => match o with
  | .nx ρ' n' => h ρ' n'
  | o => some o
theorem ss_nil : EvSs X [] sNil' := pssI pss_nil (by
  rintro D σ H ⟨C, O, ρ, n, out, hf, E, np, q⟩
  cases hf
  exact q O σ H Step.refl.stepS0 E)
theorem ss_cons (h1 : EvS X st g) (h2 : EvSs X rest h) : EvSs X (st :: rest) (sSeq g h) := pssI (pss_cons h1 h2) (by
  rintro D σ H ⟨C, O, ρ, n, out, hf, E, np, q⟩
  unfold sSeq at hf
  obtain ⟨o, e1, hf⟩ := Option.bind_eq_some_iff.mp hf
  refine ⟨C, O, ρ, n, o, e1, E, np, ?_⟩
  cases o with
  | nx ρ' n' => exact fun O' σ' H' s E' => ⟨C, O', ρ', n', out, hf, E', np.step E s, q.after s⟩
  | rt w n' => cases hf; exact q
  | bk ρ' n' => cases hf; exact q)
theorem ss_one (h1 : EvS X st g) : EvSs X [st] g := pss_one h1
theorem ss_never : EvS X st (fun _ _ => none) := psI ps_never (by rintro D σ H ⟨C, O, ρ, n, out, hf, E, np, q⟩; cases hf)
def sBrk : Fs := fun ρ n => some (.bk ρ n)
theorem ss_break : EvS X (.Break pos) sBrk := psI ps_break (by
  rintro D σ H ⟨C, O, ρ, n, out, hf, E, np, q⟩
  cases hf
  exact q O σ H Step.refl.stepS0 E)
/-! what is handed back -/
theorem EnvOk.endRt {C : Cn} {O : Ow} {K : PySem.W.Frag} {σ : St} {H H1 : Hp} {ρ : List W} {n n' : Nat} {v : V} {w : W} (E : EnvOk C O K σ H ρ n) (s : Step C H H1) (t : TownAt C H1 n') (r : Res (Av C O) C.T K H H1 v w) : EndRt C K H1 n' v w := by
  have E1 := E.step s t
  refine ⟨E1.base, E1.fr, t, (r.av (A' := Av C Ow0) ?_).back E.fr⟩
  rintro a (z | z | ⟨i, z⟩)
  · exact .inl z
  · exact .inr (.inl z)
  · cases z
def sRet (f : Fe) : Fs := fun ρ n => (f ρ n).map fun p => .rt p.1 p.2
theorem ss_ret (ha : EvE X e f) : EvS X (.Return (some e) pos) (sRet f) := psI (ps_ret ha) (by
  rintro D σ H ⟨C, O, ρ, n, out, hf, E, np, q⟩
  unfold sRet at hf
  obtain ⟨⟨w, n1⟩, e1, hf⟩ := Option.map_eq_some_iff.mp hf
  cases hf
  exact ⟨C, O, ρ, n, w, n1, e1, E, fun v H1 s t r => q v H1 (E.endRt s t r)⟩)
def sRetN : Fs := fun _ n => some (.rt (.d .none) n)
/-- a list or dict of one's own -/
def sRetO (i : Nat) : Fs := fun ρ n => match ρ[i]? with
  | some (.ol xs) => some (.rt (.ol xs) n)
  | some (.od xs) => some (.rt (.od xs) n)
  | _ => none
theorem ss_retO {i : Nat} (h : PE X e (tVar i)) : EvS X (.Return (some e) pos) (sRetO i) := psI (ps_ret h) (by
  rintro D σ H ⟨C, O, ρ, n, out, hf, E, np, q⟩
  unfold sRetO at hf
  have av0 : ∀ a b, O i = some b → (Av C Ow0 a ∨ a = b) → Av C O a := by
    rintro a b e ((z | z | ⟨i, z⟩) | z)
    · exact .inl z
    · exact .inr (.inl z)
    · cases z
    · subst z; exact .inr (.inr ⟨i, e⟩)
  split at hf
  · rename_i xs hx
    cases hf
    obtain ⟨a, vs, h1, h2, h3, h4⟩ := E.sl _ _ hx
    exact ⟨_, h2, q _ _ ⟨E.base, E.fr, E.town, a, vs, rfl, (E.own i a h1).2.1, h3, h4.mono fun b u nb r => ⟨fun z => nb (av0 b a h1 z), r⟩⟩⟩
  · rename_i xs hx
    cases hf
    obtain ⟨a, h1, h2, h3⟩ := E.sl _ _ hx
    exact ⟨_, h2, q _ _ ⟨E.base, E.fr, E.town, a, rfl, (E.own i a h1).2.1, h3.mono (fun b u nb r => ⟨fun z => nb (av0 b a h1 z), r⟩) fun o e => e⟩⟩
  · cases hf)
def sDrop (f : Fe) : Fs := fun ρ n => (f ρ n).map fun p => .nx ρ p.2
theorem ss_expr (ha : EvE X e f) (hs : swapsWith e none pos.line X.env = pure false := by rfl) : EvS X (.Expr e pos) (sDrop f) := psI (ps_expr ha hs) (by
  rintro D σ H ⟨C, O, ρ, n, out, hf, E, np, q⟩
  unfold sDrop at hf
  obtain ⟨⟨w, n1⟩, e1, hf⟩ := Option.map_eq_some_iff.mp hf
  cases hf
  exact ⟨C, O, ρ, n, w, n1, e1, E, fun v H1 s t r => q O σ H1 s.stepS0 (E.step s t)⟩)
def sIf (c : Ft) (g h : Fs) : Fs := fun ρ n => (c ρ n).bind fun p => if p.1 then g ρ p.2 else h ρ p.2
theorem ss_if {c : Expr} {tc : Ft} (hc : EvT X c tc) (ha : EvSs X sts g) (hb : EvSs X sts' h) : EvS X (.If c sts sts' pos) (sIf tc g h) := psI (ps_if hc ha hb) (by
  rintro D σ H ⟨C, O, ρ, n, out, hf, E, np, q⟩
  unfold sIf at hf
  obtain ⟨⟨x, n1⟩, e1, hf⟩ := Option.bind_eq_some_iff.mp hf
  refine ⟨C, O, ρ, n, x, n1, e1, E, fun H1 s t => ?_⟩
  cases x with
  | true => exact ⟨C, O, ρ, n1, out, by simpa using hf, E.step s t, np, q.after s.stepS0⟩
  | false => exact ⟨C, O, ρ, n1, out, by simpa using hf, E.step s t, np, q.after s.stepS0⟩)
/-! stores -/
def owSet (O : Ow) (i : Nat) (o : Option Addr) : Ow := fun j => if j = i then o else O j
theorem owSet_at {O : Ow} {i : Nat} {o : Option Addr} : owSet O i o i = o := if_pos rfl
theorem owSet_of {O : Ow} {i j : Nat} {o : Option Addr} (h : j ≠ i) : owSet O i o j = O j := if_neg h
theorem EnvOk.assign {C : Cn} {O : Ow} {K : PySem.W.Frag} {σ : St} {H H1 : Hp} {ρ : List W} {n n' : Nat} {v : V} {w : W} {i : Nat} (E : EnvOk C O K σ H ρ n) (s : Step C H H1) (t : TownAt C H1 n') (r : Res (Av C O) C.T K H H1 v w) :
    ∃ O', EnvOk C O' K (σ.set i (some v)) H1 (ρ.set i w) n' ∧ StepS C O O' H H1 := by
  have E1 := E.step s t
  by_cases hi : i < ρ.length
  · have hj : ∀ j w', (ρ.set i w)[j]? = some w' → (j = i ∧ w' = w) ∨ (j ≠ i ∧ ρ[j]? = some w') := fun j w' e => by
      by_cases h : j = i
      · subst h
        rw [List.getElem?_set_self hi] at e
        cases e
        exact .inl ⟨rfl, rfl⟩
      · rw [List.getElem?_set_ne (Ne.symm h)] at e
        exact .inr ⟨h, e⟩
    have hσ : i < σ.length := by rw [← E.len]; exact hi
    -- the address that is new, if any
    have key : ∀ o : Option Addr, (∀ a, o = some a → H a = none ∧ C.T ≠ some a ∧ H1 a ≠ none) →
        SlOk (Av C (owSet O i o)) C.T K H1 (some (some v)) o w →
        ∃ O', EnvOk C O' K (σ.set i (some v)) H1 (ρ.set i w) n' ∧ StepS C O O' H H1 := by
      intro o ho hw
      have kp : Keep (Av C O) (Av C (owSet O i o)) H H1 := fun a u na r => by
        refine ⟨?_, s.st _ _ r (fun e => na (.inr (.inl e)))⟩
        rintro (z | z | ⟨j, z⟩)
        · exact na (.inl z)
        · exact na (.inr (.inl z))
        · by_cases h : j = i
          · rw [h, owSet_at] at z
            rw [(ho a z).1] at r; cases r
          · rw [owSet_of h] at z
            exact na (.inr (.inr ⟨j, z⟩))
      refine ⟨owSet O i o, ⟨by simpa using E.len, fun j w' e => ?_, fun j k a h1 h2 => ?_, fun j a h => ?_, t, E1.base, E1.ptr, E1.fr⟩, s.stepS fun j a h => ?_⟩
      · rcases hj j w' e with ⟨rfl, rfl⟩ | ⟨ne, e⟩
        · rw [List.getElem?_set_self hσ, owSet_at]
          exact hw
        · rw [List.getElem?_set_ne (Ne.symm ne), owSet_of ne]
          have q := E.sl j w' e
          cases w' with
          | no => trivial
          | d x => obtain ⟨u, h1, h2⟩ := q; exact ⟨u, h1, h2.mono kp⟩
          | town => exact q
          | ol xs =>
            obtain ⟨a, vs, h1, h2, h3, h4⟩ := q
            exact ⟨a, vs, h1, h2, s.st _ _ h3 (E.own j a h1).1, h4.mono kp⟩
          | od kvs =>
            obtain ⟨a, h1, h2, h3⟩ := q
            exact ⟨a, h1, h2, h3.mono kp fun o e => s.st _ _ e (E.own j a h1).1⟩
      · by_cases hj : j = i
        · rw [hj, owSet_at] at h1
          by_cases hk : k = i
          · rw [hj, hk]
          · rw [owSet_of hk] at h2
            exact absurd (ho a h1).1 (E.own k a h2).2.2
        · rw [owSet_of hj] at h1
          by_cases hk : k = i
          · rw [hk, owSet_at] at h2
            exact absurd (ho a h2).1 (E.own j a h1).2.2
          · rw [owSet_of hk] at h2
            exact E.inj j k a h1 h2
      · skip
        by_cases hj : j = i
        · rw [hj, owSet_at] at h
          exact ⟨(ho a h).2.1, E.fr a (ho a h).1, (ho a h).2.2⟩
        · rw [owSet_of hj] at h
          exact E1.own j a h
      · skip
        by_cases hj : j = i
        · rw [hj, owSet_at] at h
          exact .inr (ho a h).1
        · rw [owSet_of hj] at h
          exact .inl ⟨j, h⟩
    have avn : ∀ b, Av C (owSet O i none) b → Av C O b := by
      rintro b (z | z | ⟨j, z⟩)
      · exact .inl z
      · exact .inr (.inl z)
      · by_cases h : j = i
        · rw [h, owSet_at] at z; cases z
        · rw [owSet_of h] at z; exact .inr (.inr ⟨j, z⟩)
    have avs : ∀ a b, Av C (owSet O i (some a)) b → Av C O b ∨ b = a := by
      rintro a b (z | z | ⟨j, z⟩)
      · exact .inl (.inl z)
      · exact .inl (.inr (.inl z))
      · by_cases h : j = i
        · rw [h, owSet_at] at z; cases z; exact .inr rfl
        · rw [owSet_of h] at z; exact .inl (.inr (.inr ⟨j, z⟩))
    cases w with
    | no => exact False.elim r
    | d x => exact key none (fun a e => by cases e) ⟨v, rfl, Dv.mono (fun a u na r => ⟨fun z => na (avn a z), r⟩) r⟩
    | town =>
      obtain ⟨a, h1, h2⟩ := r
      exact key none (fun a e => by cases e) ⟨a, h1, by rw [h2]⟩
    | ol xs =>
      obtain ⟨a, vs, h1, h2, h3, h4⟩ := r
      subst h1
      exact key (some a) (fun b e => by cases e; exact ⟨h2, fun z => E.tr a z h2, by rw [h3]; simp⟩) ⟨a, vs, rfl, rfl, h3, h4.mono fun b u nb r => ⟨fun z => nb (avs a b z), r⟩⟩
    | od kvs =>
      obtain ⟨a, h1, h2, h3⟩ := r
      subst h1
      exact key (some a) (fun b e => by cases e; exact ⟨h2, fun z => E.tr a z h2, h3.there⟩) ⟨a, rfl, rfl, h3.mono (fun b u nb r => ⟨fun z => nb (avs a b z), r⟩) fun o e => e⟩
  · have e1 : ρ.set i w = ρ := List.set_eq_of_length_le (by omega)
    have e2 : σ.set i (some v) = σ := List.set_eq_of_length_le (by rw [← E.len]; omega)
    rw [e1, e2]
    exact ⟨O, E1, s.stepS0⟩
def sSet (i : Nat) (f : Fe) : Fs := fun ρ n => (f ρ n).map fun p => .nx (ρ.set i p.1) p.2
theorem ss_set {i : Nat} {x : Str} {pos' : Pos} (hN : X.N.Nodup) (hi : X.N[i]? = some x) (hx : Loc X.env.scope x) (ha : EvE X e f) (hs : swapsWith e (some (.Name x pos')) pos.line X.env = pure false := by rfl) (hf : X.fn x = true ∨ X.env.scope.names.lookup x = some .local := by first | exact .inl rfl | exact .inr rfl | assumption) :
    EvS X (.Assign [.Name x pos'] e pos) (sSet i f) := psI (ps_set hN hi hx ha hs hf) (by
  rintro D σ H ⟨C, O, ρ, n, out, hf, E, np, q⟩
  unfold sSet at hf
  obtain ⟨⟨w, n1⟩, e1, hf⟩ := Option.map_eq_some_iff.mp hf
  cases hf
  refine ⟨C, O, ρ, n, w, n1, e1, E, fun v H1 s t r => ?_⟩
  obtain ⟨O', E', s'⟩ := E.assign (i := i) s t r
  exact q O' _ H1 s' E')
end
end L2.Lv
namespace L2.Lv
open PySem PySem.Spec PyProof.Rows
def big : Nat := 16777216
theorem big_eq : sizeLine = big := sizeLine_eq
section
variable {C : Cn} {O : Ow} {K : PySem.W.Frag} {σ : St} {H H1 : Hp} {ρ : List W} {n n' i : Nat} {v : V} {w' : W} {a : Addr} {o : HO}
/-- an object of one's own is changed -/
theorem EnvOk.write (E : EnvOk C O K σ H ρ n) (ho : O i = some a) (hw : SlOk (Av C O) C.T K (upd H a o) σ[i]? (some a) w') : EnvOk C O K σ (upd H a o) (ρ.set i w') n ∧ StepS C O O H (upd H a o) := by
  have hav : Av C O a := .inr (.inr ⟨i, ho⟩)
  obtain ⟨t1, t2, t3⟩ := E.own i a ho
  have kp : Keep (Av C O) (Av C O) H (upd H a o) := fun b u nb r => by
    have ne : b ≠ a := fun e => nb (by rw [e]; exact hav)
    exact ⟨nb, by rw [upd_ne ne]; exact r⟩
  have nn : ∀ b, upd H a o b = none → H b = none := fun b e => by
    by_cases h : b = a
    · rw [h, upd_same] at e; cases e
    · rw [upd_ne h] at e; exact e
  refine ⟨⟨by simpa using E.len, fun j w e => ?_, E.inj, fun j b h => ⟨(E.own j b h).1, (E.own j b h).2.1, fun e => (E.own j b h).2.2 (nn b e)⟩, fun b e => ?_, fun b u h t => ?_, fun b h e => E.ptr b h (nn b e), fun b e => E.fr b (nn b e)⟩, fun b u e t no => ?_, nn, fun j b h => .inl ⟨j, h⟩⟩
  · by_cases h : j = i
    · subst h
      by_cases hl : j < ρ.length
      · rw [List.getElem?_set_self hl] at e
        cases e
        rw [ho]
        exact hw
      · rw [List.getElem?_eq_none (by simpa using hl)] at e; cases e
    · rw [List.getElem?_set_ne (Ne.symm h)] at e
      have q := E.sl j w e
      cases w with
      | no => trivial
      | d x => obtain ⟨u, h1, h2⟩ := q; exact ⟨u, h1, h2.mono kp⟩
      | town => exact q
      | ol xs =>
        obtain ⟨b, vs, h1, h2, h3, h4⟩ := q
        have ne : b ≠ a := fun e => h (E.inj j i b h1 (by rw [ho, e]))
        exact ⟨b, vs, h1, h2, by rw [upd_ne ne]; exact h3, h4.mono kp⟩
      | od kvs =>
        obtain ⟨b, h1, h2, h3⟩ := q
        have ne : b ≠ a := fun e => h (E.inj j i b h1 (by rw [ho, e]))
        exact ⟨b, h1, h2, h3.mono kp fun u e => by rw [upd_ne ne]; exact e⟩
  · rw [upd_ne (fun z => t1 (by rw [← z]; exact e))]
    exact E.town b e
  · rw [upd_ne (fun z => by rw [z, t2] at h; cases h)]
    exact E.base b u h t
  · rw [upd_ne (fun z => no i (by rw [z]; exact ho))]
    exact e
theorem keep_upd (hav : Av C O a) : Keep (Av C O) (Av C O) H (upd H a o) := fun b u nb r => by
  have ne : b ≠ a := fun e => nb (by rw [e]; exact hav)
  exact ⟨nb, by rw [upd_ne ne]; exact r⟩
end
section
variable {X : Cx} {e a b : Expr} {es : List Expr} {f fa fb : Fe} {d da db : Fd} {fs : Fa} {ds : Fds} {pos : Pos} {st : Stmt} {rest sts sts' : List Stmt} {g h : Fs}
/-! x.append(e) -/
def sApp (i : Nat) (f : Fe) : Fs := fun ρ n => (f ρ n).bind fun p => p.1.frz.val.bind fun x => match ρ[i]? with
  | some (.ol xs) => if xs.length < big then some (.nx (ρ.set i (.ol (xs ++ [x]))) p.2) else none
  | _ => none
theorem Res.val {A : Addr → Prop} {T : Option Addr} {K : PySem.W.Frag} {H H' : Hp} {v : V} {w : W} {x : PyData} (h : Res A T K H H' v w) (e : w.val = some x) : Dv A K H' v x := by
  cases w with
  | d y => cases e; exact h
  | _ => cases e
theorem ss_append {i : Nat} {p2 p3 : Pos} (hb : PE X b (tVar i)) (ha : EvE X e f) (hbase : attributeBase b "append" X.env (eval b X.env) = eval b X.env := by rfl)
    (hfew : ((backTo p3 (starEach [e] X.env)).all (fun x => !x.1) && (backToKw p3 (keywordEach [] X.env)).all (fun x => x.1.isSome)
      && decide ([e].length + ([] : List Keyword).length + (if ([] : List Keyword).isEmpty then 0 else 1) < 30)) = true := by rfl)
    (hline : (p2.endLine == p3.line) = true := by rfl) (hs : starEach [e] X.env = (false, eval e X.env) :: starEach [] X.env := by rfl)
    (hsw : swapsWith (.Call (.Attribute b "append" p2) [e] [] p3) none pos.line X.env = pure false := by rfl) :
    EvS X (.Expr (.Call (.Attribute b "append" p2) [e] [] p3) pos) (sApp i f) := psI (ps_expr (pe_bm PySem.F.plainAttrs_list PySem.F.slot_list_append PySem.F.type_list_append mt_append hb (pa_cons ha pa_nil hs) hbase hfew hline hs rfl) hsw) (by
  rintro D σ H ⟨C, O, ρ, n, out, hf, E, np, q⟩
  unfold sApp at hf
  obtain ⟨⟨w, n1⟩, e1, hf⟩ := Option.bind_eq_some_iff.mp hf
  obtain ⟨x, e2, hf⟩ := Option.bind_eq_some_iff.mp hf
  split at hf
  · rename_i xs hx
    split at hf
    · rename_i hz
      cases hf
      obtain ⟨l, vs, h1, h2, h3, h4⟩ := E.sl _ _ hx
      refine ⟨_, h2, .inl ⟨rfl, vs, SqL.of h3⟩, C, O, ρ, n, w, n1, e1, E, fun v H1 s t r => ?_⟩
      have E1 := E.step s t
      have h3' : H1 l = some (.lst vs) := s.st _ _ h3 (E.own i l h1).1
      have r' : Dv (Av C O) X.K H1 v x := (r.frz E.av).val e2
      refine ⟨l, vs, v, rfl, rfl, h3', by rw [h4.length, big_eq]; exact hz, ?_⟩
      have hav : Av C O l := .inr (.inr ⟨i, h1⟩)
      obtain ⟨E2, s2⟩ := E1.write (o := .lst (vs ++ [v])) (w' := .ol (xs ++ [x])) h1 ⟨l, vs ++ [v], rfl, h2, upd_same, ((h4.mono (s.keep Av.t)).append (.cons r' .nil)).mono (keep_upd hav)⟩
      exact q O σ _ (s.stepS0.trans s2) E2
    · cases hf
  · cases hf)
/-- the town grows -/
def sTown (i : Nat) : Fs := fun ρ n => match ρ[i]? with
  | some .town => if n < big then some (.nx ρ (n + 1)) else none
  | _ => none
theorem ss_town {i : Nat} {j : Nat} {p2 p3 p4 : Pos} (hb : PE X b (tVar i)) (hbase : attributeBase b "append" X.env (eval b X.env) = eval b X.env := by rfl)
    (hfew : ((backTo p3 (starEach [.Constant (.int 0) j p4] X.env)).all (fun x => !x.1) && (backToKw p3 (keywordEach [] X.env)).all (fun x => x.1.isSome)
      && decide ([Expr.Constant (.int 0) j p4].length + ([] : List Keyword).length + (if ([] : List Keyword).isEmpty then 0 else 1) < 30)) = true := by rfl)
    (hline : (p2.endLine == p3.line) = true := by rfl)
    (hsw : swapsWith (.Call (.Attribute b "append" p2) [.Constant (.int 0) j p4] [] p3) none pos.line X.env = pure false := by rfl) :
    EvS X (.Expr (.Call (.Attribute b "append" p2) [.Constant (.int 0) j p4] [] p3) pos) (sTown i) := psI (ps_expr (pe_bm PySem.F.plainAttrs_list PySem.F.slot_list_append PySem.F.type_list_append mt_append hb (pa_cons pe_int pa_nil) hbase hfew hline rfl rfl) hsw) (by
  rintro D σ H ⟨C, O, ρ, n, out, hf, E, np, q⟩
  unfold sTown at hf
  split at hf
  · rename_i hx
    split at hf
    · rename_i hz
      cases hf
      obtain ⟨l, h1, h2⟩ := E.sl _ _ hx
      have h3 := E.town l h1
      refine ⟨_, h2, .inl ⟨rfl, _, SqL.of h3⟩, ?_⟩
      refine ⟨l, _, .int 0, rfl, rfl, h3, by rw [List.length_replicate, big_eq]; exact hz, ?_⟩
      have ne : ∀ b, b ≠ l → upd H l (.lst (List.replicate n (V.int 0) ++ [.int 0])) b = H b := fun b hb => upd_ne hb
      have st : Step C H (upd H l (.lst (List.replicate n (V.int 0) ++ [.int 0]))) := ⟨fun b o e t => by rw [ne b (fun z => t (by rw [z]; exact h1))]; exact e, fun b e => by
        by_cases hb : b = l
        · rw [hb, upd_same] at e; cases e
        · rw [ne b hb] at e; exact e⟩
      have tw : TownAt C (upd H l (.lst (List.replicate n (V.int 0) ++ [.int 0]))) (n + 1) := fun b e => by
        have : b = l := Option.some.inj (e.symm.trans h1)
        rw [this, upd_same, List.replicate_succ']
      exact q O σ _ st.stepS0 (E.step st tw)
    · cases hf
  · cases hf)
/-- x.extend(a new list) -/
def sExt (i : Nat) (f : Fe) : Fs := fun ρ n => (f ρ n).bind fun p => match p.1, ρ[i]? with
  | .ol ys, some (.ol xs) => if xs.length + ys.length ≤ big then some (.nx (ρ.set i (.ol (xs ++ ys))) p.2) else none
  | _, _ => none
theorem ss_extend {i : Nat} {p2 p3 : Pos} (hb : PE X b (tVar i)) (ha : EvE X e f) (hbase : attributeBase b "extend" X.env (eval b X.env) = eval b X.env := by rfl)
    (hfew : ((backTo p3 (starEach [e] X.env)).all (fun x => !x.1) && (backToKw p3 (keywordEach [] X.env)).all (fun x => x.1.isSome)
      && decide ([e].length + ([] : List Keyword).length + (if ([] : List Keyword).isEmpty then 0 else 1) < 30)) = true := by rfl)
    (hline : (p2.endLine == p3.line) = true := by rfl) (hs : starEach [e] X.env = (false, eval e X.env) :: starEach [] X.env := by rfl)
    (hsw : swapsWith (.Call (.Attribute b "extend" p2) [e] [] p3) none pos.line X.env = pure false := by rfl) :
    EvS X (.Expr (.Call (.Attribute b "extend" p2) [e] [] p3) pos) (sExt i f) := psI (ps_expr (pe_bm PySem.F.plainAttrs_list PySem.F.slot_list_extend PySem.F.type_list_extend mt_extend hb (pa_cons ha pa_nil hs) hbase hfew hline hs rfl) hsw) (by
  rintro D σ H ⟨C, O, ρ, n, out, hf, E, np, q⟩
  unfold sExt at hf
  obtain ⟨⟨w, n1⟩, e1, hf⟩ := Option.bind_eq_some_iff.mp hf
  simp only at hf
  split at hf
  · rename_i ys xs hx
    split at hf
    · rename_i hz
      cases hf
      obtain ⟨l, vs, h1, h2, h3, h4⟩ := E.sl _ _ hx
      refine ⟨_, h2, .inl ⟨rfl, vs, SqL.of h3⟩, C, O, ρ, n, _, n1, e1, E, fun v H1 s t r => ?_⟩
      have E1 := E.step s t
      have h3' : H1 l = some (.lst vs) := s.st _ _ h3 (E.own i l h1).1
      obtain ⟨m, us, rfl, r1, r2, r3⟩ := r
      have r3' : DvAll (Av C O) X.K H1 us ys := r3.mono fun b u nb r => ⟨fun z => nb (.inl z), r⟩
      refine ⟨l, m, vs, us, rfl, rfl, h3', r2, by rw [h4.length, r3.length, big_eq]; exact hz, ?_⟩
      have hav : Av C O l := .inr (.inr ⟨i, h1⟩)
      obtain ⟨E2, s2⟩ := E1.write (o := .lst (vs ++ us)) (w' := .ol (xs ++ ys)) h1 ⟨l, vs ++ us, rfl, h2, upd_same, ((h4.mono (s.keep Av.t)).append r3').mono (keep_upd hav)⟩
      exact q O σ _ (s.stepS0.trans s2) E2
    · cases hf
  · cases hf)
/-- x.insert(k, e) -/
def sIns (i : Nat) (d : Fd) (f : Fe) : Fs := fun ρ n => (d ρ n).bind fun k => (f ρ k.2).bind fun p => p.1.frz.val.bind fun x => match k.1, ρ[i]? with
  | .int z, some (.ol xs) => if xs.length < big ∧ 0 ≤ z ∧ z ≤ xs.length then some (.nx (ρ.set i (.ol (xs.take z.toNat ++ x :: xs.drop z.toNat))) p.2) else none
  | _, _ => none
/-! x[k] = e -/
def sSetIx (i : Nat) (d : Fd) (f : Fe) : Fs := fun ρ n => (f ρ n).bind fun p => p.1.frz.val.bind fun x => (d ρ p.2).bind fun k => match k.1, ρ[i]? with
  | .int z, some (.ol xs) => (ixN xs.length z).map fun j => .nx (ρ.set i (.ol (xs.set j x))) k.2
  | _, _ => none
/-! targets -/
abbrev Fg := PyData → List W → Option (List W)
def setV : List Nat → List V → St → St
  | i :: is, v :: vs, σ => setV is vs (σ.set i (some v))
  | _, _, σ => σ
def setD : List Nat → List PyData → List W → Option (List W)
  | [], [], ρ => some ρ
  | i :: is, x :: xs, ρ => setD is xs (ρ.set i (.d x))
  | _, _, _ => none
/-- one name, or several -/
def gOne (i : Nat) : Fg := fun x ρ => some (ρ.set i (.d x))
def gMany (is : List Nat) : Fg := fun x ρ => match x with
  | .tuple xs => setD is xs ρ
  | _ => none
/-- what a walk gives out: data, or (p) a new pair -/
def DvI (p : Bool) (A : Addr → Prop) (K : PySem.W.Frag) (H : Hp) (v : V) (x : PyData) : Prop := Dv A K H v x ∨ (p = true ∧ ∃ a vs ds, v = .ref a ∧ x = .tuple ds ∧ SqT K H a vs ∧ DvAll A K H vs ds)
theorem DvI.dv {A : Addr → Prop} {K : PySem.W.Frag} {H : Hp} {v : V} {x : PyData} (h : DvI false A K H v x) : Dv A K H v x := h.elim id fun z => nomatch z.1
def tVG (p : Bool) (K : PySem.W.Frag) (is : List Nat) (g : Fg) : TG := fun v σ H Q => ∃ C O ρ n x ρ', g x ρ = some ρ' ∧ EnvOk C O K σ H ρ n ∧ DvI p (Av C O) K H v x ∧
  ∀ O' vs, StepS C O O' H H → EnvOk C O' K (setV is vs σ) H ρ' n → Q (setV is vs σ) H
def tVGs (K : PySem.W.Frag) (is : List Nat) : TGs := fun vs σ H Q => ∃ C O ρ n xs ρ', setD is xs ρ = some ρ' ∧ EnvOk C O K σ H ρ n ∧ DvAll (Av C O) K H vs xs ∧
    ∀ O' us, StepS C O O' H H → EnvOk C O' K (setV is us σ) H ρ' n → Q (setV is us σ) H
abbrev EvG (X : Cx) (p : Bool) (e : Expr) (is : List Nat) (g : Fg) : Prop := PG X e (tVG p X.K is g)
structure EvGs (X : Cx) (es : List Expr) (is : List Nat) : Prop where
  ex : PGs X es (tVGs X.K is)
  len : is.length = es.length
theorem pgI {t t' : TG} (h : PG X e t) (w : ∀ v σ H Q, t' v σ H Q → t v σ H Q) : PG X e t' := ⟨fun pins s σ H v u Q I r q => h.run pins s σ H v u Q I r (w v σ H Q q)⟩
theorem pgsI {t t' : TGs} (h : PGs X es t) (w : ∀ v σ H Q, t' v σ H Q → t v σ H Q) : PGs X es t' := ⟨fun pins s σ H v u Q I r q => h.run pins s σ H v u Q I r (w v σ H Q q)⟩
theorem eg_one {i : Nat} {x : Str} {p : Pos} (hg : PG X (.Name x p) (gName i)) : EvG X false (.Name x p) [i] (gOne i) := pgI hg (by
  rintro v σ H Q ⟨C, O, ρ, n, x, ρ', hf, E, r, q⟩
  cases hf
  obtain ⟨O', E', s'⟩ := E.assign (i := i) (w := .d x) (v := v) (n' := n) (H1 := H) Step.refl E.town r.dv
  exact q O' [v] s' E')
theorem egs_nil : EvGs X [] [] := ⟨pgsI pgs_nil (by
  rintro vs σ H Q ⟨C, O, ρ, n, xs, ρ', hf, E, r, q⟩
  cases r with
  | nil =>
    cases hf
    exact ⟨rfl, q O [] Step.refl.stepS0 E⟩
  | cons r1 r2 => cases hf), rfl⟩
theorem egs_cons {i : Nat} {is : List Nat} {x : Str} {p : Pos} (hg : PG X (.Name x p) (gName i)) (hr : EvGs X es is) (hs : (assignEach (.Name x p :: es) X.env).map (·.2) = assign (.Name x p) X.env :: (assignEach es X.env).map (·.2) := by rfl) : EvGs X (.Name x p :: es) (i :: is) := by
  refine ⟨pgsI (pgs_cons hg hr.ex hs) ?_, by simp [hr.len]⟩
  rintro vs σ H Q ⟨C, O, ρ, n, xs, ρ', hf, E, r, q⟩
  cases r with
  | nil => cases hf
  | cons r1 r2 =>
    rename_i v vs' x xs'
    refine ⟨v, vs', rfl, ?_⟩
    obtain ⟨O1, E1, s1⟩ := E.assign (i := i) (w := .d x) (v := v) (n' := n) (H1 := H) Step.refl E.town r1
    exact ⟨C, O1, _, n, xs', ρ', hf, E1, r2.mono s1.keep, fun O' us s2 E2 => q O' (v :: us) (s1.trans s2) E2⟩
theorem setD_len : ∀ {is : List Nat} {xs : List PyData} {ρ ρ' : List W}, setD is xs ρ = some ρ' → xs.length = is.length
  | [], [], _, _, _ => rfl
  | [], _ :: _, _, _, h => by cases h
  | _ :: _, [], _, _, h => by cases h
  | i :: is, x :: xs, ρ, ρ', h => by
    have := setD_len (is := is) (xs := xs) h
    simp [this]
theorem eg_many {p : Bool} {k : Nat} {is : List Nat} (hc : X.calm = true) (h : EvGs X es is) (hn : (assignEach es X.env).length = es.length := by rfl) (hst : (assignEach es X.env).findIdx? (·.1) = none := by rfl) : EvG X p (.Tuple es k pos) is (gMany is) := pgI (pg_tup hc h.ex hn hst) (by
  rintro v σ H Q ⟨C, O, ρ, n, x, ρ', hf, E, r, q⟩
  have key : ∀ a vs ds, v = .ref a → x = .tuple ds → SqT X.K H a vs → DvAll (Av C O) X.K H vs ds → gTup X.K es.length (tVGs X.K is) v σ H Q := by
    rintro a vs ds rfl rfl r1 r2
    refine ⟨a, vs, rfl, r1, ?_, C, O, ρ, n, ds, ρ', hf, E, r2, q⟩
    rw [r2.length, setD_len hf, h.len]
  cases x with
  | tuple xs =>
    rcases r with r | ⟨_, a, vs, ds, h1, h2, h3, h4⟩
    · obtain ⟨a, vs, h1, r1, r2, _⟩ := DvB.tup (T := none) (.inl r)
      exact key a vs xs h1 rfl r1 r2
    · exact key a vs ds h1 h2 h3 h4
  | _ => cases hf)
/-- target = value -/
def sAsg (g : Fg) (f : Fe) : Fs := fun ρ n => (f ρ n).bind fun p => p.1.frz.val.bind fun x => (g x ρ).map fun ρ' => .nx ρ' p.2
theorem ss_asg {tg : Expr} {is : List Nat} {g : Fg} (ha : EvE X e f) (hg : EvG X false tg is g) (hs : swapsWithSole [tg] e pos.line X.env = pure false := by rfl) (hw : swappedStores [tg] e X.env = pure none := by rfl)
    (h1 : (assignEach [tg] X.env).map (·.2) = [assign tg X.env] := by rfl) : EvS X (.Assign [tg] e pos) (sAsg g f) := psI (ps_asg ha hg hs hw h1) (by
  rintro D σ H ⟨C, O, ρ, n, out, hf, E, np, q⟩
  unfold sAsg at hf
  obtain ⟨⟨w, n1⟩, e1, hf⟩ := Option.bind_eq_some_iff.mp hf
  obtain ⟨x, e2, hf⟩ := Option.bind_eq_some_iff.mp hf
  obtain ⟨ρ', e3, hf⟩ := Option.map_eq_some_iff.mp hf
  cases hf
  exact ⟨C, O, ρ, n, w, n1, e1, E, fun v H1 s t r => ⟨C, O, ρ, n1, x, ρ', e3, E.step s t, .inl ((r.frz E.av).val e2), fun O' vs s' E' => q O' _ H1 (s.stepS0.trans s') E'⟩⟩)
/-- a, b = x, y -/
def sPar (i j : Nat) (fs : Fa) : Fs := fun ρ n => (fs ρ n).bind fun p => match p.1 with
  | [w, w'] => some (.nx ((ρ.set i w).set j w') p.2)
  | _ => none
theorem ss_par {i j : Nat} {x y : Str} {px py pt : Pos} {kt k2 pt2} (hc : X.calm = true) (hN : X.N.Nodup) (hi : X.N[i]? = some x) (hj : X.N[j]? = some y) (hij : i ≠ j)
    (hx : X.env.scope.names.lookup x = some .local) (hy : X.env.scope.names.lookup y = some .local) (ha : EvA X [a, b] fs)
    (hw : swappedStores [.Tuple [.Name x px, .Name y py] kt pt] (.Tuple [a, b] k2 pt2) X.env = pure (some [x, y]))
    (hs : swapsWithSole [.Tuple [.Name x px, .Name y py] kt pt] (.Tuple [a, b] k2 pt2) pos.line X.env = pure false := by rfl) :
    EvS X (.Assign [.Tuple [.Name x px, .Name y py] kt pt] (.Tuple [a, b] k2 pt2) pos) (sPar i j fs) := psI (ps_par hc hN hi hj hij hx hy ha.pa hw hs) (by
  rintro D σ H ⟨C, O, ρ, n, out, hf, E, np, q⟩
  unfold sPar at hf
  obtain ⟨⟨ws, n1⟩, e1, hf⟩ := Option.bind_eq_some_iff.mp hf
  simp only at hf
  split at hf
  · rename_i w w'
    cases hf
    refine ⟨C, O, ρ, n, _, n1, e1, E, fun vs H1 s t r => ?_⟩
    cases r with
    | cons r1 r2 =>
      cases r2 with
      | cons r2 r3 =>
        cases r3
        rename_i v1 v2
        have E1 := E.step s t
        have toR : ∀ {v : V} {w : W} {O' : Ow}, ArgOk (Av C O') C.T X.K H1 v w → Res (Av C O') C.T X.K H1 H1 v w := fun {v w O'} z => by
          cases w with
          | d x => exact z
          | town => exact z
          | no => exact z
          | ol _ => exact False.elim z
          | od _ => exact False.elim z
        obtain ⟨O2, E2, s2⟩ := E1.assign (i := i) (n' := n1) (H1 := H1) Step.refl E1.town (toR r1)
        have r2' : ArgOk (Av C O2) C.T X.K H1 v2 w' := by
          cases w' with
          | d x => exact Dv.mono s2.keep r2
          | town => exact r2
          | no => exact r2
          | ol _ => exact r2
          | od _ => exact r2
        obtain ⟨O3, E3, s3⟩ := E2.assign (i := j) (n' := n1) (H1 := H1) Step.refl E2.town (toR r2')
        exact ⟨_, _, rfl, q O3 _ H1 ((s.stepS0.trans s2).trans s3) E3⟩
  · cases hf)
/-! what is walked -/
abbrev Fi := List W → Nat → Option (List PyData × Nat)
/-- it walks xs, as long as what A leaves out stands -/
def ItOk (p : Bool) (K : PySem.W.Frag) (J : It) (xs : List PyData) (A B : Addr → Prop) (H1 : Hp) : Prop :=
  ∀ H2, (∀ a o, H1 a = some o → ¬ A a → H2 a = some o) → (∀ a, H2 a = none → H1 a = none) →
    (∀ i x, xs[i]? = some x → J.go i H2 ∧ ∀ v H', J.yld i H2 v H' → Grow H2 H' ∧ ∀ B', Keep B B' H1 H2 → (∀ a, B' a → H2 a ≠ none) → DvI p B' K H' v x) ∧ J.stop xs.length H2
def TA (C : Cn) : Addr → Prop := fun a => C.T = some a
/-- of a for: what is walked is not ours -/
def tVI (p : Bool) (K : PySem.W.Frag) (f : Fi) : TI := fun σ H R => ∃ C O ρ n xs n', f ρ n = some (xs, n') ∧ EnvOk C O K σ H ρ n ∧ ∀ J H', Step C H H' → TownAt C H' n' → ItOk p K J xs (Av C O) (Av C O) H' → R J H'
/-- of a comprehension -/
def tVJ (p : Bool) (K : PySem.W.Frag) (f : Fi) : TI := fun σ H R => ∃ C O ρ n xs n', f ρ n = some (xs, n') ∧ EnvOk C O K σ H ρ n ∧ ∀ J H', Step C H H' → TownAt C H' n' → ItOk p K J xs (TA C) (Av C O) H' → R J H'
abbrev EvI (X : Cx) (p : Bool) (tg e : Expr) (f : Fi) : Prop := PI X tg e (tVI p X.K f)
abbrev EvJ (X : Cx) (p : Bool) (tg e : Expr) (f : Fi) : Prop := PI X tg e (tVJ p X.K f)
theorem piI {tg : Expr} {t t' : TI} (h : PI X tg e t) (w : ∀ σ H R, t' σ H R → t σ H R) : PI X tg e t' := ⟨fun pins s σ H R I q => h.run pins s σ H R I (w σ H R q)⟩
theorem ItOk.less {p : Bool} {K : PySem.W.Frag} {J : It} {xs : List PyData} {A A' B : Addr → Prop} {H1 : Hp} (i : ∀ a, A' a → A a) (h : ItOk p K J xs A B H1) : ItOk p K J xs A' B H1 := fun H2 k f => h H2 (fun a o e n => k a o e fun z => n (i a z)) f
theorem ej_of {p : Bool} {tg : Expr} {f : Fi} (h : EvI X p tg e f) : EvJ X p tg e f := piI h (by
  rintro σ H R ⟨C, O, ρ, n, xs, n', hf, E, q⟩
  exact ⟨C, O, ρ, n, xs, n', hf, E, fun J H' s t k => q J H' s t (k.less Av.t)⟩)
def iSeq : PyData → Option (List PyData)
  | .list xs => some xs
  | .tuple xs => some xs
  | _ => none
def iOf (d : Fd) : Fi := fun ρ n => (d ρ n).bind fun p => (iSeq p.1).map (·, p.2)
/-- a list or a tuple -/
def iLT (K : PySem.W.Frag) (tl : TE) : TI := fun σ H R => tl σ H fun x H1 => ∃ a, x = .ref a ∧ (((∃ xs, SqL K H1 a xs) ∧ R (Itl K a) H1) ∨ ((∃ xs, SqT K H1 a xs) ∧ R (Itt K a) H1))
theorem pi_seq {tg : Expr} {tl : TE} (hl : PE X e tl) : PI X tg e (iLT X.K tl) := by
  refine ⟨fun pins s σ H R I h => thn (hl.run pins s σ H _ I h) fun v s1 ⟨x, H1, I1, r1, q1⟩ => ?_⟩
  obtain ⟨a, hx, q⟩ := q1
  subst hx
  have hv : v = Value.ref a := r1
  subst hv
  have young : ∀ b ∈ [s1.heap.objs.size], FpOk X pins H1 b := fun b hb => by
    rw [List.mem_singleton.mp hb]
    exact I1.fpOk (Nat.le_refl _) (I1.hok.fresh (Nat.le_refl _))
  rcases q with ⟨⟨xs, hq⟩, q⟩ | ⟨⟨xs, hq⟩, q⟩
  · obtain ⟨its, _, p, _⟩ := I1.list hq
    exact wpAny_pyIter_list p.isList ⟨_, _, _, _, H1, rfl, I1.kept (t' := s1.toks) fun b o e => Heap.get?_push_of_some _ e, turn_list a _, ⟨_, Heap.get?_push_size _ rfl, rfl, rfl⟩, young, q⟩
  · obtain ⟨its, _, p, _⟩ := I1.tuple hq
    exact wpAny_pyIter_tuple (items := its.toArray) p ⟨_, _, _, _, H1, rfl, I1.kept (t' := s1.toks) fun b o e => Heap.get?_push_of_some _ e, turn_tuple a _, ⟨_, Heap.get?_push_size _ rfl, rfl, rfl⟩, young, q⟩
section
variable {K : PySem.W.Frag} {A B : Addr → Prop} {H H1 H2 : Hp} {vs : List V} {xs : List PyData} {l : Addr}
theorem it_list (hs : (¬ A l ∧ Rd H1 l (.lst vs)) ∨ SqL K Hz l vs) (hd : DvAll B K H1 vs xs) : ItOk false K (Itl K l) xs A B H1 := fun H2 k f => by
  have h2 : SqL K H2 l vs := hs.elim (fun ⟨na, r⟩ => .inl (r.imp (fun z => k _ _ z na) fun ⟨o, z⟩ => ⟨o, k _ _ z na⟩)) sqLz
  refine ⟨fun i x hx => ?_, vs, h2, by rw [hd.length]; exact Nat.le_refl _⟩
  obtain ⟨v, e1, e2⟩ := hd.get hx
  refine ⟨⟨vs, v, h2, e1⟩, ?_⟩
  rintro v' H' ⟨rfl, y⟩
  refine ⟨Grow.refl, fun B' kp _ => ?_⟩
  have := y vs h2
  rw [e1] at this
  cases this
  exact .inl (e2.mono kp)
theorem it_tup (hs : (¬ A l ∧ Rd H1 l (.tup vs)) ∨ SqT K Hz l vs) (hd : DvAll B K H1 vs xs) : ItOk false K (Itt K l) xs A B H1 := fun H2 k f => by
  have h2 : SqT K H2 l vs := hs.elim (fun ⟨na, r⟩ => .inl (r.imp (fun z => k _ _ z na) fun ⟨o, z⟩ => ⟨o, k _ _ z na⟩)) sqTz
  refine ⟨fun i x hx => ?_, vs, h2, by rw [hd.length]; exact Nat.le_refl _⟩
  obtain ⟨v, e1, e2⟩ := hd.get hx
  refine ⟨⟨vs, v, h2, e1⟩, ?_⟩
  rintro v' H' ⟨rfl, y⟩
  refine ⟨Grow.refl, fun B' kp _ => ?_⟩
  have := y vs h2
  rw [e1] at this
  cases this
  exact .inl (e2.mono kp)
end
/-- walked data, kept for ever -/
def iVal (f : Fe) : Fi := fun ρ n => (f ρ n).bind fun p => p.1.frz.val.bind fun x => (iSeq x).map (·, p.2)
theorem ei_seq {tg : Expr} (h : EvE X e f) : EvI X false tg e (iVal f) := piI (pi_seq h) (by
  rintro σ H R ⟨C, O, ρ, n, xs, n', hf, E, q⟩
  unfold iVal at hf
  obtain ⟨⟨w, n1⟩, e1, hf⟩ := Option.bind_eq_some_iff.mp hf
  obtain ⟨x, e2, hf⟩ := Option.bind_eq_some_iff.mp hf
  obtain ⟨ys, e3, hf⟩ := Option.map_eq_some_iff.mp hf
  cases hf
  refine ⟨C, O, ρ, n, w, n1, e1, E, fun v H1 s t r => ?_⟩
  have r' : Dv (Av C O) X.K H1 v x := (r.frz E.av).val e2
  cases x with
  | list zs =>
    cases e3
    cases r' with
    | lst hs ha => exact ⟨_, rfl, .inl ⟨⟨_, hs.elim (fun z => .inl z.2) sqLz⟩, q _ H1 s t (it_list hs ha)⟩⟩
  | tuple zs =>
    cases e3
    cases r' with
    | tup hs ha => exact ⟨_, rfl, .inr ⟨⟨_, sqT_of hs⟩, q _ H1 s t (it_tup (hs.imp (fun z => ⟨z.1, let ⟨o, z, _⟩ := z.2; .inr ⟨o, z⟩⟩) (·.1)) ha)⟩⟩
  | _ => cases e3)
/-- in a comprehension a list of one's own may be walked -/
theorem ej_seq {tg : Expr} (h : EvB X e d) : EvJ X false tg e (iOf d) := piI (pi_seq h) (by
  rintro σ H R ⟨C, O, ρ, n, xs, n', hf, E, q⟩
  unfold iOf at hf
  obtain ⟨⟨x, n1⟩, e1, hf⟩ := Option.bind_eq_some_iff.mp hf
  obtain ⟨ys, e3, hf⟩ := Option.map_eq_some_iff.mp hf
  cases hf
  refine ⟨C, O, ρ, n, x, n1, e1, E, fun v H1 s t r => ?_⟩
  have tn : ∀ a, ¬ Av C O a → ¬ TA C a := fun a h z => h (Av.t a z)
  cases x with
  | list zs =>
    cases e3
    rcases r with r | ⟨l, vs, ds, rfl, h2, h3, h4, h5⟩ | ⟨l, kvs, _, h2, _⟩
    · cases r with
      | lst hs ha => exact ⟨_, rfl, .inl ⟨⟨_, hs.elim (fun z => .inl z.2) sqLz⟩, q _ H1 s t (it_list (hs.imp (fun z => ⟨tn _ z.1, z.2⟩) id) ha)⟩⟩
    · cases h2
      exact ⟨_, rfl, .inl ⟨⟨_, SqL.of h4⟩, q _ H1 s t (it_list (.inl ⟨h3, .inl h4⟩) h5)⟩⟩
    · cases h2
  | tuple zs =>
    cases e3
    rcases r with r | ⟨l, vs, ds, rfl, h2, h3, h4, h5⟩ | ⟨l, kvs, _, h2, _⟩
    · cases r with
      | tup hs ha => exact ⟨_, rfl, .inr ⟨⟨_, sqT_of hs⟩, q _ H1 s t (it_tup (hs.imp (fun z => ⟨tn _ z.1, let ⟨o, z, _⟩ := z.2; .inr ⟨o, z⟩⟩) (·.1)) ha)⟩⟩
    · cases h2
    · cases h2
  | _ => cases e3)
/-! ranges -/
def rangeD (lo : Int) (n : Nat) : List PyData := (List.range n).map fun (i : Nat) => .int (lo + i)
def rng1 : PyData → Option (List PyData)
  | .int j => if -(2 ^ 62) ≤ j ∧ j < 2 ^ 62 then some (rangeD 0 j.toNat) else none
  | _ => none
def rng2 : PyData → PyData → Option (List PyData)
  | .int i, .int j => if -(2 ^ 62) ≤ i ∧ i < 2 ^ 62 ∧ -(2 ^ 62) ≤ j ∧ j < 2 ^ 62 then some (rangeD i (j - i).toNat) else none
  | _, _ => none
def iRng1 (d : Fd) : Fi := fun ρ n => (d ρ n).bind fun p => (rng1 p.1).map (·, p.2)
def iRng2 (da db : Fd) : Fi := fun ρ n => (da ρ n).bind fun p => (db ρ p.2).bind fun q => (rng2 p.1 q.1).map (·, q.2)
theorem it_rng {K : PySem.W.Frag} {A B : Addr → Prop} {H1 : Hp} {lo : Int} {n : Nat} : ItOk false K (Itr lo n) (rangeD lo n) A B H1 := fun H2 k f => by
  have hl : (rangeD lo n).length = n := by simp [rangeD]
  refine ⟨fun i x hx => ?_, by rw [hl]; exact Nat.le_refl _⟩
  have hi : i < n := by rw [← hl]; exact (List.getElem?_eq_some_iff.mp hx).1
  refine ⟨hi, ?_⟩
  rintro v H' ⟨rfl, rfl⟩
  refine ⟨Grow.refl, fun B' _ _ => ?_⟩
  have e : (rangeD lo n)[i]? = some (.int (lo + i)) := by simp [rangeD, hi]
  rw [e] at hx
  cases hx
  exact .inl (.int _)
theorem ei_range1 {tg : Expr} {p : Pos} (hg : Gl X "range") (hm : X.mg "range" = none) (ha : EvB X a d) (hs : starEach [a] X.env = [(false, eval a X.env)] := by rfl) : EvI X false tg (.Call (.Name "range" p) [a] [] pos) (iRng1 d) := piI (pi_range1 hg hm (pa_cons ha pa_nil hs) hs) (by
  rintro σ H R ⟨C, O, ρ, n, xs, n', hf, E, q⟩
  unfold iRng1 at hf
  obtain ⟨⟨y, n1⟩, e1, hf⟩ := Option.bind_eq_some_iff.mp hf
  obtain ⟨zs, e3, hf⟩ := Option.map_eq_some_iff.mp hf
  cases hf
  refine ⟨C, O, ρ, n, y, n1, e1, E, fun v H1 s t r => ?_⟩
  cases y with
  | int j =>
    simp only [rng1] at e3
    split at e3
    · rename_i hj
      cases e3
      exact ⟨j, by rw [r.int], hj.1, hj.2, q _ H1 s t it_rng⟩
    · cases e3
  | _ => cases e3)
theorem ei_range2 {tg : Expr} {p : Pos} (hg : Gl X "range") (hm : X.mg "range" = none) (ha : EvB X a da) (hb : EvB X b db) (hs : starEach [a, b] X.env = [(false, eval a X.env), (false, eval b X.env)] := by rfl) (hs2 : starEach [b] X.env = [(false, eval b X.env)] := by rfl) :
    EvI X false tg (.Call (.Name "range" p) [a, b] [] pos) (iRng2 da db) := piI (pi_range2 hg hm (pa_cons ha (pa_cons hb pa_nil hs2) (by rw [hs, hs2])) hs hs2) (by
  rintro σ H R ⟨C, O, ρ, n, xs, n', hf, E, q⟩
  unfold iRng2 at hf
  obtain ⟨⟨y, n1⟩, e1, hf⟩ := Option.bind_eq_some_iff.mp hf
  obtain ⟨⟨z, n2⟩, e2, hf⟩ := Option.bind_eq_some_iff.mp hf
  obtain ⟨zs, e3, hf⟩ := Option.map_eq_some_iff.mp hf
  cases hf
  refine ⟨C, O, ρ, n, y, n1, e1, E, fun v H1 s t r => ⟨C, O, ρ, n1, z, n2, e2, E.step s t, fun u H2 s2 t2 r2 => ?_⟩⟩
  cases y with
  | int i =>
    cases z with
    | int j =>
      simp only [rng2] at e3
      split at e3
      · rename_i hj
        cases e3
        exact ⟨i, j, by rw [r.int, r2.int], hj, q _ H2 (s.trans s2) t2 it_rng⟩
      · cases e3
    | _ => cases e3
  | _ => cases e3)
end
end L2.Lv
namespace L2.Lv
open PySem PySem.Spec PyProof.Rows
def loopF (g : Fg) (body : Fs) : List PyData → Fs
  | [], ρ, n => some (.nx ρ n)
  | x :: xs, ρ, n => (g x ρ).bind fun ρ1 => (body ρ1 n).bind fun o => match o with
    | .nx ρ' n' => loopF g body xs ρ' n'
    | .bk ρ' n' => some (.nx ρ' n')
    | .rt w n' => some (.rt w n')
def sFor (fi : Fi) (g : Fg) (body : Fs) : Fs := fun ρ n => (fi ρ n).bind fun p => loopF g body p.1 ρ p.2
def loopW (c : Ft) (body : Fs) : Nat → Fs
  | 0, _, _ => none
  | k + 1, ρ, n => (c ρ n).bind fun p => if p.1 then (body ρ p.2).bind fun o => match o with
    | .nx ρ' n' => loopW c body k ρ' n'
    | .bk ρ' n' => some (.nx ρ' n')
    | .rt w n' => some (.rt w n')
    else some (.nx ρ p.2)
def wipeW (ρ : List W) : List Nat → List W
  | [] => ρ
  | v :: vs => (wipeW ρ vs).set v .no
def loopC (g : Fg) (own : List Nat) (tst : Ft) (elt : Fe) (ρ : List W) : List PyData → Nat → Option (List PyData × Nat)
  | [], n => some ([], n)
  | x :: xs, n => (g x (wipeW ρ own)).bind fun ρ1 => (tst ρ1 n).bind fun b => if b.1 then
      (elt ρ1 b.2).bind fun w => w.1.frz.val.bind fun y => (loopC g own tst elt ρ xs w.2).map fun r => (y :: r.1, r.2)
    else loopC g own tst elt ρ xs b.2
def eComp (fi : Fi) (g : Fg) (own : List Nat) (tst : Ft) (elt : Fe) : Fe := fun ρ n => (fi ρ n).bind fun p => if p.1.length ≤ big then (loopC g own tst elt ρ p.1 p.2).map fun q => (.ol q.1, q.2) else none
section
variable {X : Cx} {e a b : Expr} {es : List Expr} {f fa fb : Fe} {d da db : Fd} {fs : Fa} {ds : Fds} {pos : Pos} {st : Stmt} {rest sts sts' : List Stmt} {gs h : Fs}
theorem ss_for {p : Bool} {tg : Expr} {fi : Fi} {is : List Nat} {g : Fg} {body : Fs} (hp : PassesOwn (model X.prog X.w) X.A X.env X.xe) (hc : X.calm = true) (hi : EvI X p tg e fi) (hg : EvG X p tg is g) (hb : EvSs X sts body)
    (hs : ∀ x, foldedSetIterable e X.env x = pure x := by intro _; rfl) : EvS X (.For tg e sts [] pos) (sFor fi g body) := psI (ps_for hp hc hi hg hb hs) (by
  rintro D σ H ⟨C, O, ρ, n, out, hf, E, np, q⟩
  unfold sFor at hf
  obtain ⟨⟨xs, n1⟩, e1, hf⟩ := Option.bind_eq_some_iff.mp hf
  refine ⟨C, O, ρ, n, xs, n1, e1, E, fun J H1 s t it => ?_⟩
  refine ⟨fun i m σ' H' => ∃ O' ρ' n', m = xs.length - i ∧ i ≤ xs.length ∧ StepS C O O' H1 H' ∧ EnvOk C O' X.K σ' H' ρ' n' ∧ loopF g body (xs.drop i) ρ' n' = some out,
    ⟨_, O, ρ, n1, rfl, Nat.zero_le _, Step.refl.stepS0, E.step s t, hf⟩, ?_⟩
  rintro i m σ' H' ⟨O', ρ', n', rfl, hi, S', E', hl⟩
  obtain ⟨items, stop⟩ := it H' (fun a o e na => S'.st a o e (fun z => na (.inr (.inl z))) fun j z => na (.inr (.inr ⟨j, z⟩))) S'.fr
  by_cases hlt : i < xs.length
  · obtain ⟨go, yl⟩ := items i xs[i] (List.getElem?_eq_getElem hlt)
    rw [List.drop_eq_getElem_cons hlt] at hl
    unfold loopF at hl
    obtain ⟨ρ1, e2, hl⟩ := Option.bind_eq_some_iff.mp hl
    obtain ⟨o, e3, hl⟩ := Option.bind_eq_some_iff.mp hl
    refine .inr ⟨go, fun σ'' H'' => ∃ O'' ρ'' n'', StepS C O O'' H1 H'' ∧ EnvOk C O'' X.K σ'' H'' ρ'' n'' ∧ loopF g body (xs.drop (i + 1)) ρ'' n'' = some out, ?_, fun v H2 y => ?_⟩
    · rintro σ'' H'' ⟨O'', ρ'', n'', S'', E'', hl''⟩
      exact ⟨xs.length - (i + 1), by omega, O'', ρ'', n'', rfl, hlt, S'', E'', hl''⟩
    · obtain ⟨gr, it2⟩ := yl v H2 y
      have r := it2 (Av C O') S'.keep E'.av
      have E2 := E'.step gr.step (gr.town E'.town)
      have S2 : StepS C O O' H1 H2 := S'.trans gr.step.stepS0
      refine ⟨C, O', ρ', n', xs[i], ρ1, e2, E2, r, fun O3 vs s3 E3 => ⟨C, O3, ρ1, n', o, e3, E3, np.step E (s.stepS0.trans (S2.trans s3)), ?_⟩⟩
      cases o with
      | nx ρ4 n4 => exact fun O4 σ4 H4 s4 E4 => ⟨O4, ρ4, n4, (S2.trans s3).trans s4, E4, hl⟩
      | bk ρ4 n4 =>
        cases hl
        exact fun O4 σ4 H4 s4 E4 => q O4 σ4 H4 (s.stepS0.trans ((S2.trans s3).trans s4)) E4
      | rt w n4 =>
        cases hl
        exact q
  · have hie : i = xs.length := by omega
    subst hie
    rw [List.drop_length] at hl
    cases hl
    exact .inl ⟨stop, q O' σ' H' (s.stepS0.trans S') E'⟩)
theorem ss_while {c : Expr} {tc : Ft} {body : Fs} (k : Nat) (hp : PassesOwn (model X.prog X.w) X.A X.env X.xe) (hc : EvT X c tc) (hb : EvSs X sts body) : EvS X (.While c sts [] pos) (loopW tc body k) := psI (ps_while hp hc hb) (by
  rintro D σ H ⟨C, O, ρ, n, out, hf, E, np, q⟩
  refine ⟨fun m σ' H' => ∃ O' ρ' n', StepS C O O' H H' ∧ EnvOk C O' X.K σ' H' ρ' n' ∧ loopW tc body m ρ' n' = some out, ⟨k, O, ρ, n, Step.refl.stepS0, E, hf⟩, ?_⟩
  rintro m σ' H' ⟨O', ρ', n', S', E', hl⟩
  cases m with
  | zero => cases hl
  | succ m =>
    unfold loopW at hl
    obtain ⟨⟨x, n1⟩, e1, hl⟩ := Option.bind_eq_some_iff.mp hl
    refine ⟨C, O', ρ', n', x, n1, e1, E', fun H1 s1 t1 => ?_⟩
    have E1 := E'.step s1 t1
    have S1 := S'.trans s1.stepS0
    cases x with
    | false =>
      simp only [Bool.false_eq_true, if_false] at hl ⊢
      cases hl
      exact q O' σ' H1 S1 E1
    | true =>
      simp only [if_true] at hl ⊢
      obtain ⟨o, e3, hl⟩ := Option.bind_eq_some_iff.mp hl
      refine ⟨fun σ'' H'' => ∃ O'' ρ'' n'', StepS C O O'' H H'' ∧ EnvOk C O'' X.K σ'' H'' ρ'' n'' ∧ loopW tc body m ρ'' n'' = some out, fun σ'' H'' z => ⟨m, Nat.lt_succ_self m, z⟩, C, O', ρ', n1, o, e3, E1, np.step E S', ?_⟩
      cases o with
      | nx ρ4 n4 => exact fun O4 σ4 H4 s4 E4 => ⟨O4, ρ4, n4, S1.trans s4, E4, hl⟩
      | bk ρ4 n4 =>
        cases hl
        exact fun O4 σ4 H4 s4 E4 => q O4 σ4 H4 (S1.trans s4) E4
      | rt w n4 =>
        cases hl
        exact q)
/-! comprehensions -/
theorem wipe_get (σ : St) : ∀ (vs : List Nat) (j : Nat), (wipe σ vs)[j]? = if j ∈ vs ∧ j < σ.length then some none else σ[j]?
  | [], j => by simp [wipe]
  | v :: vs, j => by
    unfold wipe
    by_cases hv : v = j
    · subst hv
      by_cases hl : v < σ.length
      · rw [List.getElem?_set_self (by rw [wipe_length]; exact hl), if_pos ⟨List.mem_cons_self, hl⟩]
      · rw [List.getElem?_eq_none (by rw [List.length_set, wipe_length]; omega), if_neg (fun z => hl z.2), List.getElem?_eq_none (by omega)]
    · rw [List.getElem?_set_ne hv, wipe_get σ vs j]
      simp [Ne.symm hv]
theorem wipe_set {σ : St} {vs : List Nat} {i : Nat} {x : Option V} (h : i ∈ vs) : wipe (σ.set i x) vs = wipe σ vs := by
  apply List.ext_getElem?
  intro j
  rw [wipe_get, wipe_get, List.length_set]
  by_cases hj : j ∈ vs ∧ j < σ.length
  · rw [if_pos hj, if_pos hj]
  · rw [if_neg hj, if_neg hj]
    by_cases hi : i = j
    · subst hi
      have : ¬ i < σ.length := fun z => hj ⟨h, z⟩
      rw [List.getElem?_eq_none (by simpa using this), List.getElem?_eq_none (by omega)]
    · rw [List.getElem?_set_ne hi]
theorem wipe_wipe {σ : St} {vs : List Nat} : wipe (wipe σ vs) vs = wipe σ vs := by
  apply List.ext_getElem?
  intro j
  rw [wipe_get, wipe_length, wipe_get]
  split <;> rfl
theorem wipe_setV {vs : List Nat} : ∀ {is : List Nat} {us : List V} {σ : St}, (∀ i ∈ is, i ∈ vs) → wipe (setV is us σ) vs = wipe σ vs
  | [], _, _, _ => by unfold setV; rfl
  | _ :: _, [], _, _ => by unfold setV; rfl
  | i :: is, u :: us, σ, h => by
    unfold setV
    rw [wipe_setV (fun j hj => h j (List.mem_cons_of_mem _ hj)), wipe_set (h i List.mem_cons_self)]
theorem wipeW_length (ρ : List W) : ∀ vs : List Nat, (wipeW ρ vs).length = ρ.length
  | [] => rfl
  | v :: vs => by unfold wipeW; rw [List.length_set, wipeW_length ρ vs]
theorem wipeW_get (ρ : List W) : ∀ (vs : List Nat) (j : Nat), (wipeW ρ vs)[j]? = if j ∈ vs ∧ j < ρ.length then some .no else ρ[j]?
  | [], j => by simp [wipeW]
  | v :: vs, j => by
    unfold wipeW
    by_cases hv : v = j
    · subst hv
      by_cases hl : v < ρ.length
      · rw [List.getElem?_set_self (by rw [wipeW_length]; exact hl), if_pos ⟨List.mem_cons_self, hl⟩]
      · rw [List.getElem?_eq_none (by rw [List.length_set, wipeW_length]; omega), if_neg (fun z => hl z.2), List.getElem?_eq_none (by omega)]
    · rw [List.getElem?_set_ne hv, wipeW_get ρ vs j]
      simp [Ne.symm hv]
/-- in a block all that is ours, and the new list at D, is as others' -/
def blkC (C : Cn) (O : Ow) (D : Addr) : Cn := ⟨C.T, fun a => C.P a ∨ (∃ i, O i = some a) ∨ a = D, C.H0⟩
theorem blkC_av {C : Cn} {O O' : Ow} {D : Addr} : ∀ a, Av C O a ∨ a = D → Av (blkC C O D) O' a := by
  rintro a ((z | z | z) | z)
  · exact .inl (.inl z)
  · exact .inr (.inl z)
  · exact .inl (.inr (.inl z))
  · exact .inl (.inr (.inr z))
theorem blkC_va {C : Cn} {O : Ow} {D : Addr} : ∀ a, Av (blkC C O D) O a → Av C O a ∨ a = D := by
  rintro a ((z | z | z) | z | z)
  · exact .inl (.inl z)
  · exact .inl (.inr (.inr z))
  · exact .inr z
  · exact .inl (.inr (.inl z))
  · exact .inl (.inr (.inr z))
/-- the block's state -/
theorem EnvOk.blk {C : Cn} {O : Ow} {K : PySem.W.Frag} {σ : St} {H1 H' : Hp} {ρ : List W} {n n' : Nat} {D : Addr} {vs : List Nat} (E : EnvOk C O K σ H1 ρ n) (hD : H1 D = none) (s : Step C H1 H') (t : TownAt C H' n') (hD' : H' D ≠ none) :
    EnvOk (blkC C O D) O K (wipe σ vs) H' (wipeW ρ vs) n' := by
  have E1 := E.step s t
  have kp : Keep (Av C O) (Av (blkC C O D) O) H1 H' := fun a u na r => by
    refine ⟨fun z => ?_, s.st _ _ r (fun e => na (.inr (.inl e)))⟩
    rcases blkC_va a z with z | z
    · exact na z
    · rw [z, hD] at r; cases r
  refine ⟨by rw [wipeW_length, wipe_length]; exact E.len, fun i w e => ?_, E.inj, E1.own, t, E1.base, fun a z => z.elim (E1.ptr a) fun z => z.elim (fun ⟨i, z⟩ => (E1.own i a z).2.2) fun z => by rw [z]; exact hD', E1.fr⟩
  rw [wipeW_get] at e
  rw [wipe_get]
  split at e
  · cases e
    trivial
  · rename_i hn
    rw [if_neg (by rw [← E.len]; exact hn)]
    have q := E.sl i w e
    cases w with
    | no => trivial
    | d x => obtain ⟨u, h1, h2⟩ := q; exact ⟨u, h1, h2.mono kp⟩
    | town => exact q
    | ol xs =>
      obtain ⟨a, us, h1, h2, h3, h4⟩ := q
      exact ⟨a, us, h1, h2, s.st _ _ h3 (E.own i a h1).1, h4.mono kp⟩
    | od kvs =>
      obtain ⟨a, h1, h2, h3⟩ := q
      exact ⟨a, h1, h2, h3.mono kp fun o e => s.st _ _ e (E.own i a h1).1⟩
def bYes : Ft := fun _ n => some (true, n)
abbrev EvTs (X : Cx) (es : List Expr) (f : Ft) : Prop := PTs X es (tVT X.K f)
theorem ptsI {t t' : TT} (h : PTs X es t) (w : ∀ σ H Q, t' σ H Q → t σ H Q) : PTs X es t' := ⟨fun pins s σ H Q I q => h.run pins s σ H Q I (w σ H Q q)⟩
theorem ets_nil : EvTs X [] bYes := ptsI pts_nil (by
  rintro σ H Q ⟨C, O, ρ, n, c, n', hf, E, q⟩
  cases hf
  exact q H Step.refl E.town)
theorem ets_one {ft : Ft} (h : EvT X e ft) : EvTs X [e] ft := pts_one h
theorem comp_run {p : Bool} {K : PySem.W.Frag} {fi : Fi} {is own : List Nat} {g : Fg} {tst : Ft} {elt : Fe} (ho : ∀ i ∈ is, i ∈ own) {σ : St} {H : Hp} {Q : VK} (h : tV K (eComp fi g own tst elt) σ H Q) :
    tLc (tVJ p K fi) (tVG p K is g) (tVT K tst) (tV K elt) own σ H Q := by
  obtain ⟨C, O, ρ, n, w, n', hf, E, q⟩ := h
  unfold eComp at hf
  obtain ⟨⟨xs, n1⟩, e1, hf⟩ := Option.bind_eq_some_iff.mp hf
  simp only at hf
  split at hf
  case isFalse => cases hf
  rename_i hz
  obtain ⟨⟨ys, nf⟩, e2, hf⟩ := Option.map_eq_some_iff.mp hf
  cases hf
  refine ⟨C, O, ρ, n, xs, n1, e1, E, fun J H1 s t it D hD => ?_⟩
  have E1 := E.step s t
  have hDH : H D = none := s.fr D hD
  let Inv1 : Nat → Hp → Prop := fun i H' => ∃ n2 acc vs r, Step C H1 H' ∧ TownAt C H' n2 ∧ H' D = some (.lst vs) ∧ DvAll (fun b => Av C O b ∨ b = D) K H' vs acc ∧ acc.length ≤ i ∧ loopC g own tst elt ρ (xs.drop i) n2 = some (r, nf) ∧ acc ++ r = ys
  refine ⟨fun i m H' => m = xs.length - i ∧ i ≤ xs.length ∧ Inv1 i H', ⟨_, rfl, Nat.zero_le _, n1, [], [], ys, (Grow.upd hD).step, (Grow.upd hD).town t, upd_same, .nil, Nat.le_refl _, e2, rfl⟩, ?_⟩
  rintro i m H' ⟨rfl, hi, n2, acc, vs, r, S', T', hD', hacc, hlen, hl, hys⟩
  obtain ⟨items, stop⟩ := it H' (fun a o e na => S'.st a o e na) S'.fr
  have EB : EnvOk (blkC C O D) O K (wipe σ own) H' (wipeW ρ own) n2 := E1.blk hD S' T' (by rw [hD']; simp)
  by_cases hlt : i < xs.length
  · obtain ⟨go, yl⟩ := items i xs[i] (List.getElem?_eq_getElem hlt)
    rw [List.drop_eq_getElem_cons hlt] at hl
    unfold loopC at hl
    obtain ⟨ρ1, e3, hl⟩ := Option.bind_eq_some_iff.mp hl
    obtain ⟨⟨c, n3⟩, e4, hl⟩ := Option.bind_eq_some_iff.mp hl
    refine .inr ⟨go, Inv1 (i + 1), fun H'' z => ⟨xs.length - (i + 1), by omega, rfl, hlt, z⟩, fun v H2 y => ?_⟩
    obtain ⟨gr, it2⟩ := yl v H2 y
    have rx : DvI p (Av (blkC C O D) O) K H2 v xs[i] := it2 _ (fun a u na rd => by
      refine ⟨fun z => ?_, S'.st _ _ rd (fun e => na (.inr (.inl e)))⟩
      rcases blkC_va a z with z | z
      · exact na z
      · rw [z, hD] at rd; cases rd) EB.av
    have E2 := EB.step gr.step (gr.town EB.town)
    refine ⟨_, O, wipeW ρ own, n2, xs[i], ρ1, e3, E2, rx, fun O3 us s3 E3 => ⟨by rw [wipe_setV ho, wipe_wipe], ?_⟩⟩
    refine ⟨_, O3, ρ1, n2, c, n3, e4, E3, fun H3 s4 t4 => ?_⟩
    have E4 := E3.step s4 t4
    have toC : ∀ {Ha Hb : Hp}, Step ((blkC C O D) : Cn) Ha Hb → Step C Ha Hb := fun {Ha Hb} z => ⟨z.st, z.fr⟩
    have S3 : Step C H1 H3 := (S'.trans gr.step).trans (toC s4)
    have TD : C.T ≠ some D := fun z => E1.tr D z hD
    have hD3 : H3 D = some (.lst vs) := s4.st _ _ (gr _ _ hD') TD
    have hacc3 : DvAll (fun b => Av C O b ∨ b = D) K H3 vs acc := (hacc.mono gr.keep).mono ((toC s4).keep fun a z => .inl (.inr (.inl z)))
    cases c with
    | false =>
      simp only [Bool.false_eq_true, if_false] at hl ⊢
      exact ⟨n3, acc, vs, r, S3, t4, hD3, hacc3, by omega, hl, hys⟩
    | true =>
      simp only [if_true] at hl ⊢
      obtain ⟨⟨wy, n4⟩, e5, hl⟩ := Option.bind_eq_some_iff.mp hl
      obtain ⟨y', e6, hl⟩ := Option.bind_eq_some_iff.mp hl
      obtain ⟨⟨r', n5⟩, e7, hl⟩ := Option.map_eq_some_iff.mp hl
      cases hl
      refine ⟨_, O3, ρ1, n3, wy, n4, e5, E4, fun vy H4 s5 t5 ry => ?_⟩
      have ry' : Dv (Av (blkC C O D) O3) K H4 vy y' := (ry.frz E4.av).val e6
      have hD4 : H4 D = some (.lst vs) := s5.st _ _ hD3 TD
      have hacc4 := hacc3.mono ((toC s5).keep fun a z => .inl (.inr (.inl z)))
      have S4 : Step C H1 H4 := S3.trans (toC s5)
      have ne : ∀ b u, b ≠ D → upd H4 D u b = H4 b := fun b u hb => upd_ne hb
      have kp : Keep (fun b => Av C O b ∨ b = D) (fun b => Av C O b ∨ b = D) H4 (upd H4 D (.lst (vs ++ [vy]))) := fun a u na rd => ⟨na, by
        rw [upd_ne (fun z => na (.inr z))]
        exact rd⟩
      have kq : Keep (Av (blkC C O D) O3) (fun b => Av C O b ∨ b = D) H4 H4 := fun a u na rd => ⟨fun z => na (blkC_av a z), rd⟩
      have nn : ∀ b, upd H4 D (.lst (vs ++ [vy])) b = none → H4 b = none := fun b z => by
        by_cases h : b = D
        · rw [h, upd_same] at z; cases z
        · rw [upd_ne h] at z; exact z
      refine ⟨vs, hD4, by rw [hacc.length, big_eq]; omega, n4, acc ++ [y'], vs ++ [vy], r', ⟨fun a o z t => ?_, fun a z => S4.fr a (nn a z)⟩, fun a z => ?_, upd_same, (hacc4.append (.cons (ry'.mono kq) .nil)).mono kp, by rw [List.length_append]; simp; omega, e7, ?_⟩
      · rw [upd_ne (fun h => by rw [h, hD] at z; cases z)]
        exact S4.st a o z t
      · rw [upd_ne (fun h => TD (by rw [← h]; exact z))]
        exact t5 a z
      · rw [List.append_assoc]
        exact hys
  · have hie : i = xs.length := by omega
    subst hie
    rw [List.drop_length] at hl
    cases hl
    rw [List.append_nil] at hys
    subst hys
    exact .inl ⟨stop, q _ _ (s.trans S') T' ⟨D, vs, rfl, hDH, hD', hacc⟩⟩
end
end L2.Lv
namespace L2.Lv
open PySem PySem.Spec PyProof.Rows
/-! comprehensions as expressions -/
section
variable {X : Cx} {e a b : Expr} {es : List Expr} {f fa fb : Fe} {d da db : Fd} {fs : Fa} {ds : Fds} {pos : Pos} {st : Stmt} {rest sts sts' : List Stmt} {gs h : Fs}
theorem ev_lc {elt tg iter : Expr} {ifs : List Expr} {scope : Scope} {own : List (Str × Nat)} {p : Bool} {fi : Fi} {is : List Nat} {g : Fg} {tst : Ft} {fe : Fe} (hc : X.calm = true) (hN : X.N.Nodup) (hi : EvJ X p tg iter fi) (ok : BlkOk X.N X.env.scope scope own)
    (hg : ∀ (s : Shared) (H : Hp) (C : Addr) (cl : List (Str × Addr)) (fp : List Addr), EvG (X.blk s H scope (compEnvC scope cl C X.env) fp) p tg is g)
    (ht : ∀ (s : Shared) (H : Hp) (C : Addr) (cl : List (Str × Addr)) (fp : List Addr), EvTs (X.blk s H scope (compEnvC scope cl C X.env) fp) ifs tst)
    (he : ∀ (s : Shared) (H : Hp) (C : Addr) (cl : List (Str × Addr)) (fp : List Addr), EvE (X.blk s H scope (compEnvC scope cl C X.env) fp) elt fe)
    (ho : ∀ i ∈ is, i ∈ own.map (·.2) := by decide) (hs : ∀ x, foldedSetIterable iter X.env x = pure x := by intro _; rfl) :
    EvE X (.ListComp elt [⟨tg, iter, ifs, 0⟩] scope pos) (eComp fi g (own.map (·.2)) tst fe) :=
  peI (pe_lc hc hN hi ok hg ht he hs) fun σ H Q h => comp_run ho h
theorem ss_setLcF {i : Nat} {y : Str} {py : Pos} {elt tg iter : Expr} {ifs : List Expr} {scope : Scope} {own : List (Str × Nat)} {spos : Pos} {p : Bool} {fi : Fi} {is : List Nat} {g : Fg} {tst : Ft} {fe : Fe} (hc : X.calm = true) (hN : X.N.Nodup) (hy : X.N[i]? = some y) (hyl : X.env.scope.names.lookup y = some .local)
    (hsw : swapsWith (.ListComp elt [⟨tg, iter, ifs, 0⟩] scope pos) (some (.Name y py)) spos.line X.env = pure true) (hi : EvJ X p tg iter fi) (ok : BlkOk X.N X.env.scope scope own)
    (hg : ∀ (s : Shared) (H : Hp) (C : Addr) (cl : List (Str × Addr)) (fp : List Addr), EvG (X.blk s H scope (compEnvC scope cl C X.env) fp) p tg is g)
    (ht : ∀ (s : Shared) (H : Hp) (C : Addr) (cl : List (Str × Addr)) (fp : List Addr), EvTs (X.blk s H scope (compEnvC scope cl C X.env) fp) ifs tst)
    (he : ∀ (s : Shared) (H : Hp) (C : Addr) (cl : List (Str × Addr)) (fp : List Addr), EvE (X.blk s H scope (compEnvC scope cl C X.env) fp) elt fe)
    (ho : ∀ i ∈ is, i ∈ own.map (·.2) := by decide) (hs : ∀ x, foldedSetIterable iter X.env x = pure x := by intro _; rfl) :
    EvS X (.Assign [.Name y py] (.ListComp elt [⟨tg, iter, ifs, 0⟩] scope pos) spos) (sSet i (eFrz (eComp fi g (own.map (·.2)) tst fe))) :=
  psI (ps_setLc hc hN hy hyl hsw hi ok hg ht he hs) (by
    rintro D σ H ⟨C, O, ρ, n, out, hf, E, np, q⟩
    unfold sSet at hf
    obtain ⟨⟨w, n1⟩, e1, hf⟩ := Option.map_eq_some_iff.mp hf
    cases hf
    unfold eFrz at e1
    obtain ⟨⟨w0, n2⟩, e0, e1⟩ := Option.map_eq_some_iff.mp e1
    cases e1
    refine comp_run ho ⟨C, O, ρ, n, w0, _, e0, E, fun v H1 s t r => ?_⟩
    obtain ⟨O', E', s'⟩ := E.assign (i := i) s t (r.frz E.av)
    exact q O' _ H1 s' E')
/-- a list of one's own is given away -/
def frzAt (i : Nat) (g : Fs) : Fs := fun ρ n => match ρ[i]? with
  | some w => g (ρ.set i w.frz) n
  | none => none
theorem EnvOk.frzAt {C : Cn} {O : Ow} {K : PySem.W.Frag} {σ : St} {H : Hp} {ρ : List W} {n i : Nat} {w : W} (E : EnvOk C O K σ H ρ n) (np : OwnP C O) (e : ρ[i]? = some w) : ∃ O', EnvOk C O' K σ H (ρ.set i w.frz) n ∧ StepS C O O' H H := by
  have same : ∀ w', w' = w → ∃ O', EnvOk C O' K σ H (ρ.set i w') n ∧ StepS C O O' H H := by
    rintro w' rfl
    have h : ρ.set i w' = ρ := by
      apply List.ext_getElem?
      intro j
      by_cases h : i = j
      · subst h
        rw [List.getElem?_set_self (List.getElem?_eq_some_iff.mp e).1, e]
      · rw [List.getElem?_set_ne h]
    rw [h]
    exact ⟨O, E, Step.refl.stepS0⟩
  cases w with
  | no => exact same _ rfl
  | d x => exact same _ rfl
  | town => exact same _ rfl
  | od x => exact same _ rfl
  | ol xs =>
    obtain ⟨a, vs, h1, h2, h3, h4⟩ := E.sl i _ e
    have hi : i < σ.length := (List.getElem?_eq_some_iff.mp h2).1
    have hs : σ.set i (some (.ref a)) = σ := by
      apply List.ext_getElem?
      intro j
      by_cases h : i = j
      · subst h
        rw [List.getElem?_set_self hi, h2]
      · rw [List.getElem?_set_ne h]
    have kp : Keep (Av C O) (Av C (owSet O i none)) H H := fun b u nb r => ⟨fun z => nb (by
      rcases z with z | z | ⟨j, z⟩
      · exact .inl z
      · exact .inr (.inl z)
      · by_cases h : j = i
        · rw [h, owSet_at] at z; cases z
        · rw [owSet_of h] at z; exact .inr (.inr ⟨j, z⟩)), r⟩
    have na : ¬ Av C (owSet O i none) a := by
      rintro (z | z | ⟨j, z⟩)
      · exact np i a h1 z
      · exact (E.own i a h1).1 z
      · by_cases h : j = i
        · rw [h, owSet_at] at z; cases z
        · rw [owSet_of h] at z; exact h (E.inj j i a z h1)
    refine ⟨owSet O i none, ⟨by simpa using E.len, fun j w' e' => ?_, fun j k b h h' => ?_, fun j b h => ?_, E.town, E.base, E.ptr, E.fr⟩, Step.refl.stepS fun j b h => ?_⟩
    · by_cases h : j = i
      · subst h
        rw [List.getElem?_set_self (List.getElem?_eq_some_iff.mp e).1] at e'
        cases e'
        exact ⟨_, h2, .lst (.inl ⟨na, .inl h3⟩) (h4.mono kp)⟩
      · rw [List.getElem?_set_ne (Ne.symm h)] at e'
        rw [owSet_of h]
        have q := E.sl j w' e'
        cases w' with
        | no => trivial
        | d x => obtain ⟨u, h1, h2⟩ := q; exact ⟨u, h1, h2.mono kp⟩
        | town => exact q
        | ol xs => obtain ⟨b, us, h1, h2, h3, h4⟩ := q; exact ⟨b, us, h1, h2, h3, h4.mono kp⟩
        | od kvs => obtain ⟨b, h1, h2, h3⟩ := q; exact ⟨b, h1, h2, h3.mono kp fun o e => e⟩
    · by_cases hj : j = i
      · rw [hj, owSet_at] at h; cases h
      · by_cases hk : k = i
        · rw [hk, owSet_at] at h'; cases h'
        · rw [owSet_of hj] at h; rw [owSet_of hk] at h'; exact E.inj j k b h h'
    · by_cases hj : j = i
      · rw [hj, owSet_at] at h; cases h
      · rw [owSet_of hj] at h; exact E.own j b h
    · by_cases hj : j = i
      · rw [hj, owSet_at] at h; cases h
      · rw [owSet_of hj] at h; exact .inl ⟨j, h⟩
/-! a def by its body -/
def runB (m : Nat) (g : Fs) : Fn := fun ws n => (g (ws ++ List.replicate (m - ws.length) .no) n).bind fun o => match o with
  | .rt w n' => some (w, n')
  | .nx _ n' => some (.d .none, n')
  | .bk _ _ => none
theorem start_env {T : Option Addr} {P : Addr → Prop} {K : PySem.W.Frag} {N : List Str} {H : Hp} {ws : List W} {vs : List V} {n : Nat} (hP : ∀ a, P a → H a ≠ none) (t : TownAt ⟨T, P, H⟩ H n) (ha : ArgsOk (Av ⟨T, P, H⟩ Ow0) T K H vs ws) :
    EnvOk ⟨T, P, H⟩ Ow0 K (start N vs) H (ws ++ List.replicate (N.length - ws.length) .no) n := by
  have hl : vs.length = ws.length := Paired.length ha
  refine ⟨by simp [start, hl], fun i w e => ?_, fun i j a h => (nomatch h), fun i a h => (nomatch h), t, fun a o h _ => h, hP, fun a h => h⟩
  by_cases hi : i < ws.length
  · rw [List.getElem?_append_left hi] at e
    have get : ∀ {vs : List V} {ws : List W} {i : Nat} {w : W}, ArgsOk (Av ⟨T, P, H⟩ Ow0) T K H vs ws → ws[i]? = some w → ∃ v, vs[i]? = some v ∧ ArgOk (Av ⟨T, P, H⟩ Ow0) T K H v w := by
      intro vs ws i w h e
      induction h generalizing i with
      | nil => simp at e
      | cons r t ih =>
        cases i with
        | zero => simp at e; subst e; exact ⟨_, rfl, r⟩
        | succ i =>
          obtain ⟨v, h1, h2⟩ := ih (i := i) (by simpa using e)
          exact ⟨v, by simpa using h1, h2⟩
    obtain ⟨v, h1, h2⟩ := get ha e
    have hs : (start N vs)[i]? = some (some v) := by
      unfold start
      rw [List.getElem?_append_left (by rw [List.length_map, hl]; exact hi), List.getElem?_map, h1]
      rfl
    rw [hs]
    cases w with
    | d x => exact ⟨v, rfl, h2⟩
    | town => obtain ⟨a, z1, z2⟩ := h2; exact ⟨a, z1, by rw [z2]⟩
    | no => trivial
    | ol _ => exact False.elim h2
    | od _ => exact False.elim h2
  · rw [List.getElem?_append_right (by omega), List.getElem?_replicate] at e
    split at e
    · cases e
      trivial
    · cases e
theorem fn_val {P : Program} {w : World} {K : PySem.W.Frag} {mg : Str → Option Value} {base : Heap} {x qual : Str} {st : Stmt} {f : Addr} {fd : FuncData} {N ps : List Str} {k : Nat} {g : Fs} (F : Fun K x qual st f fd) (S : FnScope N ps (defScope st))
    (hb : ∀ (cdv : Value) (A : Around) (outer : List Env) (s : Shared) (H : Hp) (E : XK), Room k (A.deeper (envOfC qual (defScope st) s.heap.objs.size f cdv)) →
      EvSs (cxOf CX0 P w K mg base N qual (defScope st) f cdv A outer s H E).nox (defBody st) g) : FnOk P w K mg base CX0 (k + 1) f fd ps (spOf K ps.length (runB N.length g)) := by
  refine F.ok S spOf.len fun cdv A outer s H vs Q E hr h => ⟨_, hb cdv A outer s H E hr, ?_⟩
  obtain ⟨T, Pp, ws, n, w, n', hP, t, hl, ha, hf, q⟩ := h
  unfold runB at hf
  obtain ⟨o, e1, hf⟩ := Option.bind_eq_some_iff.mp hf
  refine ⟨⟨T, Pp, H⟩, Ow0, _, n, o, e1, start_env hP t ha, fun i a z => (nomatch z), ?_⟩
  cases o with
  | rt w1 n1 =>
    cases hf
    exact fun v H' r => q v H' ⟨r.base, r.fr⟩ r.town r.res
  | nx ρ1 n1 =>
    cases hf
    exact fun O' σ' H' s E' => q .non H' ⟨E'.base, E'.fr⟩ E'.town .non
  | bk ρ1 n1 => cases hf
end
end L2.Lv
namespace L2.Lv
open PySem PySem.Spec PyProof.Rows
section
variable {X : Cx} {e a b : Expr} {es : List Expr} {f fa fb : Fe} {d da db : Fd} {fs : Fa} {ds : Fds} {pos : Pos}
/-! ints -/
def dI (C : Int → Int → Bool) (g : Int → Int → Int) : PyData → PyData → Option W
  | .int i, .int j => if C i j then some (.d (.int (g i j))) else none
  | _, _ => none
theorem opv_I {f : Value → Value → Sem Value} {Cp : Int → Int → Prop} {C : Int → Int → Bool} {g : Int → Int → Int} (h : OpR X f (rI Cp fun i j => .int (g i j))) (hc : ∀ i j, C i j = true → Cp i j) : OpV X f (dI C g) := ⟨_, h, fun A T x y dx dy w H Q tr rx ry e q => by
  cases dx with
  | int i =>
    cases dy with
    | int j =>
      simp only [dI] at e
      split at e
      · rename_i hC
        cases e
        exact ⟨i, j, rx.int, ry.int, hc i j hC, q _ _ Grow.refl (.int _)⟩
      · cases e
    | _ => cases e
  | _ => cases e⟩
def yesC : Int → Int → Bool := fun _ _ => true
theorem rI_of {f : Value → Value → Sem Value} {g : Int → Int → V} (h : OpR X f (rI0 g)) : OpR X f (rI (fun _ _ => True) g) := fun pins s σ H x y v u Q I rx ry ⟨i, j, h1, h2, _, q⟩ => h pins s σ H x y v u Q I rx ry ⟨i, j, h1, h2, q⟩
abbrev dAddI := dI yesC (· + ·)
abbrev dSub := dI yesC (· - ·)
def mulC (i j : Int) : Bool := decide ((-(2 ^ 64) < i ∧ i < 2 ^ 64) ∨ (-(2 ^ 64) < j ∧ j < 2 ^ 64))
abbrev dMul := dI mulC (· * ·)
def divC (_ j : Int) : Bool := decide (0 < j ∧ j < 1073741824)
abbrev dDiv := dI divC (· / ·)
def modC (_ j : Int) : Bool := decide (0 < j)
abbrev dMod := dI modC (· % ·)
theorem ov_addI : OpV X (binaryOp .Add) dAddI := opv_I (rI_of op_add) fun _ _ _ => trivial
theorem ov_sub : OpV X (binaryOp .Sub) dSub := opv_I (rI_of op_sub) fun _ _ _ => trivial
theorem ov_mul : OpV X (binaryOp .Mult) dMul := opv_I op_mul fun i j h => of_decide_eq_true (p := (-(2 ^ 64) < i ∧ i < 2 ^ 64) ∨ (-(2 ^ 64) < j ∧ j < 2 ^ 64)) h
theorem ov_div : OpV X (binaryOp .FloorDiv) dDiv := opv_I op_fdiv fun i j h => of_decide_eq_true (p := 0 < j ∧ j < 1073741824) h
theorem ov_mod : OpV X (binaryOp .Mod) dMod := opv_I op_mod fun _ _ h => of_decide_eq_true h
/-! t + u, xs + ys, s + t -/
def dCatT : PyData → PyData → Option W
  | .tuple xs, .tuple ys => if xs.length + ys.length ≤ big then some (.d (.tuple (xs ++ ys))) else none
  | _, _ => none
theorem ov_catT : OpV X (binaryOp .Add) dCatT := ⟨_, op_catF, fun A T x y dx dy w H Q tr rx ry e q => by
  cases dx with
  | tuple xs =>
    cases dy with
    | tuple ys =>
      simp only [dCatT] at e
      split at e
      · rename_i hz
        cases e
        obtain ⟨a, vs, rfl, h1, h2, h3⟩ := rx.tup
        obtain ⟨b, us, rfl, k1, k2, k3⟩ := ry.tup
        refine ⟨a, b, vs, us, rfl, rfl, h1, k1, by rw [h2.length, k2.length, big_eq]; exact hz, fun z => ?_, fun z => ?_, fun p o ho hp => q _ _ (Grow.upd hp) (new_tup hp tr ho (h2.append k2))⟩
        · subst z
          cases h2
          exact q _ _ Grow.refl k3
        · subst z
          cases k2
          rw [List.append_nil] at q
          exact q _ _ Grow.refl h3
      · cases e
    | _ => cases e
  | _ => cases e⟩
def rCatR (K : PySem.W.Frag) : R2 := fun x y H Q => ∃ l b xs zs, x = .ref l ∧ y = .ref b ∧ SqL K H l xs ∧ SqL K H b zs ∧ xs.length + zs.length ≤ sizeLine ∧ ∀ p, H p = none → Q (.ref p) (upd H p (.lst (xs ++ zs)))
theorem op_catR : OpR X (binaryOp .Add) (rCatR X.K) := by
  rintro pins s σ H x y v u Q I rx ry ⟨l, b, xs, zs, rfl, rfl, hH, hB, hz, q⟩
  have hv : v = .ref l := rx
  have hu : u = .ref b := ry
  subst hv hu
  obtain ⟨its, r, ⟨⟨cls, dd, data, sl⟩, n, e, hc, hdd, hd⟩, z⟩ := I.list hH
  obtain ⟨its2, r2, ⟨⟨cls2, dd2, data2, sl2⟩, n2, e2, hc2, hdd2, hd2⟩, z2⟩ := I.list hB
  simp only at hc hd hc2 hd2
  subst hc hd hc2 hd2
  have l1 := r.length
  have l2 := r2.length
  refine concat_meets ⟨_, e, rfl⟩ ⟨_, e2, rfl⟩ noFill_list_add seq_list_add PySem.F.slot_list_add PySem.F.entry_list_add (PySem.F.args_list_add_2 _ _) (list_addW l b its.toArray its2.toArray n n2 dd dd2 sl sl2 (by rw [List.size_toArray, List.size_toArray]; omega)) ⟨e, e2, ?_⟩
  rw [show its.toArray ++ its2.toArray = (its ++ its2).toArray by simp]
  exact ⟨.ref _, _, I.lnew (t' := s.toks) (r.append r2) (by rw [List.length_append]; omega), rfl, q _ I.fresh⟩
def dCatL : PyData → PyData → Option W
  | .list xs, .list ys => if xs.length + ys.length ≤ big then some (.ol (xs ++ ys)) else none
  | _, _ => none
theorem ov_catL : OpV X (binaryOp .Add) dCatL := ⟨_, op_catR, fun A T x y dx dy w H Q tr rx ry e q => by
  cases dx with
  | list xs =>
    cases dy with
    | list ys =>
      simp only [dCatL] at e
      split at e
      · rename_i hz
        cases e
        obtain ⟨a, vs, rfl, h1, h2⟩ := rx.lst
        obtain ⟨b, us, rfl, k1, k2⟩ := ry.lst
        exact ⟨a, b, vs, us, rfl, rfl, h1, k1, by rw [h2.length, k2.length, big_eq]; exact hz, fun p hp => q _ _ (Grow.upd hp) (new_lst hp (h2.append k2))⟩
      · cases e
    | _ => cases e
  | _ => cases e⟩
def dCatS : PyData → PyData → Option W
  | .str xs, .str ys => if xs.length + ys.length ≤ big then some (.d (.str (xs ++ ys))) else none
  | _, _ => none
theorem ov_catS : OpV X (binaryOp .Add) dCatS := ⟨_, op_add_str, fun A T x y dx dy w H Q tr rx ry e q => by
  cases dx with
  | str xs =>
    cases dy with
    | str ys =>
      simp only [dCatS] at e
      split at e
      · rename_i hz
        cases e
        exact ⟨xs, ys, rx.str, ry.str, by rw [big_eq]; exact hz, q _ _ Grow.refl (.str _)⟩
      · cases e
    | _ => cases e
  | _ => cases e⟩
/-- + of ints, tuples, lists -/
def dAdd : PyData → PyData → Option W := fun x y => match x, y with
  | .int i, .int j => some (.d (.int (i + j)))
  | .tuple xs, .tuple ys => if xs.length + ys.length ≤ big then some (.d (.tuple (xs ++ ys))) else none
  | .list xs, .list ys => if xs.length + ys.length ≤ big then some (.ol (xs ++ ys)) else none
  | .str xs, .str ys => if xs.length + ys.length ≤ big then some (.d (.str (xs ++ ys))) else none
  | _, _ => none
theorem OpV.cast {f : Value → Value → Sem Value} {g g' : PyData → PyData → Option W} (h : OpV X f g) (e : ∀ x y, g' x y = g x y) : OpV X f g' := by
  have : g' = g := funext fun x => funext fun y => e x y
  rw [this]; exact h
theorem ov_add : OpV X (binaryOp .Add) dAdd := (((ov_addI.or ov_catT).or ov_catL).or ov_catS).cast fun x y => by
  cases x <;> cases y <;> simp [dAdd, dI, yesC, dCatT, dCatL, dCatS]
/-! == and != -/
def shp (x : PyData) : Bool := SeqAt.shaped x
def dEq (x y : PyData) : Option W := if shp x && shp y then some (.d (.bool (PyData.eqv x y))) else none
def dNe (x y : PyData) : Option W := if shp x && shp y then some (.d (.bool (!PyData.eqv x y))) else none
theorem DvB.dp {A : Addr → Prop} {T : Option Addr} {K : PySem.W.Frag} {H : Hp} {v : V} {x : PyData} (h : DvB A T K H v x) (hs : shp x = true) : Dp K H v x := by
  rcases h with h | ⟨a, vs, ds, rfl, rfl, _, h4, h5⟩ | ⟨a, kvs, _, rfl, _⟩
  · exact h.dp
  · exact .lst (SqL.of h4) h5.dp
  · exact absurd hs (by simp [shp, SeqAt.shaped, PyData.canLay0])
theorem ov_eq (hu : X.A.units + 64 < cLine) : OpV X (compareOp .Eq) dEq := ⟨_, op_eqD hu, fun A T x y dx dy w H Q tr rx ry e q => by
  unfold dEq at e
  split at e
  · rename_i hs
    rw [Bool.and_eq_true] at hs
    cases e
    exact ⟨dx, dy, rx.dp hs.1, ry.dp hs.2, hs.1, hs.2, q _ _ Grow.refl (.bl _)⟩
  · cases e⟩
theorem ov_ne (hu : X.A.units + 64 < cLine) : OpV X (compareOp .NotEq) dNe := ⟨_, op_neD hu, fun A T x y dx dy w H Q tr rx ry e q => by
  unfold dNe at e
  split at e
  · rename_i hs
    rw [Bool.and_eq_true] at hs
    cases e
    exact ⟨dx, dy, rx.dp hs.1, ry.dp hs.2, hs.1, hs.2, q _ _ Grow.refl (.bl _)⟩
  · cases e⟩
/-! is None -/
def isNo : PyData → Bool
  | .none => true
  | _ => false
def dIsN : PyData → PyData → Option W
  | x, .none => some (.d (.bool (isNo x)))
  | _, _ => none
def dNotN : PyData → PyData → Option W
  | x, .none => some (.d (.bool (!isNo x)))
  | _, _ => none
theorem DvB.isN {A : Addr → Prop} {T : Option Addr} {K : PySem.W.Frag} {H : Hp} {v : V} {x : PyData} (h : DvB A T K H v x) : decide (v = .non) = isNo x := by
  cases x with
  | none => rw [h.non]; rfl
  | bool b => rw [h.bl]; rfl
  | int b => rw [h.int]; rfl
  | str b => rw [h.str]; rfl
  | list b => obtain ⟨a, vs, rfl, _⟩ := h.lst; rfl
  | tuple b => obtain ⟨a, vs, rfl, _⟩ := h.tup; rfl
  | dict b => obtain ⟨a, rfl, _⟩ := h.dct; rfl
theorem ov_isN : OpV X (compareOp .Is) dIsN := ⟨_, op_isN, fun A T x y dx dy w H Q tr rx ry e q => by
  cases dy with
  | none =>
    cases e
    exact ⟨ry.non, by rw [rx.isN]; exact q _ _ Grow.refl (.bl _)⟩
  | _ => cases e⟩
theorem ov_notN : OpV X (compareOp .IsNot) dNotN := ⟨_, op_notN, fun A T x y dx dy w H Q tr rx ry e q => by
  cases dy with
  | none =>
    cases e
    exact ⟨ry.non, by rw [rx.isN]; exact q _ _ Grow.refl (.bl _)⟩
  | _ => cases e⟩
/-! order -/
def intsOf : List PyData → Option (List Int)
  | [] => some []
  | .int i :: xs => (intsOf xs).map (i :: ·)
  | _ :: _ => none
theorem intsOf_ok : ∀ {xs : List PyData} {ns : List Int}, intsOf xs = some ns → xs = ns.map .int
  | [], _, h => by cases h; rfl
  | x :: xs, ns, h => by
    cases x with
    | int i =>
      obtain ⟨ms, h1, h2⟩ := Option.map_eq_some_iff.mp (show (intsOf xs).map (i :: ·) = some ns from h)
      subst h2
      rw [intsOf_ok h1]
      rfl
    | _ => cases h
@[simp] theorem intsOf_map : ∀ (ns : List Int), intsOf (ns.map .int) = some ns
  | [] => rfl
  | n :: ns => by show (intsOf (ns.map .int)).map (n :: ·) = _; rw [intsOf_map ns]; rfl
theorem DvAll.ints {A : Addr → Prop} {K : PySem.W.Frag} {H : Hp} : ∀ {ns : List Int} {vs : List V}, DvAll A K H vs (ns.map .int) → vs = ns.map V.int
  | [], _, h => by cases h; rfl
  | n :: ns, _, h => by
    cases h with
    | cons h1 h2 => cases h1; rw [DvAll.ints h2]; rfl
def lexB (r : Int → Int → Bool) (z : Nat → Nat → Bool) : List Int → List Int → Bool
  | x :: xs, y :: ys => if x = y then lexB r z xs ys else r x y
  | xs, ys => z xs.length ys.length
theorem lexB_cons {r : Int → Int → Bool} {z : Nat → Nat → Bool} {x y : Int} {xs ys : List Int} : lexB r z (x :: xs) (y :: ys) = if x = y then lexB r z xs ys else r x y := rfl
theorem lexB_at {r : Int → Int → Bool} {z : Nat → Nat → Bool} (hz : ∀ i j, z (i + 1) (j + 1) = z i j) (ns ms : List Int) : ∀ (k i : Nat), i + k = min ns.length ms.length →
    Ob.lexAt (fun j => decide (ns.getD j 0 = ms.getD j 0)) (fun j => r (ns.getD j 0) (ms.getD j 0)) (z ns.length ms.length) i k = lexB r z (ns.drop i) (ms.drop i) := by
  have hzz : ∀ i n m, i ≤ n → i ≤ m → z (n - i) (m - i) = z n m := by
    intro i
    induction i with
    | zero => intro n m _ _; rfl
    | succ i ih =>
      intro n m h1 h2
      obtain ⟨n, rfl⟩ : ∃ n', n = n' + 1 := ⟨n - 1, by omega⟩
      obtain ⟨m, rfl⟩ : ∃ m', m = m' + 1 := ⟨m - 1, by omega⟩
      rw [Nat.add_sub_add_right, Nat.add_sub_add_right, ih n m (by omega) (by omega), hz]
  intro k
  induction k with
  | zero =>
    intro i h
    rw [Ob.lexAt_zero]
    have : lexB r z (ns.drop i) (ms.drop i) = z (ns.drop i).length (ms.drop i).length := by
      rcases Nat.le_total ns.length ms.length with g | g
      · rw [List.drop_eq_nil_of_le (show ns.length ≤ i by omega)]; unfold lexB; rfl
      · rw [List.drop_eq_nil_of_le (show ms.length ≤ i by omega)]
        cases ns.drop i <;> (unfold lexB; rfl)
    rw [this, List.length_drop, List.length_drop]
    exact (hzz i _ _ (by omega) (by omega)).symm
  | succ k ih =>
    intro i h
    rw [Ob.lexAt_succ, ih (i + 1) (by omega)]
    have h1 : i < ns.length := by omega
    have h2 : i < ms.length := by omega
    rw [List.drop_eq_getElem_cons h1, List.drop_eq_getElem_cons h2]
    have g1 : ns.getD i 0 = ns[i] := by simp [h1]
    have g2 : ms.getD i 0 = ms[i] := by simp [h2]
    rw [g1, g2, lexB_cons]
    by_cases he : ns[i] = ms[i]
    · simp [he]
    · simp [he]
def dCmpT (r : Int → Int → Bool) (z : Nat → Nat → Bool) : PyData → PyData → Option W
  | .tuple xs, .tuple ys => (intsOf xs).bind fun ns => (intsOf ys).map fun ms => .d (.bool (lexB r z ns ms))
  | _, _ => none
theorem cmpT {op : CmpOp} {r : Int → Int → Bool} {z : Nat → Nat → Bool} (hz : ∀ i j, z (i + 1) (j + 1) = z i j) (hc : ∀ a b, compareOp op a b = richCompare op a b)
    (hi : ∀ (A : Around) (s : Shared) (i j : Int) (t u : Tok), Ob.RcOp op A s (.int i t) (.int j u) (r i j))
    (ht : ∀ {A : Around} {s : Shared} {l b : Addr} {items items2 : Array Value} {e r : Nat → Bool}, s.heap.IsTuple l items → s.heap.IsTuple b items2 → A.units < cLine →
      (∀ j (h1 : j < items.size) (h2 : j < items2.size), SeqAt.EqAt A.in1 s items[j] items2[j] (e j)) → (∀ j (h1 : j < items.size) (h2 : j < items2.size), e j = false → Ob.RcOp op A.in1 s items[j] items2[j] (r j)) →
      Ob.RcOp op A s (.ref l) (.ref b) (Ob.lexAt e r (z items.size items2.size) 0 (min items.size items2.size)))
    (hu : X.A.units < cLine) : OpV X (compareOp op) (dCmpT r z) := by
  refine ⟨fun x y H Q => ∃ (a b : Addr) (ns ms : List Int), x = .ref a ∧ y = .ref b ∧ SqT X.K H a (ns.map V.int) ∧ SqT X.K H b (ms.map V.int) ∧ Q (.bl (lexB r z ns ms)) H, ?_, ?_⟩
  · rintro pins s σ H x y v u Q I rx ry ⟨a, b, ns, ms, rfl, rfl, ha, hb, q⟩
    have hv : v = .ref a := rx
    have hw : u = .ref b := ry
    subst hv hw
    obtain ⟨its, r1, p1, _⟩ := I.tuple ha
    obtain ⟨its2, r2, p2, _⟩ := I.tuple hb
    have i1 : IntsAre its ns := Vals.ints r1
    have i2 : IntsAre its2 ms := Vals.ints r2
    have e1 : its.toArray.size = ns.length := by rw [List.size_toArray]; exact i1.length
    have e2 : its2.toArray.size = ms.length := by rw [List.size_toArray]; exact i2.length
    have at1 : ∀ j (h1 : j < its.toArray.size), ∃ t, its.toArray[j] = .int (ns.getD j 0) t := fun j h1 => IntsAre.int_at i1 _ _ (by simp at h1; simp [h1])
    have at2 : ∀ j (h1 : j < its2.toArray.size), ∃ t, its2.toArray[j] = .int (ms.getD j 0) t := fun j h1 => IntsAre.int_at i2 _ _ (by simp at h1; simp [h1])
    have R := ht (A := X.A) (s := s) (e := fun j => decide (ns.getD j 0 = ms.getD j 0)) (r := fun j => r (ns.getD j 0) (ms.getD j 0)) p1 p2 hu (fun j h1 h2 => by
      obtain ⟨t, et⟩ := at1 j h1
      obtain ⟨t', et'⟩ := at2 j h2
      have hb : decide (ns.getD j 0 = ms.getD j 0) = (ns.getD j 0 == ms.getD j 0) := by
        by_cases g : ns.getD j 0 = ms.getD j 0
        · rw [decide_eq_true g, g]; simp
        · rw [decide_eq_false g]; exact (beq_eq_false_iff_ne.mpr g).symm
      rw [et, et']
      show SeqAt.EqAt _ _ _ _ (decide (ns.getD j 0 = ms.getD j 0))
      rw [hb]
      exact SeqAt.EqAt.int_int _ _ _ _) (fun j h1 h2 _ => by
      obtain ⟨t, et⟩ := at1 j h1
      obtain ⟨t', et'⟩ := at2 j h2
      rw [et, et']
      exact hi _ _ _ _ _ _)
    rw [e1, e2, lexB_at hz ns ms _ 0 (by omega), List.drop_zero, List.drop_zero] at R
    rw [hc]
    exact R _ _ _ _ ⟨.bl _, H, I, rfl, q⟩
  · intro A T x y dx dy w H Q tr rx ry e q
    cases dx with
    | tuple xs =>
      cases dy with
      | tuple ys =>
        simp only [dCmpT] at e
        obtain ⟨ns, h1, e⟩ := Option.bind_eq_some_iff.mp e
        obtain ⟨ms, h2, e⟩ := Option.map_eq_some_iff.mp e
        subst e
        obtain ⟨a, vs, rfl, k1, k2, _⟩ := rx.tup
        obtain ⟨b, us, rfl, j1, j2, _⟩ := ry.tup
        rw [intsOf_ok h1] at k2
        rw [intsOf_ok h2] at j2
        rw [k2.ints] at k1
        rw [j2.ints] at j1
        exact ⟨a, b, ns, ms, rfl, rfl, k1, j1, q _ _ Grow.refl (.bl _)⟩
      | _ => cases e
    | _ => cases e
def rLt (i j : Int) : Bool := decide (i < j)
def rLe (i j : Int) : Bool := decide (i ≤ j)
def rGt (i j : Int) : Bool := decide (j < i)
def rGe (i j : Int) : Bool := decide (j ≤ i)
def zLt (i j : Nat) : Bool := decide (i < j)
def zLe (i j : Nat) : Bool := decide (i ≤ j)
def zGt (i j : Nat) : Bool := decide (j < i)
def zGe (i j : Nat) : Bool := decide (j ≤ i)
/-- <, <=, >, >= of ints, of tuples of ints -/
def dCmp (r : Int → Int → Bool) (z : Nat → Nat → Bool) : PyData → PyData → Option W
  | .int i, .int j => some (.d (.bool (r i j)))
  | .tuple xs, .tuple ys => (intsOf xs).bind fun ns => (intsOf ys).map fun ms => .d (.bool (lexB r z ns ms))
  | _, _ => none
def dCmpI (r : Int → Int → Bool) : PyData → PyData → Option W
  | .int i, .int j => some (.d (.bool (r i j)))
  | _, _ => none
theorem opv_B {f : Value → Value → Sem Value} {r : Int → Int → Bool} (h : OpR X f (rI0 fun i j => .bl (r i j))) : OpV X f (dCmpI r) := ⟨_, h, fun A T x y dx dy w H Q tr rx ry e q => by
  cases dx with
  | int i =>
    cases dy with
    | int j =>
      cases e
      exact ⟨i, j, rx.int, ry.int, q _ _ Grow.refl (.bl _)⟩
    | _ => cases e
  | _ => cases e⟩
theorem dCmp_eq {r : Int → Int → Bool} {z : Nat → Nat → Bool} (x y : PyData) : dCmp r z x y = (dCmpI r x y).or (dCmpT r z x y) := by
  cases x <;> cases y <;> simp [dCmp, dCmpI, dCmpT]
theorem ov_lt (hu : X.A.units < cLine) : OpV X (compareOp .Lt) (dCmp rLt zLt) := ((opv_B (r := rLt) op_lt).or (cmpT (fun i j => by simp [zLt]) (fun _ _ => rfl) (fun _ _ _ _ _ _ => Ob.RcOp.lt_int _ _ _ _) (fun h1 h2 h3 h4 h5 => Ob.RcOp.tuples_lt h1 h2 h3 h4 h5) hu)).cast dCmp_eq
theorem ov_gt (hu : X.A.units < cLine) : OpV X (compareOp .Gt) (dCmp rGt zGt) := ((opv_B (r := rGt) op_gt).or (cmpT (fun i j => by simp [zGt]) (fun _ _ => rfl) (fun _ _ _ _ _ _ => Ob.RcOp.gt_int _ _ _ _) (fun h1 h2 h3 h4 h5 => Ob.RcOp.tuples_gt h1 h2 h3 h4 h5) hu)).cast dCmp_eq
end
end L2.Lv
namespace L2.Lv
open PySem PySem.Spec PyProof.Rows
section
variable {X : Cx} {e a b c : Expr} {es rest : List Expr} {f fa fb : Fe} {d da db dc : Fd} {fs : Fa} {ds : Fds} {pos : Pos}
/-! in, not in -/
def seqOf : PyData → Option (List PyData)
  | .list xs => some xs
  | .tuple xs => some xs
  | _ => none
def memD (x : PyData) (xs : List PyData) : Bool := xs.any fun y => PyData.eqv y x
def dIn (x y : PyData) : Option W := (seqOf y).bind fun xs => if shp x && shp y then some (.d (.bool (memD x xs))) else none
def dNotIn (x y : PyData) : Option W := (seqOf y).bind fun xs => if shp x && shp y then some (.d (.bool (!memD x xs))) else none
theorem room_shp {A : Around} {xs : List PyData} {d : PyData} (hd : SeqAt.shaped d = true) (hu : A.units + 65 < cLine) : A.units + 1 + min (PyData.depthAll xs) d.depth < cLine := by
  have h1 := SeqAt.depth_of_shaped hd
  have h2 : min (PyData.depthAll xs) d.depth ≤ d.depth := Nat.min_le_right _ _
  omega
theorem ov_inG {op : CmpOp} {neg : Bool} (hu : X.A.units + 65 < cLine)
    (rl : ∀ {s : Shared} {c x : Value} {xs : List PyData} {d : PyData} {as bs : List Addr} {Q : Value → Shared → Prop} {E : Value → Shared → Prop}, Reads s.heap c (.list xs) as → Reads s.heap x d bs → PyData.canLayAll0 xs = true → d.canLay0 = true →
      X.A.units + 1 + min (PyData.depthAll xs) d.depth < cLine → Q (.bool (xor neg (memD d xs))) s → wpAny (model X.prog X.w) X.A (compareOp op x c) Q E s)
    (rt : ∀ {s : Shared} {c x : Value} {xs : List PyData} {d : PyData} {as bs : List Addr} {Q : Value → Shared → Prop} {E : Value → Shared → Prop}, Reads s.heap c (.tuple xs) as → Reads s.heap x d bs → PyData.canLayAll0 xs = true → d.canLay0 = true →
      X.A.units + 1 + min (PyData.depthAll xs) d.depth < cLine → Q (.bool (xor neg (memD d xs))) s → wpAny (model X.prog X.w) X.A (compareOp op x c) Q E s) :
    OpV X (compareOp op) (fun x y => (seqOf y).bind fun xs => if shp x && shp y then some (.d (.bool (xor neg (memD x xs)))) else none) := by
  refine ⟨fun x y H Q => ∃ d y', Dp X.K H x d ∧ Dp X.K H y y' ∧ shp d = true ∧ shp y' = true ∧ ∃ xs, seqOf y' = some xs ∧ Q (.bl (xor neg (memD d xs))) H, ?_, ?_⟩
  · rintro pins s σ H x y v u Q I rx ry ⟨d, y', hd, hy, sd, sy, xs, hs, q⟩
    obtain ⟨as, r1⟩ := Dp.reads I d x v hd rx
    obtain ⟨bs, r2⟩ := Dp.reads I y' y u hy ry
    cases y' with
    | list ys => cases hs; exact rl r2 r1 (SeqAt.canLay_of_shaped sy) (SeqAt.canLay_of_shaped sd) (room_shp sd hu) ⟨.bl _, H, I, rfl, q⟩
    | tuple ys => cases hs; exact rt r2 r1 (SeqAt.canLay_of_shaped sy) (SeqAt.canLay_of_shaped sd) (room_shp sd hu) ⟨.bl _, H, I, rfl, q⟩
    | _ => cases hs
  · intro A T x y dx dy w H Q tr rx ry e q
    obtain ⟨xs, h1, e⟩ := Option.bind_eq_some_iff.mp e
    split at e
    · rename_i hs
      rw [Bool.and_eq_true] at hs
      cases e
      exact ⟨dx, dy, rx.dp hs.1, ry.dp hs.2, hs.1, hs.2, xs, h1, q _ _ Grow.refl (.bl _)⟩
    · cases e
theorem ov_in (hu : X.A.units + 65 < cLine) : OpV X (compareOp .In) dIn := (ov_inG (neg := false) hu (fun h1 h2 h3 h4 h5 h6 => SeqAt.in_list_reads h1 h2 h3 h4 h5 (by simpa [memD] using h6)) (fun h1 h2 h3 h4 h5 h6 => SeqAt.in_tuple_reads h1 h2 h3 h4 h5 (by simpa [memD] using h6))).cast fun x y => by simp [dIn]
theorem ov_notIn (hu : X.A.units + 65 < cLine) : OpV X (compareOp .NotIn) dNotIn := (ov_inG (neg := true) hu (fun h1 h2 h3 h4 h5 h6 => SeqAt.notIn_list_reads h1 h2 h3 h4 h5 (by simpa [memD] using h6)) (fun h1 h2 h3 h4 h5 h6 => SeqAt.notIn_tuple_reads h1 h2 h3 h4 h5 (by simpa [memD] using h6))).cast fun x y => by simp [dNotIn]
/-! -x -/
def dNeg : PyData → Option W
  | .int i => some (.d (.int (-i)))
  | _ => none
def eUn (g : PyData → Option W) (d : Fd) : Fe := fun ρ n => (d ρ n).bind fun p => (g p.1).map (·, p.2)
theorem ev_neg (ha : EvB X a d) : EvE X (.UnaryOp .USub a pos) (eUn dNeg d) := peI (pe_un un_neg ha) (by
  rintro σ H Q ⟨C, O, ρ, n, w, n', hf, E, q⟩
  unfold eUn at hf
  obtain ⟨⟨x, n1⟩, e1, hf⟩ := Option.bind_eq_some_iff.mp hf
  obtain ⟨z, e2, hf⟩ := Option.map_eq_some_iff.mp hf
  cases hf
  refine ⟨C, O, ρ, n, x, _, e1, E, fun v H1 s t r => ?_⟩
  cases x with
  | int i =>
    cases e2
    exact ⟨i, r.int, q _ H1 s t (.int _)⟩
  | _ => cases e2)
/-- not x as a value -/
def eNotD (d : Fd) : Fe := fun ρ n => (d ρ n).bind fun p => (dTru p.1).map fun c => (.d (.bool (!c)), p.2)
theorem ev_notD (ha : EvB X a d) : EvE X (.UnaryOp .Not a pos) (eNotD d) := peI (pe_notT ha) (by
  rintro σ H Q ⟨C, O, ρ, n, w, n', hf, E, q⟩
  unfold eNotD at hf
  obtain ⟨⟨x, n1⟩, e1, hf⟩ := Option.bind_eq_some_iff.mp hf
  obtain ⟨z, e2, hf⟩ := Option.map_eq_some_iff.mp hf
  cases hf
  exact ⟨C, O, ρ, n, x, _, e1, E, fun v H1 s t r => ⟨z, dTru_ok r e2, q _ H1 s t (.bl _)⟩⟩)
/-- x or y by truth -/
def eOrD (fa fb : Fe) : Fe := fun ρ n => (fa ρ n).bind fun p => p.1.val.bind fun x => (dTru x).bind fun c => if c then some (.d x, p.2) else fb ρ p.2
/-! a op b op' c -/
def eChain (g g' : PyData → PyData → Option W) (da db dc : Fd) : Fe := fun ρ n => (da ρ n).bind fun p => (db ρ p.2).bind fun q => (g p.1 q.1).bind fun w => match w with
  | .d (.bool true) => (dc ρ q.2).bind fun r => (g' q.1 r.1).map (·, r.2)
  | .d (.bool false) => some (.d (.bool false), q.2)
  | _ => none
/-! built-ins -/
theorem DvBs.one {A : Addr → Prop} {T : Option Addr} {K : PySem.W.Frag} {H : Hp} {vs : List V} {x : PyData} (h : DvBs A T K H vs [x]) : ∃ v, vs = [v] ∧ DvB A T K H v x := by
  cases h with
  | cons h t => cases t; exact ⟨_, rfl, h⟩
theorem DvBs.two {A : Addr → Prop} {T : Option Addr} {K : PySem.W.Frag} {H : Hp} {vs : List V} {x y : PyData} (h : DvBs A T K H vs [x, y]) : ∃ v u, vs = [v, u] ∧ DvB A T K H v x ∧ DvB A T K H u y := by
  cases h with
  | cons h t =>
    cases t with
    | cons h' t => cases t; exact ⟨_, _, rfl, h, h'⟩
def gLen : List PyData → Option W
  | [.list xs] => some (.d (.int xs.length))
  | [.tuple xs] => some (.d (.int xs.length))
  | _ => none
theorem cv_len : CallV X (.builtin "len") gLen := ⟨_, call_len_seq, fun A T vs xs w H Q tr rx e q => by
  unfold gLen at e
  split at e
  · cases e
    obtain ⟨v, rfl, r⟩ := rx.one
    obtain ⟨a, us, rfl, h1, h2⟩ := r.lst
    exact ⟨a, us, rfl, .inl h1, by rw [h2.length]; exact q _ _ Grow.refl (.int _)⟩
  · cases e
    obtain ⟨v, rfl, r⟩ := rx.one
    obtain ⟨a, us, rfl, h1, h2, _⟩ := r.tup
    exact ⟨a, us, rfl, .inr h1, by rw [h2.length]; exact q _ _ Grow.refl (.int _)⟩
  · cases e⟩
def gAbs : List PyData → Option W
  | [.int i] => some (.d (.int (if i < 0 then -i else i)))
  | _ => none
def gMax2 : List PyData → Option W
  | [.int i, .int j] => some (.d (.int (if j > i then j else i)))
  | _ => none
theorem cv_max2 (hc : X.calm = true) : CallV X (.builtin "max") gMax2 := ⟨_, call_max2 hc, fun A T vs xs w H Q tr rx e q => by
  unfold gMax2 at e
  split at e
  · cases e
    obtain ⟨v, u, rfl, r, r'⟩ := rx.two
    exact ⟨_, _, by rw [r.int, r'.int], q _ _ Grow.refl (.int _)⟩
  · cases e⟩
def gMin2 : List PyData → Option W
  | [.int i, .int j] => some (.d (.int (if j < i then j else i)))
  | _ => none
theorem cv_min2 (hc : X.calm = true) : CallV X (.builtin "min") gMin2 := ⟨_, call_min2 hc, fun A T vs xs w H Q tr rx e q => by
  unfold gMin2 at e
  split at e
  · cases e
    obtain ⟨v, u, rfl, r, r'⟩ := rx.two
    exact ⟨_, _, by rw [r.int, r'.int], q _ _ Grow.refl (.int _)⟩
  · cases e⟩
def gInt : List PyData → Option W
  | [.int i] => some (.d (.int i))
  | [.bool b] => some (.d (.int (if b then 1 else 0)))
  | _ => none
def gTup : List PyData → Option W
  | [.list xs] => some (.d (.tuple xs))
  | [.tuple xs] => some (.d (.tuple xs))
  | _ => none
theorem cv_tup : CallV X (.type "tuple") gTup := ⟨_, call_tupF, fun A T vs xs w H Q tr rx e q => by
  unfold gTup at e
  split at e
  · cases e
    obtain ⟨v, rfl, r⟩ := rx.one
    obtain ⟨a, us, rfl, h1, h2⟩ := r.lst
    exact ⟨a, us, rfl, .inl ⟨h1, fun p o ho hp => q _ _ (Grow.upd hp) (new_tup hp tr ho h2)⟩⟩
  · cases e
    obtain ⟨v, rfl, r⟩ := rx.one
    obtain ⟨a, us, rfl, h1, h2, h3⟩ := r.tup
    exact ⟨a, us, rfl, .inr ⟨h1, q _ _ Grow.refl h3⟩⟩
  · cases e⟩
def gList : List PyData → Option W
  | [.list xs] => some (.ol xs)
  | [.tuple xs] => some (.ol xs)
  | _ => none
theorem cv_list : CallV X (.type "list") gList := ⟨_, call_list_of, fun A T vs xs w H Q tr rx e q => by
  unfold gList at e
  split at e
  · cases e
    obtain ⟨v, rfl, r⟩ := rx.one
    obtain ⟨a, us, rfl, h1, h2⟩ := r.lst
    exact ⟨a, us, rfl, .inl h1, fun p hp => q _ _ (Grow.upd hp) (new_lst hp h2)⟩
  · cases e
    obtain ⟨v, rfl, r⟩ := rx.one
    obtain ⟨a, us, rfl, h1, h2, h3⟩ := r.tup
    exact ⟨a, us, rfl, .inr h1, fun p hp => q _ _ (Grow.upd hp) (new_lst hp h2)⟩
  · cases e⟩
def boolsOf : List PyData → Option (List Bool)
  | [] => some []
  | .bool i :: xs => (boolsOf xs).map (i :: ·)
  | _ :: _ => none
theorem boolsOf_ok : ∀ {xs : List PyData} {ns : List Bool}, boolsOf xs = some ns → xs = ns.map .bool
  | [], _, h => by cases h; rfl
  | x :: xs, ns, h => by
    cases x with
    | bool i =>
      obtain ⟨ms, h1, h2⟩ := Option.map_eq_some_iff.mp (show (boolsOf xs).map (i :: ·) = some ns from h)
      subst h2
      rw [boolsOf_ok h1]
      rfl
    | _ => cases h
@[simp] theorem boolsOf_map : ∀ (ns : List Bool), boolsOf (ns.map .bool) = some ns
  | [] => rfl
  | n :: ns => by show (boolsOf (ns.map .bool)).map (n :: ·) = _; rw [boolsOf_map ns]; rfl
theorem DvAll.bools {A : Addr → Prop} {K : PySem.W.Frag} {H : Hp} : ∀ {ns : List Bool} {vs : List V}, DvAll A K H vs (ns.map .bool) → vs = ns.map V.bl
  | [], _, h => by cases h; rfl
  | n :: ns, _, h => by
    cases h with
    | cons h1 h2 => cases h1; rw [DvAll.bools h2]; rfl
def gAll : List PyData → Option W
  | [.list xs] => (boolsOf xs).map fun bs => .d (.bool (bs.all id))
  | _ => none
theorem cv_all (hc : X.calm = true) : CallV X (.builtin "all") gAll := ⟨_, cr_all hc, fun A T vs xs w H Q tr rx e q => by
  unfold gAll at e
  split at e
  · rename_i ys
    obtain ⟨bs, h, e⟩ := Option.map_eq_some_iff.mp e
    subst e
    obtain ⟨v, rfl, r⟩ := rx.one
    obtain ⟨a, us, rfl, h1, h2⟩ := r.lst
    rw [boolsOf_ok h] at h2
    rw [h2.bools] at h1
    exact ⟨a, bs, rfl, h1, q _ _ Grow.refl (.bl _)⟩
  · cases e⟩
def gAny : List PyData → Option W
  | [.list xs] => (boolsOf xs).map fun bs => .d (.bool (bs.any id))
  | _ => none
theorem cv_any (hc : X.calm = true) : CallV X (.builtin "any") gAny := ⟨_, cr_any hc, fun A T vs xs w H Q tr rx e q => by
  unfold gAny at e
  split at e
  · rename_i ys
    obtain ⟨bs, h, e⟩ := Option.map_eq_some_iff.mp e
    subst e
    obtain ⟨v, rfl, r⟩ := rx.one
    obtain ⟨a, us, rfl, h1, h2⟩ := r.lst
    rw [boolsOf_ok h] at h2
    rw [h2.bools] at h1
    exact ⟨a, bs, rfl, h1, q _ _ Grow.refl (.bl _)⟩
  · cases e⟩
def gSum : List PyData → Option W
  | [.list xs] => (intsOf xs).map fun bs => .d (.int bs.sum)
  | _ => none
/-! list(range(..)) -/
def eListRg1 (d : Fd) : Fe := fun ρ n => (d ρ n).bind fun p => match p.1 with
  | .int j => if 0 ≤ j ∧ j ≤ big then some (.ol (rangeD 0 j.toNat), p.2) else none
  | _ => none
theorem DvAll.rg {A : Addr → Prop} {K : PySem.W.Frag} {H : Hp} {a b : Int} : DvAll A K H (rgV a b) (rangeD a (b - a).toNat) := by
  unfold rgV rangeD
  generalize List.range (b - a).toNat = l
  induction l with
  | nil => exact .nil
  | cons x xs ih => exact .cons (.int _) ih
theorem ev_listRg1 {p p2 p3 : Pos} (hc : X.calm = true) (hg : Gl X "list") (hm : X.mg "list" = none) (hg2 : Gl X "range") (hm2 : X.mg "range" = none) (ha : EvB X a d) (na : starEach [a] X.env = (false, eval a X.env) :: starEach [] X.env := by rfl)
    (nb : starEach [Expr.Call (.Name "range" p2) [a] [] p3] X.env = (false, eval (.Call (.Name "range" p2) [a] [] p3) X.env) :: starEach [] X.env := by rfl) :
    EvE X (.Call (.Name "list" p) [.Call (.Name "range" p2) [a] [] p3] [] pos) (eListRg1 d) := peI (pe_listRg hc hg hm (prg_1 hg2 hm2 ha na) nb) (by
  rintro σ H Q ⟨C, O, ρ, n, w, n', hf, E, q⟩
  unfold eListRg1 at hf
  obtain ⟨⟨x, n1⟩, e1, hf⟩ := Option.bind_eq_some_iff.mp hf
  refine ⟨C, O, ρ, n, x, n1, e1, E, fun v H1 s t r => ?_⟩
  cases x with
  | int j =>
    simp only at hf
    split at hf
    · rename_i hj
      cases hf
      unfold big at hj
      refine ⟨j, r.int, ⟨by omega, by omega, by omega, by omega, by omega⟩, fun p hp => ?_⟩
      have := DvAll.rg (A := Av C O) (K := X.K) (H := H1) (a := 0) (b := j)
      rw [Int.sub_zero] at this
      exact q _ _ (s.trans (Grow.upd hp).step) ((Grow.upd hp).town t) ((new_lst hp this).back s.fr)
    · cases hf
  | _ => cases hf)
/-! isinstance -/
def tyN : PyData → String
  | .none => "NoneType"
  | .bool _ => "bool"
  | .int _ => "int"
  | .str _ => "str"
  | .list _ => "list"
  | .tuple _ => "tuple"
  | .dict _ => "dict"
/-- whether a thing is of one of the five types asked here -/
def isa (T : String) (x : PyData) : Bool := T == tyN x || (T == "int" && tyN x == "bool")
def eIsa (T : String) (d : Fd) : Fe := fun ρ n => (d ρ n).bind fun p => match p.1 with
  | .dict _ => none
  | x => some (.d (.bool (isa T x)), p.2)
end
end L2.Lv
namespace L2.Lv
open PySem PySem.Spec PyProof.Rows
/-! sorted of a list or a tuple, at the library's level -/
section
variable {prog : Program} {w : World} {A : Around} {E : Value → Shared → Prop} {s : Shared}
theorem collect_tup {l : Addr} {vs : List Value} {Q : List Value → Shared → Prop} (ht : IsTup s.heap l vs.toArray) (hz : vs.length ≤ sizeLine)
    (h : Q vs { s with heap := (s.heap.push (seqObj "list" #[] 0)).update s.heap.objs.size (Obj.mapSeq (· ++ vs.toArray)) }) : wpAny (model prog w) A (collect (.ref l)) Q E s := by
  obtain ⟨o, ho, hcl, n, hd⟩ := id ht
  have ho' : (s.heap.push (seqObj "list" #[] 0)).get? l = some o := Heap.get?_push_of_some _ ho
  have hnew : (s.heap.push (seqObj "list" #[] 0)).get? s.heap.objs.size = some (seqObj "list" #[] 0) := Heap.get?_push_size _ rfl
  unfold collect
  refine wpAny_bind (wpAny_runValue (codeAny_builtin entry_proto_collect' ?_))
  show wpAny _ _ (do again (.builtin "list.__iadd__" ⟨[← newList [], .ref l], []⟩)) _ _ s
  refine wpAny_bind (wpAny_newList (wpAny_pure ⟨Code.quiet_builtin _ (by decide +kernel), codeAny_builtin entry_list_iadd' ?_⟩))
  show wpAny _ _ (Builtin.List.listExtendWith (.ref s.heap.objs.size) (.ref l) (.ref s.heap.objs.size)) _ _ { s with heap := s.heap.push (seqObj "list" #[] 0) }
  unfold Builtin.List.listExtendWith
  refine wpAny_bind (wpAny_typeOf (T := "tuple") ⟨o, ho', hcl⟩ ?_)
  rw [if_pos (by rw [show (Value.type "tuple" == Value.type "tuple") = true from rfl, Bool.or_true])]
  refine wpAny_bind (listItems_at ho' hd (wpAny_bind (listItems_at (xs := #[]) (n := 0) hnew rfl ?_)))
  rw [if_neg (by simp)]
  refine wpAny_bind (listUpdate_at (xs := #[]) (n := 0) hnew rfl ?_ (Nat.zero_le _) (by show (#[] ++ vs.toArray).size ≤ sizeLine + 1; simp only [Array.size_append, List.size_toArray, List.length_nil]; omega))
  refine wpAny_pure ?_
  show wpAny (model prog w) A (do
      let x ← load s.heap.objs.size
      match x.data with
      | .seq ys _ => pure ys.toList
      | _ => unsupported "internal:collect") Q E _
  refine wpAny_bind (wpAny_load (get?_update_seq hnew _) ?_)
  show wpAny _ _ (pure ((#[] : Array Value) ++ vs.toArray).toList) Q E _
  rw [show ((#[] : Array Value) ++ vs.toArray).toList = vs by simp]
  exact wpAny_pure h
open PySem.W in
theorem sorted_tup {l : Addr} {vs : List Value} {κ : PyProof.Rows.KeyKind} {Q : Value → Shared → Prop} (ht : IsTup s.heap l vs.toArray) (hz : vs.length ≤ sizeLine)
    (S : SortsAt prog w A.in1.in1 { s with heap := sortingHeap (copyHeap s.heap vs) (s.heap.objs.size + 1) vs } κ vs)
    (h : Q (.ref (s.heap.objs.size + 1)) { s with heap := sortedAll s.heap vs (sortVals κ false vs vs).toArray }) : wpAny (model prog w) A (call (.builtin "sorted") [.ref l]) Q E s := by
  refine call_function_entry_kw kind_sorted plain_sorted entry_sorted (args_sorted1 _) ?_
  unfold Builtin.«sorted»
  refine wpAny_bind (m := checkCount "sorted" 1 1 _) (wpAny_pure (wpAny_bind (collect_tup ht hz (wpAny_bind (wpAny_newList ?_ hz)))))
  have hsz : ((s.heap.push (seqObj "list" #[] 0)).update s.heap.objs.size (Obj.mapSeq (· ++ vs.toArray))).objs.size = s.heap.objs.size + 1 := by
    rw [Heap.size_update, size_push']
  show wpAny _ _ _ _ _ { s with heap := copyHeap s.heap vs }
  rw [hsz]
  refine wpAny_bind (wpAny_holding (wpAny_call_entry_kw slot_list_sort ⟨_, copyHeap_at s.heap vs, rfl⟩ entry_list_sort ?body (args_list_sort _)))
  case body =>
    show wpAny (model prog w) A.in1.in1 (Builtin.«list.sort» ⟨[.ref (s.heap.objs.size + 1)], []⟩) _ _ _
    exact list_sort_vals (s := { s with heap := copyHeap s.heap vs }) (copyHeap_at s.heap vs) S hz ⟨_, rfl, wpAny_pure ⟨_, rfl, h⟩⟩
end
section
open PySem.W
/-- what sorted can put in order here -/
def srtOk (xs : List PyData) : Bool := (xs.all fun x => xs.all fun y => alike x y) && ((xs.all fun x => match x with | .tuple (_ :: _) => true | _ => false) || (xs.all fun x => match x with | .none => false | .tuple _ => false | _ => true)) && xs.all fun x => decide (x.depth ≤ 64)
def srt (xs : List PyData) : List PyData := xs.mergeSort (dataLe false fun x => x)
def gSorted : List PyData → Option W
  | [x] => (seqOf x).bind fun xs => if srtOk xs then some (.ol (srt xs)) else none
  | _ => none
theorem srtOk_alike {xs : List PyData} (h : srtOk xs = true) : AllAlike (xs.map fun x => x) := by
  unfold srtOk at h
  simp only [Bool.and_eq_true, List.all_eq_true] at h
  intro d hd d' hd'
  rw [List.map_id'] at hd hd'
  exact h.1.1 d hd d' hd'
theorem srtOk_sortable {xs : List PyData} (h : srtOk xs = true) : Sortable (xs.map fun x => x) := by
  unfold srtOk at h
  simp only [Bool.and_eq_true, Bool.or_eq_true, List.all_eq_true] at h
  rcases h.1.2 with h | h
  · refine .inl fun d hd => ?_
    rw [List.map_id'] at hd
    have := h d hd
    split at this
    · exact ⟨_, _, rfl⟩
    · cases this
  · refine .inr fun d hd => ?_
    rw [List.map_id'] at hd
    have := h d hd
    refine ⟨fun e => ?_, fun ys e => ?_⟩ <;> (subst e; cases this)
theorem srtOk_depth {xs : List PyData} (h : srtOk xs = true) : ∀ d ∈ xs, d.depth ≤ 64 := by
  unfold srtOk at h
  simp only [Bool.and_eq_true, List.all_eq_true] at h
  intro d hd
  exact of_decide_eq_true (h.2 d hd)
variable {X : Cx}
def RvD (A : Addr → Prop) (K : PySem.W.Frag) (H : Hp) (u : Value) (d : PyData) : Prop := ∃ v, RelV v u ∧ Dv A K H v d
theorem each_of {A : Addr → Prop} {K : PySem.W.Frag} {H : Hp} : ∀ {ds : List PyData} {vs : List V} {us : List Value}, DvAll A K H vs ds → Vals vs us → EachIs (RvD A K H) us ds
  | [], _, _, h, r => by cases h; cases r; exact .nil
  | d :: ds, _, _, h, r => by
    cases h with
    | cons h1 h2 =>
      cases r with
      | cons r1 r2 => exact .cons ⟨_, r1, h1⟩ (each_of h2 r2)
theorem of_each {A : Addr → Prop} {K : PySem.W.Frag} {H : Hp} : ∀ {ds : List PyData} {us : List Value}, EachIs (RvD A K H) us ds → ∃ vs, DvAll A K H vs ds ∧ Vals vs us
  | [], _, h => by cases h; exact ⟨[], .nil, .nil⟩
  | d :: ds, _, h => by
    cases h with
    | cons h1 h2 =>
      obtain ⟨v, r1, q1⟩ := h1
      obtain ⟨vs, q2, r2⟩ := of_each h2
      exact ⟨v :: vs, .cons q1 q2, .cons r1 r2⟩
theorem eachIs_len {α β : Type} {R : α → β → Prop} : ∀ {as : List α} {bs : List β}, EachIs R as bs → as.length = bs.length
  | _, _, .nil => rfl
  | _, _, .cons _ t => congrArg (· + 1) (eachIs_len t)
def rSortedV (K : PySem.W.Frag) : List V → Hp → VK → Prop := fun vs H Q => ∃ (A : Addr → Prop) (a : Addr) (us : List V) (xs : List PyData), vs = [V.ref a] ∧ (SqL K H a us ∨ SqT K H a us) ∧ DvAll A K H us xs ∧ srtOk xs = true ∧
  ∀ p us', H p = none → DvAll A K H us' (srt xs) → Q (.ref p) (upd H p (.lst us'))
theorem cr_sortedV (hu : X.A.units + 100 < cLine) : CallR X (.builtin "sorted") (rSortedV X.K) := by
  rintro pins s σ H vs us Q I r ⟨A, a, zs, xs, rfl, hs, hd, hok, q⟩
  rw [Vals.ref1 r]
  have fin : ∀ (its out : List Value), out.length = xs.length → xs.length ≤ sizeLine → EachIs (RvD A X.K H) out (srt xs) → EP X pins σ Q (.ref (s.heap.objs.size + 1)) { s with heap := sortedAll s.heap its out.toArray } := by
    intro its out h1 hz h2
    obtain ⟨us', k1, k2⟩ := of_each h2
    obtain ⟨ep, he'⟩ := PyProof.Rows.sortedAll_at s.heap its out.toArray
    exact ⟨.ref _, upd H (s.heap.objs.size + 1) (.lst us'), I.laid (t' := s.toks) (fun _ _ => PyProof.Rows.sortedAll_old) (Nat.le_succ _) ⟨by rw [k2.length, h1]; exact hz, out, ep, k2, he'⟩, rfl, q _ us' (I.hok.fresh (Nat.le_succ _)) k1⟩
  rcases hs with hs | hs
  · obtain ⟨its, rv, hl, hz⟩ := I.list hs
    have e1 := each_of hd rv
    obtain ⟨as, hr⟩ := Dp.readsAll I xs zs its hd.dp rv
    have hlen : xs.length ≤ sizeLine := by rw [← hd.length]; exact hz
    refine sorted_data (enc := fun x => x) hl.isList e1 (readsAll_each (fun x => x) (as := as) (by rw [List.map_id']; exact hr)) (srtOk_alike hok) (srtOk_sortable hok) hlen (fun b hb => ?_) fun out h1 h2 => fin its out h1 hlen h2
    have := srtOk_depth hok b hb
    omega
  · obtain ⟨its, rv, hl, hz⟩ := I.tuple hs
    have e1 := each_of hd rv
    obtain ⟨as, hr⟩ := Dp.readsAll I xs zs its hd.dp rv
    have hlen : xs.length ≤ sizeLine := by rw [← hd.length]; exact hz
    have er : EachIs (fun v b => ∃ as, Reads s.heap v ((fun x => x) b) as) its xs := readsAll_each (fun x => x) (as := as) (by rw [List.map_id']; exact hr)
    have er' : EachIs (fun v b => ∃ as, Reads (sortingHeap (copyHeap s.heap its) (s.heap.objs.size + 1) its) v ((fun x => x) b) as) its xs := er.mono fun _ _ ⟨as, r⟩ => ⟨as, PyProof.Rows.Reads.keeps (fun _ _ => sorting_copy_old) r⟩
    have hb : ∀ d, d ∈ xs.map (fun x => x) → X.A.in1.in1.units + d.depth < cLine := fun d hd => by
      rw [List.map_id'] at hd
      have := srtOk_depth hok d hd
      show X.A.units + 1 + 1 + _ < _
      omega
    refine sorted_tup hl (by rw [← rv.length]; exact hz) (SortsAt.data (s := { s with heap := sortingHeap (copyHeap s.heap its) (s.heap.objs.size + 1) its }) (each_map (R := fun v d => ∃ as, Reads (sortingHeap (copyHeap s.heap its) (s.heap.objs.size + 1) its) v d as) (fun x => x) er') (srtOk_alike hok) (srtOk_sortable hok) hb) ?_
    exact fin its _ (by rw [sortVals_length false rfl]; exact eachIs_len e1) hlen (sortVals_data false e1 er' (srtOk_alike hok))
theorem cv_sorted (hu : X.A.units + 100 < cLine) : CallV X (.builtin "sorted") gSorted := ⟨_, cr_sortedV hu, fun A T vs xs w H Q tr rx e q => by
  unfold gSorted at e
  split at e
  · rename_i x
    obtain ⟨ys, h1, e⟩ := Option.bind_eq_some_iff.mp e
    split at e
    · rename_i hok
      cases e
      obtain ⟨v, rfl, r⟩ := rx.one
      have key : ∀ a us, v = .ref a → (SqL X.K H a us ∨ SqT X.K H a us) → DvAll A X.K H us ys → rSortedV X.K [v] H Q := by
        rintro a us rfl hs hd
        exact ⟨A, a, us, ys, rfl, hs, hd, hok, fun p us' hp hd' => q _ _ (Grow.upd hp) (new_lst hp hd')⟩
      cases x with
      | list zs => cases h1; obtain ⟨a, us, h1, h2, h3⟩ := r.lst; exact key a us h1 (.inl h2) h3
      | tuple zs => cases h1; obtain ⟨a, us, h1, h2, h3, _⟩ := r.tup; exact key a us h1 (.inr h2) h3
      | _ => cases h1
    · cases e
  · cases e⟩
end
/-! methods of tuples -/
section
variable {X : Cx} {o e a b : Expr} {es : List Expr} {d da db : Fd} {ds : Fds} {name : Str} {apos cpos : Pos} {id : String}
def isTupV (K : PySem.W.Frag) (x : V) (H : Hp) : Prop := ∃ a xs, x = .ref a ∧ (TupAt H a xs ∨ KTup K a xs)
def tTM (K : PySem.W.Frag) (r : V → List V → Hp → VK → Prop) (to : TE) (t : L2.TA) : TE := fun σ H Q => to σ H fun x H1 => isTupV K x H1 ∧ t σ H1 fun xs H2 => r x xs H2 Q
theorem pe_tm {to : TE} {t : L2.TA} {r : V → List V → Hp → VK → Prop} (slot : Slot "tuple" name id) (hty : typeOf (.builtin id) = pure (.type "method_descriptor")) (hm : MtR X id r) (ho : PE X o to) (ha : PA X (e :: es) t)
    (hbase : attributeBase o name X.env (eval o X.env) = eval o X.env := by rfl)
    (hfew : ((backTo cpos (starEach (e :: es) X.env)).all (fun x => !x.1) && (backToKw cpos (keywordEach [] X.env)).all (fun x => x.1.isSome)
      && decide ((e :: es).length + ([] : List Keyword).length + (if ([] : List Keyword).isEmpty then 0 else 1) < 30)) = true := by rfl)
    (hline : (apos.endLine == cpos.line) = true := by rfl) (hs : starEach (e :: es) X.env = (false, eval e X.env) :: starEach es X.env := by rfl) (hplain : (backTo cpos (starEach es X.env)).any (·.1) = false := by rfl) :
    PE X (.Call (.Attribute o name apos) (e :: es) [] cpos) (tTM X.K r to t) := ⟨fun pins s σ H Q I h => by
  refine wpAny_Call_method_late hbase hfew hline rfl (thn (ho.run pins s σ H _ I h) fun v s1 ⟨x, H1, I1, r1, ⟨p, xs, hx, ty⟩, q1⟩ => ?_)
  subst hx
  have hv : v = .ref p := r1
  subst hv
  obtain ⟨ob, g1, g2, g3⟩ : ∃ ob, s1.heap.get? p = some ob ∧ ob.cls = .type "tuple" ∧ ob.dict = none := by
    rcases ty with ⟨ob, z, hd⟩ | ⟨z, ob, hk, hc, hd⟩
    · obtain ⟨z1, z2⟩ := I1.hok p _ z
      obtain ⟨_, _, _, ob', z3, z4, _⟩ := z2
      rw [z1] at z3
      cases z3
      exact ⟨ob, z1, z4, hd⟩
    · exact ⟨ob, I1.kIn p ob hk, hc, hd⟩
  refine ⟨"tuple", id, PySem.F.plainAttrs_tuple, slot, hty, ⟨ob, g1, g2⟩, fun c hc => ?_, ?_⟩
  · cases hc
    exact ⟨ob, g1, g3⟩
  · have hA := ha.run cpos pins s1 σ H1 _ I1 q1
    rw [hs] at hA ⊢
    refine Calls.callWith_builtin (by show (false || (backTo cpos (starEach es X.env)).any (·.1)) = false; rw [hplain] <;> rfl) (Calls.evalArgs_plain ?_)
    exact thn hA fun us s2 ⟨vs, H2, I2, r2, q2⟩ => hm pins s2 σ H2 (.ref p) vs (.ref p) us Q I2 rfl r2 q2⟩
theorem dv_isTup {A : Addr → Prop} {T : Option Addr} {K : PySem.W.Frag} {H : Hp} {v : V} {xs : List PyData} (h : DvB A T K H v (.tuple xs)) : isTupV K v H := by
  rcases h with h | ⟨a, vs, ds, _, h2, _⟩ | ⟨a, kvs, _, h2, _⟩
  · cases h with
    | tup hs ha => exact ⟨_, _, rfl, hs.imp (·.2) fun z => z⟩
  · cases h2
  · cases h2
/-- a method that looks: by values -/
def MtV (X : Cx) (id : String) (g : PyData → List PyData → Option W) : Prop := ∃ r, MtR X id r ∧
  ∀ (A : Addr → Prop) (T : Option Addr) (x : V) (vs : List V) (dx : PyData) (xs : List PyData) (w : W) (H : Hp) (Q : VK), (∀ a, A a → H a ≠ none) → DvB A T X.K H x dx → DvBs A T X.K H vs xs → g dx xs = some w →
    (∀ v H', Grow H H' → Res A none X.K H H' v w → Q v H') → r x vs H Q
def eMt (p : PyData → Bool) (g : PyData → List PyData → Option W) (d : Fd) (ds : Fds) : Fe := fun ρ n => (d ρ n).bind fun x => if p x.1 then (ds ρ x.2).bind fun q => (g x.1 q.1).map (·, q.2) else none
def isTupD : PyData → Bool
  | .tuple _ => true
  | _ => false
def isLstD : PyData → Bool
  | .list _ => true
  | _ => false
theorem ev_tm {g : PyData → List PyData → Option W} (slot : Slot "tuple" name id) (hty : typeOf (.builtin id) = pure (.type "method_descriptor")) (hm : MtV X id g) (ho : EvB X o d) (ha : EvD X (e :: es) ds)
    (hbase : attributeBase o name X.env (eval o X.env) = eval o X.env := by rfl)
    (hfew : ((backTo cpos (starEach (e :: es) X.env)).all (fun x => !x.1) && (backToKw cpos (keywordEach [] X.env)).all (fun x => x.1.isSome)
      && decide ((e :: es).length + ([] : List Keyword).length + (if ([] : List Keyword).isEmpty then 0 else 1) < 30)) = true := by rfl)
    (hline : (apos.endLine == cpos.line) = true := by rfl) (hs : starEach (e :: es) X.env = (false, eval e X.env) :: starEach es X.env := by rfl) (hplain : (backTo cpos (starEach es X.env)).any (·.1) = false := by rfl) :
    EvE X (.Call (.Attribute o name apos) (e :: es) [] cpos) (eMt isTupD g d ds) := by
  obtain ⟨r, h1, h2⟩ := hm
  refine peI (pe_tm slot hty h1 ho ha hbase hfew hline hs hplain) ?_
  rintro σ H Q ⟨C, O, ρ, n, w, n', hf, E, q⟩
  unfold eMt at hf
  obtain ⟨⟨x, n1⟩, e1, hf⟩ := Option.bind_eq_some_iff.mp hf
  simp only at hf
  split at hf
  case isFalse => cases hf
  rename_i hp
  obtain ⟨⟨xs, n2⟩, e2, hf⟩ := Option.bind_eq_some_iff.mp hf
  obtain ⟨z, e3, hf⟩ := Option.map_eq_some_iff.mp hf
  cases hf
  refine ⟨C, O, ρ, n, x, n1, e1, E, fun v H1 s t rx => ?_⟩
  have E1 := E.step s t
  refine ⟨?_, C, O, ρ, n1, xs, n2, e2, E1, fun vs H2 s2 t2 r2 => ?_⟩
  · cases x with
    | tuple ys => exact dv_isTup rx
    | _ => cases hp
  · refine h2 (Av C O) C.T v vs x xs _ H2 Q (E1.step s2 t2).av (rx.step s2 Av.t) r2 e3 fun v H3 g3 r3 => ?_
    exact q v H3 ((s.trans s2).trans g3.step) (g3.town t2) (r3.none_any.back fun a ha => s.fr a (s2.fr a ha))
/-- x.index(k), ints -/
def gIndexT (x : PyData) (ys : List PyData) : Option W := match x, ys with
  | .tuple xs, [.int k] => (intsOf xs).bind fun ns => if k ∈ ns then some (.d (.int (ns.idxOf k : Nat))) else none
  | _, _ => none
theorem mv_tindex : MtV X "tuple.index" gIndexT := by
  refine ⟨fun x xs H Q => ∃ (p : Addr) (ns : List Int) (k : Int), x = .ref p ∧ xs = [.int k] ∧ SqT X.K H p (ns.map V.int) ∧ k ∈ ns ∧ Q (.int (ns.idxOf k : Nat)) H, ?_, ?_⟩
  · rintro pins s σ H x xs v us Q I rx rxs ⟨p, ns, k, rfl, rfl, hs, hk, q⟩
    have hv : v = .ref p := rx
    subst hv
    obtain ⟨u, rfl, t, rfl⟩ := rxs.one
    obtain ⟨its, rv, pl, hz⟩ := I.tuple hs
    exact SeqAt.tuple_index_ints (s := s) pl rv.ints hk ⟨.int (ns.idxOf k : Nat), H, I.tok _, ⟨_, rfl⟩, q⟩
  · intro A T x vs dx xs w H Q tr rx rxs e q
    unfold gIndexT at e
    split at e
    · rename_i zs k
      obtain ⟨ns, h2, e⟩ := Option.bind_eq_some_iff.mp e
      split at e
      · rename_i hk
        cases e
        obtain ⟨v, rfl, r⟩ := rxs.one
        obtain ⟨a, us, rfl, k1, k2, _⟩ := rx.tup
        rw [intsOf_ok h2] at k2
        rw [k2.ints] at k1
        exact ⟨a, ns, k, rfl, by rw [r.int], k1, hk, q _ _ Grow.refl (.int _)⟩
      · cases e
    · cases e
def gIndexL (x : PyData) (ys : List PyData) : Option W := match x, ys with
  | .list xs, [.int k] => (intsOf xs).bind fun ns => if k ∈ ns then some (.d (.int (ns.idxOf k : Nat))) else none
  | _, _ => none
end
end L2.Lv
namespace L2.Lv
open PySem PySem.Spec PyProof.Rows
/-! enumerate of a tuple -/
theorem meets_enum1 {v : Value} {o : Obj} {Hs : Heap → Prop} (B : Begins v o Hs) :
    Meets (Builtin.«enumerate.__new__» ⟨[.type "enumerate", v], []⟩) (fun _ R s => Hs s.heap ∧
      R (.ok (.ret (.ref (s.heap.push o).objs.size))) { s with heap := (s.heap.push o).push { cls := .type "enumerate", data := .fields #[.none, .bool false, .ref s.heap.objs.size, rawInt 0, .none, .none] } }) :=
  .of_wp fun prog w A R s h => by
    obtain ⟨hp, g, d, tk, os⟩ := s
    obtain ⟨h1, h⟩ := h
    have hsub := sub_enumerate
    have q1 : ∀ {A' : Around} {E : Value → Shared → Prop} {Q : Value → Shared → Prop}, Q (.ref hp.objs.size) ⟨hp.push o, g, d, tk, os⟩ → wpAny (model prog w) A' (pyIter v) Q E ⟨hp, g, d, tk, os⟩ :=
      fun q => B.iter prog w _ _ ⟨hp, g, d, tk, os⟩ _ h1 q
    wp_walk using q1
    refine wpAny_stack_any fun st => wpAny_pure ?_
    split
    · rename_i c _ _ _ _ _
      cases (c == Value.type "enumerate")
      · wp_walk using q1
        exact ⟨_, rfl, h⟩
      · wp_walk using q1
        exact ⟨_, rfl, h⟩
    · wp_walk using q1
      exact ⟨_, rfl, h⟩
theorem enum1_begins {prog : Program} {w : World} {A : Around} {E : Value → Shared → Prop} {s : Shared} {v : Value} {o : Obj} {Hs : Heap → Prop} {Q : Value → Shared → Prop} (B : Begins v o Hs) (h1 : Hs s.heap)
    (h : ∀ h', IsEnum h' (s.heap.objs.size + 1) s.heap.objs.size 0 .none → h'.get? s.heap.objs.size = some o → h'.objs.size = s.heap.objs.size + 2 →
      (∀ b o, s.heap.get? b = some o → h'.get? b = some o) → Q (.ref (s.heap.objs.size + 1)) { s with heap := h' }) : wpAny (model prog w) A (call (.type "enumerate") [v]) Q E s := by
  refine callType_new F.called_enumerate (by decide) (F.typeCall_enumerate_1 _) (F.newCall_enumerate_1 _) (fun obj => F.args_object_init_2 obj _) F.entry_enumerate_new (meets_enum1 B) ⟨h1, ?_⟩
  have hz : (s.heap.push o).objs.size = s.heap.objs.size + 1 := Heap.size_push ..
  show _ ∧ _
  rw [hz]
  have he : IsEnum ((s.heap.push o).push { cls := .type "enumerate", data := .fields #[.none, .bool false, .ref s.heap.objs.size, rawInt 0, .none, .none] }) (s.heap.objs.size + 1) s.heap.objs.size 0 .none := by
    have := Heap.get?_push_size (s.heap.push o) (o := { cls := .type "enumerate", data := .fields #[.none, .bool false, .ref s.heap.objs.size, rawInt 0, .none, .none] }) rfl
    rw [hz] at this
    exact this
  exact ⟨⟨_, he, rfl⟩, h _ he (Heap.get?_push_of_some _ (Heap.get?_push_size _ B.free)) (by rw [Heap.size_push, hz]) fun b u x => Heap.get?_push_of_some _ (Heap.get?_push_of_some _ x)⟩
/-- each item of the tuple at a in a new pair -/
def IteT (K : PySem.W.Frag) (a : Addr) : It :=
  ⟨fun i H => ∃ (xs : List V) (x : V), SqT K H a xs ∧ xs[i]? = some x, fun i H v H' => ∃ T x, v = .ref T ∧ H T = none ∧ H' = upd H T (.tup [.int (i : Nat), x]) ∧ ∀ xs, SqT K H a xs → xs[i]? = some x, fun i H => ∃ xs : List V, SqT K H a xs ∧ xs.length = i⟩
theorem turn_enumT {P : Program} {w : World} {K : PySem.W.Frag} {elts : List Expr} {kk : Nat} {tpos : Pos} (a e it : Addr) :
    Turn P w K (.Tuple elts kk tpos) (IteT K a) [e, it] e (fun i h => (∃ old, IsEnum h e it ((i : Nat) : Int) old) ∧ h.IsTupleIter it a i ∧ e ≠ it) where
  mem := by simp
  obj := fun i h st b hb => by
    obtain ⟨⟨old, he⟩, ⟨o, ho, _, hd⟩, _⟩ := st
    rcases List.mem_cons.mp hb with z | hb
    · rw [z]; exact ⟨_, he, fun v q => nomatch q⟩
    · rw [List.mem_singleton.mp hb]; exact ⟨o, ho, fun v q => by rw [hd] at q; cases q⟩
  keep := fun i h h' st k => let ⟨⟨old, he⟩, hi, hne⟩ := st; ⟨⟨old, k e (by simp) _ he⟩, hi.at fun o q => k it (by simp) o q, hne⟩
  item := by
    intro X hP hw hK hc i pins s σ H E I hf st hg
    subst hP hw hK
    obtain ⟨⟨old, he⟩, hit, hne⟩ := st
    obtain ⟨xs, x, hq, hx⟩ := hg
    obtain ⟨its, rv, p, hz⟩ := I.tuple hq
    obtain ⟨u, hu, ru⟩ := rv.get hx
    have hal : a ≠ it := fun z => by
      obtain ⟨o, h1, h2, _⟩ := p
      obtain ⟨o', g1, g2, _⟩ := hit
      rw [z, g1] at h1
      cases h1
      rw [g2] at h2
      simp at h2
    have hae : e ∉ [it, a] := fun z => by
      rcases List.mem_cons.mp z with z | z
      · exact hne z
      · obtain ⟨o, h1, h2, _⟩ := p
        have z := List.mem_singleton.mp z
        rw [← z, show s.heap.get? e = some _ from he] at h1
        cases h1
        simp at h2
    have G := GoesN.enumFrom (prog := X.prog) (w := X.w) (A := X.A) (elts := elts) (x1 := kk) (pos := tpos) 0 (Draws.tuple (prog := X.prog) (w := X.w) (A := X.A.in1) (show X.A.in1.handled = none from I.ok.hd hc) it a hal its.toArray) e hne hae (by simp)
    have hlt : i < its.toArray.size := by
      rw [List.size_toArray]
      exact (List.getElem?_eq_some_iff.mp hu).1
    refine G.goes i s _ E hlt ⟨⟨old, by rw [Int.zero_add]; exact he⟩, hit, p⟩ fun v h' tk ⟨T, t, y, ev, hT, hy, hTup⟩ st' hk _ => ?_
    subst ev
    have ey : y = u := by
      rw [List.getElem?_toArray, hu] at hy
      exact (Option.some.inj hy).symm
    subst ey
    have new : ObjOk X.prog X.w (upd H T (.tup [.int (i : Nat), x])) h' T (.tup [.int (i : Nat), x]) :=
      ⟨by show 2 ≤ sizeLine; decide, [.int (0 + (i : Int)) t, y], .cons ⟨t, by rw [Int.zero_add]⟩ (.cons ru .nil), hTup⟩
    have I1 : Inv X pins σ (upd H T (.tup [.int (i : Nat), x])) { s with heap := h', toks := tk } :=
      I.turnedNew (ch := [e, it]) (fun b ob hb q => hk b ob hb q) hf hT new
    obtain ⟨⟨old', he'⟩, hit', _⟩ := st'
    refine ⟨.ref T, _, I1, rfl, ⟨T, x, rfl, I.hok.fresh hT, rfl, fun ys hy => by rw [I.tuple_inj hy hq]; exact hx⟩, ⟨⟨old', by rw [Int.zero_add] at he'; exact he'⟩, hit', hne⟩, fun b hb => ?_⟩
    have hb' : b < s.heap.objs.size := by
      rcases List.mem_cons.mp hb with z | z
      · rw [z]; exact Heap.lt_size he
      · rw [List.mem_singleton.mp z]; obtain ⟨o, h1, _⟩ := hit; exact Heap.lt_size h1
    rw [upd_ne (Nat.ne_of_lt (Nat.lt_of_lt_of_le hb' hT))]
    exact (hf b hb).1
  done := by
    intro X hP hw hK hc i pins s σ H E I hf st hg
    subst hP hw hK
    obtain ⟨⟨old, he⟩, hit, hne⟩ := st
    obtain ⟨xs, hq, hx⟩ := hg
    obtain ⟨its, rv, p, hz⟩ := I.tuple hq
    have hl := rv.length
    have hal : a ≠ it := fun z => by
      obtain ⟨o, h1, h2, _⟩ := p
      obtain ⟨o', g1, g2, _⟩ := hit
      rw [z, g1] at h1
      cases h1
      rw [g2] at h2
      simp at h2
    have hs : its.toArray.size = i := by rw [List.size_toArray]; omega
    have D := Draws.tuple (prog := X.prog) (w := X.w) (A := X.A.in1) (show X.A.in1.handled = none from I.ok.hd hc) it a hal its.toArray
    rw [hs] at D
    obtain ⟨f0, f1, f2, f3, f4, f5⟩ := hf it (by simp)
    exact wpAny_pyNext_enum_endD D he ⟨hit, p⟩ fun h' hx => ⟨rfl, I.turned (t' := s.toks) (fun b o hb q => hx b o hb q) f0 f1 f3 f4 f5⟩
  self := fun A i s Q E st h => let ⟨⟨_, he⟩, _⟩ := st; wpAny_pyIter_enum he h
def iEnumA (K : PySem.W.Frag) (te : TE) : TI := fun σ H R => te σ H fun v H1 => ∃ a xs, v = .ref a ∧ ((SqL K H1 a xs ∧ R (Ite K a) H1) ∨ (SqT K H1 a xs ∧ R (IteT K a) H1))
section
variable {X : Cx} {e a b : Expr} {d da db : Fd} {pos : Pos}
theorem pi_enumA {te : TE} {p tpos : Pos} {elts : List Expr} {kk : Nat} (hg : Gl X "enumerate") (hm : X.mg "enumerate" = none) (he : PE X e te) (hs : starEach [e] X.env = (false, eval e X.env) :: starEach [] X.env := by rfl) :
    PI X (.Tuple elts kk tpos) (.Call (.Name "enumerate" p) [e] [] pos) (iEnumA X.K te) := ⟨fun pins s σ H R I h => by
  have two : ∀ {H1 : Hp} {s1 : Shared}, Inv X pins σ H1 s1 → ∀ b ∈ [s1.heap.objs.size + 1, s1.heap.objs.size], FpOk X pins H1 b := fun {H1 s1} I1 b hb => by
    have hle : s1.heap.objs.size ≤ b := by
      rcases List.mem_cons.mp hb with z | z
      · rw [z]; exact Nat.le_succ _
      · rw [List.mem_singleton.mp z]; exact Nat.le_refl _
    exact I1.fpOk hle (I1.hok.fresh hle)
  refine Call_ (ld_blt I hg hm boot_enumerate (PyProof.Rows.callWith_type1 (thn ((pa_cons he pa_nil hs).run pos pins s σ H (fun vs H1 => match vs with | [v] => ∃ a xs, v = V.ref a ∧ ((SqL X.K H1 a xs ∧ R (Ite X.K a) H1) ∨ (SqT X.K H1 a xs ∧ R (IteT X.K a) H1)) | _ => False) I ?_) fun us s1 ⟨vs, H1, I1, r1, q0⟩ => ?_) hs rfl))
  · exact h
  · obtain ⟨a, xs, hv, q1⟩ : ∃ a xs, vs = [V.ref a] ∧ ((SqL X.K H1 a xs ∧ R (Ite X.K a) H1) ∨ (SqT X.K H1 a xs ∧ R (IteT X.K a) H1)) := by
      match vs, q0 with
      | [v], ⟨a, xs, hv, q⟩ => exact ⟨a, xs, by rw [hv], q⟩
    subst hv
    rw [Vals.ref1 r1]
    rcases q1 with ⟨hq, q⟩ | ⟨hq, q⟩
    · obtain ⟨its, rv, p', hz⟩ := I1.list hq
      exact call_enumerate_list p'.isList fun h' he hit hsz hk => wpAny_pyIter_enum he ⟨s1.heap.objs.size + 1, [s1.heap.objs.size + 1, s1.heap.objs.size], _, _, H1, rfl, I1.kept (t' := s1.toks) hk, turn_enum a (s1.heap.objs.size + 1) s1.heap.objs.size, ⟨⟨.none, he⟩, hit, Nat.succ_ne_self _⟩, two I1, q⟩
    · obtain ⟨its, rv, p', hz⟩ := I1.tuple hq
      exact enum1_begins (begins_tuple a its.toArray) p' fun h' he hit hsz hk => wpAny_pyIter_enum he ⟨s1.heap.objs.size + 1, [s1.heap.objs.size + 1, s1.heap.objs.size], _, _, H1, rfl, I1.kept (t' := s1.toks) hk, turn_enumT a (s1.heap.objs.size + 1) s1.heap.objs.size, ⟨⟨.none, he⟩, ⟨_, hit, rfl, rfl⟩, Nat.succ_ne_self _⟩, two I1, q⟩⟩
/-! enumerate, zip: by values -/
def enumD (xs : List PyData) : List PyData := xs.mapIdx fun i x => .tuple [.int i, x]
def zipD : List PyData → List PyData → List PyData
  | x :: xs, y :: ys => .tuple [x, y] :: zipD xs ys
  | _, _ => []
def iEnumV (d : Fd) : Fi := fun ρ n => (d ρ n).bind fun p => (seqOf p.1).map fun xs => (enumD xs, p.2)
theorem enumD_get {xs : List PyData} {i : Nat} {x : PyData} (h : (enumD xs)[i]? = some x) : ∃ y, xs[i]? = some y ∧ x = .tuple [.int i, y] := by
  unfold enumD at h
  rw [List.getElem?_mapIdx] at h
  obtain ⟨y, h1, h2⟩ := Option.map_eq_some_iff.mp h
  exact ⟨y, h1, h2.symm⟩
theorem pair_ok {A : Addr → Prop} {K : PySem.W.Frag} {H : Hp} {T : Addr} {vs : List V} {ds : List PyData} (hT : H T = none) (h : DvAll A K H vs ds) : DvI true A K (upd H T (.tup vs)) (.ref T) (.tuple ds) :=
  .inr ⟨rfl, T, vs, ds, rfl, rfl, .inl (.inl upd_same), h.mono (Grow.upd hT).keep⟩
section
variable {K : PySem.W.Frag} {A B : Addr → Prop} {H1 : Hp} {vs us : List V} {xs ys : List PyData} {l m : Addr}
theorem sqL_keep {H2 : Hp} (hs : (¬ A l ∧ Rd H1 l (.lst vs)) ∨ SqL K Hz l vs) (k : ∀ a o, H1 a = some o → ¬ A a → H2 a = some o) : SqL K H2 l vs := hs.elim (fun ⟨na, r⟩ => .inl (r.imp (fun z => k _ _ z na) fun ⟨o, z⟩ => ⟨o, k _ _ z na⟩)) sqLz
theorem sqT_keep {H2 : Hp} (hs : (¬ A l ∧ Rd H1 l (.tup vs)) ∨ SqT K Hz l vs) (k : ∀ a o, H1 a = some o → ¬ A a → H2 a = some o) : SqT K H2 l vs := hs.elim (fun ⟨na, r⟩ => .inl (r.imp (fun z => k _ _ z na) fun ⟨o, z⟩ => ⟨o, k _ _ z na⟩)) sqTz
theorem it_enumL (hs : (¬ A l ∧ Rd H1 l (.lst vs)) ∨ SqL K Hz l vs) (hd : DvAll B K H1 vs xs) : ItOk true K (Ite K l) (enumD xs) A B H1 := fun H2 k f => by
  have h2 : SqL K H2 l vs := sqL_keep hs k
  refine ⟨fun i x hx => ?_, vs, h2, by rw [hd.length]; simp [enumD]⟩
  obtain ⟨y, hy, rfl⟩ := enumD_get hx
  obtain ⟨v, e1, e2⟩ := hd.get hy
  refine ⟨⟨vs, v, h2, e1⟩, ?_⟩
  rintro v' H' ⟨T, z, rfl, hT, rfl, fz⟩
  refine ⟨Grow.upd hT, fun B' kp _ => ?_⟩
  have := fz vs h2
  rw [e1] at this
  cases this
  exact pair_ok hT (.cons (.int _) (.cons (e2.mono kp) .nil))
theorem it_enumT (hs : (¬ A l ∧ Rd H1 l (.tup vs)) ∨ SqT K Hz l vs) (hd : DvAll B K H1 vs xs) : ItOk true K (IteT K l) (enumD xs) A B H1 := fun H2 k f => by
  have h2 : SqT K H2 l vs := sqT_keep hs k
  refine ⟨fun i x hx => ?_, vs, h2, by rw [hd.length]; simp [enumD]⟩
  obtain ⟨y, hy, rfl⟩ := enumD_get hx
  obtain ⟨v, e1, e2⟩ := hd.get hy
  refine ⟨⟨vs, v, h2, e1⟩, ?_⟩
  rintro v' H' ⟨T, z, rfl, hT, rfl, fz⟩
  refine ⟨Grow.upd hT, fun B' kp _ => ?_⟩
  have := fz vs h2
  rw [e1] at this
  cases this
  exact pair_ok hT (.cons (.int _) (.cons (e2.mono kp) .nil))
theorem zipD_length : ∀ (xs ys : List PyData), (zipD xs ys).length = min xs.length ys.length
  | [], _ => by simp [zipD]
  | _ :: _, [] => by simp [zipD]
  | x :: xs, y :: ys => by simp [zipD, zipD_length xs ys, Nat.succ_min_succ]
theorem zipD_get : ∀ {xs ys : List PyData} {i : Nat} {x : PyData}, (zipD xs ys)[i]? = some x → ∃ y z, xs[i]? = some y ∧ ys[i]? = some z ∧ x = .tuple [y, z]
  | [], _, _, _, h => by simp [zipD] at h
  | _ :: _, [], _, _, h => by simp [zipD] at h
  | a :: xs, b :: ys, 0, x, h => by simp [zipD] at h; exact ⟨a, b, rfl, rfl, h.symm⟩
  | a :: xs, b :: ys, i + 1, x, h => by
    obtain ⟨y, z, h1, h2, h3⟩ := zipD_get (xs := xs) (ys := ys) (i := i) (by simpa [zipD] using h)
    exact ⟨y, z, by simpa using h1, by simpa using h2, h3⟩
end
theorem dv_seq {A : Addr → Prop} {C : Cn} {K : PySem.W.Frag} {H : Hp} {v : V} {x : PyData} {xs : List PyData} (ta : ∀ a, C.T = some a → A a) (h : DvB A C.T K H v x) (e : seqOf x = some xs) :
    ∃ a vs, v = .ref a ∧ DvAll A K H vs xs ∧ ((x = .list xs ∧ ((¬ TA C a ∧ Rd H a (.lst vs)) ∨ SqL K Hz a vs)) ∨ (x = .tuple xs ∧ ((¬ TA C a ∧ Rd H a (.tup vs)) ∨ SqT K Hz a vs))) := by
  cases x with
  | list zs =>
    cases e
    rcases h with h | ⟨a, vs, ds, rfl, h2, h3, h4, h5⟩ | ⟨a, kvs, _, h2, _⟩
    · cases h with
      | lst hs ha => exact ⟨_, _, rfl, ha, .inl ⟨rfl, hs.imp (fun z => ⟨fun q => z.1 (ta _ q), z.2⟩) id⟩⟩
    · cases h2
      exact ⟨a, vs, rfl, h5, .inl ⟨rfl, .inl ⟨h3, .inl h4⟩⟩⟩
    · cases h2
  | tuple zs =>
    cases e
    rcases h with h | ⟨a, vs, ds, _, h2, _⟩ | ⟨a, kvs, _, h2, _⟩
    · cases h with
      | tup hs ha => exact ⟨_, _, rfl, ha, .inr ⟨rfl, hs.imp (fun z => ⟨fun q => z.1 (ta _ q), let ⟨o, z, _⟩ := z.2; .inr ⟨o, z⟩⟩) (·.1)⟩⟩
    · cases h2
    · cases h2
  | _ => cases e
theorem dv_seqA {A : Addr → Prop} {K : PySem.W.Frag} {H : Hp} {v : V} {x : PyData} {xs : List PyData} (h : Dv A K H v x) (e : seqOf x = some xs) :
    ∃ a vs, v = .ref a ∧ DvAll A K H vs xs ∧ ((x = .list xs ∧ ((¬ A a ∧ Rd H a (.lst vs)) ∨ SqL K Hz a vs)) ∨ (x = .tuple xs ∧ ((¬ A a ∧ Rd H a (.tup vs)) ∨ SqT K Hz a vs))) := by
  cases x with
  | list zs =>
    cases e
    cases h with
    | lst hs ha => exact ⟨_, _, rfl, ha, .inl ⟨rfl, hs⟩⟩
  | tuple zs =>
    cases e
    cases h with
    | tup hs ha => exact ⟨_, _, rfl, ha, .inr ⟨rfl, hs.imp (fun z => ⟨z.1, let ⟨o, z, _⟩ := z.2; .inr ⟨o, z⟩⟩) (·.1)⟩⟩
  | _ => cases e
theorem sqL_of {A : Addr → Prop} {K : PySem.W.Frag} {H : Hp} {l : Addr} {vs : List V} (hs : (¬ A l ∧ Rd H l (.lst vs)) ∨ SqL K Hz l vs) : SqL K H l vs := hs.elim (fun z => .inl z.2) sqLz
theorem sqT_of' {A : Addr → Prop} {K : PySem.W.Frag} {H : Hp} {l : Addr} {vs : List V} (hs : (¬ A l ∧ Rd H l (.tup vs)) ∨ SqT K Hz l vs) : SqT K H l vs := hs.elim (fun z => .inl z.2) sqTz
def iEnumF (f : Fe) : Fi := fun ρ n => (f ρ n).bind fun p => p.1.frz.val.bind fun x => (seqOf x).map fun xs => (enumD xs, p.2)
theorem ei_enum {f : Fe} {p tpos : Pos} {elts : List Expr} {kk : Nat} (hg : Gl X "enumerate") (hm : X.mg "enumerate" = none) (he : EvE X e f) (hs : starEach [e] X.env = (false, eval e X.env) :: starEach [] X.env := by rfl) :
    EvI X true (.Tuple elts kk tpos) (.Call (.Name "enumerate" p) [e] [] pos) (iEnumF f) := piI (pi_enumA hg hm he hs) (by
  rintro σ H R ⟨C, O, ρ, n, xs, n', hf, E, q⟩
  unfold iEnumF at hf
  obtain ⟨⟨w, n1⟩, e1, hf⟩ := Option.bind_eq_some_iff.mp hf
  obtain ⟨x, e2, hf⟩ := Option.bind_eq_some_iff.mp hf
  obtain ⟨ys, e3, hf⟩ := Option.map_eq_some_iff.mp hf
  cases hf
  refine ⟨C, O, ρ, n, w, _, e1, E, fun v H1 s t r => ?_⟩
  obtain ⟨a, vs, hv, hd, ⟨_, hs⟩ | ⟨_, hs⟩⟩ := dv_seqA ((r.frz E.av).val e2) e3
  · exact ⟨a, vs, hv, .inl ⟨sqL_of hs, q _ H1 s t (it_enumL hs hd)⟩⟩
  · exact ⟨a, vs, hv, .inr ⟨sqT_of' hs, q _ H1 s t (it_enumT hs hd)⟩⟩)
/-- both lists, or both tuples -/
def zipOk : PyData → PyData → Option (List PyData)
  | .list xs, .list ys => some (zipD xs ys)
  | .tuple xs, .tuple ys => some (zipD xs ys)
  | _, _ => none
theorem it_zipL {K : PySem.W.Frag} {A B : Addr → Prop} {H1 : Hp} {vs us : List V} {xs ys : List PyData} {l m : Addr} (hs : (¬ A l ∧ Rd H1 l (.lst vs)) ∨ SqL K Hz l vs) (hd : DvAll B K H1 vs xs) (hs2 : (¬ A m ∧ Rd H1 m (.lst us)) ∨ SqL K Hz m us) (hd2 : DvAll B K H1 us ys) :
    ItOk true K (Itz K l m) (zipD xs ys) A B H1 := fun H2 k f => by
  have h2 : SqL K H2 l vs := sqL_keep hs k
  have h3 : SqL K H2 m us := sqL_keep hs2 k
  refine ⟨fun i x hx => ?_, ?_⟩
  · obtain ⟨y, z, hy, hz, rfl⟩ := zipD_get hx
    obtain ⟨v, e1, e2⟩ := hd.get hy
    obtain ⟨u, g1, g2⟩ := hd2.get hz
    refine ⟨⟨vs, us, v, u, h2, h3, e1, g1⟩, ?_⟩
    rintro v' H' ⟨T, p, r, rfl, hT, rfl, fp, fr⟩
    refine ⟨Grow.upd hT, fun B' kp _ => ?_⟩
    have z1 := fp vs h2
    have z2 := fr us h3
    rw [e1] at z1
    rw [g1] at z2
    cases z1
    cases z2
    exact pair_ok hT (.cons (e2.mono kp) (.cons (g2.mono kp) .nil))
  · refine ⟨vs, us, h2, h3, ?_⟩
    rw [hd.length, hd2.length, zipD_length]
    omega
theorem it_zipT {K : PySem.W.Frag} {A B : Addr → Prop} {H1 : Hp} {vs us : List V} {xs ys : List PyData} {l m : Addr} (hs : (¬ A l ∧ Rd H1 l (.tup vs)) ∨ SqT K Hz l vs) (hd : DvAll B K H1 vs xs) (hs2 : (¬ A m ∧ Rd H1 m (.tup us)) ∨ SqT K Hz m us) (hd2 : DvAll B K H1 us ys) :
    ItOk true K (RZ.ItzT K l m) (zipD xs ys) A B H1 := fun H2 k f => by
  have h2 : SqT K H2 l vs := sqT_keep hs k
  have h3 : SqT K H2 m us := sqT_keep hs2 k
  refine ⟨fun i x hx => ?_, ?_⟩
  · obtain ⟨y, z, hy, hz, rfl⟩ := zipD_get hx
    obtain ⟨v, e1, e2⟩ := hd.get hy
    obtain ⟨u, g1, g2⟩ := hd2.get hz
    refine ⟨⟨vs, us, v, u, h2, h3, e1, g1⟩, ?_⟩
    rintro v' H' ⟨T, p, r, rfl, hT, rfl, fp, fr⟩
    refine ⟨Grow.upd hT, fun B' kp _ => ?_⟩
    have z1 := fp vs h2
    have z2 := fr us h3
    rw [e1] at z1
    rw [g1] at z2
    cases z1
    cases z2
    exact pair_ok hT (.cons (e2.mono kp) (.cons (g2.mono kp) .nil))
  · refine ⟨vs, us, h2, h3, ?_⟩
    rw [hd.length, hd2.length, zipD_length]
    omega
def iZipV (da db : Fd) : Fi := fun ρ n => (da ρ n).bind fun p => (db ρ p.2).bind fun q => (zipOk p.1 q.1).map (·, q.2)
theorem zipOk_seq {x y : PyData} {zs : List PyData} (h : zipOk x y = some zs) : ∃ xs ys, seqOf x = some xs ∧ seqOf y = some ys ∧ zs = zipD xs ys ∧ ((x = .list xs ∧ y = .list ys) ∨ (x = .tuple xs ∧ y = .tuple ys)) := by
  cases x <;> cases y <;> simp [zipOk] at h
  · exact ⟨_, _, rfl, rfl, h.symm, .inl ⟨rfl, rfl⟩⟩
  · exact ⟨_, _, rfl, rfl, h.symm, .inr ⟨rfl, rfl⟩⟩
theorem ej_zip {p tpos : Pos} {elts : List Expr} {kk : Nat} (hg : Gl X "zip") (hm : X.mg "zip" = none) (ha : EvB X a da) (hb : EvB X b db) (hs : starEach [a, b] X.env = (false, eval a X.env) :: starEach [b] X.env := by rfl) (hs2 : starEach [b] X.env = (false, eval b X.env) :: starEach [] X.env := by rfl)
    (hpl : (backTo pos (starEach [b] X.env)).any (·.1) = false := by rfl) : EvJ X true (.Tuple elts kk tpos) (.Call (.Name "zip" p) [a, b] [] pos) (iZipV da db) := piI (RZ.pi_zipA hg hm (pa_cons ha (pa_cons hb pa_nil hs2) hs) hs hpl) (by
  rintro σ H R ⟨C, O, ρ, n, xs, n', hf, E, q⟩
  unfold iZipV at hf
  obtain ⟨⟨x, n1⟩, e1, hf⟩ := Option.bind_eq_some_iff.mp hf
  obtain ⟨⟨y, n2⟩, e2, hf⟩ := Option.bind_eq_some_iff.mp hf
  obtain ⟨zs, e3, hf⟩ := Option.map_eq_some_iff.mp hf
  cases hf
  obtain ⟨ps, qs, h1, h2, rfl, hk⟩ := zipOk_seq e3
  refine ⟨C, O, ρ, n, x, n1, e1, E, fun v H1 s t r => ⟨C, O, ρ, n1, y, _, e2, E.step s t, fun u H2 s2 t2 r2 => ?_⟩⟩
  obtain ⟨a1, vs, rfl, hd, k1⟩ := dv_seq Av.t (r.step s2 Av.t) h1
  obtain ⟨b1, us, rfl, hd2, k2⟩ := dv_seq Av.t r2 h2
  rcases hk with ⟨rfl, rfl⟩ | ⟨rfl, rfl⟩
  · rcases k1 with ⟨_, k1⟩ | ⟨z, _⟩
    · rcases k2 with ⟨_, k2⟩ | ⟨z, _⟩
      · exact ⟨a1, b1, vs, us, rfl, .inl ⟨sqL_of k1, sqL_of k2, q _ H2 (s.trans s2) t2 (it_zipL k1 hd k2 hd2)⟩⟩
      · cases z
    · cases z
  · rcases k1 with ⟨z, _⟩ | ⟨_, k1⟩
    · cases z
    · rcases k2 with ⟨z, _⟩ | ⟨_, k2⟩
      · cases z
      · exact ⟨a1, b1, vs, us, rfl, .inr ⟨sqT_of' k1, sqT_of' k2, q _ H2 (s.trans s2) t2 (it_zipT k1 hd k2 hd2)⟩⟩)
def iZipF (fa fb : Fe) : Fi := fun ρ n => (fa ρ n).bind fun p => p.1.frz.val.bind fun x => (fb ρ p.2).bind fun q => q.1.frz.val.bind fun y => (zipOk x y).map (·, q.2)
end
end L2.Lv
namespace L2.Lv
open PySem PySem.Spec PyProof.Rows
/-! what a module's name is -/
theorem bt_len : bootBuiltins "len" = some (.builtin "len") := by decide +kernel
theorem bt_max : bootBuiltins "max" = some (.builtin "max") := by decide +kernel
theorem bt_min : bootBuiltins "min" = some (.builtin "min") := by decide +kernel
theorem bt_all : bootBuiltins "all" = some (.builtin "all") := by decide +kernel
theorem bt_any : bootBuiltins "any" = some (.builtin "any") := by decide +kernel
theorem bt_sorted : bootBuiltins "sorted" = some (.builtin "sorted") := by decide +kernel
theorem bt_tuple : bootBuiltins "tuple" = some (.type "tuple") := by decide +kernel
theorem bt_list : bootBuiltins "list" = some (.type "list") := by decide +kernel
theorem bt_dict : bootBuiltins "dict" = some (.type "dict") := by decide +kernel
structure DF (K : PySem.W.Frag) (mg : Str → Option Value) (x : Str) (st : Stmt) (ps : List Str) where
  f : Addr
  fd : FuncData
  F : Fun K x x st f fd
  b : Binds K fd ps []
  g : mg x = some (.ref f)
section
variable {X : Cx} {e a b : Expr} {es : List Expr} {f fa fb : Fe} {d da db : Fd} {fs : Fa} {ds : Fds} {pos : Pos} {st : Stmt} {rest sts sts' : List Stmt} {gs h : Fs} {ps : List Str}
theorem ev_callD {k j l : Nat} {F : Fn} {x : Str} {p : Pos} (D : DF X.K X.mg x st ps) (G : FnOk X.prog X.w X.K X.mg X.base CX0 j D.f D.fd ps (spOf X.K k F)) (hr : Room l X.A) (hj : j ≤ l) (hg : Gl X x) (ha : EvA X (e :: es) fs)
    (hl : (e :: es).length = k := by rfl) (hdb : (x == ("__debug__" : Str)) = false := by decide) (he : starEach (e :: es) X.env = (false, eval e X.env) :: starEach es X.env := by rfl) (hpl : (backTo pos (starEach es X.env)).any (·.1) = false := by rfl) :
    EvE X (.Call (.Name x p) (e :: es) [] pos) (eCall F fs) := ev_call G (hr.mono hj) hg D.g D.F.kp D.b ha hl hdb he hpl
/-- len of the town -/
def eTLen (i : Nat) : Fe := fun ρ n => match ρ[i]? with
  | some .town => some (.d (.int n), n)
  | _ => none
theorem ev_tlen {i : Nat} {p : Pos} (hg : Gl X "len") (hm : X.mg "len" = none) (hb : PE X a (tVar i)) (he : starEach [a] X.env = (false, eval a X.env) :: starEach [] X.env := by rfl) (hpl : (backTo pos (starEach [] X.env)).any (·.1) = false := by rfl) :
    EvE X (.Call (.Name "len" p) [a] [] pos) (eTLen i) := peI (pe_callB call_len_seq hg hm bt_len (pa_cons hb pa_nil he) (by decide) (by decide) he hpl) (by
  rintro σ H Q ⟨C, O, ρ, n, w, n', hf, E, q⟩
  unfold eTLen at hf
  split at hf
  · rename_i hx
    cases hf
    obtain ⟨l, h1, h2⟩ := E.sl _ _ hx
    have h3 := E.town l h1
    refine ⟨_, h2, l, _, rfl, .inl (SqL.of h3), ?_⟩
    rw [List.length_replicate]
    exact q _ _ Step.refl E.town (.int _)
  · cases hf)
theorem hu64 {l : Nat} {A : Around} (r : Room l A) : A.units + 64 < cLine := by have := r.un; omega
theorem hu65 {l : Nat} {A : Around} (r : Room l A) : A.units + 65 < cLine := by have := r.un; omega
theorem hu100 {l : Nat} {A : Around} (r : Room l A) : A.units + 100 < cLine := by have := r.un; omega
theorem hu0 {l : Nat} {A : Around} (r : Room l A) : A.units < cLine := by have := r.un; omega
end
theorem fn_none {P : Program} {w : World} {K : PySem.W.Frag} {mg : Str → Option Value} {base : Heap} {f : Addr} {fd : FuncData} {ps : List Str} {j : Nat} : FnOk P w K mg base CX0 j f fd ps (spOf K ps.length fun _ _ => none) :=
  ⟨spOf.len, fun A outer s H args us vs Q E _ _ _ _ h => by obtain ⟨T, Pp, ws, n, w, n', _, _, _, _, hf, _⟩ := h; cases hf⟩
/-! the law -/
def spLaw (K : PySem.W.Frag) (m : Nat) : Sp := fun vs H Q _ => ∃ (a : Addr) (ns : List Int), vs = [.ref a] ∧ Only H ∧ SqL K H a (ns.map V.int) ∧ ns.length ≤ m ∧ ∀ H', Q (.bl true) H'
theorem dv_ints {A : Addr → Prop} {K : PySem.W.Frag} {H : Hp} : ∀ ns : List Int, DvAll A K H (ns.map V.int) (ns.map PyData.int)
  | [] => .nil
  | n :: ns => .cons (.int n) (dv_ints ns)
theorem fn_law {P : Program} {w : World} {K : PySem.W.Frag} {mg : Str → Option Value} {base : Heap} {st : Stmt} {f : Addr} {fd : FuncData} {N : List Str} {x y : Str} {k m : Nat} {g : Fs} {p p2 p3 : Pos} {rest : List Stmt} (F : Fun K "law" "law" st f fd) (S : FnScope N [x] (defScope st))
    (hbd : defBody st = .Assign [.Name y p] (.List [] p2) p3 :: rest) (hy : N[1]? = some y) (hyl : Loc (defScope st) y)
    (hb : ∀ (cdv : Value) (A : Around) (outer : List Env) (s : Shared) (H : Hp) (E : XK), Room k (A.deeper (envOfC "law" (defScope st) s.heap.objs.size f cdv)) →
      EvSs (cxOf CX0 P w K mg base N "law" (defScope st) f cdv A outer s H E).nox rest g)
    (hm : ∀ ns : List Int, ns.length ≤ m → ∃ n', g (.d (.list (ns.map .int)) :: .town :: List.replicate (N.length - 2) .no) 0 = some (.rt (.d (.bool true)) n')) :
    FnOk P w K mg base CX0 (k + 1) f fd [x] (spLaw K m) := by
  refine F.ok S (fun vs H Q E h => by obtain ⟨a, ns, rfl, _⟩ := h; rfl) fun cdv A outer s H vs Q E hr h => ?_
  obtain ⟨a, ns, rfl, hO, hS, hlen, q⟩ := h
  rw [hbd]
  have hN : ∃ N', N = x :: y :: N' := by
    have h1 := S.pre
    match N, h1, hy with
    | [], h1, _ => simp at h1
    | [_], _, hy => simp at hy
    | x' :: y' :: N', h1, hy =>
      simp at h1 hy
      exact ⟨N', by rw [h1, hy]⟩
  obtain ⟨N', rfl⟩ := hN
  refine ⟨_, pss_cons (ps_set (i := 1) S.nd rfl hyl (pe_lst pa_nil)) (hb cdv A outer s H E hr), Nat.zero_le _, fun p np => ?_⟩
  obtain ⟨n', e⟩ := hm ns hlen
  refine ⟨⟨some p, fun _ => False, upd H p (.lst [])⟩, Ow0, _, 0, _, e, ⟨by simp [start], fun i w hw => ?_, fun _ _ _ z => (nomatch z), fun _ _ z => (nomatch z), fun b z => ?_, fun _ _ z _ => z, fun _ z => z.elim, fun _ z => z⟩, fun _ _ z => (nomatch z), fun v H' r => ?_⟩
  · match i with
    | 0 =>
      cases hw
      refine ⟨.ref a, rfl, .lst ?_ (dv_ints ns)⟩
      rcases hS with hS | hS
      · have ne : a ≠ p := fun z => by subst z; exact Rd.there hS np
        refine .inl ⟨?_, ?_⟩
        · rintro (z | z | ⟨_, z⟩)
          · exact z
          · exact ne (Option.some.inj z).symm
          · cases z
        · rcases hS with hS | ⟨o, hS⟩
          · exact .inl (by rw [upd_ne ne]; exact hS)
          · exact .inr ⟨o, by rw [upd_ne ne]; exact hS⟩
      · exact .inr (.inr hS)
    | 1 =>
      cases hw
      exact ⟨p, rfl, rfl⟩
    | i + 2 =>
      simp only [List.getElem?_cons_succ, List.getElem?_replicate] at hw
      split at hw
      · cases hw; trivial
      · cases hw
  · cases z
    exact upd_same
  · have r' : Dv _ K H' v (.bool true) := r.res
    cases r'
    exact q H'
end L2.Lv
namespace L2.Lv
open PySem PySem.Spec PyProof.Rows
/-! ranges with a step -/
def rangeC (lo c : Int) (n : Nat) : List PyData := (List.range n).map fun (i : Nat) => .int (lo + (i : Nat) * c)
def rng3 : PyData → PyData → PyData → Option (List PyData)
  | .int i, .int j, .int c => if c ≠ 0 ∧ c.natAbs < 1073741824 ∧ Builtin.Range.small i j c = true ∧ 0 ≤ Builtin.Range.rangeSize i j c then some (rangeC i c (Builtin.Range.rangeSize i j c).toNat) else none
  | _, _, _ => none
def iRng3D (da db dc : Fd) : Fi := fun ρ n => (da ρ n).bind fun p => (db ρ p.2).bind fun q => (dc ρ q.2).bind fun r => (rng3 p.1 q.1 r.1).map (·, r.2)
section
variable {X : Cx} {a b c : Expr} {da db dc : Fd} {pos : Pos}
end
end L2.Lv
namespace HT
open PySem PySem.Spec PyProof.Rows
section
variable {prog : Program} {w : World} {A : Around} {E : Value → Shared → Prop} {s : Shared}
end
end HT
namespace L2.Lv
open PySem PySem.Spec PyProof.Rows
/-! what no one reads any more is forgotten -/
def Out.kill (is : List Nat) : Out → Out
  | .nx ρ n => .nx (wipeW ρ is) n
  | o => o
def sEnd (is : List Nat) (g : Fs) : Fs := fun ρ n => (g ρ n).map (Out.kill is)
theorem EnvOk.wipe {C : Cn} {O : Ow} {K : PySem.W.Frag} {σ : St} {H : Hp} {ρ : List W} {n : Nat} (is : List Nat) (E : EnvOk C O K σ H ρ n) : EnvOk C O K σ H (wipeW ρ is) n := by
  refine ⟨by rw [wipeW_length]; exact E.len, fun i w hw => ?_, E.inj, E.own, E.town, E.base, E.ptr, E.fr⟩
  rw [wipeW_get] at hw
  split at hw
  · cases hw; trivial
  · exact E.sl i w hw
theorem ss_end {X : Cx} {st : Stmt} {g : Fs} (is : List Nat) (h : EvS X st g) : EvS X st (sEnd is g) := psI h (by
  rintro D σ H ⟨C, O, ρ, n, out, hf, E, np, q⟩
  obtain ⟨o, e1, e2⟩ := Option.map_eq_some_iff.mp hf
  refine ⟨C, O, ρ, n, o, e1, E, np, ?_⟩
  cases o with
  | nx ρ1 n1 => cases e2; exact fun O' σ' H' s E' => q O' σ' H' s (E'.wipe is)
  | bk ρ1 n1 => cases e2; exact q
  | rt w n1 => cases e2; exact q)
/-! slices with a step -/
section
variable {X : Cx} {e a b : Expr} {d da : Fd} {pos p2 : Pos}
def eSs (g : PyData → Option Int → Option Int → Int → Option W) (d : Fd) (o o' o'' : Fo) : Fe := fun ρ n => (d ρ n).bind fun p => (o ρ p.2).bind fun q => (o' ρ q.2).bind fun r => (o'' ρ r.2).bind fun s => s.1.bind fun c => (g p.1 q.1 r.1 c).map (·, s.2)
/-! x.count(k), ints -/
end
end L2.Lv
namespace L2.Lv
open PySem PySem.Spec PyProof.Rows
section
variable {X : Cx} {e a b c : Expr} {es : List Expr} {f fa fb fc : Fe} {d da db : Fd} {fs : Fa} {ds : Fds} {pos : Pos} {st : Stmt} {rest sts sts' : List Stmt} {g h : Fs}
/-! x.insert(k, e) -/
/-! is True, is not True -/
/-! a, b, c = x, y, z -/
def sPar3 (i j l : Nat) (fs : Fa) : Fs := fun ρ n => (fs ρ n).bind fun p => match p.1 with
  | [w, w', w''] => some (.nx (((ρ.set i w).set j w').set l w'') p.2)
  | _ => none
/-! an expression that takes an item out of a list of ours -/
abbrev Fx := List W → Nat → Option (PyData × List W × Nat)
def xPop (i : Nat) (d : Fd) : Fx := fun ρ n => (d ρ n).bind fun k => match k.1, ρ[i]? with
  | .int z, some (.ol xs) => if xs.length ≤ big then (ixN xs.length z).bind fun j => (xs[j]?).map fun x => (x, ρ.set i (.ol (xs.eraseIdx j)), k.2) else none
  | _, _ => none
def xTup1 (f : Fx) : Fx := fun ρ n => (f ρ n).map fun p => (.tuple [p.1], p.2.1, p.2.2)
/-- a + (the taken one) -/
def xCat (fa : Fe) (f : Fx) : Fx := fun ρ n => (fa ρ n).bind fun p => p.1.val.bind fun x => (f ρ p.2).bind fun q => match dAdd x q.1 with
  | some (.d z) => some (z, q.2.1, q.2.2)
  | _ => none
def sSetX (i : Nat) (f : Fx) : Fs := fun ρ n => (f ρ n).map fun p => .nx (p.2.1.set i (.d p.1)) p.2.2
/-- x.append(the taken one) -/
def sAppX (i : Nat) (f : Fx) : Fs := fun ρ n => match ρ[i]? with
  | some (.ol _) => (f ρ n).bind fun p => match p.2.1[i]? with
    | some (.ol xs) => if xs.length < big then some (.nx (p.2.1.set i (.ol (xs ++ [p.1]))) p.2.2) else none
    | _ => none
  | _ => none
end
end L2.Lv
namespace L2.Lv
open PySem PySem.Spec PyProof.Rows
/-! a, b = x, y where they may be ours -/
section
variable {X : Cx} {e a b : Expr} {es : List Expr} {f fa fb : Fe} {d da db : Fd} {fs : Fa} {ds : Fds} {pos : Pos} {st : Stmt} {rest sts sts' : List Stmt} {gs h : Fs}
def sParO (i j : Nat) (fa fb : Fe) : Fs := fun ρ n => (fa ρ n).bind fun p => (fb ρ p.2).bind fun q => some (.nx ((ρ.set i p.1).set j q.1) q.2)
end
end L2.Lv
namespace L2.Lv
open PySem PySem.Spec PyProof.Rows
/-! for p, q in enumerate(a list of ours): if test: y = e -/
def loopI (p q : Nat) (tst : Ft) (y : Nat) (fe : Fe) : List (Nat × PyData) → List W → Nat → Option (List W × Nat)
  | [], ρ, n => some (ρ, n)
  | x :: xs, ρ, n => (tst ((ρ.set p (.d (.int (x.1 : Nat)))).set q (.d x.2)) n).bind fun c => if c.1 then (fe ((ρ.set p (.d (.int (x.1 : Nat)))).set q (.d x.2)) c.2).bind fun w => w.1.val.bind fun z => loopI p q tst y fe xs (((ρ.set p (.d (.int (x.1 : Nat)))).set q (.d x.2)).set y (.d z)) w.2
      else loopI p q tst y fe xs ((ρ.set p (.d (.int (x.1 : Nat)))).set q (.d x.2)) c.2
def enumN (xs : List PyData) : List (Nat × PyData) := xs.mapIdx fun i x => (i, x)
def sForEI (i p q : Nat) (tst : Ft) (y : Nat) (fe : Fe) : Fs := fun ρ n => match ρ[i]? with
  | some (.ol xs) => (loopI p q tst y fe (enumN xs) ρ n).map fun r => .nx r.1 r.2
  | _ => none
section
variable {X : Cx} {e a b : Expr} {es : List Expr} {f fa fb fe : Fe} {d da db : Fd} {fs : Fa} {ds : Fds} {pos : Pos} {st : Stmt} {rest sts sts' : List Stmt} {gs h : Fs} {tst : Ft}
end
end L2.Lv
namespace L2.Lv
open PySem PySem.Spec PyProof.Rows
/-! a for whose walked thing is forgotten -/
def sForK (ks : List Nat) (fi : Fi) (g : Fg) (body : Fs) : Fs := fun ρ n => (fi ρ n).bind fun p => loopF g body p.1 (wipeW ρ ks) p.2
section
variable {X : Cx} {e a b : Expr} {es : List Expr} {f fa fb : Fe} {d da db : Fd} {fs : Fa} {ds : Fds} {pos : Pos} {st : Stmt} {rest sts sts' : List Stmt} {gs h : Fs}
theorem ss_forK (ks : List Nat) {p : Bool} {tg : Expr} {fi : Fi} {is : List Nat} {g : Fg} {body : Fs} (hp : PassesOwn (model X.prog X.w) X.A X.env X.xe) (hc : X.calm = true) (hi : EvI X p tg e fi) (hg : EvG X p tg is g) (hb : EvSs X sts body)
    (hs : ∀ x, foldedSetIterable e X.env x = pure x := by intro _; rfl) : EvS X (.For tg e sts [] pos) (sForK ks fi g body) := psI (ps_for hp hc hi hg hb hs) (by
  rintro D σ H ⟨C, O, ρ, n, out, hf, E, np, q⟩
  unfold sForK at hf
  obtain ⟨⟨xs, n1⟩, e1, hf⟩ := Option.bind_eq_some_iff.mp hf
  refine ⟨C, O, ρ, n, xs, n1, e1, E, fun J H1 s t it => ?_⟩
  refine ⟨fun i m σ' H' => ∃ O' ρ' n', m = xs.length - i ∧ i ≤ xs.length ∧ StepS C O O' H1 H' ∧ EnvOk C O' X.K σ' H' ρ' n' ∧ loopF g body (xs.drop i) ρ' n' = some out,
    ⟨_, O, wipeW ρ ks, n1, rfl, Nat.zero_le _, Step.refl.stepS0, (E.step s t).wipe ks, hf⟩, ?_⟩
  rintro i m σ' H' ⟨O', ρ', n', rfl, hi, S', E', hl⟩
  obtain ⟨items, stop⟩ := it H' (fun a o e na => S'.st a o e (fun z => na (.inr (.inl z))) fun j z => na (.inr (.inr ⟨j, z⟩))) S'.fr
  by_cases hlt : i < xs.length
  · obtain ⟨go, yl⟩ := items i xs[i] (List.getElem?_eq_getElem hlt)
    rw [List.drop_eq_getElem_cons hlt] at hl
    unfold loopF at hl
    obtain ⟨ρ1, e2, hl⟩ := Option.bind_eq_some_iff.mp hl
    obtain ⟨o, e3, hl⟩ := Option.bind_eq_some_iff.mp hl
    refine .inr ⟨go, fun σ'' H'' => ∃ O'' ρ'' n'', StepS C O O'' H1 H'' ∧ EnvOk C O'' X.K σ'' H'' ρ'' n'' ∧ loopF g body (xs.drop (i + 1)) ρ'' n'' = some out, ?_, fun v H2 y => ?_⟩
    · rintro σ'' H'' ⟨O'', ρ'', n'', S'', E'', hl''⟩
      exact ⟨xs.length - (i + 1), by omega, O'', ρ'', n'', rfl, hlt, S'', E'', hl''⟩
    · obtain ⟨gr, it2⟩ := yl v H2 y
      have r := it2 (Av C O') S'.keep E'.av
      have E2 := E'.step gr.step (gr.town E'.town)
      have S2 : StepS C O O' H1 H2 := S'.trans gr.step.stepS0
      refine ⟨C, O', ρ', n', xs[i], ρ1, e2, E2, r, fun O3 vs s3 E3 => ⟨C, O3, ρ1, n', o, e3, E3, np.step E (s.stepS0.trans (S2.trans s3)), ?_⟩⟩
      cases o with
      | nx ρ4 n4 => exact fun O4 σ4 H4 s4 E4 => ⟨O4, ρ4, n4, (S2.trans s3).trans s4, E4, hl⟩
      | bk ρ4 n4 =>
        cases hl
        exact fun O4 σ4 H4 s4 E4 => q O4 σ4 H4 (s.stepS0.trans ((S2.trans s3).trans s4)) E4
      | rt w n4 =>
        cases hl
        exact q
  · have hie : i = xs.length := by omega
    subst hie
    rw [List.drop_length] at hl
    cases hl
    exact .inl ⟨stop, q O' σ' H' (s.stepS0.trans S') E'⟩)
end
end L2.Lv
namespace L2.Lv
open PySem PySem.Spec PyProof.Rows
/-! [..] * k -/
def eRep (fa : Fe) (db : Fd) : Fe := fun ρ n => (fa ρ n).bind fun p => match p.1 with
  | .ol xs => (db ρ p.2).bind fun q => match q.1 with
    | .int k => if -1000000 ≤ k ∧ k ≤ 1000000 ∧ xs.length * k.toNat ≤ big then some (.ol (List.replicate k.toNat xs).flatten, q.2) else none
    | _ => none
  | _ => none
section
variable {X : Cx} {a b : Expr} {fa : Fe} {db : Fd} {pos : Pos}
end
end L2.Lv
namespace L2.Lv
open PySem PySem.Spec PyProof.Rows
/-! any(xs), ints -/
theorem truth_ints {prog : Program} {w : World} {A : Around} {ns : List Int} {its : List Value} (e : IntsAre its ns) :
    TruthOf prog w A (fun i v => its.toArray[i]? = some v) (fun i => (ns.map fun k => k != 0).getD i false) := fun i v s Q E hv hq => by
  have hv' : its[i]? = some v := by simpa using hv
  have hlt : i < ns.length := by
    have h1 := (List.getElem?_eq_some_iff.mp hv').1
    have h2 := IntsAre.length e
    omega
  obtain ⟨t, ht⟩ := IntsAre.get e i ns[i] (List.getElem?_eq_getElem hlt)
  rw [hv'] at ht
  cases ht
  refine truthy_int ?_
  have hg : (ns.map fun k => k != 0).getD i false = (ns[i] != 0) := by
    rw [List.getD_eq_getElem?_getD, List.getElem?_map, List.getElem?_eq_getElem hlt]; rfl
  have hq' : Q ((ns.map fun k => k != 0).getD i false) s := hq
  rw [hg] at hq'
  exact hq'
def rAnyI (K : PySem.W.Frag) : List V → Hp → VK → Prop := fun vs H Q => ∃ (a : Addr) (ns : List Int), vs = [V.ref a] ∧ SqL K H a (ns.map V.int) ∧ Q (.bl (ns.any fun k => k != 0)) H
theorem cr_anyI {X : Cx} (hc : X.calm = true) : CallR X (.builtin "any") (rAnyI X.K) := by
  intro pins s σ H vs us Q I r h
  obtain ⟨a, ns, rfl, hs, q⟩ := h
  obtain ⟨its, rv, hl, _⟩ := I.list hs
  rw [Vals.ref1 r]
  have hb := rv.ints
  refine call_any_walk (iter_any hl.isList fun s₂ e2 st hne => ?_)
  subst e2
  refine ⟨_, _, _, _, _, _, _, rfl, Walks.list (A := X.A.in1) (I.ok.hd hc) _ a hne its.toArray, st, truth_ints hb, fun h' tk hk => ?_⟩
  refine ⟨.bl _, H, I.kept fun b o eo => hk b o (fun hmem => ?_) (Heap.get?_push_of_some _ eo), ?_, q⟩
  · rcases List.mem_cons.mp hmem with e1 | hmem
    · exact absurd (e1 ▸ Heap.lt_size eo) (Nat.lt_irrefl _)
    · cases hmem
  · show Value.bool _ = Value.bool _
    have h1 : its.toArray.size = (ns.map fun k => k != 0).length := by
      rw [List.size_toArray, List.length_map, ← rv.length, List.length_map]
    rw [h1, any_range, List.any_map]
    rfl
def gAnyI : List PyData → Option W
  | [.list xs] => (intsOf xs).map fun ns => .d (.bool (ns.any fun k => k != 0))
  | _ => none
theorem cv_anyI {X : Cx} (hc : X.calm = true) : CallV X (.builtin "any") gAnyI := ⟨_, cr_anyI hc, fun A T vs xs w H Q tr rx e q => by
  unfold gAnyI at e
  split at e
  · rename_i ys
    obtain ⟨bs, h, e⟩ := Option.map_eq_some_iff.mp e
    subst e
    obtain ⟨v, rfl, r⟩ := rx.one
    obtain ⟨a, us, rfl, h1, h2⟩ := r.lst
    rw [intsOf_ok h] at h2
    rw [h2.ints] at h1
    exact ⟨a, bs, rfl, h1, q _ _ Grow.refl (.bl _)⟩
  · cases e⟩
def gAnyX : List PyData → Option W := fun xs => (gAny xs).or (gAnyI xs)
theorem cv_anyX {X : Cx} (hc : X.calm = true) : CallV X (.builtin "any") gAnyX := (cv_any hc).or (cv_anyI hc)
end L2.Lv
namespace L2.Lv
open PySem PySem.Spec PyProof.Rows
/-! x.index(y), any data -/
section
variable {prog : Program} {w : World} {A : Around} {E : Value → Shared → Prop} {s : Shared}
end
section
variable {X : Cx}
def gIndexD (x : PyData) (ys : List PyData) : Option W := match x, ys with
  | .list xs, [y] => if shp y && shp (.list xs) then (SeqAt.dataPlace xs y).map fun j => .d (.int (j : Nat)) else none
  | _, _ => none
theorem MtV.or {id : String} {g g' : PyData → List PyData → Option W} (hg : MtV X id g) (hh : MtV X id g') : MtV X id (fun x xs => (g x xs).or (g' x xs)) := by
  obtain ⟨r, h1, h2⟩ := hg
  obtain ⟨r', h1', h2'⟩ := hh
  refine ⟨fun x vs H Q => r x vs H Q ∨ r' x vs H Q, ?_, fun A T x vs dx xs w H Q tr rx rxs e q => ?_⟩
  · intro pins s σ H x xs v us Q I rx rxs h
    rcases h with h | h
    · exact h1 pins s σ H x xs v us Q I rx rxs h
    · exact h1' pins s σ H x xs v us Q I rx rxs h
  · have e : (g dx xs).or (g' dx xs) = some w := e
    cases hq : g dx xs with
    | some z =>
      rw [hq] at e
      cases e
      exact .inl (h2 A T x vs dx xs _ H Q tr rx rxs hq q)
    | none =>
      rw [hq, Option.none_or] at e
      exact .inr (h2' A T x vs dx xs _ H Q tr rx rxs e q)
def gIndexLX (x : PyData) (xs : List PyData) : Option W := (gIndexL x xs).or (gIndexD x xs)
end
end L2.Lv
namespace L2.Lv
open PySem PySem.Spec PyProof.Rows
/-! set(xs), xs a list of ints -/
section
variable {P : Program} {w : World} {A : Around} {E : Value → Shared → Prop} {s : Shared}
abbrev emptySet (w : World) : Obj := { cls := .type "set", dict := none, data := .set #[] 0 (.fresh 0 0 (!w.params.followText "set-order")) }
/-- what the filling of a fresh set leaves -/
def Filled (w : World) (s : Shared) (ns : List Int) (a : Addr) (s2 : Shared) : Prop :=
  ∃ h' tk c, s2 = { s with heap := h', toks := tk } ∧ SetR w h' a (fun j => decide (j ∈ ns)) c ∧ c ≤ ns.length ∧ ∀ b o, b ≠ a → s.heap.get? b = some o → h'.get? b = some o
theorem init_list {l S : Addr} {items : Array Value} (ns : List Int) (hh : A.handled = none) (hl : s.heap.IsList l items) (hit : IntsAre items.toList ns) (hb : ns.length + 1 < scanBound) (hS : s.heap.get? S = some (emptySet w)) (hne : l ≠ S)
    (hT : s.TypeIs (.ref S) "set") : codeAny (model P w) A (.call (.builtin "set.__init__") ⟨[.ref S, .ref l], []⟩) (wants (fun r s₂ => r = .none ∧ Filled w s ns S s₂) E) s := by
  have hisz : items.size = ns.length := by
    have q := IntsAre.length hit
    rwa [Array.length_toList] at q
  refine codeAny_call_builtin F.called_set.init.plain F.entry_set_init (check_set_init_1 hT ?_)
  have hset := F.sub_list_set
  have hfro := F.sub_list_frozenset
  have hdict : (Value.type "list" == Value.type "dict") = false := by decide
  obtain ⟨⟨oc, od, odt, osl⟩, ho, hc, k, hd⟩ := id hl
  simp only at hc hd
  subst hc hd
  unfold Builtin.«set.__init__» noKeywords Builtin.Frozenset.updateFrom
  generalize hit' : pyIter = it
  wp_walk
  subst hit'
  have hlt : l < s.heap.objs.size := Heap.lt_size ho
  have hSt : S < s.heap.objs.size := Heap.lt_size hS
  refine iter_any hl fun s2 e2 st hn => ?_
  subst e2
  refine wpAny_bind (wpAny_runValue ?_)
  have h3 : A.in1.in1.handled = none := by simp [hh]
  have hf : S ∉ [s.heap.objs.size, l] := by
    intro q
    rcases List.mem_cons.mp q with q | q
    · exact absurd (q ▸ hSt) (Nat.lt_irrefl _)
    · exact hne (List.mem_singleton.mp q).symm
  refine set_update_ints (Walks.list h3 s.heap.objs.size l hn items).toS S hf ns hisz hb (fun i v hv => ?_) (items.size - 0) 0 _ rfl (Nat.zero_le _) st ⟨0, Nat.le_refl _, setR_new_at (Heap.get?_push_of_some _ hS)⟩ fun s' c hm hc hR => ?_
  · have hi := (Array.getElem?_eq_some_iff.mp hv).1
    obtain ⟨t, e⟩ := IntsAre.get hit i ns[i] (List.getElem?_eq_getElem (by omega))
    rw [Array.getElem?_toList, hv] at e
    exact ⟨ns[i], t, List.getElem?_eq_getElem (by omega), Option.some.inj e⟩
  · obtain ⟨h', g', d', tk', os'⟩ := s'
    have e1 : g' = s.gens := hm.gens
    have e2 : d' = s.drawn := hm.drawn
    have e3 : os' = s.os := hm.os
    subst e1 e2 e3
    refine wpAny_pure ?_
    show wpAny _ _ (ret Value.none) _ _ _
    refine wpAny_pure ⟨rfl, h', tk', c, rfl, hR, by omega, fun b o hb e => hm.heap b o (fun q => ?_) (Heap.get?_push_of_some _ e)⟩
    rcases List.mem_cons.mp q with q | q
    · exact hb q
    · rw [List.mem_singleton.mp q] at e
      exact absurd (Heap.lt_size e) (Nat.lt_irrefl _)
/-- set(xs) -/
theorem call_set_ints {l : Addr} {items : Array Value} (ns : List Int) {Q : Value → Shared → Prop} (hh : A.handled = none) (hl : s.heap.IsList l items) (hit : IntsAre items.toList ns) (hb : ns.length + 1 < scanBound)
    (h : ∀ (h' : Heap) (tk c : Nat), SetR w h' s.heap.objs.size (fun j => decide (j ∈ ns)) c → c ≤ ns.length → (∀ b o, s.heap.get? b = some o → h'.get? b = some o) → Q (.ref s.heap.objs.size) { s with heap := h', toks := tk }) :
    wpAny (model P w) A (call (.type "set") [.ref l]) Q E s := by
  obtain ⟨c, tl, hmro⟩ := F.called_set.mro
  have h0 := F.called_set.made
  have h1 := F.called_set.sub
  have h2 := F.called_set.notType
  have h3 := F.called_set.canCreate
  have h4 := F.typeCall_set_1 (.ref l)
  have hlt : l < s.heap.objs.size := by obtain ⟨_, e, _⟩ := hl; exact Heap.lt_size e
  refine wpAny_call (codeAny_of_tree ?_)
  show wpAny _ _ (callAny (.type "set") _) _ _ _
  refine wpAny_pure ⟨Code.quiet_builtin _ (by decide +kernel), codeAny_builtin F.entry_type_call ?_⟩
  rw [Around.under_plain (weight_type_call_type "set" [.ref l] []) rfl]
  repeat (any_goals (first | assumption | wp_step))
  have made := code_set_led1 (P := P) (w := w) (A := A.in1) (E := E) (s := s) (.ref l) (Q₁ := fun x s1 => x = .ref s.heap.objs.size ∧ s1 = { s with heap := s.heap.push (emptySet w) }) ⟨rfl, rfl⟩
  refine codeAny_mono made fun r s1 hr => ?_
  match r, hr with
  | .error e, hr => exact hr
  | .ok (.ret x), ⟨e1, e2⟩ =>
    subst e1 e2
    have hget : (s.heap.push (emptySet w)).get? s.heap.objs.size = some (emptySet w) := Heap.get?_push_size _ rfl
    have hT : Shared.TypeIs { s with heap := s.heap.push (emptySet w) } (.ref s.heap.objs.size) "set" := ⟨_, hget, rfl⟩
    have h5 := F.called_set.init.lookup
    have h6 := F.called_set.init.bind (.ref s.heap.objs.size)
    repeat (any_goals (first | assumption | wp_step))
    have hl2 : (s.heap.push (emptySet w)).IsList l items := by
      obtain ⟨o, a1, a2⟩ := hl
      exact ⟨o, Heap.get?_push_of_some _ a1, a2⟩
    refine codeAny_mono (init_list (E := E) (s := { s with heap := s.heap.push (emptySet w) }) (l := l) (S := s.heap.objs.size) (items := items) ns (by simp [hh]) hl2 hit hb hget (Nat.ne_of_lt hlt) hT) fun r2 s2 hr2 => ?_
    match r2, hr2 with
    | .error e, hr2 => exact hr2
    | .ok (.ret y), ⟨e3, h', tk, c', e4, hR, hc', hk⟩ =>
      subst e3 e4
      repeat (any_goals (first | assumption | wp_step))
      exact h h' tk c' hR hc' fun b o e => hk b o (fun q => absurd (q ▸ Heap.lt_size e) (Nat.lt_irrefl _)) (Heap.get?_push_of_some _ e)
end
def rSetI (w : World) (K : PySem.W.Frag) : List V → Hp → VK → Prop := fun vs H Q => ∃ (a : Addr) (ns : List Int), vs = [V.ref a] ∧ SqL K H a (ns.map V.int) ∧ ns.length ≤ 1000 ∧ ∀ (p : Addr) (c : Nat), H p = none → c ≤ ns.length → Q (.ref p) (upd H p (SetO w p (fun j => decide (j ∈ ns)) c))
theorem cr_setI {X : Cx} (hc : X.calm = true) : CallR X (.type "set") (rSetI X.w X.K) := by
  intro pins s σ H vs us Q I r h
  obtain ⟨a, ns, rfl, hs, hn, q⟩ := h
  obtain ⟨its, rv, hl, _⟩ := I.list hs
  rw [Vals.ref1 r]
  refine call_set_ints ns (I.ok.hd hc) hl.isList rv.ints (by unfold scanBound; omega) fun h' tk c R hcn k => ?_
  have hp : H s.heap.objs.size = none := I.hok.fresh (Nat.le_refl _)
  have J : Inv X pins σ (upd H s.heap.objs.size (SetO X.w s.heap.objs.size (fun j => decide (j ∈ ns)) c)) { s with heap := h', toks := tk } :=
    I.call (ch := []) (Un.laid k (Nat.le_refl _) hp) (I.hok.laid k (Nat.le_refl _) (setO_new R)) I.bare (fun _ z => nomatch z)
  exact ⟨.ref _, _, J, rfl, q _ c hp hcn⟩
/-- the distinct ones, in order -/
def insS (x : Int) : List Int → List Int
  | [] => [x]
  | y :: ys => if x < y then x :: y :: ys else if x = y then y :: ys else y :: insS x ys
def ssetI : List Int → List Int
  | [] => []
  | x :: xs => insS x (ssetI xs)
theorem insS_mem (x z : Int) : ∀ ys : List Int, z ∈ insS x ys ↔ z = x ∨ z ∈ ys
  | [] => by simp [insS]
  | y :: ys => by
    unfold insS
    split
    · simp
    · split
      · rename_i e; subst e; simp
      · rw [List.mem_cons, insS_mem x z ys, List.mem_cons]
        constructor
        · rintro (h | h | h)
          · exact .inr (.inl h)
          · exact .inl h
          · exact .inr (.inr h)
        · rintro (h | h | h)
          · exact .inr (.inl h)
          · exact .inl h
          · exact .inr (.inr h)
theorem insS_pw (x : Int) : ∀ ys : List Int, ys.Pairwise (· < ·) → (insS x ys).Pairwise (· < ·)
  | [], _ => List.pairwise_singleton _ _
  | y :: ys, h => by
    obtain ⟨h1, h2⟩ := List.pairwise_cons.mp h
    unfold insS
    split
    · rename_i c
      refine List.pairwise_cons.mpr ⟨fun z hz => ?_, h⟩
      rcases List.mem_cons.mp hz with rfl | hz
      · exact c
      · have := h1 z hz; omega
    · split
      · exact h
      · rename_i c d
        refine List.pairwise_cons.mpr ⟨fun z hz => ?_, insS_pw x ys h2⟩
        rcases (insS_mem x z ys).mp hz with rfl | hz
        · omega
        · exact h1 z hz
theorem ssetI_mem (z : Int) : ∀ xs : List Int, z ∈ ssetI xs ↔ z ∈ xs
  | [] => Iff.rfl
  | x :: xs => by unfold ssetI; rw [insS_mem, ssetI_mem z xs, List.mem_cons]
theorem ssetI_pw : ∀ xs : List Int, (ssetI xs).Pairwise (· < ·)
  | [] => List.Pairwise.nil
  | x :: xs => insS_pw x _ (ssetI_pw xs)
theorem up_uniq : ∀ {xs ys : List Int}, xs.Pairwise (· < ·) → ys.Pairwise (· < ·) → (∀ z, z ∈ xs ↔ z ∈ ys) → xs = ys
  | [], [], _, _, _ => rfl
  | [], y :: ys, _, _, h => by have := (h y).mpr (by simp); cases this
  | x :: xs, [], _, _, h => by have := (h x).mp (by simp); cases this
  | x :: xs, y :: ys, h1, h2, h => by
    obtain ⟨a1, a2⟩ := List.pairwise_cons.mp h1
    obtain ⟨b1, b2⟩ := List.pairwise_cons.mp h2
    have e : x = y := by
      rcases List.mem_cons.mp ((h x).mp (by simp)) with e | hx
      · exact e
      · rcases List.mem_cons.mp ((h y).mpr (by simp)) with e | hy
        · exact e.symm
        · have := b1 x hx; have := a1 y hy; omega
    subst e
    congr 1
    refine up_uniq a2 b2 fun z => ?_
    have hz := h z
    rw [List.mem_cons, List.mem_cons] at hz
    constructor
    · intro q
      rcases hz.mp (.inr q) with e | e
      · subst e; exact absurd (a1 z q) (Int.lt_irrefl _)
      · exact e
    · intro q
      rcases hz.mpr (.inr q) with e | e
      · subst e; exact absurd (b1 z q) (Int.lt_irrefl _)
      · exact e
def gSortSet : List PyData → Option W
  | [.list xs] => (intsOf xs).bind fun ns => if ns.length < 64 then some (.ol ((ssetI ns).map .int)) else none
  | _ => none
theorem dvAll_ints {A : Addr → Prop} {K : PySem.W.Frag} {H : Hp} : ∀ ns : List Int, DvAll A K H (ns.map V.int) (ns.map .int)
  | [] => .nil
  | n :: ns => .cons (.int n) (dvAll_ints ns)
theorem ev_sortSet {X : Cx} {e : Expr} {ds : Fds} {p p2 pos pos2 : Pos} (hc : X.calm = true) (hg : Gl X "sorted") (hm : X.mg "sorted" = none) (hg2 : Gl X "set") (hm2 : X.mg "set" = none) (ha : EvD X [e] ds)
    (hbs : bootBuiltins "sorted" = some (.builtin "sorted")) (he : starEach [e] X.env = (false, eval e X.env) :: starEach [] X.env := by rfl)
    (he2 : starEach [Expr.Call (.Name "set" p2) [e] [] pos2] X.env = (false, eval (Expr.Call (.Name "set" p2) [e] [] pos2) X.env) :: starEach [] X.env := by rfl)
    (hpl : (backTo pos (starEach [] X.env)).any (·.1) = false := by rfl) (hpl2 : (backTo pos2 (starEach [] X.env)).any (·.1) = false := by rfl) :
    EvE X (.Call (.Name "sorted" p) [.Call (.Name "set" p2) [e] [] pos2] [] pos) (eApp gSortSet ds) := by
  have inner := pe_callTy (cr_setI hc) hg2 hm2 PyProof.Rows.boot_set ha (pos := pos2) (p := p2) (he := he) (hpl := hpl2)
  refine peI (pe_callB (cr_sortedSet hc) hg hm hbs (pa_cons inner pa_nil he2) (by decide) (by decide) he2 hpl) fun σ H Q h => ?_
  refine app_run (r := fun vs H Q => rSetI X.w X.K vs H fun v H2 => rSortedSet X.w [v] H2 Q) (fun A T vs xs w H Q tr rx e q => ?_) h
  unfold gSortSet at e
  split at e
  · rename_i ys
    obtain ⟨ns, h1, e⟩ := Option.bind_eq_some_iff.mp e
    split at e
    · rename_i hlen
      cases e
      obtain ⟨v, rfl, r⟩ := rx.one
      obtain ⟨a, us, rfl, k1, k2⟩ := r.lst
      rw [intsOf_ok h1] at k2
      rw [k2.ints] at k1
      refine ⟨a, ns, rfl, k1, by omega, fun p c hp hcn => ⟨p, _, c, rfl, upd_same, by omega, fun out p' o1 o2 _ hp' => ?_⟩⟩
      have eo : out = ssetI ns := up_uniq o1 (ssetI_pw ns) fun z => by rw [o2, decide_eq_true_eq, ssetI_mem]
      subst eo
      refine q _ _ ((Grow.upd hp).trans (Grow.upd hp')) (Res.back (fun b hb => ?_) (new_lst hp' (dvAll_ints _)))
      cases hh : H b with
      | none => rfl
      | some u => rw [Grow.upd hp b u hh] at hb; cases hb
    · cases e
  · cases e
end L2.Lv
namespace L2.Lv
open PySem PySem.Spec PyProof.Rows
/-! max(xs), min(xs), ints -/
def topI : Int → List Int → Int
  | x, [] => x
  | x, y :: ys => topI (if x < y then y else x) ys
def lowI : Int → List Int → Int
  | x, [] => x
  | x, y :: ys => lowI (if y < x then y else x) ys
theorem topI_spec : ∀ (xs : List Int) (x : Int), (topI x xs = x ∨ topI x xs ∈ xs) ∧ x ≤ topI x xs ∧ ∀ z ∈ xs, z ≤ topI x xs
  | [], x => ⟨.inl rfl, Int.le_refl _, by simp⟩
  | y :: ys, x => by
    obtain ⟨h1, h2, h3⟩ := topI_spec ys (if x < y then y else x)
    show (topI (if x < y then y else x) ys = x ∨ topI (if x < y then y else x) ys ∈ y :: ys) ∧ x ≤ topI (if x < y then y else x) ys ∧ ∀ z ∈ y :: ys, z ≤ topI (if x < y then y else x) ys
    generalize topI (if x < y then y else x) ys = m at *
    refine ⟨?_, ?_, fun z hz => ?_⟩
    · rcases h1 with h1 | h1
      · split at h1
        · exact .inr (by rw [h1]; exact List.mem_cons_self ..)
        · exact .inl h1
      · exact .inr (List.mem_cons_of_mem _ h1)
    · split at h2 <;> omega
    · rcases List.mem_cons.mp hz with rfl | hz
      · split at h2 <;> omega
      · exact h3 z hz
theorem lowI_spec : ∀ (xs : List Int) (x : Int), (lowI x xs = x ∨ lowI x xs ∈ xs) ∧ lowI x xs ≤ x ∧ ∀ z ∈ xs, lowI x xs ≤ z
  | [], x => ⟨.inl rfl, Int.le_refl _, by simp⟩
  | y :: ys, x => by
    obtain ⟨h1, h2, h3⟩ := lowI_spec ys (if y < x then y else x)
    show (lowI (if y < x then y else x) ys = x ∨ lowI (if y < x then y else x) ys ∈ y :: ys) ∧ lowI (if y < x then y else x) ys ≤ x ∧ ∀ z ∈ y :: ys, lowI (if y < x then y else x) ys ≤ z
    generalize lowI (if y < x then y else x) ys = m at *
    refine ⟨?_, ?_, fun z hz => ?_⟩
    · rcases h1 with h1 | h1
      · split at h1
        · exact .inr (by rw [h1]; exact List.mem_cons_self ..)
        · exact .inl h1
      · exact .inr (List.mem_cons_of_mem _ h1)
    · split at h2 <;> omega
    · rcases List.mem_cons.mp hz with rfl | hz
      · split at h2 <;> omega
      · exact h3 z hz
theorem top_uniq {x m : Int} {xs : List Int} (h : m ∈ x :: xs) (hm : ∀ y ∈ x :: xs, y ≤ m) : m = topI x xs := by
  obtain ⟨h1, h2, h3⟩ := topI_spec xs x
  have a : topI x xs ≤ m := hm _ (by rcases h1 with e | e; · rw [e]; exact List.mem_cons_self ..
                                     · exact List.mem_cons_of_mem _ e)
  have b : m ≤ topI x xs := by
    rcases List.mem_cons.mp h with rfl | h
    · exact h2
    · exact h3 m h
  omega
theorem low_uniq {x m : Int} {xs : List Int} (h : m ∈ x :: xs) (hm : ∀ y ∈ x :: xs, m ≤ y) : m = lowI x xs := by
  obtain ⟨h1, h2, h3⟩ := lowI_spec xs x
  have a : m ≤ lowI x xs := hm _ (by rcases h1 with e | e; · rw [e]; exact List.mem_cons_self ..
                                     · exact List.mem_cons_of_mem _ e)
  have b : lowI x xs ≤ m := by
    rcases List.mem_cons.mp h with rfl | h
    · exact h2
    · exact h3 m h
  omega
section
variable {X : Cx}
def gMaxL : List PyData → Option W
  | [.list xs] => (intsOf xs).bind fun ns => match ns with
    | [] => none
    | n :: ns => some (.d (.int (topI n ns)))
  | _ => none
theorem cv_maxL (hc : X.calm = true) : CallV X (.builtin "max") gMaxL := ⟨_, cr_max hc, fun A T vs xs w H Q tr rx e q => by
  unfold gMaxL at e
  split at e
  · rename_i ys
    obtain ⟨ns, h, e⟩ := Option.bind_eq_some_iff.mp e
    split at e
    · cases e
    · rename_i n ns
      cases e
      obtain ⟨v, rfl, r⟩ := rx.one
      obtain ⟨a, us, rfl, h1, h2⟩ := r.lst
      rw [intsOf_ok h] at h2
      rw [h2.ints] at h1
      exact ⟨a, n :: ns, rfl, h1, by simp, fun m hm hq => by rw [top_uniq hm hq]; exact q _ _ Grow.refl (.int _)⟩
  · cases e⟩
theorem maxOf_top : ∀ (xs : List Int) (x : Int), PySem.W.maxOf x xs = topI x xs
  | [], _ => rfl
  | y :: ys, x => by
    have ih := maxOf_top ys (if x < y then y else x)
    show (PySem.W.maxOf (if PySem.W.DatumOrd.lt x y = true then y else x) ys) = _
    have e : (PySem.W.DatumOrd.lt x y = true) = (x < y) := by
      show (decide (x < y) = true) = _
      simp
    simp only [e]
    exact ih
def rMaxT (K : PySem.W.Frag) : List V → Hp → VK → Prop := fun vs H Q => ∃ (a : Addr) (n : Int) (ns : List Int), vs = [V.ref a] ∧ SqT K H a ((n :: ns).map V.int) ∧ Q (.int (topI n ns)) H
theorem cr_maxT (hc : X.calm = true) (hu : X.A.units + 65 < cLine) : CallR X (.builtin "max") (rMaxT X.K) := by
  intro pins s σ H vs us Q I r h
  obtain ⟨a, n, ns, rfl, hs, q⟩ := h
  obtain ⟨its, rv, hl, _⟩ := I.tuple hs
  rw [Vals.ref1 r]
  have hi := rv.ints
  refine PySem.W.max_tuple_datum (α := Int) (x := n) (xs := ns) (I.ok.hd hc) hl ?_ ?_ fun i v h' tk hv hh hk => ?_
  · exact ⟨[], ints_readAll s.heap (by simpa using hi)⟩
  · show X.A.units + 1 + 0 < cLine
    omega
  · rw [maxOf_top] at hh
    obtain ⟨as, hr⟩ := hh
    have hr : Reads h' v (.int (topI n ns)) as := hr
    cases hr with
    | int _ t => exact ⟨.int _, H, I.kept hk, ⟨t, rfl⟩, q⟩
def gMaxT : List PyData → Option W
  | [.tuple xs] => (intsOf xs).bind fun ns => match ns with
    | [] => none
    | n :: ns => some (.d (.int (topI n ns)))
  | _ => none
theorem cv_maxT (hc : X.calm = true) (hu : X.A.units + 65 < cLine) : CallV X (.builtin "max") gMaxT := ⟨_, cr_maxT hc hu, fun A T vs xs w H Q tr rx e q => by
  unfold gMaxT at e
  split at e
  · rename_i ys
    obtain ⟨ns, h, e⟩ := Option.bind_eq_some_iff.mp e
    split at e
    · cases e
    · rename_i n ns
      cases e
      obtain ⟨v, rfl, r⟩ := rx.one
      obtain ⟨a, us, rfl, h1, h2, _⟩ := r.tup
      rw [intsOf_ok h] at h2
      rw [h2.ints] at h1
      exact ⟨a, n, ns, rfl, h1, q _ _ Grow.refl (.int _)⟩
  · cases e⟩
def gMax1 : List PyData → Option W := fun xs => (gMaxL xs).or (gMaxT xs)
theorem cv_max1 (hc : X.calm = true) (hu : X.A.units + 65 < cLine) : CallV X (.builtin "max") gMax1 := (cv_maxL hc).or (cv_maxT hc hu)
end
end L2.Lv
namespace L2.Lv
open PySem PySem.Spec PyProof.Rows
/-! sorted(dict([(k, ..), ..])), ints -/
def pairKs : List PyData → Option (List Int)
  | [] => some []
  | .tuple [.int k, _] :: xs => (pairKs xs).map (k :: ·)
  | _ :: _ => none
def keyF (acc : List Int) (k : Int) : List Int := if k ∈ acc then acc else acc ++ [k]
theorem put_keys {kvs : List (Key × V)} {acc : List Int} (h : kvs.map (·.1) = acc.map Sum.inl) (k : Int) (v : V) : (putK kvs (Sum.inl k) v).map (·.1) = (keyF acc k).map Sum.inl := by
  have ha : (kvs.any fun kv => decide (kv.1 = Sum.inl k)) = decide (k ∈ acc) := by
    have e : (kvs.any fun kv => decide (kv.1 = Sum.inl k)) = (kvs.map (·.1)).any fun x => decide (x = Sum.inl k) := by rw [List.any_map]; rfl
    rw [e, h, List.any_map, Bool.eq_iff_iff, List.any_eq_true, decide_eq_true_eq]
    constructor
    · rintro ⟨x, h1, h2⟩
      have := of_decide_eq_true h2
      cases this
      exact h1
    · intro h1
      exact ⟨k, h1, decide_eq_true rfl⟩
  unfold putK keyF
  rw [ha]
  by_cases c : k ∈ acc
  · rw [if_pos (decide_eq_true c), if_pos c, ← h, List.map_map]
    refine List.map_congr_left fun kv _ => ?_
    show (if kv.1 = Sum.inl k then (kv.1, v) else kv).1 = kv.1
    split <;> rfl
  · rw [if_neg (by simpa using c), if_neg c, List.map_append, h, List.map_append]
    rfl
theorem merge_keys : ∀ (more kvs : List (Key × V)) (ks acc : List Int), more.map (·.1) = ks.map Sum.inl → kvs.map (·.1) = acc.map Sum.inl → (mergeK kvs more).map (·.1) = (ks.foldl keyF acc).map Sum.inl
  | [], kvs, [], acc, _, h => h
  | [], _, _ :: _, _, h, _ => by cases h
  | _ :: _, _, [], _, h, _ => by cases h
  | (k', v) :: more, kvs, k :: ks, acc, h1, h2 => by
    rw [List.map_cons, List.map_cons] at h1
    obtain ⟨e, h3⟩ := List.cons.inj h1
    have e : k' = Sum.inl k := e
    subst e
    exact merge_keys more (putK kvs (Sum.inl k) v) ks (keyF acc k) h3 (put_keys h2 k v)
theorem keyF_facts : ∀ (ks acc : List Int), acc.Nodup → (ks.foldl keyF acc).Nodup ∧ (∀ z, z ∈ ks.foldl keyF acc ↔ z ∈ acc ∨ z ∈ ks) ∧ (ks.foldl keyF acc).length ≤ acc.length + ks.length
  | [], acc, h => ⟨h, fun z => by simp, by simp⟩
  | k :: ks, acc, h => by
    have h0 : (keyF acc k).Nodup ∧ (∀ z, z ∈ keyF acc k ↔ z ∈ acc ∨ z = k) ∧ (keyF acc k).length ≤ acc.length + 1 := by
      unfold keyF
      split
      · rename_i c
        exact ⟨h, fun z => ⟨.inl, fun q => q.elim id fun e => e ▸ c⟩, Nat.le_succ _⟩
      · rename_i c
        refine ⟨?_, fun z => by simp, by simp⟩
        rw [List.nodup_append]
        exact ⟨h, by simp, fun a ha b hb => by
          rw [List.mem_singleton.mp hb]; exact fun e => c (e ▸ ha)⟩
    obtain ⟨h1, h2, h3⟩ := keyF_facts ks (keyF acc k) h0.1
    refine ⟨h1, fun z => ?_, ?_⟩
    · rw [List.foldl_cons, h2, h0.2.1, List.mem_cons]
      constructor
      · rintro ((q | q) | q)
        · exact .inl q
        · exact .inr (.inl q)
        · exact .inr (.inr q)
      · rintro (q | q | q)
        · exact .inl (.inl q)
        · exact .inl (.inr q)
        · exact .inr q
    · have := h0.2.2
      rw [List.foldl_cons, List.length_cons]; omega
theorem sset_of {ys ks : List Int} (hp : ys.Perm (ks.foldl keyF [])) (hs : ys.Pairwise (· ≤ ·)) : ys = ssetI ks := by
  obtain ⟨h1, h2, _⟩ := keyF_facts ks [] List.nodup_nil
  have hn : ys.Nodup := hp.nodup_iff.mpr h1
  refine up_uniq (hs.imp₂ (fun a b q1 q2 => by have q2 : a ≠ b := q2; omega) hn) (ssetI_pw ks) fun z => ?_
  rw [hp.mem_iff, h2, ssetI_mem]
  simp
theorem dvAll_pairs {A : Addr → Prop} {K : PySem.W.Frag} {H : Hp} : ∀ {xs : List PyData} {vs : List V} {ks : List Int}, pairKs xs = some ks → DvAll A K H vs xs → ∃ (ps : List Addr) (kvs : List (Key × V)), vs = ps.map V.ref ∧ Paired (fun p kv => SqT K H p [kV kv.1, kv.2]) ps kvs ∧ kvs.map (·.1) = ks.map Sum.inl
  | [], vs, ks, h, d => by
    cases d
    cases h
    exact ⟨[], [], rfl, .nil, rfl⟩
  | x :: xs, vs, ks, h, d => by
    cases d with
    | @cons v vs _ _ dx dxs =>
      unfold pairKs at h
      split at h
      · rename_i e; cases e
      · rename_i k y xs' e
        cases e
        obtain ⟨ks', h1, rfl⟩ := Option.map_eq_some_iff.mp h
        obtain ⟨ps, kvs, rfl, h2, h3⟩ := dvAll_pairs h1 dxs
        cases dx with
        | @tup a us _ hs ha =>
          cases ha with
          | cons d1 ha =>
            cases ha with
            | cons d2 ha =>
              cases ha
              cases d1
              rename_i v2
              exact ⟨a :: ps, (Sum.inl k, v2) :: kvs, rfl, .cons (sqT_of hs) h2, by rw [List.map_cons, List.map_cons, h3]⟩
      · cases h
def gSortDict : List PyData → Option W
  | [.list xs] => (pairKs xs).bind fun ks => if ks.length < 64 then some (.ol ((ssetI ks).map .int)) else none
  | _ => none
theorem ev_sortDict {X : Cx} {e : Expr} {ds : Fds} {p p2 pos pos2 : Pos} (hc : X.calm = true) (hg : Gl X "sorted") (hm : X.mg "sorted" = none) (hg2 : Gl X "dict") (hm2 : X.mg "dict" = none) (ha : EvD X [e] ds)
    (hbs : bootBuiltins "sorted" = some (.builtin "sorted")) (hbd : bootBuiltins "dict" = some (.type "dict")) (he : starEach [e] X.env = (false, eval e X.env) :: starEach [] X.env := by rfl)
    (he2 : starEach [Expr.Call (.Name "dict" p2) [e] [] pos2] X.env = (false, eval (Expr.Call (.Name "dict" p2) [e] [] pos2) X.env) :: starEach [] X.env := by rfl)
    (hpl : (backTo pos (starEach [] X.env)).any (·.1) = false := by rfl) (hpl2 : (backTo pos2 (starEach [] X.env)).any (·.1) = false := by rfl) :
    EvE X (.Call (.Name "sorted" p) [.Call (.Name "dict" p2) [e] [] pos2] [] pos) (eApp gSortDict ds) := by
  have inner := pe_callTy (call_dictP hc) hg2 hm2 hbd ha (pos := pos2) (p := p2) (he := he) (hpl := hpl2)
  refine peI (pe_callB (call_sortedDI hc) hg hm hbs (pa_cons inner pa_nil he2) (by decide) (by decide) he2 hpl) fun σ H Q h => ?_
  refine app_run (r := fun vs H Q => ∃ (a : Addr) (ps : List Addr) (kvs : List (Key × V)), vs = [V.ref a] ∧ SqL X.K H a (ps.map V.ref) ∧ Paired (fun p kv => SqT X.K H p [kV kv.1, kv.2]) ps kvs ∧
    ∀ p, H p = none → (fun (v : V) (H2 : Hp) => ∃ (a : Addr) (kvs : List (Key × V)) (ks : List Int), [v] = [V.ref a] ∧ Rd H2 a (.dK kvs) ∧ kvs.map (·.1) = ks.map Sum.inl ∧ ks.length < 64 ∧
      ∀ (ys : List Int) (p : Addr), ys.Perm ks → ys.Pairwise (· ≤ ·) → H2 p = none → Q (V.ref p) (upd H2 p (.lst (ys.map V.int)))) (V.ref p) (upd H p (.dK (mergeK [] kvs)))) (fun A T vs xs w H Q tr rx e q => ?_) h
  unfold gSortDict at e
  split at e
  · rename_i ys
    obtain ⟨ks, h1, e⟩ := Option.bind_eq_some_iff.mp e
    split at e
    · rename_i hlen
      cases e
      obtain ⟨v, rfl, r⟩ := rx.one
      obtain ⟨a, us, rfl, k1, k2⟩ := r.lst
      obtain ⟨ps, kvs, rfl, k3, k4⟩ := dvAll_pairs h1 k2
      obtain ⟨f1, f2, f3⟩ := keyF_facts ks [] List.nodup_nil
      refine ⟨a, ps, kvs, rfl, k1, k3, fun p hp => ⟨p, _, ks.foldl keyF [], rfl, Rd.of upd_same, merge_keys kvs [] ks [] k4 rfl, by simp at f3; omega, fun out p' o1 o2 hp' => ?_⟩⟩
      have eo := sset_of o1 o2
      subst eo
      refine q _ _ ((Grow.upd hp).trans (Grow.upd hp')) (Res.back (fun b hb => ?_) (new_lst hp' (dvAll_ints _)))
      cases hh : H b with
      | none => rfl
      | some u => rw [Grow.upd hp b u hh] at hb; cases hb
    · cases e
  · cases e
end L2.Lv
namespace L2.Lv
open PySem PySem.Spec PyProof.Rows
/-! len(set(xs)), ints -/
/-! a tuple of texts that the module holds -/
/-! (..) * k -/
end L2.Lv
namespace L2.Lv
open PySem PySem.Spec PyProof.Rows
/-! dicts: the keys ints, or tuples of ints -/
theorem DTat.full {P : Program} {w : World} {h : Heap} {a : Addr} {xs : List (List Int × Addr × Value)} (d : DTat h a xs) (hk : ∀ x ∈ xs, IsTupleKey (intKind P w) h x.1 x.2.1) : h.DictOfH (tupleKind (intKind P w)) a xs := by
  obtain ⟨_, _, P', w', o, es, ep, h1, h2, h3, h4, h5⟩ := d
  exact ⟨o, es, ep, h1, h2, h3, h4.trans (List.map_congr_left fun x _ => rfl), hk, h5⟩
theorem DTat.of {P : Program} {w : World} {h : Heap} {a : Addr} {xs : List (List Int × Addr × Value)} (hz : xs.length ≤ sizeLine) (hs : (a == sysModules) = false) (d : h.DictOfH (tupleKind (intKind P w)) a xs) : DTat h a xs := by
  obtain ⟨o, es, ep, h1, h2, h3, h4, _, h5⟩ := d
  exact ⟨hz, hs, P, w, o, es, ep, h1, h2, h3, h4, h5⟩
theorem do_new {P : Program} {w : World} {H : Hp} {h : Heap} {a : Addr} {xs : List (List Int × Addr × Value)} (d : DTat h a xs) : ObjOk P w H h a (DO a xs) :=
  ⟨d, (by obtain ⟨_, _, _, _, o, _, _, h1, _⟩ := d; exact ⟨o, h1⟩), fun h1 h2 q k => by
    obtain ⟨z, m, P, w, o, es, ep, e1, e2⟩ := q
    exact ⟨z, m, P, w, o, es, ep, k o e1, e2⟩⟩
section
variable {X : Cx} {pins : List (Addr × Obj)} {σ : St} {H : Hp} {s : Shared} {a b : Addr} {A : Addr → Prop}
/-- a key, as the model sees it -/
def KeyAt (A : Addr → Prop) (K : PySem.W.Frag) (H : Hp) (b : Addr) (ns : List Int) : Prop := (¬ A b ∧ TupAt H b (ns.map V.int)) ∨ KTup K b (ns.map V.int)
theorem _root_.L2.Inv.keyT (I : Inv X pins σ H s) {ns : List Int} (h : KeyAt A X.K H b ns) : IsTupleKey (intKind X.prog X.w) s.heap ns b := L2.Inv.isT I (sqT_of h)
theorem _root_.L2.Inv.dct (I : Inv X pins σ H s) {xs : List (List Int × Addr × Value)} {rest : List (PyData × PyData)} (e : H a = some (DO a xs)) (r : Paired (DRel A X.K H) xs rest) : DTat s.heap a xs ∧ s.heap.DictOfH (tupleKind (intKind X.prog X.w)) a xs := by
  have d : DTat s.heap a xs := (I.hok a _ e).1
  refine ⟨d, d.full fun x hx => ?_⟩
  clear e d
  induction r with
  | nil => cases hx
  | cons h t ih =>
    rcases List.mem_cons.mp hx with rfl | hx
    · exact I.keyT h.2.1
    · exact ih hx
end
/-- what stands at a key -/
def lookT : List (PyData × PyData) → List Int → Option PyData
  | [], _ => none
  | kv :: r, ns => match kv.1 with
    | .tuple ks => if intsOf ks = some ns then some kv.2 else lookT r ns
    | _ => lookT r ns
def lookI : List (PyData × PyData) → Int → Option PyData
  | [], _ => none
  | kv :: r, i => match kv.1 with
    | .int j => if j = i then some kv.2 else lookI r i
    | _ => lookI r i
theorem lookT_at {A : Addr → Prop} {K : PySem.W.Frag} {H : Hp} {ns : List Int} : ∀ {xs : List (List Int × Addr × Value)} {rest : List (PyData × PyData)}, Paired (DRel A K H) xs rest →
    (∀ y, lookT rest ns = some y → ∃ p v, atKey xs ns = some p ∧ RelV v p.2 ∧ Dv A K H v y) ∧ (lookT rest ns = none → atKey xs ns = none)
  | [], _, .nil => ⟨fun y e => by (cases e), fun _ => rfl⟩
  | x :: xs, kv :: rest, .cons h t => by
    obtain ⟨h1, _, v, h3, h4⟩ := h
    obtain ⟨i1, i2⟩ := lookT_at (ns := ns) t
    unfold lookT
    rw [h1]
    simp only [intsOf_map, Option.some.injEq]
    by_cases c : x.1 = ns
    · rw [if_pos c]
      have e : atKey (x :: xs) ns = some x.2 := by simp [atKey, List.find?_cons, c]
      exact ⟨fun y q => by cases q; exact ⟨_, v, e, h3, h4⟩, fun q => by cases q⟩
    · rw [if_neg c]
      have e : atKey (x :: xs) ns = atKey xs ns := by simp [atKey, List.find?_cons, c]
      rw [e]
      exact ⟨i1, i2⟩
theorem lookI_at {A : Addr → Prop} {K : PySem.W.Frag} {H : Hp} {i : Int} : ∀ {ks : List (Key × V)} {kvs : List (PyData × PyData)}, Paired (fun p q => KeyD p.1 q.1 ∧ Dv A K H p.2 q.2) ks kvs →
    (∀ y, lookI kvs i = some y → ∃ v, valV ks (Sum.inl i) = some v ∧ Dv A K H v y) ∧ (lookI kvs i = none → valV ks (Sum.inl i) = none)
  | [], _, .nil => ⟨fun y e => by (cases e), fun _ => rfl⟩
  | x :: xs, kv :: rest, .cons h t => by
    obtain ⟨h1, h4⟩ := h
    obtain ⟨i1, i2⟩ := lookI_at (i := i) t
    obtain ⟨k, v⟩ := x
    obtain ⟨d, y⟩ := kv
    unfold lookI
    cases h1 with
    | int j =>
      simp only
      by_cases c : j = i
      · subst c
        rw [if_pos rfl, valV_pos rfl]
        exact ⟨fun z q => by cases q; exact ⟨v, rfl, h4⟩, fun q => by cases q⟩
      · rw [if_neg c, valV_neg (p := (Sum.inl j, v)) (fun e => c (Sum.inl.inj e))]
        exact ⟨i1, i2⟩
    | str z =>
      simp only
      rw [valV_neg (p := (Sum.inr z, v)) (fun e => (by cases e))]
      exact ⟨i1, i2⟩
/-- the key's int, the key's ints -/
def isFz : PyData × PyData → Bool
  | (.none, .bool true) => true
  | _ => false
def isMk : PyData × PyData → Bool
  | (.none, .none) => true
  | _ => false
theorem isMk_eq {p : PyData × PyData} (h : isMk p = true) : p = markT := by
  obtain ⟨x, y⟩ := p
  cases x <;> cases y <;> simp [isMk] at h <;> rfl
def lookD : List (PyData × PyData) → PyData → Option (Option PyData)
  | kv :: rest, .tuple ks => if isMk kv then (intsOf ks).map (lookT rest) else none
  | kvs, .int i => match kvs with
    | kv :: _ => if isMk kv then none else some (lookI kvs i)
    | [] => some none
  | _, _ => none
section
variable {X : Cx} {A : Addr → Prop} {T : Option Addr} {H : Hp} {x y : V} {kvs : List (PyData × PyData)} {dy : PyData} {r : Option PyData}
/-- a dict that is looked into -/
def DLook (K : PySem.W.Frag) (x y : V) (H : Hp) (o : Option V) : Prop :=
  (∃ a ks i, x = .ref a ∧ y = .int i ∧ Rd H a (.dK ks) ∧ valV ks (Sum.inl i) = o) ∨
  (∃ a xs rest A b ns, x = .ref a ∧ y = .ref b ∧ H a = some (DO a xs) ∧ Paired (DRel A K H) xs rest ∧ KeyAt A K H b ns ∧ match o with
    | some v => ∃ p, atKey xs ns = some p ∧ RelV v p.2
    | none => atKey xs ns = none)
theorem DvAll.ints_inv {A : Addr → Prop} {K : PySem.W.Frag} {H : Hp} : ∀ {vs : List V} {ns : List Int}, DvAll A K H vs (ns.map .int) → vs = ns.map V.int
  | _, [], .nil => rfl
  | _, n :: ns, h => by
    cases h with
    | cons h1 h2 => cases h1; rw [DvAll.ints_inv h2, List.map_cons]
theorem DvB.key {ks : List PyData} {ns : List Int} (h : DvB A T X.K H y (.tuple ks)) (e : intsOf ks = some ns) : ∃ b, y = .ref b ∧ KeyAt A X.K H b ns := by
  rw [intsOf_ok e] at h
  rcases h with h | ⟨a, vs, ds, _, h2, _⟩ | ⟨a, kvs, _, h2, _⟩
  · cases h with
    | tup hs ha =>
      rw [ha.ints_inv] at hs
      exact ⟨_, rfl, hs⟩
  · cases h2
  · cases h2
theorem lookD_ok (rx : DvB A T X.K H x (.dict kvs)) (ry : DvB A T X.K H y dy) (e : lookD kvs dy = some r) : ∃ o, DLook X.K x y H o ∧ (match r with | some z => ∃ v, o = some v ∧ Dv A X.K H v z | none => o = none) := by
  obtain ⟨a, rfl, hd⟩ := rx.dct
  rcases hd with ⟨ks, e1, p⟩ | ⟨xs, rest, rfl, e1, p⟩ | ⟨ks, rest, o, rfl, e1, p⟩
  · cases dy with
    | int i =>
      have hy := ry.int
      subst hy
      have el : lookI kvs i = r := by
        unfold lookD at e
        cases kvs with
        | nil => cases e; rfl
        | cons kv kvs =>
          simp only at e
          split at e
          · cases e
          · exact Option.some.inj e
      obtain ⟨l1, l2⟩ := lookI_at (i := i) p
      cases r with
      | none => exact ⟨none, .inl ⟨a, ks, i, rfl, rfl, .inl e1, l2 el⟩, rfl⟩
      | some z =>
        obtain ⟨v, q1, q2⟩ := l1 z el
        exact ⟨some v, .inl ⟨a, ks, i, rfl, rfl, .inl e1, q1⟩, v, rfl, q2⟩
    | tuple ks' =>
      exfalso
      unfold lookD at e
      cases kvs with
      | nil => cases e
      | cons kv kvs =>
        simp only at e
        split at e
        · rename_i c
          have := isMk_eq c
          subst this
          cases p with
          | @cons p _ _ _ h _ =>
            obtain ⟨k, v⟩ := p
            have h1 : KeyD k PyData.none := h.1
            cases h1
        · cases e
    | _ => unfold lookD at e; cases kvs <;> cases e
  · cases dy with
    | tuple ks' =>
      unfold lookD at e
      simp only at e
      rw [if_pos (show isMk markT = true from rfl)] at e
      obtain ⟨ns, e2, e3⟩ := Option.map_eq_some_iff.mp e
      obtain ⟨b, rfl, hk⟩ := ry.key e2
      obtain ⟨l1, l2⟩ := lookT_at (ns := ns) p
      cases r with
      | none => exact ⟨none, .inr ⟨a, xs, rest, A, b, ns, rfl, rfl, e1, p, hk, l2 e3⟩, rfl⟩
      | some z =>
        obtain ⟨q, v, q1, q2, q3⟩ := l1 z e3
        exact ⟨some v, .inr ⟨a, xs, rest, A, b, ns, rfl, rfl, e1, p, hk, q, q1, q2⟩, v, rfl, q3⟩
    | int i =>
      unfold lookD at e
      simp only at e
      rw [if_pos (show isMk markT = true from rfl)] at e
      cases e
    | _ => unfold lookD at e; cases e
  · cases dy with
    | int i =>
      have hy := ry.int
      subst hy
      have el : lookI rest i = r := by
        unfold lookD at e
        simp only at e
        rw [if_neg (show ¬ isMk markF = true from nofun)] at e
        exact Option.some.inj e
      obtain ⟨l1, l2⟩ := lookI_at (i := i) p
      cases r with
      | none => exact ⟨none, .inl ⟨a, ks, i, rfl, rfl, .inr ⟨o, e1⟩, l2 el⟩, rfl⟩
      | some z =>
        obtain ⟨v, q1, q2⟩ := l1 z el
        exact ⟨some v, .inl ⟨a, ks, i, rfl, rfl, .inr ⟨o, e1⟩, q1⟩, v, rfl, q2⟩
    | tuple ks' =>
      unfold lookD at e
      simp only at e
      rw [if_neg (show ¬ isMk markF = true from nofun)] at e
      cases e
    | _ => unfold lookD at e; cases e
end
/-! the rules -/
section
variable {X : Cx} {pins : List (Addr × Obj)} {σ : St} {H : Hp} {s : Shared} {x y : V} {u v : Value} {E : Value → Shared → Prop}
theorem room_t (hu : X.A.units + 1 < cLine) : (tupleKind (intKind X.prog X.w)).room X.A.in1 := tupleKind_room_in1 hu
theorem look_type (I : Inv X pins σ H s) {o : Option V} (g : DLook X.K x y H o) (rx : RelV x v) : s.TypeIs v "dict" := by
  rcases g with ⟨a, ks, i, rfl, rfl, e, l⟩ | ⟨a, xs, rest, A, b, ns, rfl, rfl, e, p, hk, l⟩
  · cases rx
    obtain ⟨_, _, vs, _, dd⟩ := dk_rd I.hok e
    exact dd.typeIs
  · cases rx
    exact (I.dct e p).2.typeIs
theorem look_get (hu : X.A.units + 1 < cLine) (I : Inv X pins σ H s) {z : V} (g : DLook X.K x y H (some z)) (rx : RelV x v) (ry : RelV y u) {Q : Value → Shared → Prop} (h : ∀ r s', Inv X pins σ H s' → RelV z r → Q r s') : wpAny (model X.prog X.w) X.A (getItem v u) Q E s := by
  rcases g with ⟨a, ks, i, rfl, rfl, e, l⟩ | ⟨a, xs, rest, A, b, ns, rfl, rfl, e, p, hk, l⟩
  · cases rx
    exact d_getItem (y := .int i) hu I ((show DGet H a (.int i) (valV ks (Sum.inl i)) from .inl ⟨ks, Sum.inl i, e, rfl, rfl⟩) |> fun z => l ▸ z) ry fun w' s3 I3 rw' => h w' s3 I3 rw'
  · cases rx
    cases ry
    obtain ⟨q, q1, q2⟩ := l
    exact wpAny_getItem_heap (room_t hu) (I.keyT hk) (I.dct e p).2 q1 (h _ _ (I.tok _) q2)
end
section
variable {X : Cx}
/-- d[k] -/
def dIxD (x y : PyData) : Option W := match x with
  | .dict kvs => (lookD kvs y).bind fun r => r.map .d
  | _ => none
theorem ev_ixD {a b : Expr} {da db : Fd} {pos : Pos} (hu : X.A.units + 1 < cLine) (ha : EvB X a da) (hb : EvB X b db) (hs : NoSl b) : EvE X (.Subscript a b pos) (eBin dIxD da db) := by
  have base : PE X (.Subscript a b pos) (fun σ H Q => tVB X.K da σ H fun x H1 => tVB X.K db σ H1 fun y H2 => ∃ z, DLook X.K x y H2 (some z) ∧ Q z H2) := ⟨fun pins s σ H Q I h => by
    refine subD_of PySem.F.slot_dict_getitem.lookup hs (thn (ha.run pins s σ H _ I h) fun u s1 ⟨x, H1, I1, rx, q1⟩ => thn (hb.run pins s1 σ H1 _ I1 q1) fun iv s2 ⟨y, H2, I2, ry, z, g, q2⟩ => ?_)
    exact ⟨look_type I2 g rx, look_get hu I2 g rx ry fun w' s3 I3 rw' => ⟨z, H2, I3, rw', q2⟩⟩⟩
  refine peI base fun σ H Q h => ?_
  refine op_run (fo := binaryOp .Add) (r := fun x y H Q => ∃ z, DLook X.K x y H (some z) ∧ Q z H) (fun A T x y dx dy w H Q tr rx ry e q => ?_) h
  cases dx with
  | dict kvs =>
    obtain ⟨r, e1, e2⟩ := Option.bind_eq_some_iff.mp (show (lookD kvs dy).bind (fun r => r.map W.d) = some w from e)
    obtain ⟨z, rfl, rfl⟩ := Option.map_eq_some_iff.mp e2
    obtain ⟨o, g, v, rfl, dv⟩ := lookD_ok rx ry e1
    exact ⟨v, g, q _ _ Grow.refl dv⟩
  | _ => cases e
def dNotInD (x y : PyData) : Option W := match y with
  | .dict kvs => (lookD kvs x).map fun r => .d (.bool (!r.isSome))
  | _ => none
end
/-! {} -/
def eDicK : Fe := fun _ n => some (.od [], n)
def eDicT : Fe := fun _ n => some (.od [markT], n)
section
variable {X : Cx} {pos : Pos}
theorem ev_dicK : EvE X (.Dict [] [] pos) eDicK := peI pe_dnewK (by
  rintro σ H Q ⟨C, O, ρ, n, w, n', hf, E, q⟩
  cases hf
  intro p hp
  exact q _ _ (Grow.upd hp).step ((Grow.upd hp).town E.town) ⟨p, rfl, hp, .inl ⟨[], upd_same, .nil⟩⟩)
theorem pe_dnewO : PE X (.Dict [] [] pos) (fun _ H Q => ∀ p, H p = none → Q (.ref p) (upd H p (DO p []))) := ⟨fun pins s σ H Q I h =>
  wpAny_Dict_empty ⟨.ref s.heap.objs.size, _, I.laid (a := s.heap.objs.size) (o := DO s.heap.objs.size []) (t' := s.toks) (fun _ _ q => Heap.get?_push_of_some _ q) (Nat.le_refl _)
    (do_new ⟨Nat.zero_le _, beq_eq_false_iff_ne.mpr (Ne.symm (Nat.ne_of_lt I.big)), X.prog, X.w, _, #[], 0, Heap.get?_push_size _ rfl, ⟨rfl, rfl, rfl⟩, rfl, rfl, List.nodup_nil⟩), rfl, h _ (I.hok.fresh (Nat.le_refl _))⟩⟩
theorem ev_dicT : EvE X (.Dict [] [] pos) eDicT := peI pe_dnewO (by
  rintro σ H Q ⟨C, O, ρ, n, w, n', hf, E, q⟩
  cases hf
  intro p hp
  exact q _ _ (Grow.upd hp).step ((Grow.upd hp).town E.town) ⟨p, rfl, hp, .inr (.inl ⟨[], [], rfl, upd_same, .nil⟩)⟩)
end
/-! d[k] = e -/
def putT : List (PyData × PyData) → List Int → PyData → List (PyData × PyData)
  | [], ns, y => [(.tuple (ns.map .int), y)]
  | kv :: r, ns, y => if (match kv.1 with | .tuple ks => intsOf ks | _ => none) = some ns then (kv.1, y) :: r else kv :: putT r ns y
def putI : List (PyData × PyData) → Int → PyData → List (PyData × PyData)
  | [], i, y => [(.int i, y)]
  | kv :: r, i, y => if (match kv.1 with | .int j => some j | _ => none) = some i then (kv.1, y) :: r else kv :: putI r i y
def putD : List (PyData × PyData) → PyData → PyData → Option (List (PyData × PyData))
  | kv :: rest, .tuple ks, y => if isMk kv then (intsOf ks).bind fun ns => if rest.length < big then some (markT :: putT rest ns y) else none else none
  | kvs, .int i, y => match kvs with
    | kv :: _ => if isMk kv || isFz kv then none else if kvs.length < big then some (putI kvs i y) else none
    | [] => some [(.int i, y)]
  | _, _, _ => none
def sPut (i : Nat) (d : Fd) (f : Fe) : Fs := fun ρ n => (f ρ n).bind fun p => p.1.frz.val.bind fun x => (d ρ p.2).bind fun k => match ρ[i]? with
  | some (.od kvs) => (putD kvs k.1 x).map fun m => .nx (ρ.set i (.od m)) k.2
  | _ => none
section
variable {X : Cx} {A : Addr → Prop} {K : PySem.W.Frag} {H : Hp}
theorem put_absent {ns : List Int} {b : Addr} {u : Value} {xs : List (List Int × Addr × Value)} (h : atKey xs ns = none) : storedH xs ns b u = xs ++ [(ns, b, u)] := by
  unfold storedH
  rw [h]; rfl
theorem storedH_cons_eq {ns : List Int} {b c : Addr} {u v : Value} {xs : List (List Int × Addr × Value)} (hn : ((ns, c, v) :: xs).map (·.1) |>.Nodup) : storedH ((ns, c, v) :: xs) ns b u = (ns, c, u) :: xs := by
  have e : atKey ((ns, c, v) :: xs) ns = some (c, v) := by simp [atKey]
  unfold storedH
  rw [e]
  simp only [Option.isSome_some, if_true, List.map_cons, putAt, if_true]
  congr 1
  rw [List.map_cons, List.nodup_cons] at hn
  refine (List.map_congr_left fun x hx => ?_).trans (List.map_id _)
  have : x.1 ≠ ns := fun e => hn.1 (by rw [← e]; exact List.mem_map_of_mem (f := fun x => x.1) hx)
  simp [putAt, this]
theorem storedH_cons_ne {ns : List Int} {b : Addr} {u : Value} {x : List Int × Addr × Value} {xs : List (List Int × Addr × Value)} (h : x.1 ≠ ns) : storedH (x :: xs) ns b u = x :: storedH xs ns b u := by
  have e : atKey (x :: xs) ns = atKey xs ns := by simp [atKey, List.find?_cons, h]
  unfold storedH
  rw [e]
  split
  · simp [putAt, h]
  · rfl
theorem putT_rel {ns : List Int} {b : Addr} {u : Value} {v : V} {y : PyData} (hk : KeyAt A K H b ns) (rv : RelV v u) (dv : Dv A K H v y) : ∀ {xs : List (List Int × Addr × Value)} {rest : List (PyData × PyData)}, (xs.map (·.1)).Nodup → Paired (DRel A K H) xs rest →
    Paired (DRel A K H) (storedH xs ns b u) (putT rest ns y)
  | [], _, _, .nil => by
    rw [put_absent rfl]
    exact .cons ⟨rfl, hk, v, rv, dv⟩ .nil
  | x :: xs, kv :: rest, hn, .cons h t => by
    have h1 := h.1
    unfold putT
    rw [h1]
    simp only [intsOf_map, Option.some.injEq]
    by_cases c : x.1 = ns
    · rw [if_pos c]
      obtain ⟨k, c1, v1⟩ := x
      simp only at c
      subst c
      rw [storedH_cons_eq hn]
      exact .cons ⟨rfl, h.2.1, v, rv, dv⟩ t
    · rw [if_neg c, storedH_cons_ne c]
      refine .cons ?_ (putT_rel hk rv dv (List.nodup_cons.mp hn).2 t)
      exact ⟨h1, h.2⟩
theorem putK_cons_ne {k : Key} {v : V} {x : Key × V} {xs : List (Key × V)} (h : x.1 ≠ k) : putK (x :: xs) k v = x :: putK xs k v := by
  unfold putK
  rw [List.any_cons, decide_eq_false h, Bool.false_or]
  split
  · simp [h]
  · rfl
theorem putI_rel {i : Int} {v : V} {y : PyData} (dv : Dv A K H v y) : ∀ {ks : List (Key × V)} {kvs : List (PyData × PyData)}, (ks.map (·.1)).Nodup → Paired (fun p q => KeyD p.1 q.1 ∧ Dv A K H p.2 q.2) ks kvs →
    Paired (fun p q => KeyD p.1 q.1 ∧ Dv A K H p.2 q.2) (putK ks (Sum.inl i) v) (putI kvs i y)
  | [], _, _, .nil => .cons ⟨.int i, dv⟩ .nil
  | (k, z) :: xs, (d, w) :: rest, hn, .cons h t => by
    obtain ⟨h1, h2⟩ := h
    have h1 : KeyD k d := h1
    cases h1 with
    | int j =>
      by_cases c : j = i
      · subst c
        have e1 : putI ((PyData.int j, w) :: rest) j y = (.int j, y) :: rest := by simp [putI]
        have e2 : putK ((Sum.inl j, z) :: xs) (Sum.inl j) v = (Sum.inl j, v) :: xs := by
          rw [List.map_cons, List.nodup_cons] at hn
          unfold putK
          rw [if_pos (by simp)]
          simp only [List.map_cons, if_true]
          congr 1
          refine (List.map_congr_left fun x hx => ?_).trans (List.map_id _)
          have : x.1 ≠ Sum.inl j := fun e => hn.1 (by rw [← e]; exact List.mem_map_of_mem (f := fun x => x.1) hx)
          simp [this]
        rw [e1, e2]
        exact .cons ⟨.int j, dv⟩ t
      · have e1 : putI ((PyData.int j, w) :: rest) i y = (.int j, w) :: putI rest i y := by simp [putI, c]
        rw [e1, putK_cons_ne (fun e => c (Sum.inl.inj e))]
        exact .cons ⟨.int j, h2⟩ (putI_rel dv (List.nodup_cons.mp hn).2 t)
    | str s =>
      have e1 : putI ((PyData.str s, w) :: rest) i y = (.str s, w) :: putI rest i y := by simp [putI]
      rw [e1, putK_cons_ne (fun e => (by cases e))]
      exact .cons ⟨.str s, h2⟩ (putI_rel dv (List.nodup_cons.mp hn).2 t)
end
section
variable {X : Cx}
def rPutD (K : PySem.W.Frag) : TSet := fun x y v H Q =>
  (∃ a ks i, x = .ref a ∧ y = .int i ∧ H a = some (.dK ks) ∧ ks.length < sizeLine ∧ ((ks.map (·.1)).Nodup → Q (upd H a (.dK (putK ks (Sum.inl i) v))))) ∨
  (∃ a xs rest A b ns, x = .ref a ∧ y = .ref b ∧ H a = some (DO a xs) ∧ Paired (DRel A K H) xs rest ∧ KeyAt A K H b ns ∧ xs.length < sizeLine ∧ ∀ u, RelV v u → (xs.map (·.1)).Nodup → Q (upd H a (DO a (storedH xs ns b u))))
theorem set_dict (hu : X.A.units + 1 < cLine) : PSet X (rPutD X.K) := by
  intro pins s σ H o i v ov iv u Q I ro ri rv h
  rcases h with ⟨a, ks, k, rfl, rfl, e, hl, q⟩ | ⟨a, xs, rest, A, b, ns, rfl, rfl, e, p, hk, hl, q⟩
  · cases ro
    obtain ⟨_, _, vs, rel, dd⟩ := dk_of I.hok e
    have nd : (ks.map (·.1)).Nodup := by
      rw [rel.keys]
      obtain ⟨_, _, _, _, _, _, _, nd⟩ := dd
      exact nd.2
    exact d_setItem (y := .int k) hu I (DPut.k (k := Sum.inl k) e hl) ri rv fun s' I' => ⟨_, I', q nd⟩
  · cases ro
    cases ri
    obtain ⟨d, dd⟩ := I.dct e p
    have nd : (xs.map (·.1)).Nodup := by
      obtain ⟨_, _, _, _, _, _, _, _, _, _, _, nd⟩ := d
      exact nd
    refine wpAny_setItem_heap (hsz := d.1) (room_t hu) (I.keyT hk) dd fun h' dd' hs => ?_
    have hz : (storedH xs ns b u).length ≤ sizeLine := by
      unfold storedH
      split
      · rw [List.length_map]; omega
      · rw [List.length_append, List.length_singleton]; omega
    have D' := DTat.of hz d.2.1 dd'
    have he : ∃ q, h'.get? a = some q := by obtain ⟨_, _, _, _, o, _, _, h1, _⟩ := D'; exact ⟨o, h1⟩
    exact ⟨_, d_write I (by rw [e]; exact True.intro) hs he (do_new D'), q u rv nd⟩
end
end L2.Lv
namespace L2.Lv
open PySem PySem.Spec PyProof.Rows
section
variable {X : Cx} {e a b : Expr} {f : Fe} {d : Fd} {pos : Pos}
theorem ss_put {i : Nat} {p1 : Pos} (hu : X.A.units + 1 < cLine) (hb : PE X a (tVar i)) (hk : EvB X b d) (ha : EvE X e f)
    (hset : ∀ v, assign (.Subscript a b p1) X.env v = (do
      let ov ← holding [v] (eval a X.env)
      let iv ← holding [v, ov] (eval b X.env)
      standAt p1
      holding [v, ov, iv] (setItem ov iv v)
      release [v, ov, iv] []) := by intro _; rfl)
    (hs : swapsWithSole [.Subscript a b p1] e pos.line X.env = pure false := by rfl) (hw : swappedStores [.Subscript a b p1] e X.env = pure none := by rfl)
    (h1 : (assignEach [.Subscript a b p1] X.env).map (·.2) = [assign (.Subscript a b p1) X.env] := by rfl) :
    EvS X (.Assign [.Subscript a b p1] e pos) (sPut i d f) := psI (ps_asg ha (pg_sub hb hk (set_dict hu) hset) hs hw h1) (by
  rintro D σ H ⟨C, O, ρ, n, out, hf, E, np, q⟩
  unfold sPut at hf
  obtain ⟨⟨w, n1⟩, e1, hf⟩ := Option.bind_eq_some_iff.mp hf
  obtain ⟨x, e2, hf⟩ := Option.bind_eq_some_iff.mp hf
  obtain ⟨⟨k, n2⟩, e3, hf⟩ := Option.bind_eq_some_iff.mp hf
  simp only at hf
  split at hf
  · rename_i kvs hx
    obtain ⟨m, e4, hf⟩ := Option.map_eq_some_iff.mp hf
    cases hf
    refine ⟨C, O, ρ, n, w, n1, e1, E, fun v H1 s t r => ?_⟩
    have E1 := E.step s t
    obtain ⟨l, h1, h2, h3⟩ := E1.sl _ _ hx
    refine ⟨_, h2, C, O, ρ, n1, _, n2, e3, E1, fun u H2 s2 t2 r2 => ?_⟩
    have E2 := E1.step s2 t2
    have r' : Dv (Av C O) X.K H2 v x := ((r.frz E.av).val e2).mono (s2.keep Av.t)
    have hav : Av C O l := .inr (.inr ⟨i, h1⟩)
    have h3' := h3.mono (s2.keep Av.t) fun o e => s2.st _ _ e (E1.own i l h1).1
    rcases h3' with ⟨ks, g1, p⟩ | ⟨xs, rest, rfl, g1, p⟩ | ⟨ks, rest, o, rfl, g1, p⟩
    · cases k with
      | int j =>
        have hu := r2.int
        subst hu
        have em : m = putI kvs j x ∧ kvs.length < big := by
          unfold putD at e4
          cases kvs with
          | nil => cases e4; exact ⟨rfl, by decide⟩
          | cons kv kvs =>
            simp only at e4
            split at e4
            · cases e4
            · split at e4
              · rename_i hl; cases e4; exact ⟨rfl, hl⟩
              · cases e4
        obtain ⟨rfl, hl⟩ := em
        refine .inl ⟨l, ks, j, rfl, rfl, g1, by rw [Paired.length p, big_eq]; exact hl, fun nd => ?_⟩
        obtain ⟨E3, s3⟩ := E2.write (o := .dK (putK ks (Sum.inl j) v)) (w' := .od (putI kvs j x)) h1
          ⟨l, rfl, h2, .inl ⟨_, upd_same, Paired.impl (fun x y z => ⟨z.1, z.2.mono (keep_upd hav)⟩) (putI_rel r' nd p)⟩⟩
        exact q O σ _ ((s.trans s2).stepS0.trans s3) E3
      | tuple ks' =>
        exfalso
        unfold putD at e4
        cases kvs with
        | nil => cases e4
        | cons kv kvs =>
          simp only at e4
          split at e4
          · rename_i c
            have := isMk_eq c
            subst this
            cases p with
            | @cons p _ _ _ h _ =>
              obtain ⟨k, v⟩ := p
              have h1 : KeyD k PyData.none := h.1
              cases h1
          · cases e4
      | _ => unfold putD at e4; cases kvs <;> cases e4
    · cases k with
      | tuple ks' =>
        unfold putD at e4
        simp only at e4
        rw [if_pos (show isMk markT = true from rfl)] at e4
        obtain ⟨ns, e5, e6⟩ := Option.bind_eq_some_iff.mp e4
        split at e6
        · rename_i hl
          cases e6
          obtain ⟨b, rfl, hk⟩ := r2.key e5
          refine .inr ⟨l, xs, rest, Av C O, b, ns, rfl, rfl, g1, p, hk, by rw [Paired.length p, big_eq]; exact hl, fun u ru nd => ?_⟩
          obtain ⟨E3, s3⟩ := E2.write (o := DO l (storedH xs ns b u)) (w' := .od (markT :: putT rest ns x)) h1
            ⟨l, rfl, h2, .inr (.inl ⟨_, _, rfl, upd_same, Paired.impl (fun x y z => z.mono (keep_upd hav)) (putT_rel hk ru r' nd p)⟩)⟩
          exact q O σ _ ((s.trans s2).stepS0.trans s3) E3
        · cases e6
      | int i =>
        unfold putD at e4
        simp only at e4
        rw [if_pos (show (isMk markT || isFz markT) = true from rfl)] at e4
        cases e4
      | _ => unfold putD at e4; cases e4
    · cases k with
      | tuple ks' =>
        unfold putD at e4
        simp only at e4
        rw [if_neg (show ¬ isMk markF = true from nofun)] at e4
        cases e4
      | int i =>
        unfold putD at e4
        simp only at e4
        rw [if_pos (show (isMk markF || isFz markF) = true from rfl)] at e4
        cases e4
      | _ => unfold putD at e4; cases e4
  · cases hf)
end
/-! len(d), list(d), sorted(d) -/
section
variable {X : Cx}
def lenDk : List (PyData × PyData) → Nat
  | [] => 0
  | kv :: rest => if isMk kv then rest.length else rest.length + 1
def hdF : List (PyData × PyData) → Bool
  | kv :: _ => isFz kv
  | [] => false
def gLenD : List PyData → Option W
  | [.dict kvs] => if hdF kvs = true then none else some (.d (.int (lenDk kvs)))
  | _ => none
theorem cv_lenD : CallV X (.builtin "len") gLenD := ⟨fun vs H Q => ∃ a, vs = [.ref a] ∧ ((∃ ks, H a = some (.dK ks) ∧ Q (.int ks.length) H) ∨ ∃ xs rest A, H a = some (DO a xs) ∧ Paired (DRel A X.K H) xs rest ∧ Q (.int xs.length) H), fun pins s σ H vs us Q I r h => by
  obtain ⟨a, rfl, h⟩ := h
  rw [Vals.ref1 r]
  rcases h with ⟨ks, e, q⟩ | ⟨xs, rest, A, e, p, q⟩
  · obtain ⟨z, hd, ys, rel, dd⟩ := dk_of I.hok e
    refine call_len_dict hd dd (by rw [← rel.length]; rw [sizeLine_eq] at z; omega) ?_
    rw [← rel.length]
    exact ⟨.int ks.length, H, I.tok _, ⟨_, rfl⟩, q⟩
  · obtain ⟨d, dd⟩ := I.dct e p
    have hz := d.1
    exact call_len_dictH d.2.1 dd (by rw [sizeLine_eq] at hz; omega) ⟨.int xs.length, H, I.tok _, ⟨_, rfl⟩, q⟩, fun A T vs xs w H Q tr rx e q => by
  unfold gLenD at e
  split at e
  · rename_i kvs
    split at e
    · cases e
    rename_i nf
    cases e
    obtain ⟨v, rfl, r⟩ := rx.one
    obtain ⟨a, rfl, hd⟩ := r.dct
    refine ⟨a, rfl, ?_⟩
    rcases hd with ⟨ks, e1, p⟩ | ⟨xs, rest, rfl, e1, p⟩ | ⟨ks, rest, o, rfl, e1, p⟩
    · refine .inl ⟨ks, e1, ?_⟩
      have hl := Paired.length p
      have : lenDk kvs = ks.length := by
        cases p with
        | nil => rfl
        | @cons p _ _ _ h _ =>
          show (if isMk _ = true then _ else _) = _
          split
          · rename_i c
            obtain ⟨k, v⟩ := p
            rw [isMk_eq c] at h
            have h1 : KeyD k PyData.none := h.1
            cases h1
          · exact hl.symm
      rw [this] at q
      exact q _ _ Grow.refl (.int _)
    · refine .inr ⟨xs, rest, A, e1, p, ?_⟩
      have : lenDk (markT :: rest) = rest.length := rfl
      rw [this] at q
      rw [Paired.length p]
      exact q _ _ Grow.refl (.int _)
    · exact absurd rfl nf
  · cases e⟩
theorem keys_all {A : Addr → Prop} {K : PySem.W.Frag} {H : Hp} : ∀ {xs : List (List Int × Addr × Value)} {rest : List (PyData × PyData)}, Paired (DRel A K H) xs rest → DvAll A K H (xs.map fun x => V.ref x.2.1) (rest.map (·.1))
  | [], _, .nil => .nil
  | x :: xs, kv :: rest, .cons h t => by
    obtain ⟨h1, h2, _⟩ := h
    rw [List.map_cons, List.map_cons, h1]
    exact .cons (.tup h2 (dvAll_ints _)) (keys_all t)
theorem acc_keys {P : Program} {w : World} {xs : List (List Int × Addr × Value)} {es : Array DictEntry} {acc : Array Value} (he : es.toList = xs.map (entryOfKey (tupleKind (intKind P w)))) (it : ItemsOf (fun i v => ∃ en : DictEntry, es[i]? = some en ∧ v = en.key) acc es.size) : acc.toList = (xs.map fun x => x.2.1).map Value.ref := by
  have l1 : es.size = xs.length := by rw [← Array.length_toList, he, List.length_map]
  refine List.ext_getElem? fun j => ?_
  rw [List.map_map, List.getElem?_map]
  by_cases hj : j < xs.length
  · obtain ⟨v, hv⟩ : ∃ v, acc[j]? = some v := ⟨acc[j]'(by rw [it.1, l1]; exact hj), Array.getElem?_eq_getElem _⟩
    obtain ⟨en, q1, q2⟩ := it.2 j v hv
    rw [← Array.getElem?_toList, he, List.getElem?_map] at q1
    rw [Array.getElem?_toList, hv, List.getElem?_eq_getElem hj, Option.map_some]
    rw [List.getElem?_eq_getElem hj, Option.map_some] at q1
    cases q1
    rw [q2]; rfl
  · rw [List.getElem?_eq_none (l := acc.toList) (by rw [Array.length_toList, it.1, l1]; omega), List.getElem?_eq_none (l := xs) (by omega)]; rfl
theorem vals_refsO : ∀ bs : List Addr, Vals (bs.map V.ref) (bs.map Value.ref)
  | [] => .nil
  | _ :: r => .cons rfl (vals_refsO r)
def gListD : List PyData → Option W
  | [.dict (kv :: rest)] => if isMk kv then some (.ol (rest.map (·.1))) else none
  | _ => none
theorem cv_listD (hc : X.calm = true) : CallV X (.type "list") gListD := ⟨fun vs H Q => ∃ a xs rest A, vs = [.ref a] ∧ H a = some (DO a xs) ∧ Paired (DRel A X.K H) xs rest ∧ ∀ p, H p = none → Q (.ref p) (upd H p (.lst (xs.map fun x => V.ref x.2.1))), fun pins s σ H vs us Q I r h => by
  obtain ⟨a, xs, rest, A, rfl, e, p, q⟩ := h
  rw [Vals.ref1 r]
  obtain ⟨d, _⟩ := I.dct e p
  obtain ⟨hz, hs, P', w', o, es, ep, ho, hx, hdt, he, hn⟩ := d
  have l1 : es.size = xs.length := by rw [← Array.length_toList, he, List.length_map]
  refine PySem.W.kdl_call (kdl_raw hs hx hdt) (I.ok.hd hc) ho (by omega) fun h' tk acc c kp eo it => ?_
  have ea := acc_keys he it
  have rv : Vals (xs.map fun x => V.ref x.2.1) acc.toList := by
    rw [ea]
    have := vals_refsO (xs.map fun x => x.2.1)
    rwa [List.map_map] at this
  exact ⟨.ref s.heap.objs.size, _, I.laid (t' := tk) (o := .lst (xs.map fun x => V.ref x.2.1)) kp (Nat.le_refl _) ⟨by rw [List.length_map]; exact hz, acc.toList, c, rv, by rw [Array.toArray_toList]; exact eo⟩, rfl, q _ (I.hok.fresh (Nat.le_refl _))⟩, fun A T vs xs w H Q tr rx e q => by
  unfold gListD at e
  split at e
  · rename_i kv rest
    split at e
    · rename_i c
      cases e
      rw [isMk_eq c] at rx
      obtain ⟨v, rfl, r⟩ := rx.one
      obtain ⟨a, rfl, hd⟩ := r.dct
      rcases hd with ⟨ks, e1, p⟩ | ⟨xs, rest', e0, e1, p⟩ | ⟨ks, rest', o, e0, e1, p⟩
      · cases p with
        | @cons p _ _ _ h _ =>
          obtain ⟨k, v⟩ := p
          have h1 : KeyD k PyData.none := h.1
          cases h1
      · cases e0
        exact ⟨a, xs, rest, A, rfl, e1, p, fun p' hp => q _ _ (Grow.upd hp) (new_lst hp (keys_all p))⟩
      · exact absurd (congrArg (fun l => isFz (l.headD markT)) e0) nofun
    · cases e
  · cases e⟩
def gSortedD : List PyData → Option W
  | [.dict (kv :: rest)] => if isMk kv && srtOk (rest.map (·.1)) then some (.ol (srt (rest.map (·.1)))) else none
  | _ => none
open PySem.W in
theorem cv_sortedD (hc : X.calm = true) (hu : X.A.units + 100 < cLine) : CallV X (.builtin "sorted") gSortedD := ⟨fun vs H Q => ∃ a xs rest A, vs = [.ref a] ∧ H a = some (DO a xs) ∧ Paired (DRel A X.K H) xs rest ∧ srtOk (rest.map (·.1)) = true ∧ ∀ p us, H p = none → DvAll A X.K H us (srt (rest.map (·.1))) → Q (.ref p) (upd H p (.lst us)), fun pins s σ H vs us Q I r h => by
  obtain ⟨a, xs, rest, A, rfl, e, p, hok, q⟩ := h
  rw [Vals.ref1 r]
  obtain ⟨d, _⟩ := I.dct e p
  obtain ⟨hz, hs, P', w', o, es, ep, ho, hx, hdt, he, hn⟩ := d
  have l1 : es.size = xs.length := by rw [← Array.length_toList, he, List.length_map]
  have l2 := Paired.length p
  refine Calls.call_function_entry kind_sorted plain_sorted entry_sorted (args_sorted1 _) ?_
  unfold Builtin.«sorted»
  refine wpAny_bind (m := checkCount "sorted" 1 1 _) (wpAny_pure ?_)
  refine wpAny_bind (PySem.W.kdu_collect (A := X.A.in1) (kdl_raw hs hx hdt) (I.ok.hd hc) ho (by omega) fun h' tk acc kp it => ?_)
  have ea := acc_keys he it
  have rv : Vals (xs.map fun x => V.ref x.2.1) acc.toList := by
    rw [ea]
    have := vals_refsO (xs.map fun x => x.2.1)
    rwa [List.map_map] at this
  have dv := keys_all p
  have la : acc.toList.length ≤ sizeLine := by rw [ea, List.length_map, List.length_map]; exact hz
  have I1 : Inv X pins σ H { s with heap := h', toks := tk } := I.kept kp
  have e1 := each_of dv rv
  obtain ⟨as, hr⟩ := Dp.readsAll I (rest.map (·.1)) _ _ dv.dp rv
  refine wpAny_bind (wpAny_newList ?_ la)
  have hoL : (h'.push (seqObj "list" acc.toList.toArray 0)).get? h'.objs.size = some (seqObj "list" acc.toList.toArray 0) := Heap.get?_push_size _ rfl
  have er : EachIs (fun v b => ∃ as, Reads s.heap v ((fun x => x) b) as) acc.toList (rest.map (·.1)) := readsAll_each (fun x => x) (as := as) (by rw [List.map_id']; exact hr)
  have er' : EachIs (fun v b => ∃ as, Reads (sortingHeap (h'.push (seqObj "list" acc.toList.toArray 0)) h'.objs.size acc.toList) v ((fun x => x) b) as) acc.toList (rest.map (·.1)) :=
    er.mono fun _ _ ⟨as, r⟩ => ⟨as, PyProof.Rows.Reads.keeps (fun b u e => sortingHeap_old (Nat.ne_of_lt (Heap.lt_size (kp b u e))) (Heap.get?_push_of_some _ (kp b u e))) r⟩
  have hb : ∀ d, d ∈ (rest.map (·.1)).map (fun x => x) → X.A.in1.in1.units + d.depth < cLine := fun d hd => by
    rw [List.map_id'] at hd
    have := srtOk_depth hok d hd
    show X.A.units + 1 + 1 + _ < _
    omega
  have S := SortsAt.data (prog := X.prog) (w := X.w) (A := X.A.in1.in1) (s := { s with heap := sortingHeap (h'.push (seqObj "list" acc.toList.toArray 0)) h'.objs.size acc.toList, toks := tk }) (each_map (R := fun v d => ∃ as, Reads (sortingHeap (h'.push (seqObj "list" acc.toList.toArray 0)) h'.objs.size acc.toList) v d as) (fun x => x) er') (srtOk_alike hok) (srtOk_sortable hok) hb
  show wpAny _ _ _ _ _ { s with heap := h'.push (seqObj "list" acc.toList.toArray 0), toks := tk }
  refine wpAny_bind (wpAny_holding (wpAny_call_entry slot_list_sort ⟨_, hoL, rfl⟩ entry_list_sort
    (list_sort_vals (s := { s with heap := h'.push (seqObj "list" acc.toList.toArray 0), toks := tk }) hoL S la ⟨_, rfl, ?_⟩) (args_list_sort _)))
  obtain ⟨us', k1, k2⟩ := of_each (sortVals_data false e1 er' (srtOk_alike hok))
  obtain ⟨ep', he'⟩ := sortedHeap_at (vs := acc.toList) (out := _) hoL
  have hlen : us'.length ≤ sizeLine := by
    rw [k1.length]
    rw [List.length_mergeSort, List.length_map, ← l2]; exact hz
  refine wpAny_pure ⟨_, rfl, .ref h'.objs.size, upd H h'.objs.size (.lst us'), I1.laid (t' := tk) (fun b u e => ?_) (Nat.le_refl _) ⟨hlen, _, ep', k2, he'⟩, rfl, q _ us' (I1.hok.fresh (Nat.le_refl _)) k1⟩
  have hb : b < h'.objs.size := Heap.lt_size e
  rw [sortedHeap_old (Nat.ne_of_lt hb) (by rw [size_push']; exact Nat.lt_succ_of_lt hb)]
  exact Heap.get?_push_of_some _ e, fun A T vs xs w H Q tr rx e q => by
  unfold gSortedD at e
  split at e
  · rename_i kv rest
    split at e
    · rename_i c
      rw [Bool.and_eq_true] at c
      cases e
      rw [isMk_eq c.1] at rx
      obtain ⟨v, rfl, r⟩ := rx.one
      obtain ⟨a, rfl, hd⟩ := r.dct
      rcases hd with ⟨ks, e1, p⟩ | ⟨xs, rest', e0, e1, p⟩ | ⟨ks, rest', o, e0, e1, p⟩
      · cases p with
        | @cons p _ _ _ h _ =>
          obtain ⟨k, v⟩ := p
          have h1 : KeyD k PyData.none := h.1
          cases h1
      · cases e0
        exact ⟨a, xs, rest, A, rfl, e1, p, c.2, fun p' us hp hd => q _ _ (Grow.upd hp) (new_lst hp hd)⟩
      · exact absurd (congrArg (fun l => isFz (l.headD markT)) e0) nofun
    · cases e
  · cases e⟩
end
theorem hu1 {l : Nat} {A : Around} (r : Room l A) : A.units + 1 < cLine := by have := r.un; omega
end L2.Lv
namespace L2.Lv
open PySem PySem.Spec PyProof.Rows
/-! dict([(k, v), ..]) -/
def pairsT : List PyData → Option (List (List Int × PyData))
  | [] => some []
  | .tuple [.tuple ks, y] :: xs => (intsOf ks).bind fun ns => (pairsT xs).map ((ns, y) :: ·)
  | _ :: _ => none
def foldT (ps : List (List Int × PyData)) (acc : List (PyData × PyData)) : List (PyData × PyData) := ps.foldl (fun acc p => putT acc p.1 p.2) acc
def gDictT : List PyData → Option W
  | [.list xs] => if xs = [] then none else (pairsT xs).bind fun ps => if ps.length ≤ 100000 then some (.od (markT :: foldT ps [])) else none
  | _ => none
section
variable {X : Cx} {A : Addr → Prop} {H : Hp}
structure PrsAt (A : Addr → Prop) (X : Cx) (H : Hp) (s : Shared) (us : List Value) (ps : List (List Int × PyData)) (Ts : List Addr) (qs : List (List Int × Addr × Value)) : Prop where
  eus : us = Ts.map Value.ref
  l1 : Ts.length = qs.length
  rel : Paired (DRel A X.K H) qs (ps.map fun p => (.tuple (p.1.map .int), p.2))
  at_ : ∀ (j : Nat) (q : List Int × Addr × Value), qs[j]? = some q → ∃ T, Ts[j]? = some T ∧ s.heap.IsTuple T #[.ref q.2.1, q.2.2]
theorem prs_of {pins : List (Addr × Obj)} {σ : St} {s : Shared} (I : Inv X pins σ H s) : ∀ {xs : List PyData} {vs : List V} {us : List Value} {ps : List (List Int × PyData)}, pairsT xs = some ps → DvAll A X.K H vs xs → Vals vs us → ∃ Ts qs, PrsAt A X H s us ps Ts qs
  | [], _, _, ps, e, h, r => by
    cases h
    cases r
    cases e
    exact ⟨[], [], rfl, rfl, .nil, fun j q z => by simp at z⟩
  | x :: xs, vs, us, ps, e, h, r => by
    cases h with
    | @cons v vs' _ _ dx dxs =>
      cases r with
      | @cons _ u _ us' rv rvs =>
        unfold pairsT at e
        split at e
        · rename_i c; cases c
        · rename_i ks y xs' c
          cases c
          obtain ⟨ns, e1, e⟩ := Option.bind_eq_some_iff.mp e
          obtain ⟨ps', e2, rfl⟩ := Option.map_eq_some_iff.mp e
          obtain ⟨Ts, qs, a1, a2, a3, a4⟩ := prs_of I e2 dxs rvs
          cases dx with
          | @tup T zs _ hs ha =>
            cases ha with
            | @cons k zs1 _ _ d1 ha =>
              cases ha with
              | @cons w zs2 _ _ d2 ha =>
                cases ha
                obtain ⟨its, r2, ht, _⟩ := I.tuple (sqT_of hs)
                obtain ⟨b, rfl, hk⟩ := DvB.key (T := none) (.inl d1) e1
                cases r2 with
                | @cons _ i1 _ _ q1 r2 =>
                  cases r2 with
                  | @cons _ i2 _ _ q2 r2 =>
                    cases r2
                    cases q1
                    cases rv
                    refine ⟨T :: Ts, (ns, b, i2) :: qs, by rw [List.map_cons, ← a1], by simp [a2], .cons ⟨rfl, hk, w, q2, d2⟩ a3, fun j q z => ?_⟩
                    cases j with
                    | zero => cases z; exact ⟨T, rfl, ht⟩
                    | succ j => exact a4 j q z
        · cases e
theorem storedAll_rel : ∀ {qs : List (List Int × Addr × Value)} {ps : List (List Int × PyData)} {xs : List (List Int × Addr × Value)} {rest : List (PyData × PyData)}, Paired (DRel A X.K H) qs (ps.map fun p => (PyData.tuple (p.1.map .int), p.2)) → (xs.map (·.1)).Nodup → Paired (DRel A X.K H) xs rest →
    Paired (DRel A X.K H) (storedAllH xs qs) (foldT ps rest)
  | [], [], _, _, _, _, h => h
  | [], _ :: _, _, _, h, _, _ => by cases h
  | _ :: _, [], _, _, h, _, _ => by cases h
  | q :: qs, p :: ps, xs, rest, h, hn, hr => by
    cases h with
    | cons h1 h2 =>
      obtain ⟨e1, hk, v, rv, dv⟩ := h1
      have e1 : q.1 = p.1 := by
        have e1 : PyData.tuple (p.1.map .int) = .tuple (q.1.map .int) := e1
        have := congrArg intsOf (PyData.tuple.inj e1)
        rw [intsOf_map, intsOf_map] at this
        exact (Option.some.inj this).symm
      have nd : ((storedH xs q.1 q.2.1 q.2.2).map (·.1)).Nodup := by
        unfold storedH
        split
        · have : (xs.map (putAt q.1 q.2.2)).map (·.1) = xs.map (·.1) := by
            rw [List.map_map]
            refine List.map_congr_left fun x _ => ?_
            show (putAt q.1 q.2.2 x).1 = x.1
            unfold putAt
            split <;> rfl
          rw [this]; exact hn
        · rename_i c
          rw [List.map_append, List.nodup_append]
          refine ⟨hn, by simp, fun a ha b hb => ?_⟩
          obtain ⟨x, hx, rfl⟩ := List.mem_map.mp ha
          simp only [List.map_cons, List.map_nil, List.mem_singleton] at hb
          subst hb
          intro e
          refine c ?_
          unfold atKey
          rw [Option.isSome_map, List.find?_isSome]
          exact ⟨x, hx, by simp [e]⟩
      have step := putT_rel hk rv dv hn hr
      have := storedAll_rel h2 nd step
      unfold foldT at this ⊢
      rw [List.foldl_cons, ← e1]
      exact this
theorem storedAll_len (qs : List (List Int × Addr × Value)) : ∀ xs : List (List Int × Addr × Value), (storedAllH xs qs).length ≤ xs.length + qs.length := by
  induction qs with
  | nil => intro xs; exact Nat.le_refl _
  | cons q qs ih =>
    intro xs
    have h := ih (storedH xs q.1 q.2.1 q.2.2)
    have h2 : (storedH xs q.1 q.2.1 q.2.2).length ≤ xs.length + 1 := by
      unfold storedH
      split
      · rw [List.length_map]; omega
      · simp
    show (storedAllH (storedH xs q.1 q.2.1 q.2.2) qs).length ≤ _
    rw [List.length_cons]; omega
theorem cv_dictT (hc : X.calm = true) (hu : X.A.units + 2 < cLine) : CallV X (.type "dict") gDictT := ⟨fun vs H Q => ∃ a us xs ps A, vs = [.ref a] ∧ SqL X.K H a us ∧ DvAll A X.K H us xs ∧ pairsT xs = some ps ∧ ps.length ≤ 100000 ∧
    ∀ p qs, H p = none → Paired (DRel A X.K H) (storedAllH [] qs) (foldT ps []) → Q (.ref p) (upd H p (DO p (storedAllH [] qs))), fun pins s σ H vs us Q I r h => by
  obtain ⟨a, zs, xs, ps, A, rfl, hs, hd, e, hl, q⟩ := h
  rw [Vals.ref1 r]
  obtain ⟨its, rv, pl, hz⟩ := I.list hs
  obtain ⟨Ts, qs, hp⟩ := prs_of I e hd rv
  have lq : qs.length = ps.length := by rw [Paired.length hp.rel, List.length_map]
  obtain ⟨o, n, ho, hc', hd', hdat⟩ := pl
  have len : its.toArray.size = qs.length := by rw [List.size_toArray, hp.eus, List.length_map, hp.l1]
  have P := PySem.PairArg.list (prog := X.prog) (w := X.w) a its.toArray (fun j => Ts.getD j 0) (qs.map fun q => (Value.ref q.2.1, q.2.2))
  have keys : ∀ x ∈ qs, KeyAt A X.K H x.2.1 x.1 := by
    have : ∀ {qs : List (List Int × Addr × Value)} {kvs : List (PyData × PyData)}, Paired (DRel A X.K H) qs kvs → ∀ x ∈ qs, KeyAt A X.K H x.2.1 x.1 := by
      intro qs kvs h
      induction h with
      | nil => intro x hx; cases hx
      | cons h t ih =>
        intro x hx
        rcases List.mem_cons.mp hx with rfl | hx
        · exact h.2.1
        · exact ih x hx
    exact this hp.rel
  refine PySem.call_dict_pairsH (knd := tupleKind (intKind X.prog X.w)) (ps := qs) P (I.ok.hd hc) (show X.A.in1.in1.units < cLine from hu) ⟨⟨o, n, ho, hc', hd', hdat⟩, ?_⟩ ⟨?_, ?_⟩ (fun h' hk x hx => ?_) ?_ fun h' tk dd k => ?_
  · refine ⟨by rw [len, List.length_map], fun j k v z => ?_⟩
    rw [List.getElem?_map] at z
    obtain ⟨q, z1, z2⟩ := Option.map_eq_some_iff.mp z
    cases z2
    obtain ⟨T, t1, t2⟩ := hp.at_ j q z1
    have tD : Ts.getD j 0 = T := by rw [List.getD_eq_getElem?_getD, t1]; rfl
    refine ⟨?_, .inl ?_⟩
    · show its.toArray[j]? = some (Value.ref (Ts.getD j 0))
      rw [tD, hp.eus]
      simp [t1]
    · show s.heap.IsTuple (Ts.getD j 0) _
      rw [tD]; exact t2
  · rw [List.length_map]
  · intro i key v z
    have z : (qs.map fun q => (Value.ref q.2.1, q.2.2))[i]? = some (key, v) := z
    rw [List.getElem?_map] at z
    obtain ⟨q, z1, z2⟩ := Option.map_eq_some_iff.mp z
    cases z2
    exact ⟨q.1, q.2.1, z1, rfl⟩
  · have kx : IsTupleKey (intKind X.prog X.w) s.heap x.1 x.2.1 := I.keyT (keys x hx)
    obtain ⟨o2, it2, n2, g1, g2⟩ := kx
    exact ⟨o2, it2, n2, hk _ _ (Nat.ne_of_lt (Heap.lt_size g1)) (by simp) g1, g2⟩
  · rw [List.length_map, sizeLine_eq]; omega
  · have hp0 : H s.heap.objs.size = none := I.hok.fresh (Nat.le_refl _)
    have ms : (s.heap.objs.size == sysModules) = false := beq_eq_false_iff_ne.mpr (Ne.symm (Nat.ne_of_lt I.big))
    have lz := storedAll_len qs []
    have D := DTat.of (by rw [sizeLine_eq]; simp at lz; omega) ms dd
    exact ⟨.ref _, _, I.laid (t' := tk) (o := DO s.heap.objs.size (storedAllH [] qs)) (fun b u z => k b u (by simp) z) (Nat.le_refl _) (do_new D), rfl, q _ qs hp0 (storedAll_rel hp.rel List.nodup_nil .nil)⟩, fun A T vs xs w H Q tr rx e q => by
  unfold gDictT at e
  split at e
  · rename_i ys
    split at e
    · cases e
    · obtain ⟨ps, e1, e2⟩ := Option.bind_eq_some_iff.mp e
      split at e2
      · rename_i hl
        cases e2
        obtain ⟨v, rfl, r⟩ := rx.one
        obtain ⟨a, us, rfl, h1, h2⟩ := r.lst
        refine ⟨a, us, ys, ps, A, rfl, h1, h2, e1, hl, fun p qs hp hr => q _ _ (Grow.upd hp) ⟨p, rfl, hp, .inr (.inl ⟨_, _, rfl, upd_same, Paired.impl (fun x y z => z.mono ?_) hr⟩)⟩⟩
        exact fun b u nb rb => ⟨fun z => z.elim nb fun e => (by rw [e, hp] at rb; cases rb), Grow.upd hp _ _ rb⟩
      · cases e2
  · cases e⟩
end
/-! len(dict([(k, ..), ..])), ints -/
def gLenDict : List PyData → Option W
  | [.list xs] => (pairKs xs).bind fun ks => if ks.length ≤ 1000 then some (.d (.int (ssetI ks).length)) else none
  | _ => none
theorem keyF_len (ks : List Int) : (ks.foldl keyF []).length = (ssetI ks).length := by
  obtain ⟨h1, h2, _⟩ := keyF_facts ks [] List.nodup_nil
  refine ((List.perm_ext_iff_of_nodup h1 ((ssetI_pw ks).imp fun q => Int.ne_of_lt q)).mpr fun z => ?_).length_eq
  rw [h2, ssetI_mem]
  simp
theorem cr_lenK {X : Cx} : CallR X (.builtin "len") (fun vs H Q => ∃ (a : Addr) (ks : List (Key × V)), vs = [.ref a] ∧ H a = some (.dK ks) ∧ Q (.int ks.length) H) := by
  intro pins s σ H vs us Q I r h
  obtain ⟨a, ks, rfl, e, q⟩ := h
  rw [Vals.ref1 r]
  obtain ⟨z, hd, ys, rel, dd⟩ := dk_of I.hok e
  refine call_len_dict hd dd (by rw [← rel.length]; rw [sizeLine_eq] at z; omega) ?_
  rw [← rel.length]
  exact ⟨.int ks.length, H, I.tok _, ⟨_, rfl⟩, q⟩
theorem ev_lenDict {X : Cx} {e : Expr} {ds : Fds} {p p2 pos pos2 : Pos} (hc : X.calm = true) (hg : Gl X "len") (hm : X.mg "len" = none) (hg2 : Gl X "dict") (hm2 : X.mg "dict" = none) (ha : EvD X [e] ds)
    (hbs : bootBuiltins "len" = some (.builtin "len")) (hbd : bootBuiltins "dict" = some (.type "dict")) (he : starEach [e] X.env = (false, eval e X.env) :: starEach [] X.env := by rfl)
    (he2 : starEach [Expr.Call (.Name "dict" p2) [e] [] pos2] X.env = (false, eval (Expr.Call (.Name "dict" p2) [e] [] pos2) X.env) :: starEach [] X.env := by rfl)
    (hpl : (backTo pos (starEach [] X.env)).any (·.1) = false := by rfl) (hpl2 : (backTo pos2 (starEach [] X.env)).any (·.1) = false := by rfl) :
    EvE X (.Call (.Name "len" p) [.Call (.Name "dict" p2) [e] [] pos2] [] pos) (eApp gLenDict ds) := by
  have inner := pe_callTy (call_dictP hc) hg2 hm2 hbd ha (pos := pos2) (p := p2) (he := he) (hpl := hpl2)
  refine peI (pe_callB cr_lenK hg hm hbs (pa_cons inner pa_nil he2) (by decide) (by decide) he2 hpl) fun σ H Q h => ?_
  refine app_run (r := fun vs H Q => ∃ (a : Addr) (ps : List Addr) (kvs : List (Key × V)), vs = [V.ref a] ∧ SqL X.K H a (ps.map V.ref) ∧ Paired (fun p kv => SqT X.K H p [kV kv.1, kv.2]) ps kvs ∧
    ∀ p, H p = none → (fun (v : V) (H2 : Hp) => ∃ (a : Addr) (ks : List (Key × V)), [v] = [V.ref a] ∧ H2 a = some (.dK ks) ∧ Q (.int ks.length) H2) (V.ref p) (upd H p (.dK (mergeK [] kvs)))) (fun A T vs xs w H Q tr rx e q => ?_) h
  unfold gLenDict at e
  split at e
  · rename_i ys
    obtain ⟨ks, h1, e⟩ := Option.bind_eq_some_iff.mp e
    split at e
    · rename_i hlen
      cases e
      obtain ⟨v, rfl, r⟩ := rx.one
      obtain ⟨a, us, rfl, k1, k2⟩ := r.lst
      obtain ⟨ps, kvs, rfl, k3, k4⟩ := dvAll_pairs h1 k2
      refine ⟨a, ps, kvs, rfl, k1, k3, fun p hp => ⟨p, _, rfl, upd_same, ?_⟩⟩
      have ml := congrArg List.length (merge_keys kvs [] ks [] k4 rfl)
      rw [List.length_map, List.length_map, keyF_len] at ml
      rw [ml]
      exact q _ _ (Grow.upd hp) (.int _)
    · cases e
  · cases e
/-- by the one road, or by the other -/
def eAlt (f g : Fe) : Fe := fun ρ n => (f ρ n).or (g ρ n)
theorem ev_alt {X : Cx} {e : Expr} {f g : Fe} (h1 : EvE X e f) (h2 : EvE X e g) : EvE X e (eAlt f g) := ⟨fun pins s σ H Q I h => by
  obtain ⟨C, O, ρ, n, w, n', hf, E, q⟩ := h
  have hf : (f ρ n).or (g ρ n) = some (w, n') := hf
  cases hx : f ρ n with
  | none =>
    rw [hx] at hf
    exact h2.run pins s σ H Q I ⟨C, O, ρ, n, w, n', by simpa using hf, E, q⟩
  | some z =>
    rw [hx] at hf
    exact h1.run pins s σ H Q I ⟨C, O, ρ, n, w, n', hx.trans (by simpa using hf), E, q⟩⟩
theorem hu2 {l : Nat} {A : Around} (r : Room l A) : A.units + 2 < cLine := by have := r.un; omega
end L2.Lv
namespace L2.Lv
open PySem PySem.Spec PyProof.Rows PySem.W
/-! min of a list of alike data -/
section
variable {X : Cx}
end
end L2.Lv
namespace L2.Lv
open PySem PySem.Spec PyProof.Rows
/-! what may be raised: classes by number -/
abbrev Fex := List W → Nat → Option ((W × Nat) ⊕ (Nat × Nat))
abbrev Fnx := List W → Nat → Option ((W × Nat) ⊕ (Nat × Nat))
abbrev Fsx := List W → Nat → Option (Out ⊕ (Nat × List W × Nat))
def spX (K : PySem.W.Frag) (cls : Nat → Addr) (k : Nat) (F : Fnx) : Sp := fun vs H Q E => ∃ (T : Option Addr) (P : Addr → Prop) (ws : List W) (n : Nat) (r : (W × Nat) ⊕ (Nat × Nat)),
  (∀ a, P a → H a ≠ none) ∧ TownAt ⟨T, P, H⟩ H n ∧ ws.length = k ∧ ArgsOk (Av ⟨T, P, H⟩ Ow0) T K H vs ws ∧ F ws n = some r ∧
  match r with
  | .inl (w, n') => ∀ v H', Step ⟨T, P, H⟩ H H' → TownAt ⟨T, P, H⟩ H' n' → Res (Av ⟨T, P, H⟩ Ow0) T K H H' v w → Q v H'
  | .inr (c, n') => ∀ H', Step ⟨T, P, H⟩ H H' → TownAt ⟨T, P, H⟩ H' n' → E (.ref (cls c)) none H'
theorem spX.len {K : PySem.W.Frag} {cls : Nat → Addr} {k : Nat} {F : Fnx} : ∀ vs H Q E, spX K cls k F vs H Q E → vs.length = k := by
  rintro vs H Q E ⟨T, P, ws, n, r, _, _, hl, ha, _⟩
  rw [← hl]
  exact Paired.length ha
def tVR (K : PySem.W.Frag) (cls : Nat → Addr) (V : WX) (f : Fex) : TE := fun σ H Q => ∃ C O ρ n r, f ρ n = some r ∧ EnvOk C O K σ H ρ n ∧
  match r with
  | .inl (w, n') => ∀ v H', Step C H H' → TownAt C H' n' → Res (Av C O) C.T K H H' v w → Q v H'
  | .inr (c, n') => ∀ H', Step C H H' → TownAt C H' n' → V (.ref (cls c)) none σ H'
def tSX (K : PySem.W.Frag) (cls : Nat → Addr) (V : WX) (f : Fsx) : TS := fun D σ H => ∃ C O ρ n r, f ρ n = some r ∧ EnvOk C O K σ H ρ n ∧ OwnP C O ∧
  match r with
  | .inl out => EndOk C O K H D out
  | .inr (c, ρ', n') => ∀ O' σ' H', StepS C O O' H H' → EnvOk C O' K σ' H' ρ' n' → V (.ref (cls c)) none σ' H'
section
variable {X : Cx} {cls : Nat → Addr} {V : WX} {e : Expr} {es : List Expr} {fs : Fa} {st : Stmt} {sts sts' rest : List Stmt} {pos : Pos} {f : Fex} {g h : Fs} {r r1 r2 : Fsx}
/-- a call that may raise -/
def xCall (F : Fnx) (fs : Fa) : Fex := fun ρ n => (fs ρ n).bind fun p => F p.1 p.2
theorem ex_call {k j l : Nat} {F : Fnx} {x : Str} {p : Pos} {ps : List Str} {dst : Stmt} (tk : Takes X V) (D : DF X.K X.mg x dst ps) (G : FnOk X.prog X.w X.K X.mg X.base (L2.CX X.prog X.w) j D.f D.fd ps (spX X.K cls k F)) (hr : Room l X.A) (hj : j ≤ l) (hg : Gl X x) (ha : EvA X (e :: es) fs)
    (hl : (e :: es).length = k := by rfl) (hdb : (x == ("__debug__" : Str)) = false := by decide) (he : starEach (e :: es) X.env = (false, eval e X.env) :: starEach es X.env := by rfl) (hpl : (backTo pos (starEach es X.env)).any (·.1) = false := by rfl) :
    PE X (.Call (.Name x p) (e :: es) [] pos) (tVR X.K cls V (xCall F fs)) := peI (pe_callS G (hr.mono hj) hg D.g D.F.kp D.b (fun σ => passAt tk σ) ha.pa hdb he hpl) (by
  rintro σ H Q ⟨C, O, ρ, n, r, hf, E, q⟩
  unfold xCall at hf
  obtain ⟨⟨ws, n1⟩, e1, hf⟩ := Option.bind_eq_some_iff.mp hf
  refine ⟨C, O, ρ, n, ws, n1, e1, E, fun vs H1 s1 t1 r1 => ?_⟩
  have E1 := E.step s1 t1
  have av1 : ∀ a, Av ⟨C.T, fun a => C.P a ∨ ∃ i, O i = some a, H1⟩ Ow0 a → Av C O a := by
    rintro a ((z | z) | z | ⟨i, z⟩)
    · exact .inl z
    · exact .inr (.inr z)
    · exact .inr (.inl z)
    · cases z
  have av2 : ∀ a, Av C O a → Av ⟨C.T, fun a => C.P a ∨ ∃ i, O i = some a, H1⟩ Ow0 a := by
    rintro a (z | z | z)
    · exact .inl (.inl z)
    · exact .inr (.inl z)
    · exact .inl (.inr z)
  refine ⟨C.T, fun a => C.P a ∨ ∃ i, O i = some a, ws, n1, r, fun a z => E1.av a (z.elim .inl fun z => .inr (.inr z)), t1, ?_, ?_, hf, ?_⟩
  · rw [ha.len _ _ _ _ e1, hl]
  · refine Paired.impl (fun v w z => ?_) r1
    cases w with
    | d x => exact Dv.mono (fun a u n r => ⟨fun z => n (av1 a z), r⟩) z
    | town => exact z
    | no => exact z
    | ol _ => exact z
    | od _ => exact z
  · match r, q with
    | .inl (w, n'), q =>
      intro v H2 s2 t2 r2
      have s2' : Step C H1 H2 := ⟨s2.st, s2.fr⟩
      exact q v H2 (s1.trans s2') t2 ((r2.av av2).back s1.fr)
    | .inr (c, n'), q =>
      intro H2 s2 t2
      have s2' : Step C H1 H2 := ⟨s2.st, s2.fr⟩
      exact q H2 (s1.trans s2') t2)
def lft (g : Fs) : Fsx := fun ρ n => (g ρ n).map .inl
theorem sxs_lift (hs : EvSs X sts g) : PSs X sts (tSX X.K cls V (lft g)) := pssI hs (by
  rintro D σ H ⟨C, O, ρ, n, r, hf, E, np, q⟩
  obtain ⟨o, e1, e2⟩ := Option.map_eq_some_iff.mp hf
  cases e2
  exact ⟨C, O, ρ, n, o, e1, E, np, q⟩)
theorem sxs_nox (hs : EvSs X.nox sts g) : PSs X sts (tSX X.K cls V (lft g)) := sxs_lift hs.nox
def sSeqX (r1 r2 : Fsx) : Fsx := fun ρ n => (r1 ρ n).bind fun o => match o with
  | .inl (.nx ρ' n') => r2 ρ' n'
  | o => some o
theorem sx_cons (h1 : PS X st (tSX X.K cls V r1)) (h2 : PSs X rest (tSX X.K cls V r2)) : PSs X (st :: rest) (tSX X.K cls V (sSeqX r1 r2)) := pssI (pss_cons h1 h2) (by
  rintro D σ H ⟨C, O, ρ, n, r, hf, E, np, q⟩
  unfold sSeqX at hf
  obtain ⟨o, e1, hf⟩ := Option.bind_eq_some_iff.mp hf
  refine ⟨C, O, ρ, n, o, e1, E, np, ?_⟩
  match o, hf with
  | .inl (.nx ρ' n'), hf =>
    intro O' σ' H' s E'
    refine ⟨C, O', ρ', n', r, hf, E', np.step E s, ?_⟩
    match r, q with
    | .inl out, q => exact EndOk.after s q
    | .inr (c, ρ2, n2), q => exact fun O2 σ2 H2 s2 E2 => q O2 σ2 H2 (s.trans s2) E2
  | .inl (.rt w n'), hf => cases hf; exact q
  | .inl (.bk ρ' n'), hf => cases hf; exact q
  | .inr (c, ρ', n'), hf => cases hf; exact q)
def sEndX (is : List Nat) (r : Fsx) : Fsx := fun ρ n => (r ρ n).map fun o => match o with
  | .inl (.nx ρ' n') => .inl (.nx (wipeW ρ' is) n')
  | o => o
theorem sx_end (is : List Nat) (h1 : PS X st (tSX X.K cls V r1)) : PS X st (tSX X.K cls V (sEndX is r1)) := psI h1 (by
  rintro D σ H ⟨C, O, ρ, n, r, hf, E, np, q⟩
  unfold sEndX at hf
  obtain ⟨o, e1, hf⟩ := Option.map_eq_some_iff.mp hf
  refine ⟨C, O, ρ, n, o, e1, E, np, ?_⟩
  match o, hf with
  | .inl (.nx ρ' n'), hf => cases hf; exact fun O' σ' H' s E' => q O' σ' H' s (E'.wipe is)
  | .inl (.rt w n'), hf => cases hf; exact q
  | .inl (.bk ρ' n'), hf => cases hf; exact q
  | .inr (c, ρ', n'), hf => cases hf; exact q)
theorem sx_one (h1 : PS X st (tSX X.K cls V r1)) : PSs X [st] (tSX X.K cls V r1) := pss_one h1
def sIfX (c : Ft) (r1 r2 : Fsx) : Fsx := fun ρ n => (c ρ n).bind fun p => if p.1 then r1 ρ p.2 else r2 ρ p.2
theorem sx_if {c : Expr} {tc : Ft} (hc : EvT X c tc) (ha : PSs X sts (tSX X.K cls V r1)) (hb : PSs X sts' (tSX X.K cls V r2)) : PS X (.If c sts sts' pos) (tSX X.K cls V (sIfX tc r1 r2)) := psI (ps_if hc ha hb) (by
  rintro D σ H ⟨C, O, ρ, n, r, hf, E, np, q⟩
  unfold sIfX at hf
  obtain ⟨⟨x, n1⟩, e1, hf⟩ := Option.bind_eq_some_iff.mp hf
  refine ⟨C, O, ρ, n, x, n1, e1, E, fun H1 s t => ?_⟩
  have fin : ∀ rr : Fsx, rr ρ n1 = some r → tSX X.K cls V rr D σ H1 := fun rr e2 => by
    refine ⟨C, O, ρ, n1, r, e2, E.step s t, np, ?_⟩
    match r, q with
    | .inl out, q => exact EndOk.after s.stepS0 q
    | .inr (c, ρ2, n2), q => exact fun O2 σ2 H2 s2 E2 => q O2 σ2 H2 (s.stepS0.trans s2) E2
  cases x with
  | true => exact fin r1 (by simpa using hf)
  | false => exact fin r2 (by simpa using hf))
def sDropX (f : Fex) : Fsx := fun ρ n => (f ρ n).map fun r => match r with
  | .inl (_, n') => .inl (.nx ρ n')
  | .inr (c, n') => .inr (c, ρ, n')
theorem sx_expr (ha : PE X e (tVR X.K cls V f)) (hs : swapsWith e none pos.line X.env = pure false := by rfl) : PS X (.Expr e pos) (tSX X.K cls V (sDropX f)) := psI (ps_expr ha hs) (by
  rintro D σ H ⟨C, O, ρ, n, r, hf, E, np, q⟩
  unfold sDropX at hf
  obtain ⟨o, e1, e2⟩ := Option.map_eq_some_iff.mp hf
  refine ⟨C, O, ρ, n, o, e1, E, ?_⟩
  match o, e2 with
  | .inl (w, n1), e2 => cases e2; exact fun v H1 s t r => q O σ H1 s.stepS0 (E.step s t)
  | .inr (c, n1), e2 => cases e2; exact fun H1 s t => q O σ H1 s.stepS0 (E.step s t))
/-- X() -/
theorem pmk_own0 {C : Addr} {bmB : List Value} {B newId initId : String} {x : Str} {p pos : Pos} (F : ExcBaseFacts B newId initId bmB) (q : PySem.W.excIn X.K C bmB newId = true) (gC : X.mg x = some (.ref C)) (kC : PySem.W.keepIn X.K (.ref C) = true) (r : Raises X (.ref C)) (hg : Gl X x)
    (hdb : (x == ("__debug__" : Str)) = false := by decide) : PMk X (.Call (.Name x p) [] [] pos) (fun _ H Q => Q (.ref C) none H) := by
  intro pins s σ H Q I h
  refine wpAny_Call_Name_kw (ld_glob I hg gC ?_ hdb)
  refine PySem.W.callWith_K0 I.kIn kC ?_
  show wpAny _ _ (call (.ref C) []) _ _ _
  obtain ⟨bm, N, nm, qn, bs, hdct, sn, sub, ab, col, dd, k0, k1, k2, k3, k5, mN, hC, hN, hni, T⟩ := exc_obj I.kIn q
  refine wpAny_call_exc_subT F T hC hN hni (fun h' e hm => ?_) (Nat.zero_le _)
  exact mk_of I hm r h (I.hok.gone hm.new)
def sRz (c : Nat) : Fsx := fun ρ n => some (.inr (c, ρ, n))
theorem sx_raise {c : Nat} (hc : X.calm = true) (tk : Takes X V) (he : PMk X e (fun _ H Q => Q (.ref (cls c)) none H)) : PS X (.Raise (some e) none pos) (tSX X.K cls V (sRz c)) := psI (ps_raise hc tk he) (by
  rintro D σ H ⟨C, O, ρ, n, r, hf, E, np, q⟩
  cases hf
  exact q O σ H Step.refl.stepS0 E)
/-- try: .. except X: .. -/
def sTry (r : Fsx) (g : Fs) : Fs := fun ρ n => (r ρ n).bind fun o => match o with
  | .inl out => some out
  | .inr (_, ρ', n') => g ρ' n'
theorem ss_try {x : Str} {np pos' : Pos} {C : Addr} {b₀ : Stmt} (ht : ∀ c, PySem.W.exmOne X.K (.ref (cls c)) (.ref C) = some true) (hs : X.stack = X.env :: X.outer) (hf : X.env.frame = some X.env.locals) (hc : Names X x (.ref C))
    (hb : ∀ (V : WX) (pn : List (Addr × Obj)) (xe : Value → Shared → Prop), Takes (X.tr pn xe) V → PSs (X.tr pn xe) sts (tSX X.K cls V r))
    (hsu : ∀ (a : Addr) (oe : Obj) (pn : List (Addr × Obj)), EvSs (X.suite a ((a, oe) :: pn)) (b₀ :: sts') g) :
    EvS X (.Try sts [.ExceptHandler (some (.Name x np)) none (b₀ :: sts') pos'] [] [] pos) (sTry r g) :=
  psI (ps_try_only (Wout := fun _ _ _ _ => False) (tb := fun V => tSX X.K cls V r) (ts := fun _ _ _ => tVS X.K g) hs hf hc takes0 (fun V pn xe tk _ => hb V pn xe tk) (fun a oe _ _ pn _ _ => hsu a oe pn)) (by
  rintro D σ H ⟨C', O, ρ, n, out, hf, E, np, q⟩
  unfold sTry at hf
  obtain ⟨o, e1, hf⟩ := Option.bind_eq_some_iff.mp hf
  refine ⟨C', O, ρ, n, o, e1, E, np, ?_⟩
  match o, hf with
  | .inl o, hf => cases hf; exact q
  | .inr (c, ρ', n'), hf =>
    intro O' σ' H' s E'
    exact ⟨true, ht c, fun _ a _ => ⟨C', O', ρ', n', out, hf, E', np.step E s, EndOk.after s q⟩, fun z => nomatch z⟩)
end
/-- a def that may raise -/
def runX (m : Nat) (r : Fsx) : Fnx := fun ws n => (r (ws ++ List.replicate (m - ws.length) .no) n).bind fun o => match o with
  | .inl (.rt w n') => some (.inl (w, n'))
  | .inl (.nx _ n') => some (.inl (.d .none, n'))
  | .inl (.bk _ _) => none
  | .inr (c, _, n') => some (.inr (c, n'))
theorem fn_valx {P : Program} {w : World} {K : PySem.W.Frag} {mg : Str → Option Value} {base : Heap} {x qual : Str} {st : Stmt} {f : Addr} {fd : FuncData} {N ps : List Str} {k : Nat} {cls : Nat → Addr} {r : Fsx} (F : Fun K x qual st f fd) (S : FnScope N ps (defScope st))
    (hb : ∀ (cdv : Value) (A : Around) (outer : List Env) (s : Shared) (H : Hp) (E : XK), Room k (A.deeper (envOfC qual (defScope st) s.heap.objs.size f cdv)) →
      PSs (cxOf (L2.CX P w) P w K mg base N qual (defScope st) f cdv A outer s H E) (defBody st) (tSX K cls (fun c d _ H => E c d H) r)) : FnOk P w K mg base (L2.CX P w) (k + 1) f fd ps (spX K cls ps.length (runX N.length r)) := by
  refine F.okX S spX.len fun cdv A outer s H vs Q E hr h => ⟨_, hb cdv A outer s H E hr, ?_⟩
  obtain ⟨T, Pp, ws, n, rr, hP, t, hl, ha, hf, q⟩ := h
  unfold runX at hf
  obtain ⟨o, e1, hf⟩ := Option.bind_eq_some_iff.mp hf
  refine ⟨⟨T, Pp, H⟩, Ow0, _, n, o, e1, start_env hP t ha, fun i a z => (nomatch z), ?_⟩
  match o, hf with
  | .inl (.rt w1 n1), hf =>
    cases hf
    exact fun v H' r => q v H' ⟨r.base, r.fr⟩ r.town r.res
  | .inl (.nx ρ1 n1), hf =>
    cases hf
    exact fun O' σ' H' s E' => q .non H' ⟨E'.base, E'.fr⟩ E'.town .non
  | .inl (.bk ρ1 n1), hf => cases hf
  | .inr (c, ρ1, n1), hf =>
    cases hf
    exact fun O' σ' H' s E' => q H' ⟨E'.base, E'.fr⟩ E'.town
/-- a class of the program's own, caught by its own name -/
theorem exm_own {K : PySem.W.Frag} {S : Addr} (hb : PySem.W.subIn K (.ref S) (.type "BaseException") = some true) (hi : PySem.W.isClsIn K S = true) (ht : PySem.W.typeIn K (.ref S) = some (.type "type")) (hs : PySem.W.subIn K (.ref S) (.ref S) = some true) :
    PySem.W.exmOne K (.ref S) (.ref S) = some true := by
  unfold PySem.W.exmOne PySem.W.kitCls
  unfold PySem.W.isClsIn at hi
  simp [hb, hi, ht, hs]
end L2.Lv
set_option maxHeartbeats 1000000
namespace L2.Lv.Tb
open PySem PySem.Spec PyProof.Rows L2
/-! tables of sets, up to 511 -/
def Msk (m : Nat) : Prop := m = 7 ∨ m = 31 ∨ m = 127 ∨ m = 511
theorem lcg_shift (m i : Nat) : ∀ k, lcgI m ((i * 5 + 1) % (m + 1)) k = lcgI m i (k + 1)
  | 0 => rfl
  | k + 1 => by
    have ih := lcg_shift m i k
    show (lcgI m ((i * 5 + 1) % (m + 1)) k * 5 + 1) % (m + 1) = (lcgI m i (k + 1) * 5 + 1) % (m + 1)
    rw [ih]
def orbit : Nat → Nat → List Nat
  | 0, _ => []
  | n + 1, x => x :: orbit n ((x * 5 + 1) % (511 + 1))
theorem orbit_at : ∀ (n x k : Nat), k < n → (orbit n x)[k]? = some (lcgI 511 x k)
  | 0, _, _, h => by omega
  | n + 1, x, 0, _ => rfl
  | n + 1, x, k + 1, h => by
    show (orbit n ((x * 5 + 1) % (511 + 1)))[k]? = _
    rw [orbit_at n _ k (by omega), lcg_shift]
theorem orbit_all : ((List.range 512).all fun j => (orbit 512 0).contains j) = true := by decide +kernel
theorem orbit_back : (orbit 513 0)[512]? = some 0 := by decide +kernel
theorem from0 {j : Nat} (hj : j ≤ 511) : ∃ k, k ≤ 511 ∧ lcgI 511 0 k = j := by
  have h := List.all_eq_true.mp orbit_all j (List.mem_range.mpr (by omega))
  have h : j ∈ orbit 512 0 := by simpa using h
  obtain ⟨k, hk, e⟩ := List.getElem_of_mem h
  have hl : ∀ n x, (orbit n x).length = n := by
    intro n
    induction n with
    | zero => intro x; rfl
    | succ n ih => intro x; show (orbit n _).length + 1 = _; rw [ih]
  have hk' : k < 512 := by rw [hl] at hk; exact hk
  have a := orbit_at 512 0 k hk'
  rw [List.getElem?_eq_getElem hk, e] at a
  exact ⟨k, by omega, (Option.some.inj a).symm⟩
theorem lcg_plus (m i a : Nat) : ∀ k, lcgI m (lcgI m i a) k = lcgI m i (a + k)
  | 0 => rfl
  | k + 1 => by
    have ih := lcg_plus m i a k
    show (lcgI m (lcgI m i a) k * 5 + 1) % (m + 1) = (lcgI m i (a + k) * 5 + 1) % (m + 1)
    rw [ih]
theorem lcg_meets {m : Nat} (hm : Msk m) {i j : Nat} (hi : i ≤ m) (hj : j ≤ m) : ∃ k, k ≤ m ∧ lcgI m i k = j := by
  rcases hm with e | e | e | e
  · exact lcgI_all (.inl e) hi hj
  · exact lcgI_all (.inr (.inl e)) hi hj
  · exact lcgI_all (.inr (.inr e)) hi hj
  · subst e
    obtain ⟨a, la, ea⟩ := from0 hi
    obtain ⟨b, lb, eb⟩ := from0 hj
    have back : lcgI 511 0 512 = 0 := by
      have := orbit_at 513 0 512 (by omega)
      rw [orbit_back] at this
      exact (Option.some.inj this).symm
    subst ea
    by_cases c : a ≤ b
    · refine ⟨b - a, by omega, ?_⟩
      have s : a + (b - a) = b := by omega
      rw [lcg_plus, s, eb]
    · refine ⟨512 + b - a, by omega, ?_⟩
      have s : a + (512 + b - a) = 512 + b := by omega
      rw [lcg_plus, s, ← lcg_plus, back, eb]
theorem run_hits {m : Nat} (hm : Msk m) (h : Int) {j : Nat} (hj : j ≤ m) : ∃ n, n ≤ m + 12 ∧ runI m (SetTable.bits h) n = j := by
  obtain ⟨k, l, e⟩ := lcg_meets hm (runI_le m (SetTable.bits h) 12) hj
  refine ⟨12 + k, by omega, ?_⟩
  rw [runI_tail (bits_lt h), e]
theorem way_hits {m : Nat} (hm : Msk m) (h : Int) {j : Nat} (hj : j ≤ m) : ∃ k, k < 10 * SetTable.turns m ∧ way m h k = j := by
  obtain ⟨n, l, e⟩ := run_hits hm h hj
  obtain ⟨k, lk, ek⟩ := run_nth m (SetTable.bits h) n
  have tn : SetTable.turns m = m + 15 := rfl
  refine ⟨k, by omega, ?_⟩
  unfold way
  rw [ek]
  exact e
theorem way_in (m : Nat) (h : Int) (k : Nat) : way m h k ≤ m := by
  have l0 : SetTable.bits h % (m + 1) ≤ m := by
    have := Nat.mod_lt (SetTable.bits h) (show 0 < m + 1 by omega)
    omega
  have l1 := runEnd_bd l0
  have start : (runAt m (SetTable.bits h % (m + 1)) (SetTable.bits h)).j + (runAt m (SetTable.bits h % (m + 1)) (SetTable.bits h)).more ≤ m := by
    unfold runAt
    dsimp only
    omega
  have := nth_in k _ start
  unfold way
  omega
/-- a table whose places are found again -/
structure TabQ (t : SetTable) (hs : List Int) : Prop where
  up : Ris t.place.toList
  nodum : t.dummies = #[]
  cnt : t.place.size = hs.length
  msk : Msk t.mask
  low : ∀ x ∈ t.place.toList, x ≤ t.mask
  find : ∀ (i : Nat) (h : Int) (j : Nat), hs[i]? = some h → t.place.toList[i]? = some j → ∃ k, way t.mask h k = j ∧ ∀ k', k' < k → way t.mask h k' ∈ t.place.toList
theorem TabQ.of {t : SetTable} {hs : List Int} (T : TabOk t hs) : TabQ t hs := ⟨T.ris, T.dm, T.sz, by
  rcases T.mok with e | e | e
  · exact .inl e
  · exact .inr (.inl e)
  · exact .inr (.inr (.inl e)), T.bd, T.reach⟩
section
variable {t : SetTable} {hs : List Int}
theorem TabQ.plen (T : TabQ t hs) : t.place.toList.length = hs.length := by rw [Array.length_toList, T.cnt]
theorem TabQ.gap (T : TabQ t hs) (room : hs.length ≤ t.mask) (h : Int) : ∃ K, K < 10 * SetTable.turns t.mask ∧ way t.mask h K ∉ t.place.toList ∧ ∀ k, k < K → way t.mask h k ∈ t.place.toList := by
  obtain ⟨j, lj, nj⟩ := st_missing t.place.toList (t.mask + 1) (by rw [T.plen]; omega)
  obtain ⟨k, lk, ek⟩ := way_hits T.msk h (j := j) (by omega)
  obtain ⟨K, a, b, c⟩ := st_least (p := fun k => way t.mask h k ∉ t.place.toList) k (by
    show way t.mask h k ∉ t.place.toList
    rw [ek]; exact nj)
  exact ⟨K, by omega, b, fun k' l => Classical.not_not.mp (c k' l)⟩
theorem TabQ.ahead (T : TabQ t hs) {h : Int} {K i j : Nat} (out : way t.mask h K ∉ t.place.toList) (e1 : hs[i]? = some h) (e2 : t.place.toList[i]? = some j) : ∃ k, k < K ∧ way t.mask h k = j := by
  obtain ⟨k, a, b⟩ := T.find i h j e1 e2
  refine ⟨k, ?_, a⟩
  refine Classical.byContradiction fun c => ?_
  by_cases d : K = k
  · subst d
    rw [a] at out
    exact out (List.mem_of_getElem? e2)
  · exact out (b K (by omega))
theorem TabQ.add (T : TabQ t hs) {h : Int} {K : Nat} (out : way t.mask h K ∉ t.place.toList) (inn : ∀ k, k < K → way t.mask h k ∈ t.place.toList) :
    SetTable.below t.place (way t.mask h K) ≤ hs.length ∧ TabQ (t.put (way t.mask h K)).1 (hs.take (SetTable.below t.place (way t.mask h K)) ++ h :: hs.drop (SetTable.below t.place (way t.mask h K))) ∧ (t.put (way t.mask h K)).1.fill = hs.length + 1 := by
  have wl := way_in t.mask h K
  generalize ew : way t.mask h K = j at *
  obtain ⟨b1, _, _⟩ := below_cut T.up j
  have l1 : SetTable.below t.place j ≤ t.place.toList.length := by rw [Array.length_toList]; exact b1
  have l2 : SetTable.below t.place j ≤ hs.length := by rw [← T.cnt]; exact b1
  have pp := put_place t j
  have fresh : t.place[SetTable.below t.place j]? ≠ some j := fun q => out (List.mem_of_getElem? (by rw [Array.getElem?_toList]; exact q))
  have sz : (t.put j).1.place.size = hs.length + 1 := by
    have := congrArg List.length pp
    rw [Array.length_toList, len_ins _ l1, T.plen] at this
    exact this
  have keep : ∀ x, x ∈ t.place.toList → x ∈ (t.put j).1.place.toList := fun x hx => by rw [pp]; exact mem_ins.mpr (.inr hx)
  refine ⟨l2, ⟨ris_insert T.up fresh, put_dm T.nodum j, by rw [len_ins _ l2]; exact sz, T.msk, fun x hx => ?_, fun i g y e1 e2 => ?_⟩, ?_⟩
  · rw [pp] at hx
    exact (mem_ins.mp hx).elim (fun q => by rw [q]; exact wl) (T.low x)
  · rw [tins_get hs l2] at e1
    rw [pp, tins_get _ l1] at e2
    have old : ∀ i', hs[i']? = some g → t.place.toList[i']? = some y → ∃ k, way t.mask g k = y ∧ ∀ k', k' < k → way t.mask g k' ∈ (t.put j).1.place.toList := fun i' q1 q2 => by
      obtain ⟨k, a, b⟩ := T.find i' g y q1 q2
      exact ⟨k, a, fun k' l => keep _ (b k' l)⟩
    rcases Nat.lt_trichotomy i (SetTable.below t.place j) with c | c | c
    · rw [if_pos c] at e1 e2
      exact old i e1 e2
    · rw [if_neg (by omega), if_pos c] at e1 e2
      cases e1
      cases e2
      exact ⟨K, ew, fun k' l => keep _ (inn k' l)⟩
    · rw [if_neg (by omega), if_neg (by omega)] at e1 e2
      exact old (i - 1) e1 e2
  · have d := put_dm T.nodum j
    unfold SetTable.fill
    rw [d, sz]; rfl
end
/-! laid anew -/
end L2.Lv.Tb
set_option maxHeartbeats 1000000
namespace L2.Lv.Tb
open PySem PySem.Spec PyProof.Rows L2
/-! sets of many tuples of ints -/
structure SetQ (P : Program) (w : World) (h : Heap) (a : Addr) (L : List (Addr × List Int)) (es : Array (Int × Value)) (ep : Nat) (t : SetTable) : Prop where
  obj : ∃ o, h.get? a = some o ∧ o.ExactSet ∧ o.data = .set es ep t
  row : es.toList = rowsOf P w L
  tab : TabQ t (L.map fun p => thash P w p.2)
  once : (L.map (·.2)).Nodup
  keys : ∀ p ∈ L, IsT P w h p.2 p.1
  pln : t.plain = true
  byP : w.params.followText "set-order" = true ∨ t.led = true
  spare : L.length * 5 < t.mask * 3
  less : L.length ≤ 300
section
variable {P : Program} {w : World} {A : Around} {E : Value → Shared → Prop} {s : Shared}
variable {a : Addr} {L : List (Addr × List Int)} {es : Array (Int × Value)} {ep : Nat} {t : SetTable}
theorem rows_len {L : List (Addr × List Int)} {es : Array (Int × Value)} (e : es.toList = rowsOf P w L) : es.size = L.length := by
  rw [← Array.length_toList, e]
  unfold rowsOf
  rw [List.length_map]
theorem SetQ.size (R : SetQ P w s.heap a L es ep t) : es.size = L.length := rows_len R.row
theorem SetQ.at_ (R : SetQ P w s.heap a L es ep t) {i : Nat} {p : Addr × List Int} (e : L[i]? = some p) : es[i]? = some (thash P w p.2, Value.ref p.1) := by
  have : es.toList[i]? = some (thash P w p.2, Value.ref p.1) := by
    rw [R.row]
    unfold rowsOf
    rw [List.getElem?_map, e]; rfl
  rwa [Array.getElem?_toList] at this
end
end L2.Lv.Tb
set_option maxHeartbeats 2000000
namespace L2.Lv.Tb
open PySem PySem.Spec PyProof.Rows L2
/-! set(xs), xs a list of tuples of ints -/
section
variable {P : Program} {w : World} {A : Around} {E : Value → Shared → Prop} {s : Shared}
theorem SetQ.over {h h' : Heap} {a : Addr} {L : List (Addr × List Int)} {es : Array (Int × Value)} {ep : Nat} {t : SetTable} (R : SetQ P w h a L es ep t) (e : ∀ o, h.get? a = some o → h'.get? a = some o) (ks : ∀ p ∈ L, IsT P w h' p.2 p.1) : SetQ P w h' a L es ep t := by
  obtain ⟨o, q, r⟩ := R.obj
  exact ⟨⟨o, e o q, r⟩, R.row, R.tab, R.once, ks, R.pln, R.byP, R.spare, R.less⟩
end
/-! as an object -/
structure SetQ0 (P : Program) (w : World) (h : Heap) (a : Addr) (L : List (Addr × List Int)) : Prop where
  ex : ∃ (es : Array (Int × Value)) (ep : Nat) (t : SetTable), (∃ o, h.get? a = some o ∧ o.ExactSet ∧ o.data = .set es ep t) ∧ es.toList = rowsOf P w L ∧ TabQ t (L.map fun p => thash P w p.2) ∧ (L.map (·.2)).Nodup ∧ t.plain = true ∧
    (w.params.followText "set-order" = true ∨ t.led = true) ∧ L.length * 5 < t.mask * 3 ∧ L.length ≤ 300
theorem SetQ.part {P : Program} {w : World} {h : Heap} {a : Addr} {L : List (Addr × List Int)} {es : Array (Int × Value)} {ep : Nat} {t : SetTable} (R : SetQ P w h a L es ep t) : SetQ0 P w h a L := ⟨es, ep, t, R.obj, R.row, R.tab, R.once, R.pln, R.byP, R.spare, R.less⟩
theorem SetQ0.whole {P : Program} {w : World} {h : Heap} {a : Addr} {L : List (Addr × List Int)} (R : SetQ0 P w h a L) (ks : ∀ p ∈ L, IsT P w h p.2 p.1) : ∃ es ep t, SetQ P w h a L es ep t := by
  obtain ⟨es, ep, t, a1, a2, a3, a4, a5, a6, a7, a8⟩ := R.ex
  exact ⟨es, ep, t, a1, a2, a3, a4, ks, a5, a6, a7, a8⟩
end L2.Lv.Tb
set_option maxHeartbeats 2000000
namespace L2.Lv
open PySem PySem.Spec PyProof.Rows L2.Lv.Tb
/-! sorted(set(xs)), xs a list of tuples of ints -/
def tI (k : List Int) : PyData := .tuple (k.map .int)
theorem dataLe_tI (a b : List Int) : PySem.W.dataLe false (fun x => x) (tI a) (tI b) = !decide (b < a) := by
  have h : PySem.W.dataLt (tI b) (tI a) = decide (b < a) := by
    unfold tI
    rw [PySem.W.dataLt_tuple]
    exact PySem.W.dataLt_ints b a
  show (!PySem.W.dataLt (tI b) (tI a)) = _
  rw [h]
def sortI (ks : List (List Int)) : List (List Int) := ks.mergeSort fun a b => !decide (b < a)
theorem srt_tI (ks : List (List Int)) : srt (ks.map tI) = (sortI ks).map tI := by
  unfold srt sortI
  exact (List.map_mergeSort fun a _ b _ => (dataLe_tI a b).symm).symm
theorem sortI_perm (ks : List (List Int)) : (sortI ks).Perm ks := List.mergeSort_perm _ _
theorem sortI_pw (ks : List (List Int)) : (sortI ks).Pairwise fun a b => ¬ b < a := by
  have h := List.pairwise_mergeSort (le := fun a b : List Int => !decide (b < a)) (fun a b c h1 h2 => by
    simp only [Bool.not_eq_true', decide_eq_false_iff_not] at h1 h2 ⊢
    exact List.not_lt.mpr (List.le_trans (List.not_lt.mp h1) (List.not_lt.mp h2))) (fun a b => by
    simp only [Bool.or_eq_true, Bool.not_eq_true', decide_eq_false_iff_not]
    rcases List.le_total a b with q | q
    · exact .inl (List.not_lt.mpr q)
    · exact .inr (List.not_lt.mpr q)) ks
  exact h.imp fun q => by simpa using q
def ddup : List (List Int) → List (List Int)
  | [] => []
  | x :: xs => if x ∈ xs then ddup xs else x :: ddup xs
def keysT : List PyData → Option (List (List Int))
  | [] => some []
  | .tuple ys :: r => (intsOf ys).bind fun ns => (keysT r).map (ns :: ·)
  | _ => none
def okK (ks : List (List Int)) : Bool := (ks.all fun k => !k.isEmpty) || ks.all fun k => k.isEmpty
def gSortSetT : List PyData → Option W
  | [.list xs] => (keysT xs).bind fun ks => if okK ks && decide (ks.length ≤ 300) then some (.ol ((sortI (ddup ks)).map tI)) else none
  | _ => none
/-! the model -/
theorem alike_tI : ∀ (a b : List Int), PySem.W.alikeAll (a.map .int) (b.map .int) = true
  | [], _ => by simp [PySem.W.alikeAll]
  | _ :: _, [] => by simp [PySem.W.alikeAll]
  | x :: a, y :: b => by
    simp only [List.map_cons, PySem.W.alikeAll]
    rw [alike_tI a b]
    rfl
theorem depth_tI (a : List Int) : (tI a).depth ≤ 64 := by
  have key : ∀ a : List Int, PyData.depthAll (a.map .int) ≤ 1 := by
    intro a
    induction a with
    | nil => exact Nat.zero_le _
    | cons x a ih =>
      show max (PyData.int x).depth (PyData.depthAll (a.map .int)) ≤ 1
      have : (PyData.int x).depth ≤ 1 := by simp [PyData.depth]
      omega
  have e : (tI a).depth = PyData.depthAll (a.map .int) + 1 := rfl
  have := key a
  omega
section
variable {X : Cx}
end
end L2.Lv
set_option maxHeartbeats 1000000
namespace L2.Lv
open PySem PySem.Spec PyProof.Rows
/-! d.get(k, x) -/
section
variable {X : Cx} {pins : List (Addr × Obj)} {σ : St} {H : Hp} {s : Shared} {x y z : V} {u v r : Value} {E : Value → Shared → Prop}
end
def dGet3 (x y z : PyData) : Option W := match x, z with
  | .dict kvs, .int i => (lookD kvs y).map fun r => .d (r.getD (.int i))
  | _, _ => none
def eGetD (da db dc : Fd) : Fe := fun ρ n => (da ρ n).bind fun p => (db ρ p.2).bind fun q => (dc ρ q.2).bind fun r => (dGet3 p.1 q.1 r.1).map (·, r.2)
end L2.Lv
set_option maxHeartbeats 1000000
namespace L2.Lv
open PySem PySem.Spec PyProof.Rows PySem.W
/-! sorted(xs), xs empty tuples -/
section
variable {prog : Program} {w : World} {A : Around} {E : Value → Shared → Prop} {s : Shared}
end
section
variable {X : Cx}
end
end L2.Lv
namespace L2.Lv
open PySem PySem.Spec PyProof.Rows
/-! an int, reckoned while a dict is gone through -/
def hdM : List (PyData × PyData) → Bool
  | kv :: _ => isMk kv || isFz kv
  | [] => false
def eLockI (i : Nat) (f : Fe) : Fe := fun ρ n => match ρ[i]? with
  | some (.od kvs) => if hdM kvs = true then none else (f (ρ.set i (.od (markF :: kvs))) n).bind fun p => match p.1 with
    | .d (.int z) => some (.d (.int z), p.2)
    | _ => none
  | _ => none
def iKeyF (i : Nat) : Fi := fun ρ n => match ρ[i]? with
  | some (.od (kv :: rest)) => if isFz kv = true then some (rest.map (·.1), n) else none
  | _ => none
section
variable {X : Cx} {e : Expr} {f : Fe}
end
end L2.Lv
namespace L2.Lv
open PySem PySem.Spec PyProof.Rows
/-! sum and min of a tuple of ints -/
section
variable {X : Cx}
theorem minOf_low : ∀ (xs : List Int) (x : Int), PySem.W.minOf x xs = lowI x xs
  | [], _ => rfl
  | y :: ys, x => by
    have ih := minOf_low ys (if y < x then y else x)
    show (PySem.W.minOf (if PySem.W.DatumOrd.lt y x = true then y else x) ys) = _
    have e : (PySem.W.DatumOrd.lt y x = true) = (y < x) := by
      show (decide (y < x) = true) = _
      simp
    simp only [e]
    exact ih
def rMinT (K : PySem.W.Frag) : List V → Hp → VK → Prop := fun vs H Q => ∃ (a : Addr) (n : Int) (ns : List Int), vs = [V.ref a] ∧ SqT K H a ((n :: ns).map V.int) ∧ Q (.int (lowI n ns)) H
theorem cr_minT (hc : X.calm = true) (hu : X.A.units + 65 < cLine) : CallR X (.builtin "min") (rMinT X.K) := by
  intro pins s σ H vs us Q I r h
  obtain ⟨a, n, ns, rfl, hs, q⟩ := h
  obtain ⟨its, rv, hl, _⟩ := I.tuple hs
  rw [Vals.ref1 r]
  have hi := rv.ints
  refine PySem.W.min_tuple_datum (α := Int) (x := n) (xs := ns) (I.ok.hd hc) hl ?_ ?_ fun i v h' tk hv hh hk => ?_
  · exact ⟨[], ints_readAll s.heap (by simpa using hi)⟩
  · show X.A.units + 1 + 0 < cLine
    omega
  · rw [minOf_low] at hh
    obtain ⟨as, hr⟩ := hh
    have hr : Reads h' v (.int (lowI n ns)) as := hr
    cases hr with
    | int _ t => exact ⟨.int _, H, I.kept hk, ⟨t, rfl⟩, q⟩
def gMinT : List PyData → Option W
  | [.tuple xs] => (intsOf xs).bind fun ns => match ns with
    | [] => none
    | n :: ns => some (.d (.int (lowI n ns)))
  | _ => none
theorem cv_minT (hc : X.calm = true) (hu : X.A.units + 65 < cLine) : CallV X (.builtin "min") gMinT := ⟨_, cr_minT hc hu, fun A T vs xs w H Q tr rx e q => by
  unfold gMinT at e
  split at e
  · rename_i ys
    obtain ⟨ns, h, e⟩ := Option.bind_eq_some_iff.mp e
    split at e
    · cases e
    · rename_i n ns
      cases e
      obtain ⟨v, rfl, r⟩ := rx.one
      obtain ⟨a, us, rfl, h1, h2, _⟩ := r.tup
      rw [intsOf_ok h] at h2
      rw [h2.ints] at h1
      exact ⟨a, n, ns, rfl, h1, q _ _ Grow.refl (.int _)⟩
  · cases e⟩
end
end L2.Lv
namespace L2.Lv
open PySem PySem.Spec PyProof.Rows
/-! len(dict([(b, v), ..])), b bools -/
def pairsB : List PyData → Option (List Bool)
  | [] => some []
  | .tuple [.bool b, _] :: xs => (pairsB xs).map (b :: ·)
  | _ :: _ => none
def bcnt (bs : List Bool) : Nat := (if true ∈ bs then 1 else 0) + if false ∈ bs then 1 else 0
def gLenDictB : List PyData → Option W
  | [.list xs] => (pairsB xs).bind fun bs => if bs.length ≤ 100000 then some (.d (.int (bcnt bs : Nat))) else none
  | _ => none
def BDO (P : Program) (w : World) (a : Addr) (m : Nat) : HO := .ext fun h => m ≤ 100000 ∧ (a == sysModules) = false ∧ ∃ kvs : List (Bool × Value), h.DictOf (PpSet.boolK P w) a kvs ∧ kvs.length = m
section
variable {X : Cx} {A : Addr → Prop} {H : Hp}
theorem bdo_ok {P : Program} {w : World} {H : Hp} {h : Heap} {a : Addr} {m : Nat} (z : m ≤ 100000) (hs : (a == sysModules) = false) {kvs : List (Bool × Value)} (d : h.DictOf (PpSet.boolK P w) a kvs) (e : kvs.length = m) : ObjOk P w H h a (BDO P w a m) :=
  ⟨⟨z, hs, kvs, d, e⟩, (by obtain ⟨o, _, _, h1, _⟩ := d; exact ⟨o, h1⟩), fun h1 h2 q k => by
    obtain ⟨z, hs, kvs, ⟨o, es, ep, e1, e2⟩, e3⟩ := q
    exact ⟨z, hs, kvs, ⟨o, es, ep, k o e1, e2⟩, e3⟩⟩
theorem stored_keys (kvs : List (Bool × Value)) (k : Bool) (v : Value) (x : Bool) : x ∈ (stored kvs k v).map (·.1) ↔ x = k ∨ x ∈ kvs.map (·.1) := by
  unfold stored
  split
  · rename_i c
    have e : (kvs.map fun kv => if kv.1 = k then (kv.1, v) else kv).map (·.1) = kvs.map (·.1) := by
      rw [List.map_map]
      refine List.map_congr_left fun z _ => ?_
      show (if z.1 = k then (z.1, v) else z).1 = z.1
      split <;> rfl
    rw [e]
    obtain ⟨z, hz, hk⟩ := List.any_eq_true.mp c
    constructor
    · exact .inr
    · rintro (rfl | h)
      · exact List.mem_map.mpr ⟨z, hz, by simpa using hk⟩
      · exact h
  · rw [List.map_append, List.mem_append]
    simp only [List.map_cons, List.map_nil, List.mem_singleton]
    exact Or.comm
theorem merged_keys (x : Bool) : ∀ (prs acc : List (Bool × Value)), x ∈ (merged acc prs).map (·.1) ↔ x ∈ acc.map (·.1) ∨ x ∈ prs.map (·.1)
  | [], acc => by simp [merged]
  | p :: prs, acc => by
    have ih := merged_keys x prs (stored acc p.1 p.2)
    show x ∈ (merged (stored acc p.1 p.2) prs).map (·.1) ↔ _
    rw [ih, stored_keys, List.map_cons, List.mem_cons]
    constructor
    · rintro ((h | h) | h)
      · exact .inr (.inl h)
      · exact .inl h
      · exact .inr (.inr h)
    · rintro (h | h | h)
      · exact .inl (.inr h)
      · exact .inl (.inl h)
      · exact .inr h
theorem nodup_bools : ∀ {l : List Bool}, l.Nodup → l.length = bcnt l := by
  intro l h
  match l, h with
  | [], _ => rfl
  | [a], _ => cases a <;> rfl
  | [a, b], h => cases a <;> cases b <;> first | rfl | (simp at h)
  | a :: b :: c :: l, h => cases a <;> cases b <;> cases c <;> simp at h
theorem merged_len {prs : List (Bool × Value)} (hn : ((merged [] prs).map (·.1)).Nodup) : (merged [] prs).length = bcnt (prs.map (·.1)) := by
  rw [← List.length_map (f := fun p : Bool × Value => p.1), nodup_bools hn]
  unfold bcnt
  simp only [merged_keys, List.map_nil, List.not_mem_nil, false_or]
theorem prsB_of {pins : List (Addr × Obj)} {σ : St} {s : Shared} (I : Inv X pins σ H s) : ∀ {xs : List PyData} {vs : List V} {us : List Value} {bs : List Bool}, pairsB xs = some bs → DvAll A X.K H vs xs → Vals vs us →
    ∃ (Ts : List Addr) (prs : List (Bool × Value)), us = Ts.map Value.ref ∧ Ts.length = prs.length ∧ prs.map (·.1) = bs ∧ ∀ (j : Nat) (q : Bool × Value), prs[j]? = some q → ∃ T, Ts[j]? = some T ∧ s.heap.IsTuple T #[.bool q.1, q.2]
  | [], _, _, bs, e, h, r => by
    cases h
    cases r
    cases e
    exact ⟨[], [], rfl, rfl, rfl, fun j q z => by simp at z⟩
  | x :: xs, vs, us, bs, e, h, r => by
    cases h with
    | @cons v vs' _ _ dx dxs =>
      cases r with
      | @cons _ u _ us' rv rvs =>
        unfold pairsB at e
        split at e
        · rename_i c; cases c
        · rename_i b y xs' c
          cases c
          obtain ⟨bs', e2, rfl⟩ := Option.map_eq_some_iff.mp e
          obtain ⟨Ts, prs, a1, a2, a3, a4⟩ := prsB_of I e2 dxs rvs
          cases dx with
          | @tup T zs _ hs ha =>
            cases ha with
            | @cons k zs1 _ _ d1 ha =>
              cases ha with
              | @cons w zs2 _ _ d2 ha =>
                cases ha
                obtain ⟨its, r2, ht, _⟩ := I.tuple (sqT_of hs)
                cases d1
                cases r2 with
                | @cons _ i1 _ _ q1 r2 =>
                  cases r2 with
                  | @cons _ i2 _ _ q2 r2 =>
                    cases r2
                    cases q1
                    cases rv
                    refine ⟨T :: Ts, (b, i2) :: prs, by rw [List.map_cons, ← a1], by simp [a2], by rw [List.map_cons, a3], fun j q z => ?_⟩
                    cases j with
                    | zero => cases z; exact ⟨T, rfl, ht⟩
                    | succ j => exact a4 j q z
        · cases e
def rDictB (K : PySem.W.Frag) (P : Program) (w : World) : List V → Hp → VK → Prop := fun vs H Q => ∃ a us xs bs A, vs = [V.ref a] ∧ SqL K H a us ∧ DvAll A K H us xs ∧ pairsB xs = some bs ∧ bs.length ≤ 100000 ∧
    ∀ p, H p = none → Q (.ref p) (upd H p (BDO P w p (bcnt bs)))
theorem cr_dictB (hc : X.calm = true) : CallR X (.type "dict") (rDictB X.K X.prog X.w) := by
  intro pins s σ H vs us Q I r h
  obtain ⟨a, zs, xs, bs, A, rfl, hs, hd, e, hl, q⟩ := h
  rw [Vals.ref1 r]
  obtain ⟨its, rv, pl, hz⟩ := I.list hs
  obtain ⟨Ts, prs, a1, a2, a3, a4⟩ := prsB_of I e hd rv
  have lb : prs.length = bs.length := by rw [← a3, List.length_map]
  obtain ⟨o, n, ho, hc', hd', hdat⟩ := pl
  have len : its.toArray.size = prs.length := by rw [List.size_toArray, a1, List.length_map, a2]
  have P := PySem.PairArg.list (prog := X.prog) (w := X.w) a its.toArray (fun j => Ts.getD j 0) (prs.map fun q => (Value.bool q.1, q.2))
  refine PySem.call_dict_pairs (knd := PpSet.boolK X.prog X.w) (kvs := prs) P (I.ok.hd hc) ⟨⟨o, n, ho, hc', hd', hdat⟩, ?_⟩ ⟨?_, ?_⟩ ?_ fun h' tk dd k => ?_
  · refine ⟨by rw [len, List.length_map], fun j k v z => ?_⟩
    rw [List.getElem?_map] at z
    obtain ⟨q, z1, z2⟩ := Option.map_eq_some_iff.mp z
    cases z2
    obtain ⟨T, t1, t2⟩ := a4 j q z1
    have tD : Ts.getD j 0 = T := by rw [List.getD_eq_getElem?_getD, t1]; rfl
    refine ⟨?_, .inl ?_⟩
    · show its.toArray[j]? = some (Value.ref (Ts.getD j 0))
      rw [tD, a1]
      simp [t1]
    · show s.heap.IsTuple (Ts.getD j 0) _
      rw [tD]; exact t2
  · rw [List.length_map]
  · intro i key v z
    have z : (prs.map fun q => (Value.bool q.1, q.2))[i]? = some (key, v) := z
    rw [List.getElem?_map] at z
    obtain ⟨q, z1, z2⟩ := Option.map_eq_some_iff.mp z
    cases z2
    exact ⟨q.1, z1, PpSet.boolK_is _ _ _⟩
  · rw [List.length_map, sizeLine_eq]; omega
  · have hp0 : H s.heap.objs.size = none := I.hok.fresh (Nat.le_refl _)
    have ms : (s.heap.objs.size == sysModules) = false := beq_eq_false_iff_ne.mpr (Ne.symm (Nat.ne_of_lt I.big))
    have nd : ((merged [] prs).map (·.1)).Nodup := by obtain ⟨_, _, _, _, _, _, _, _, nd⟩ := dd; exact nd
    have ml := merged_len nd
    rw [a3] at ml
    have b2 : bcnt bs ≤ 100000 := by unfold bcnt; split <;> split <;> omega
    exact ⟨.ref _, _, I.laid (t' := tk) (o := BDO X.prog X.w s.heap.objs.size (bcnt bs)) (fun b u z => k b u (by simp) z) (Nat.le_refl _) (bdo_ok b2 ms dd ml), rfl, q _ hp0⟩
theorem cr_lenB : CallR X (.builtin "len") (fun vs H Q => ∃ (a : Addr) (m : Nat), vs = [.ref a] ∧ H a = some (BDO X.prog X.w a m) ∧ Q (.int m) H) := by
  intro pins s σ H vs us Q I r h
  obtain ⟨a, m, rfl, e, q⟩ := h
  rw [Vals.ref1 r]
  obtain ⟨z, hd, kvs, dd, el⟩ := (I.hok a _ e).1
  refine call_len_dict hd dd (by omega) ?_
  rw [el]
  exact ⟨.int m, H, I.tok _, ⟨_, rfl⟩, q⟩
theorem ev_lenDictB {e : Expr} {ds : Fds} {p p2 pos pos2 : Pos} (hc : X.calm = true) (hg : Gl X "len") (hm : X.mg "len" = none) (hg2 : Gl X "dict") (hm2 : X.mg "dict" = none) (ha : EvD X [e] ds)
    (hbs : bootBuiltins "len" = some (.builtin "len")) (hbd : bootBuiltins "dict" = some (.type "dict")) (he : starEach [e] X.env = (false, eval e X.env) :: starEach [] X.env := by rfl)
    (he2 : starEach [Expr.Call (.Name "dict" p2) [e] [] pos2] X.env = (false, eval (Expr.Call (.Name "dict" p2) [e] [] pos2) X.env) :: starEach [] X.env := by rfl)
    (hpl : (backTo pos (starEach [] X.env)).any (·.1) = false := by rfl) (hpl2 : (backTo pos2 (starEach [] X.env)).any (·.1) = false := by rfl) :
    EvE X (.Call (.Name "len" p) [.Call (.Name "dict" p2) [e] [] pos2] [] pos) (eApp gLenDictB ds) := by
  have inner := pe_callTy (cr_dictB hc) hg2 hm2 hbd ha (pos := pos2) (p := p2) (he := he) (hpl := hpl2)
  refine peI (pe_callB cr_lenB hg hm hbs (pa_cons inner pa_nil he2) (by decide) (by decide) he2 hpl) fun σ H Q h => ?_
  refine app_run (r := fun vs H Q => rDictB X.K X.prog X.w vs H fun v H2 => ∃ (a : Addr) (m : Nat), [v] = [V.ref a] ∧ H2 a = some (BDO X.prog X.w a m) ∧ Q (.int m) H2) (fun A T vs xs w H Q tr rx e q => ?_) h
  unfold gLenDictB at e
  split at e
  · rename_i ys
    obtain ⟨bs, e1, e2⟩ := Option.bind_eq_some_iff.mp e
    split at e2
    · rename_i hl
      cases e2
      obtain ⟨v, rfl, r⟩ := rx.one
      obtain ⟨a, us, rfl, h1, h2⟩ := r.lst
      exact ⟨a, us, ys, bs, A, rfl, h1, h2, e1, hl, fun p hp => ⟨p, _, rfl, upd_same, q _ _ (Grow.upd hp) (.int _)⟩⟩
    · cases e2
  · cases e
end
end L2.Lv
namespace L2.Lv.Sh
open PySem PySem.Spec PyProof.Rows L2 L2.Lv
def b__law_draw : Fs :=
    (sSeq (sTown 1)
    (sSeq (sSet 3 (eTLen 1))
    (sSeq (sSet 4 (eC (.int 0)))
    (sSeq (sIf (bTru (dVar 0))
    (sSet 4 (eBin dIx (dVar 0) (dOf (eBin dMod (dVar 3) (dOf (eApp gLen (sCons (dVar 0) sNil)))))))
    sNil')
    (sSeq (sSet 5 (eBin dMod (dOf (eBin dAdd (dVar 4) (dOf (eBin dMul (dOf (eC (.int 104729))) (dVar 3))))) (dOf (eC (.int 4294967291)))))
    (sSeq (sSet 5 (eBin dMod (dOf (eBin dMul (dOf (eBin dMod (dOf (eBin dMul (dVar 5) (dVar 5))) (dOf (eC (.int 4294967279))))) (dOf (eC (.int 48271))))) (dOf (eC (.int 4294967291)))))
    (sRet (eBin dMod (dOf (eBin dDiv (dVar 5) (dOf (eC (.int 64))))) (dVar 2)))))))))
def m__law_draw : Fn := runB 6 b__law_draw
def b__law_pick : Fs :=
    (sRet (eBin dIx (dVar 2) (dOf (eCall m__law_draw (aCons (eVar 0) (aCons (eVar 1) (aCons (eApp gLen (sCons (dVar 2) sNil)) aNil)))))))
def m__law_pick : Fn := runB 3 b__law_pick
def l__law_plain_1 : Fs :=
    (sSeq (sSet 6 (eCall m__law_draw (aCons (eVar 0) (aCons (eVar 1) (aCons (eC (.int 6)) aNil)))))
    (sIf (bTest (eBin dNotIn (dVar 6) (dVar 4)))
    (sSet 4 (eFrz (eBin dAdd (dVar 4) (dOf (eTup (aCons (eVar 6) aNil))))))
    sNil'))
def b__law_plain : Fs :=
    (sSeq (sSet 2 (eCall m__law_draw (aCons (eVar 0) (aCons (eVar 1) (aCons (eC (.int 9)) aNil)))))
    (sSeq (sSet 3 (eCall m__law_draw (aCons (eVar 0) (aCons (eVar 1) (aCons (eC (.int 3)) aNil)))))
    (sSeq (sIf (bTest (eBin (dCmp rLt zLt) (dVar 2) (dOf (eC (.int 2)))))
    (sRet (eTup (aCons (eC (.str "up")) (aCons (eVar 3) aNil))))
    sNil')
    (sSeq (sIf (bTest (eBin (dCmp rLt zLt) (dVar 2) (dOf (eC (.int 4)))))
    (sRet (eTup (aCons (eBin dIx (dOf (eLst (aCons (eC (.str "part")) (aCons (eC (.str "rest")) aNil)))) (dOf (eBin dSub (dVar 2) (dOf (eC (.int 2)))))) (aCons (eVar 3) (aCons (eBin dAdd (dOf (eC (.int 2))) (dOf (eCall m__law_draw (aCons (eVar 0) (aCons (eVar 1) (aCons (eC (.int 2)) aNil)))))) aNil)))))
    sNil')
    (sSeq (sIf (bTest (eBin (dCmp rLt zLt) (dVar 2) (dOf (eC (.int 6)))))
    (sSeq (sSet 4 (eTup aNil))
    (sSeq (sFor (iRng1 (dOf (eBin dAdd (dOf (eC (.int 1))) (dOf (eCall m__law_draw (aCons (eVar 0) (aCons (eVar 1) (aCons (eC (.int 4)) aNil)))))))) (gOne 5)
    l__law_plain_1)
    (sRet (eIf (bTest (eBin dEq (dVar 2) (dOf (eC (.int 4))))) (eTup (aCons (eC (.str "table")) (aCons (eVar 3) (aCons (eVar 4) aNil)))) (eTup (aCons (eC (.str "among")) (aCons (eVar 3) (aCons (eApp gTup (sCons (dOf (eApp gSorted (sCons (dVar 4) sNil))) sNil)) aNil))))))))
    sNil')
    (sSeq (sSet 7 (eFrz (eCall m__law_pick (aCons (eVar 0) (aCons (eVar 1) (aCons (eLst (aCons (eTup (aCons (eC (.int 0)) (aCons (eC (.int 1)) aNil))) (aCons (eTup (aCons (eC (.int 0)) (aCons (eC (.int 2)) aNil))) (aCons (eTup (aCons (eC (.int 1)) (aCons (eC (.int 2)) aNil))) aNil)))) aNil))))))
    (sRet (eBin dAdd (dOf (eTup (aCons (eBin dIx (dOf (eLst (aCons (eC (.str "sum")) (aCons (eC (.str "gap")) (aCons (eC (.str "most")) aNil))))) (dOf (eBin dSub (dVar 2) (dOf (eC (.int 6)))))) aNil))) (dVar 7)))))))))
def m__law_plain : Fn := runB 8 b__law_plain
def b__law_key : Fs :=
    (sSeq (sSet 2 (eFrz (eCall m__law_plain (aCons (eVar 0) (aCons (eVar 1) aNil)))))
    (sRet (eIf (bTest (eBin dEq (dOf (eCall m__law_draw (aCons (eVar 0) (aCons (eVar 1) (aCons (eC (.int 3)) aNil))))) (dOf (eC (.int 0))))) (eTup (aCons (eC (.str "down")) (aCons (eVar 2) aNil))) (eVar 2))))
def m__law_key : Fn := runB 3 b__law_key
def b__law_keys : Fs :=
    (sRet (eApp gTup (sCons (dOf (eComp (iRng1 (dOf (eCall m__law_draw (aCons (eVar 0) (aCons (eVar 1) (aCons (eBin dAdd (dVar 2) (dOf (eC (.int 1)))) aNil)))))) (gOne 3) [3] bYes (eCall m__law_key (aCons (eVar 0) (aCons (eVar 1) aNil))))) sNil)))
def m__law_keys : Fn := runB 4 b__law_keys
def b__law_whole : Fs :=
    (sRet (eAnd (eIsa "int" (dVar 0)) (eAnd (eNotD (dOf (eIsa "bool" (dVar 0)))) (eChain (dCmp rLe zLe) (dCmp rLe zLe) (dVar 1) (dVar 0) (dVar 2)))))
def m__law_whole : Fn := runB 3 b__law_whole
-- l__law_is_plain_1: head 0:_law_thing_here 1:_law_seen of 3
def l__law_is_plain_1 : Fs :=
    (sSeq (sIf (bOr (bNot (bTru (dOf (eCall m__law_whole (aCons (eVar 2) (aCons (eC (.int 0)) (aCons (eC (.int 5)) aNil))))))) (bOr (bTest (eBin dIn (dVar 2) (dVar 1))) (bAnd (bTest (eBin dEq (dOf (eBin dIx (dVar 0) (dOf (eC (.int 0))))) (dOf (eC (.str "among"))))) (bAnd (bTru (dVar 1)) (bTest (eBin (dCmp rLt zLt) (dVar 2) (dOf (eBin dIx (dVar 1) (dOf (eUn dNeg (dOf (eC (.int 1)))))))))))))
    (sRet (eC (.bool false)))
    sNil')
    (sEnd [2] (sApp 1 (eVar 2))))
def b_worth (m : Fn) : Fs :=
    (sSeq (sSet 2 (eBin dIx (dVar 0) (dOf (eC (.int 0)))))
    (sSeq (sIf (bTest (eBin dEq (dVar 2) (dOf (eC (.str "down")))))
    (sRet (eBin dSub (dOf (eC (.int 0))) (dOf (eCall m (aCons (eBin dIx (dVar 0) (dOf (eC (.int 1)))) (aCons (eVar 1) aNil))))))
    sNil')
    (sSeq (sSet 3 (eBin dIx (dVar 1) (dOf (eBin dIx (dVar 0) (dOf (eC (.int 1)))))))
    (sSeq (sIf (bTest (eBin dEq (dVar 2) (dOf (eC (.str "up")))))
    (sRet (eVar 3))
    sNil')
    (sSeq (sIf (bTest (eBin dEq (dVar 2) (dOf (eC (.str "part")))))
    (sRet (eBin dDiv (dVar 3) (dOf (eBin dIx (dVar 0) (dOf (eC (.int 2)))))))
    sNil')
    (sSeq (sIf (bTest (eBin dEq (dVar 2) (dOf (eC (.str "rest")))))
    (sRet (eBin dMod (dVar 3) (dOf (eBin dIx (dVar 0) (dOf (eC (.int 2)))))))
    sNil')
    (sSeq (sIf (bTest (eBin dEq (dVar 2) (dOf (eC (.str "table")))))
    (sRet (eIf (bTest (eBin dIn (dVar 3) (dOf (eBin dIx (dVar 0) (dOf (eC (.int 2))))))) (eMt isTupD gIndexT (dOf (eBin dIx (dVar 0) (dOf (eC (.int 2))))) (sCons (dVar 3) sNil)) (eApp gLen (sCons (dOf (eBin dIx (dVar 0) (dOf (eC (.int 2))))) sNil))))
    sNil')
    (sSeq (sIf (bTest (eBin dEq (dVar 2) (dOf (eC (.str "among")))))
    (sRet (eApp gInt (sCons (dOf (eBin dNotIn (dVar 3) (dOf (eBin dIx (dVar 0) (dOf (eC (.int 2))))))) sNil)))
    sNil')
    (sSeq (sSet 4 (eBin dIx (dVar 1) (dOf (eBin dIx (dVar 0) (dOf (eC (.int 2)))))))
    (sSeq (sIf (bTest (eBin dEq (dVar 2) (dOf (eC (.str "sum")))))
    (sRet (eBin dAdd (dVar 3) (dVar 4)))
    sNil')
    (sSeq (sIf (bTest (eBin dEq (dVar 2) (dOf (eC (.str "gap")))))
    (sRet (eApp gAbs (sCons (dOf (eBin dSub (dVar 3) (dVar 4))) sNil)))
    sNil')
    (sRet (eApp gMax2 (sCons (dVar 3) (sCons (dVar 4) sNil)))))))))))))))
def m_worth_ : Nat → Fn
  | 0 => fun _ _ => none
  | k + 1 => runB 5 (b_worth (m_worth_ k))
def m_worth : Fn := m_worth_ 4
def b_worths : Fs :=
    (sRet (eApp gTup (sCons (dOf (eComp (iOf (dVar 0)) (gOne 2) [2] bYes (eCall m_worth (aCons (eVar 2) (aCons (eVar 1) aNil))))) sNil)))
def m_worths : Fn := runB 3 b_worths
def b_told : Fs :=
    (sSeq (sSet 3 (eFrz (eCall m_worths (aCons (eVar 0) (aCons (eVar 1) aNil)))))
    (sSeq (sSet 4 (eFrz (eCall m_worths (aCons (eVar 0) (aCons (eVar 2) aNil)))))
    (sRet (eBin dSub (dOf (eApp gInt (sCons (dOf (eBin (dCmp rGt zGt) (dVar 3) (dVar 4))) sNil))) (dOf (eApp gInt (sCons (dOf (eBin (dCmp rLt zLt) (dVar 3) (dVar 4))) sNil)))))))
def m_told : Fn := runB 5 b_told
def l_all_things_2 : Fs :=
    (sExt 1 (eComp (iOf (dVar 0)) (gOne 4) [4] bYes (eTup (aCons (eVar 2) (aCons (eVar 3) (aCons (eVar 4) aNil))))))
def l_all_things_1 : Fs :=
    (sFor (iVal (eVar 0)) (gOne 3)
    l_all_things_2)
def b_all_things : Fs :=
    (sSeq (sSet 0 (eFrz (eListRg1 (dOf (eBin dAdd (dOf (eC (.int 5))) (dOf (eC (.int 1))))))))
    (sSeq (sSet 1 (eLst aNil))
    (sSeq (sFor (iVal (eVar 0)) (gOne 2)
    l_all_things_1)
    (sRet (eApp gTup (sCons (dVar 1) sNil))))))
def m_all_things : Fn := runB 5 b_all_things
def b__law_worth (m : Fn) : Fs :=
    (sSeq (sIf (bTest (eBin dEq (dOf (eBin dIx (dVar 0) (dOf (eC (.int 0))))) (dOf (eC (.str "down")))))
    (sRet (eUn dNeg (dOf (eCall m (aCons (eBin dIx (dVar 0) (dOf (eC (.int 1)))) (aCons (eVar 1) aNil))))))
    sNil')
    (sSeq (sSet 2 (eBin dIx (dVar 1) (dOf (eBin dIx (dVar 0) (dOf (eC (.int 1)))))))
    (sSeq (sIf (bTest (eBin dEq (dOf (eBin dIx (dVar 0) (dOf (eC (.int 0))))) (dOf (eC (.str "up")))))
    (sRet (eVar 2))
    sNil')
    (sSeq (sIf (bTest (eBin dEq (dOf (eBin dIx (dVar 0) (dOf (eC (.int 0))))) (dOf (eC (.str "part")))))
    (sRet (eApp gLen (sCons (dOf (eComp (iRng2 (dOf (eC (.int 1))) (dOf (eC (.int 6)))) (gOne 3) [3] (bAnd (bTest (eBin (dCmp rLe zLe) (dVar 3) (dVar 2))) (bTest (eBin dEq (dOf (eBin dMod (dVar 3) (dOf (eBin dIx (dVar 0) (dOf (eC (.int 2))))))) (dOf (eC (.int 0)))))) (eVar 3))) sNil)))
    sNil')
    (sSeq (sIf (bTest (eBin dEq (dOf (eBin dIx (dVar 0) (dOf (eC (.int 0))))) (dOf (eC (.str "rest")))))
    (sRet (eBin dSub (dVar 2) (dOf (eBin dMul (dOf (eBin dDiv (dVar 2) (dOf (eBin dIx (dVar 0) (dOf (eC (.int 2))))))) (dOf (eBin dIx (dVar 0) (dOf (eC (.int 2)))))))))
    sNil')
    (sSeq (sIf (bTest (eBin dEq (dOf (eBin dIx (dVar 0) (dOf (eC (.int 0))))) (dOf (eC (.str "table")))))
    (sRet (eMt isLstD gIndexLX (dOf (eBin dAdd (dOf (eApp gList (sCons (dOf (eBin dIx (dVar 0) (dOf (eC (.int 2))))) sNil))) (dOf (eLst (aCons (eVar 2) aNil))))) (sCons (dVar 2) sNil)))
    sNil')
    (sSeq (sIf (bTest (eBin dEq (dOf (eBin dIx (dVar 0) (dOf (eC (.int 0))))) (dOf (eC (.str "among")))))
    (sRet (eIf (bTest (eBin dIn (dVar 2) (dOf (eBin dIx (dVar 0) (dOf (eC (.int 2))))))) (eC (.int 0)) (eC (.int 1))))
    sNil')
    (sSeq (sSet 4 (eBin dIx (dVar 1) (dOf (eBin dIx (dVar 0) (dOf (eC (.int 2)))))))
    (sSeq (sIf (bTest (eBin dEq (dOf (eBin dIx (dVar 0) (dOf (eC (.int 0))))) (dOf (eC (.str "sum")))))
    (sRet (eBin dAdd (dVar 2) (dVar 4)))
    sNil')
    (sSeq (sIf (bTest (eBin dEq (dOf (eBin dIx (dVar 0) (dOf (eC (.int 0))))) (dOf (eC (.str "gap")))))
    (sRet (eIf (bTest (eBin (dCmp rGt zGt) (dVar 2) (dVar 4))) (eBin dSub (dVar 2) (dVar 4)) (eBin dSub (dVar 4) (dVar 2))))
    sNil')
    (sRet (eIf (bTest (eBin (dCmp rGt zGt) (dVar 2) (dVar 4))) (eVar 2) (eVar 4)))))))))))))
def m__law_worth_ : Nat → Fn
  | 0 => fun _ _ => none
  | k + 1 => runB 5 (b__law_worth (m__law_worth_ k))
def m__law_worth : Fn := m__law_worth_ 4
def l__law_word_1 : Fs :=
    (sSeq (sPar 4 5 (aCons (eCall m__law_worth (aCons (eVar 3) (aCons (eVar 1) aNil))) (aCons (eCall m__law_worth (aCons (eVar 3) (aCons (eVar 2) aNil))) aNil)))
    (sIf (bTest (eBin dNe (dVar 4) (dVar 5)))
    (sRet (eIf (bTest (eBin (dCmp rLt zLt) (dVar 4) (dVar 5))) (eUn dNeg (dOf (eC (.int 1)))) (eC (.int 1))))
    sNil'))
def b__law_word : Fs :=
    (sSeq (sFor (iVal (eVar 0)) (gOne 3)
    l__law_word_1)
    (sRet (eC (.int 0))))
def m__law_word : Fn := runB 6 b__law_word
-- l_form_1: head 1:every 3:ranks of 6
def l_form_1 : Fs :=
    (sEnd [4, 5] (sPut 3 (dVar 5) (eVar 4)))
def b_form : Fs :=
    (sSeq (sEnd [0] (sSet 1 (eFrz (eComp (iOf (dOf (eCall m_all_things aNil))) (gOne 2) [2] bYes (eCall m_worths (aCons (eVar 0) (aCons (eVar 2) aNil)))))))
    (sSeq (sSet 3 eDicT)
    (sSeq (sFor (iEnumF (eApp gSortSetT (sCons (dVar 1) sNil))) (gMany [4, 5])
    l_form_1)
    (sRet (eApp gTup (sCons (dOf (eComp (iOf (dVar 1)) (gOne 5) [5] bYes (eBin dIxD (dVar 3) (dVar 5)))) sNil))))))
def m_form : Fn := runB 6 b_form
def b_pairs_of : Fs :=
    (sRet (eBin dDiv (dOf (eBin dMul (dVar 0) (dOf (eBin dSub (dVar 0) (dOf (eC (.int 1))))))) (dOf (eC (.int 2)))))
def m_pairs_of : Fn := runB 1 b_pairs_of
-- l_ties_of_1: head 1:counts of 3
def l_ties_of_1 : Fs :=
    (sEnd [2] (sPut 1 (dVar 2) (eBin dAdd (dOf (eGetD (dVar 1) (dVar 2) (dOf (eC (.int 0))))) (dOf (eC (.int 1))))))
def b_ties_of : Fs :=
    (sSeq (sSet 1 eDicK)
    (sSeq (sForK [0] (iVal (eCall m_form (aCons (eVar 0) aNil))) (gOne 2)
    l_ties_of_1)
    (sRet (eLockI 1 (eApp gSum (sCons (dOf (eComp (iKeyF 1) (gOne 2) [2] bYes (eCall m_pairs_of (aCons (eBin dIxD (dVar 1) (dVar 2)) aNil)))) sNil))))))
def m_ties_of : Fn := runB 3 b_ties_of
-- l__law_every_1: head 0:_law_got of 2
def l__law_every_1 : Fs :=
    (sEnd [1] (sApp 0 (eTup (aCons (eBin dDiv (dVar 1) (dOf (eC (.int 36)))) (aCons (eBin dMod (dOf (eBin dDiv (dVar 1) (dOf (eC (.int 6))))) (dOf (eC (.int 6)))) (aCons (eBin dMod (dVar 1) (dOf (eC (.int 6)))) aNil))))))
-- l__law_form_1: head 1:_law_every_here 3:_law_spots of 5
def l__law_form_1 : Fs :=
    (sEnd [4] (sPut 3 (dVar 4) (eGetD (dVar 3) (dVar 4) (dOf (eApp gLenD (sCons (dVar 3) sNil))))))
def b_alike : Fs :=
    (sRet (eBin dEq (dOf (eCall m_form (aCons (eVar 0) aNil))) (dOf (eCall m_form (aCons (eVar 1) aNil)))))
def m_alike : Fn := runB 2 b_alike
def b__law_turn : Fs :=
    (sRet (eIf (bTest (eBin dEq (dOf (eBin dIx (dVar 0) (dOf (eC (.int 0))))) (dOf (eC (.str "down"))))) (eBin dIx (dVar 0) (dOf (eC (.int 1)))) (eTup (aCons (eC (.str "down")) (aCons (eVar 0) aNil)))))
def m__law_turn : Fn := runB 1 b__law_turn
-- l_deciders_1: head 0:row 1:found of 3
def l_deciders_1 : Fs :=
    (sEnd [2] (sSet 1 (eFrz (eBin dAdd (dVar 1) (dOf (eTup (aCons (eBin dSub (dOf (eCall m_ties_of (aCons (eSl dSl (dVar 0) oNone (oSome (dVar 2))) aNil))) (dOf (eCall m_ties_of (aCons (eSl dSl (dVar 0) oNone (oSome (dOf (eBin dAdd (dVar 2) (dOf (eC (.int 1))))))) aNil)))) aNil)))))))
def b_without : Fs :=
    (sRet (eBin dAdd (dOf (eSl dSl (dVar 0) oNone (oSome (dVar 1)))) (dOf (eSl dSl (dVar 0) (oSome (dOf (eBin dAdd (dVar 1) (dOf (eC (.int 1)))))) oNone))))
def m_without : Fn := runB 2 b_without
-- l_short_1: head 0:row of 2
def l_short_1 : Fs :=
    (sEnd [1] (sIf (bTru (dOf (eCall m_alike (aCons (eCall m_without (aCons (eVar 0) (aCons (eVar 1) aNil))) (aCons (eVar 0) aNil)))))
    (sEnd [1] (sSet 0 (eFrz (eCall m_without (aCons (eVar 0) (aCons (eVar 1) aNil))))))
    sNil'))
-- l__law_row_1: head 0:_law_script 1:_law_town 2:_law_row_here of 7
def l__law_row_1 : Fs :=
    (sSeq (sEnd [3] (sSet 4 (eFrz (eCall m__law_key (aCons (eVar 0) (aCons (eVar 1) aNil))))))
    (sSeq (sIf (bAnd (bTru (dVar 2)) (bTest (eBin dEq (dOf (eCall m__law_draw (aCons (eVar 0) (aCons (eVar 1) (aCons (eC (.int 2)) aNil))))) (dOf (eC (.int 0))))))
    (sSeq (sSet 4 (eFrz (eCall m__law_pick (aCons (eVar 0) (aCons (eVar 1) (aCons (eVar 2) aNil))))))
    (sSeq (sSet 5 (eIf (bTest (eBin dEq (dOf (eBin dIx (dVar 4) (dOf (eC (.int 0))))) (dOf (eC (.str "down"))))) (eBin dIx (dOf (eBin dIx (dVar 4) (dOf (eC (.int 1))))) (dOf (eC (.int 1)))) (eBin dIx (dVar 4) (dOf (eC (.int 1))))))
    (sSeq (sEnd [5] (sSet 6 (eFrz (eLst (aCons (eTup (aCons (eC (.str "up")) (aCons (eVar 5) aNil))) (aCons (eTup (aCons (eC (.str "part")) (aCons (eVar 5) (aCons (eC (.int 2)) aNil)))) (aCons (eTup (aCons (eC (.str "rest")) (aCons (eVar 5) (aCons (eC (.int 3)) aNil)))) (aCons (eTup (aCons (eC (.str "among")) (aCons (eVar 5) (aCons (eTup (aCons (eC (.int 0)) (aCons (eC (.int 3)) aNil))) aNil)))) aNil))))))))
    (sEnd [6] (sSet 4 (eFrz (eCall m__law_pick (aCons (eVar 0) (aCons (eVar 1) (aCons (eBin dAdd (dVar 6) (dOf (eLst (aCons (eVar 4) (aCons (eVar 4) (aCons (eCall m__law_turn (aCons (eVar 4) aNil)) aNil)))))) aNil))))))))))
    sNil')
    (sEnd [4] (sSet 2 (eFrz (eBin dAdd (dVar 2) (dOf (eTup (aCons (eVar 4) aNil)))))))))
-- l__law_speaks_3: head 0:_law_row_here 1:_law_every_here 3:_law_got 5:_law_one 6:_law_other_here of 8
def l__law_speaks_3 : Fs :=
    (sEnd [7] (sIf (bAnd (bTest (eBin dEq (dOf (eSl dSl (dVar 5) oNone (oSome (dVar 7)))) (dOf (eSl dSl (dVar 6) oNone (oSome (dVar 7)))))) (bTest (eBin dNe (dOf (eBin dIx (dVar 5) (dVar 7))) (dOf (eBin dIx (dVar 6) (dVar 7))))))
    (sEnd [7] (sSetIx 3 (dVar 7) (eBin dAdd (dOf (eBin dIx (dVar 3) (dVar 7))) (dOf (eC (.int 1))))))
    sNil'))
-- l__law_speaks_2: head 0:_law_row_here 1:_law_every_here 3:_law_got 5:_law_one of 8
def l__law_speaks_2 : Fs :=
    (sEnd [6] (sFor (iRng1 (dOf (eApp gLen (sCons (dVar 0) sNil)))) (gOne 7)
    l__law_speaks_3))
-- l__law_speaks_1: head 0:_law_row_here 1:_law_every_here 3:_law_got of 8
def l__law_speaks_1 : Fs :=
    (sEnd [5] (sForK [4] (iVal (eSl dSl (dVar 1) (oSome (dOf (eBin dAdd (dVar 4) (dOf (eC (.int 1)))))) oNone)) (gOne 6)
    l__law_speaks_2))
def b_places : Fs :=
    (sSeq (sSet 2 (eFrz (eApp gSorted (sCons (dOf (eComp (iEnumV (dVar 1)) (gMany [3, 4]) [3, 4] bYes (eTup (aCons (eCall m_worths (aCons (eVar 0) (aCons (eVar 4) aNil))) (aCons (eVar 3) aNil))))) sNil))))
    (sRet (eApp gTup (sCons (dOf (eComp (iOf (dVar 2)) (gMany [5, 3]) [5, 3] bYes (eVar 3))) sNil))))
def m_places : Fn := runB 6 b_places
def b_ordered : Fs :=
    (sRet (eApp gTup (sCons (dOf (eComp (iOf (dOf (eCall m_places (aCons (eVar 0) (aCons (eVar 1) aNil))))) (gOne 2) [2] bYes (eBin dIx (dVar 1) (dVar 2)))) sNil)))
def m_ordered : Fn := runB 3 b_ordered
def b_is_ordered : Fs :=
    (sRet (eApp gAll (sCons (dOf (eComp (iZipV (dOf (eSl dSl (dVar 1) oNone (oSome (dOf (eUn dNeg (dOf (eC (.int 1)))))))) (dOf (eSl dSl (dVar 1) (oSome (dOf (eC (.int 1)))) oNone))) (gMany [2, 3]) [2, 3] bYes (eBin (dCmp rLt zLt) (dOf (eCall m_told (aCons (eVar 0) (aCons (eVar 2) (aCons (eVar 3) aNil))))) (dOf (eC (.int 1)))))) sNil)))
def m_is_ordered : Fn := runB 4 b_is_ordered
def l_runs_1 : Fs :=
    (sIf (bAnd (bTru (dVar 2)) (bTest (eBin (dCmp rLt zLt) (dOf (eCall m_told (aCons (eVar 0) (aCons (eBin dIx (dOf (eBin dIx (dVar 2) (dOf (eUn dNeg (dOf (eC (.int 1))))))) (dOf (eUn dNeg (dOf (eC (.int 1)))))) (aCons (eVar 3) aNil))))) (dOf (eC (.int 1))))))
    (sSetIx 2 (dOf (eUn dNeg (dOf (eC (.int 1))))) (eBin dAdd (dOf (eBin dIx (dVar 2) (dOf (eUn dNeg (dOf (eC (.int 1))))))) (dOf (eTup (aCons (eVar 3) aNil)))))
    (sApp 2 (eTup (aCons (eVar 3) aNil))))
def b_runs : Fs :=
    (sSeq (sSet 2 (eLst aNil))
    (sSeq (sFor (iVal (eVar 1)) (gOne 3)
    l_runs_1)
    (sRet (eApp gTup (sCons (dVar 2) sNil)))))
def m_runs : Fn := runB 4 b_runs
def l_crossings_1 : Fs :=
    (sSet 2 (eFrz (eBin dAdd (dVar 2) (dOf (eApp gLen (sCons (dOf (eComp (iOf (dOf (eSl dSl (dVar 1) (oSome (dOf (eBin dAdd (dVar 3) (dOf (eC (.int 1)))))) oNone))) (gOne 5) [5] (bTest (eBin dEq (dOf (eCall m_told (aCons (eVar 0) (aCons (eVar 4) (aCons (eVar 5) aNil))))) (dOf (eC (.int 1))))) (eVar 5))) sNil))))))
def b_crossings : Fs :=
    (sSeq (sSet 2 (eC (.int 0)))
    (sSeq (sFor (iEnumF (eVar 1)) (gMany [3, 4])
    l_crossings_1)
    (sRet (eVar 2))))
def m_crossings : Fn := runB 6 b_crossings
def l__law_sorted_2 : Fs :=
    (sSet 5 (eFrz (eBin dAdd (dVar 5) (dOf (eC (.int 1))))))
def l__law_sorted_1 : Fs :=
    (sSeq (sSet 5 (eC (.int 0)))
    (sSeq (loopW (bAnd (bTest (eBin (dCmp rLt zLt) (dVar 5) (dOf (eApp gLen (sCons (dVar 2) sNil))))) (bTest (eBin (dCmp rLt zLt) (dOf (eCall m__law_word (aCons (eVar 0) (aCons (eBin dIx (dVar 1) (dOf (eBin dIx (dVar 2) (dVar 5)))) (aCons (eVar 4) aNil))))) (dOf (eC (.int 1)))))) l__law_sorted_2 100000)
    (sSet 2 (eFrz (eBin dAdd (dOf (eBin dAdd (dOf (eSl dSl (dVar 2) oNone (oSome (dVar 5)))) (dOf (eLst (aCons (eVar 3) aNil))))) (dOf (eSl dSl (dVar 2) (oSome (dVar 5)) oNone)))))))
def b__law_sorted : Fs :=
    (sSeq (sSet 2 (eFrz (eLst aNil)))
    (sSeq (sFor (iEnumF (eVar 1)) (gMany [3, 4])
    l__law_sorted_1)
    (sRet (eVar 2))))
def m__law_sorted : Fn := runB 6 b__law_sorted
-- l_merged_1: head 0:row 1:ones 2:others 3:found of 4
def l_merged_1 : Fs :=
    (sIf (bTest (eBin (dCmp rLt zLt) (dOf (eCall m_told (aCons (eVar 0) (aCons (eBin dIx (dVar 1) (dOf (eC (.int 0)))) (aCons (eBin dIx (dVar 2) (dOf (eC (.int 0)))) aNil))))) (dOf (eC (.int 1)))))
    (sSeq (sSet 3 (eFrz (eBin dAdd (dVar 3) (dOf (eSl dSl (dVar 1) oNone (oSome (dOf (eC (.int 1)))))))))
    (sSet 1 (eFrz (eSl dSl (dVar 1) (oSome (dOf (eC (.int 1)))) oNone))))
    (sSeq (sSet 3 (eFrz (eBin dAdd (dVar 3) (dOf (eSl dSl (dVar 2) oNone (oSome (dOf (eC (.int 1)))))))))
    (sSet 2 (eFrz (eSl dSl (dVar 2) (oSome (dOf (eC (.int 1)))) oNone)))))
def b_merged : Fs :=
    (sSeq (sSet 3 (eTup aNil))
    (sSeq (sEnd [0] (loopW (bAnd (bTru (dVar 1)) (bTru (dVar 2))) l_merged_1 100000))
    (sRet (eBin dAdd (dOf (eBin dAdd (dVar 3) (dVar 1))) (dVar 2)))))
def m_merged : Fn := runB 4 b_merged
-- l_turns_2: head 0:row 2:rows 3:found 4:after of 9
def l_turns_2 : Fs :=
    (sSeq (sEnd [5] (sSet 6 (eFrz (eSl dSl (dVar 2) (oSome (dVar 5)) (oSome (dOf (eBin dAdd (dVar 5) (dOf (eC (.int 2))))))))))
    (sEnd [6] (sApp 4 (eCall m_merged (aCons (eVar 0) (aCons (eBin dIx (dVar 6) (dOf (eC (.int 0)))) (aCons (eBin dIx (dOf (eBin dAdd (dVar 6) (dOf (eLst (aCons (eTup aNil) aNil))))) (dOf (eC (.int 1)))) aNil)))))))
-- l_turns_3: head 0:row 2:rows 3:found 7:whole of 9
def l_turns_3 : Fs :=
    (sEnd [8] (sSet 7 (eFrz (eBin dAdd (dVar 7) (dVar 8)))))
-- l_turns_1: head 0:row 2:rows 3:found of 9
def l_turns_1 : Fs :=
    (sSeq (sSet 4 (eLst aNil))
    (sSeq (sEnd [2] (sFor (iRng3D (dOf (eC (.int 0))) (dOf (eApp gLen (sCons (dVar 2) sNil))) (dOf (eC (.int 2)))) (gOne 5)
    l_turns_2))
    (sSeq (sEnd [4] (frzAt 4 (sSet 2 (eVar 4))))
    (sSeq (sSet 7 (eTup aNil))
    (sSeq (sFor (iVal (eVar 2)) (gOne 8)
    l_turns_3)
    (sEnd [7] (sApp 3 (eVar 7))))))))
def b__law_together : Fs :=
    (sSeq (sEnd [1, 2] (sSet 3 (eFrz (eBin dAdd (dVar 1) (dVar 2)))))
    (sRet (eApp gTup (sCons (dOf (eComp (iOf (dOf (eCall m__law_sorted (aCons (eVar 0) (aCons (eVar 3) aNil))))) (gOne 4) [4] bYes (eBin dIx (dVar 3) (dVar 4)))) sNil))))
def m__law_together : Fn := runB 5 b__law_together
-- l__law_turns_1: head 0:_law_row 2:_law_cut of 9
def l__law_turns_1 : Fs :=
    (sIf (bAnd (bTru (dVar 2)) (bTest (eBin (dCmp rLt zLt) (dOf (eCall m__law_word (aCons (eVar 0) (aCons (eBin dIx (dOf (eBin dIx (dVar 2) (dOf (eUn dNeg (dOf (eC (.int 1))))))) (dOf (eUn dNeg (dOf (eC (.int 1)))))) (aCons (eVar 3) aNil))))) (dOf (eC (.int 1))))))
    (sEnd [3] (sSetIx 2 (dOf (eUn dNeg (dOf (eC (.int 1))))) (eBin dAdd (dOf (eBin dIx (dVar 2) (dOf (eUn dNeg (dOf (eC (.int 1))))))) (dOf (eTup (aCons (eVar 3) aNil))))))
    (sEnd [3] (sApp 2 (eTup (aCons (eVar 3) aNil)))))
-- l__law_turns_3: head 0:_law_row 2:_law_cut 4:_law_got 5:_law_after of 9
def l__law_turns_3 : Fs :=
    (sIf (bTest (eBin (dCmp rLt zLt) (dOf (eBin dAdd (dVar 6) (dOf (eC (.int 1))))) (dOf (eApp gLen (sCons (dVar 2) sNil)))))
    (sEnd [6] (sApp 5 (eCall m__law_together (aCons (eVar 0) (aCons (eBin dIx (dVar 2) (dVar 6)) (aCons (eBin dIx (dVar 2) (dOf (eBin dAdd (dVar 6) (dOf (eC (.int 1)))))) aNil))))))
    (sEnd [6] (sApp 5 (eBin dIx (dVar 2) (dVar 6)))))
-- l__law_turns_4: head 0:_law_row 2:_law_cut 4:_law_got 7:_law_whole of 9
def l__law_turns_4 : Fs :=
    (sEnd [8] (sSet 7 (eFrz (eBin dAdd (dVar 7) (dVar 8)))))
-- l__law_turns_2: head 0:_law_row 2:_law_cut 4:_law_got of 9
def l__law_turns_2 : Fs :=
    (sSeq (sSet 5 (eLst aNil))
    (sSeq (sEnd [2] (sFor (iRng3D (dOf (eC (.int 0))) (dOf (eApp gLen (sCons (dVar 2) sNil))) (dOf (eC (.int 2)))) (gOne 6)
    l__law_turns_3))
    (sSeq (sEnd [5] (frzAt 5 (sSet 2 (eVar 5))))
    (sSeq (sSet 7 (eTup aNil))
    (sSeq (frzAt 2 (sFor (iVal (eVar 2)) (gOne 8)
    l__law_turns_4))
    (sEnd [7] (sApp 4 (eVar 7))))))))
def l_groups_1 : Fs :=
    (sIf (bAnd (bTru (dVar 2)) (bTest (eBin dEq (dOf (eCall m_told (aCons (eVar 0) (aCons (eBin dIx (dOf (eBin dIx (dVar 2) (dOf (eUn dNeg (dOf (eC (.int 1))))))) (dOf (eC (.int 0)))) (aCons (eVar 3) aNil))))) (dOf (eC (.int 0))))))
    (sSetIx 2 (dOf (eUn dNeg (dOf (eC (.int 1))))) (eBin dAdd (dOf (eBin dIx (dVar 2) (dOf (eUn dNeg (dOf (eC (.int 1))))))) (dOf (eTup (aCons (eVar 3) aNil)))))
    (sApp 2 (eTup (aCons (eVar 3) aNil))))
def b_groups : Fs :=
    (sSeq (sSet 2 (eLst aNil))
    (sSeq (sFor (iVal (eCall m_ordered (aCons (eVar 0) (aCons (eVar 1) aNil)))) (gOne 3)
    l_groups_1)
    (sRet (eApp gTup (sCons (dVar 2) sNil)))))
def m_groups : Fn := runB 4 b_groups
def l_best_1 : Fs :=
    (sIf (bTest (eBin (dCmp rLt zLt) (dOf (eApp gLen (sCons (dVar 3) sNil))) (dVar 2)))
    (sSet 3 (eFrz (eBin dAdd (dVar 3) (dVar 4))))
    sNil')
def b_best : Fs :=
    (sSeq (sSet 3 (eTup aNil))
    (sSeq (sFor (iVal (eCall m_groups (aCons (eVar 0) (aCons (eVar 1) aNil)))) (gOne 4)
    l_best_1)
    (sRet (eVar 3))))
def m_best : Fn := runB 5 b_best
def l_list_told_1 : Fs :=
    (sSeq (sSet 5 (eFrz (eCall m_told (aCons (eVar 0) (aCons (eVar 3) (aCons (eVar 4) aNil))))))
    (sIf (bTest (eBin dNe (dVar 5) (dOf (eC (.int 0)))))
    (sRet (eVar 5))
    sNil'))
def b_list_told : Fs :=
    (sSeq (sFor (iZipF (eVar 1) (eVar 2)) (gMany [3, 4])
    l_list_told_1)
    (sRet (eBin dSub (dOf (eApp gInt (sCons (dOf (eBin (dCmp rGt zGt) (dOf (eApp gLen (sCons (dVar 1) sNil))) (dOf (eApp gLen (sCons (dVar 2) sNil))))) sNil))) (dOf (eApp gInt (sCons (dOf (eBin (dCmp rLt zLt) (dOf (eApp gLen (sCons (dVar 1) sNil))) (dOf (eApp gLen (sCons (dVar 2) sNil))))) sNil))))))
def m_list_told : Fn := runB 6 b_list_told
def b_is_odd : Fs :=
    (sRet (eBin dNe (dOf (eBin dIx (dOf (eBin dIx (dVar 0) (dVar 1))) (dVar 2))) (dOf (eBin dSub (dOf (eC (.int 0))) (dOf (eBin dIx (dOf (eBin dIx (dVar 0) (dVar 2))) (dVar 1)))))))
def m_is_odd : Fn := runB 3 b_is_odd
def b_is_chain : Fs :=
    (sSeq (sSet 4 (eBin dIx (dOf (eBin dIx (dVar 0) (dVar 1))) (dVar 2)))
    (sSeq (sEnd [2] (sSet 5 (eBin dIx (dOf (eBin dIx (dVar 0) (dVar 2))) (dVar 3))))
    (sRet (eAnd (eBin (dCmp rLt zLt) (dVar 4) (dOf (eC (.int 1)))) (eAnd (eBin (dCmp rLt zLt) (dVar 5) (dOf (eC (.int 1)))) (eBin dNe (dOf (eBin dIx (dOf (eBin dIx (dVar 0) (dVar 1))) (dVar 3))) (dOf (eApp gMin2 (sCons (dVar 4) (sCons (dVar 5) sNil))))))))))
def m_is_chain : Fn := runB 6 b_is_chain
-- l_why_none_2: head 0:table 1:many 2:one of 5
def l_why_none_2 : Fs :=
    (sEnd [3] (sIf (bTru (dOf (eCall m_is_odd (aCons (eVar 0) (aCons (eVar 2) (aCons (eVar 3) aNil))))))
    (sRet (eTup (aCons (eC (.str "odd")) (aCons (eVar 2) (aCons (eVar 3) aNil)))))
    sNil'))
-- l_why_none_1: head 0:table 1:many of 5
def l_why_none_1 : Fs :=
    (sEnd [2] (sFor (iVal (eVar 1)) (gOne 3)
    l_why_none_2))
-- l_why_none_5: head 0:table 1:many 2:one 3:other of 5
def l_why_none_5 : Fs :=
    (sEnd [4] (sIf (bTru (dOf (eCall m_is_chain (aCons (eVar 0) (aCons (eVar 2) (aCons (eVar 3) (aCons (eVar 4) aNil)))))))
    (sRet (eTup (aCons (eC (.str "chain")) (aCons (eVar 2) (aCons (eVar 3) (aCons (eVar 4) aNil))))))
    sNil'))
-- l_why_none_4: head 0:table 1:many 2:one of 5
def l_why_none_4 : Fs :=
    (sEnd [3] (sFor (iVal (eVar 1)) (gOne 4)
    l_why_none_5))
-- l_why_none_3: head 0:table 1:many of 5
def l_why_none_3 : Fs :=
    (sEnd [2] (sFor (iVal (eVar 1)) (gOne 3)
    l_why_none_4))
def b__law_is_odd : Fs :=
    (sRet (eBin dNe (dOf (eBin dAdd (dOf (eBin dIx (dOf (eBin dIx (dVar 0) (dVar 1))) (dVar 2))) (dOf (eBin dIx (dOf (eBin dIx (dVar 0) (dVar 2))) (dVar 1))))) (dOf (eC (.int 0)))))
def m__law_is_odd : Fn := runB 3 b__law_is_odd
def b__law_is_chain : Fs :=
    (sSeq (sIf (bOr (bTest (eBin dEq (dOf (eBin dIx (dOf (eBin dIx (dVar 0) (dVar 1))) (dVar 2))) (dOf (eC (.int 1))))) (bTest (eBin dEq (dOf (eBin dIx (dOf (eBin dIx (dVar 0) (dVar 2))) (dVar 3))) (dOf (eC (.int 1))))))
    (sRet (eC (.bool false)))
    sNil')
    (sRet (eBin dNe (dOf (eBin dIx (dOf (eBin dIx (dVar 0) (dVar 1))) (dVar 3))) (dOf (eIf (bTest (eBin dIn (dOf (eUn dNeg (dOf (eC (.int 1))))) (dOf (eTup (aCons (eBin dIx (dOf (eBin dIx (dVar 0) (dVar 1))) (dVar 2)) (aCons (eBin dIx (dOf (eBin dIx (dVar 0) (dVar 2))) (dVar 3)) aNil)))))) (eUn dNeg (dOf (eC (.int 1)))) (eC (.int 0)))))))
def m__law_is_chain : Fn := runB 4 b__law_is_chain
-- l__law_papers_2: head 0:_law_table_here 1:_law_every 2:_law_got 3:_law_k of 6
def l__law_papers_2 : Fs :=
    (sSeq (sIf (bTru (dOf (eCall m__law_is_odd (aCons (eVar 0) (aCons (eVar 3) (aCons (eVar 4) aNil))))))
    (sApp 2 (eTup (aCons (eC (.str "odd")) (aCons (eVar 3) (aCons (eVar 4) aNil)))))
    sNil')
    (sEnd [4] (sSet 2 (eBin dAdd (dVar 2) (dOf (eComp (iOf (dVar 1)) (gOne 5) [5] (bTru (dOf (eCall m__law_is_chain (aCons (eVar 0) (aCons (eVar 3) (aCons (eVar 4) (aCons (eVar 5) aNil))))))) (eTup (aCons (eC (.str "chain")) (aCons (eVar 3) (aCons (eVar 4) (aCons (eVar 5) aNil)))))))))))
-- l__law_papers_1: head 0:_law_table_here 1:_law_every 2:_law_got of 6
def l__law_papers_1 : Fs :=
    (sEnd [3] (sFor (iVal (eVar 1)) (gOne 4)
    l__law_papers_2))
-- l__law_is_why_1: head 0:_law_table_here 1:_law_thing of 3
def l__law_is_why_1 : Fs :=
    (sEnd [2] (sIf (bOr (bNot (bTru (dOf (eIsa "int" (dVar 2))))) (bOr (bTru (dOf (eIsa "bool" (dVar 2)))) (bOr (bTest (eBin (dCmp rLt zLt) (dVar 2) (dOf (eC (.int 0))))) (bTest (eBin (dCmp rGe zGe) (dVar 2) (dOf (eApp gLen (sCons (dVar 0) sNil))))))))
    (sRet (eC (.bool false)))
    sNil'))
-- l__law_is_table_2: head 0:_law_thing of 3
def l__law_is_table_2 : Fs :=
    (sEnd [2] (sIf (bOr (bNot (bTru (dOf (eIsa "int" (dVar 2))))) (bOr (bTru (dOf (eIsa "bool" (dVar 2)))) (bTest (eBin dNotIn (dVar 2) (dOf (eTup (aCons (eUn dNeg (dOf (eC (.int 1)))) (aCons (eC (.int 0)) (aCons (eC (.int 1)) aNil)))))))))
    (sRet (eC (.bool false)))
    sNil'))
-- l__law_is_table_1: head 0:_law_thing of 3
def l__law_is_table_1 : Fs :=
    (sSeq (sIf (bOr (bNot (bTru (dOf (eIsa "tuple" (dVar 1))))) (bTest (eBin dNe (dOf (eApp gLen (sCons (dVar 1) sNil))) (dOf (eApp gLen (sCons (dVar 0) sNil))))))
    (sRet (eC (.bool false)))
    sNil')
    (sForK [1] (iVal (eVar 1)) (gOne 2)
    l__law_is_table_2))
def b_behind : Fs :=
    (sRet (eApp gSorted (sCons (dOf (eComp (iOf (dVar 0)) (gMany [2, 3]) [2, 3] (bTest (eBin dEq (dVar 2) (dVar 1))) (eVar 3))) sNil)))
def m_behind : Fn := runB 4 b_behind
-- l_closed_1: head 0:pairs 1:found of 7
def l_closed_1 : Fs :=
    (sEnd [2] (sPut 1 (dVar 2) (eC (.bool true))))
-- l_closed_4: head 0:pairs 1:found 3:many 4:one of 7
def l_closed_4 : Fs :=
    (sEnd [6] (sPut 1 (dOf (eTup (aCons (eVar 4) (aCons (eVar 6) aNil)))) (eC (.bool true))))
-- l_closed_3: head 0:pairs 1:found 3:many of 7
def l_closed_3 : Fs :=
    (sEnd [4] (sForK [5] (iVal (eCall m_behind (aCons (eVar 0) (aCons (eVar 5) aNil)))) (gOne 6)
    l_closed_4))
-- l_closed_2: head 0:pairs 1:found 3:many of 7
def l_closed_2 : Fs :=
    (sSeq (sSet 3 (eApp gLenD (sCons (dVar 1) sNil)))
    (sFor (iVal (eApp gListD (sCons (dVar 1) sNil))) (gMany [4, 5])
    l_closed_3))
def b_closed : Fs :=
    (sSeq (sSet 1 eDicT)
    (sSeq (sFor (iVal (eVar 0)) (gOne 2)
    l_closed_1)
    (sSeq (sSet 3 (eUn dNeg (dOf (eC (.int 1)))))
    (sSeq (sEnd [0, 3] (loopW (bTest (eBin dNe (dVar 3) (dOf (eApp gLenD (sCons (dVar 1) sNil))))) l_closed_2 100000))
    (sRet (eApp gTup (sCons (dOf (eApp gSortedD (sCons (dVar 1) sNil))) sNil)))))))
def m_closed : Fn := runB 7 b_closed
-- l_ring_from_1: head 0:pairs 1:way of 4
def l_ring_from_1 (m : Fn) : Fs :=
    (sSeq (sIf (bTest (eBin dEq (dVar 2) (dOf (eBin dIx (dVar 1) (dOf (eC (.int 0)))))))
    (sRet (eVar 1))
    sNil')
    (sEnd [2] (sIf (bAnd (bTest (eBin (dCmp rGt zGt) (dVar 2) (dOf (eBin dIx (dVar 1) (dOf (eC (.int 0))))))) (bTest (eBin dNotIn (dVar 2) (dVar 1))))
    (sSeq (sEnd [2] (sSet 3 (eFrz (eCall m (aCons (eVar 0) (aCons (eBin dAdd (dVar 1) (dOf (eTup (aCons (eVar 2) aNil)))) aNil))))))
    (sEnd [3] (sIf (bTest (eBin dNotN (dVar 3) (dOf (eC .none))))
    (sRet (eVar 3))
    sNil')))
    sNil')))
def b_ring_from (m : Fn) : Fs :=
    (sSeq (sEnd [0, 1] (sFor (iVal (eCall m_behind (aCons (eVar 0) (aCons (eBin dIx (dVar 1) (dOf (eUn dNeg (dOf (eC (.int 1)))))) aNil)))) (gOne 2)
    (l_ring_from_1 m)))
    (sRet (eC .none)))
def m_ring_from_ : Nat → Fn
  | 0 => fun _ _ => none
  | k + 1 => runB 4 (b_ring_from (m_ring_from_ k))
def m_ring_from : Fn := m_ring_from_ 10
-- l_ring_1: head 0:pairs of 5
def l_ring_1 : Fs :=
    (sSeq (sEnd [1] (sSet 4 (eFrz (eCall m_ring_from (aCons (eVar 0) (aCons (eTup (aCons (eVar 1) aNil)) aNil))))))
    (sEnd [4] (sIf (bTest (eBin dNotN (dVar 4) (dOf (eC .none))))
    (sRet (eVar 4))
    sNil')))
def b_ring : Fs :=
    (sSeq (sEnd [0] (sFor (iVal (eApp gSortSet (sCons (dOf (eComp (iOf (dVar 0)) (gMany [2, 3]) [2, 3] bYes (eVar 2))) sNil))) (gOne 1)
    l_ring_1))
    (sRet (eC .none)))
def m_ring : Fn := runB 5 b_ring
-- l__law_pairs_1: head 0:_law_script 1:_law_town 2:_law_many 3:_law_got 4:_law_is_free 5:_law_order of 10
def l__law_pairs_1 : Fs :=
    (sSeq (sSet 7 (eCall m__law_draw (aCons (eVar 0) (aCons (eVar 1) (aCons (eBin dAdd (dOf (eApp gLen (sCons (dVar 5) sNil))) (dOf (eC (.int 1)))) aNil)))))
    (sEnd [6, 7] (sSet 5 (eFrz (eBin dAdd (dOf (eBin dAdd (dOf (eSl dSl (dVar 5) oNone (oSome (dVar 7)))) (dOf (eLst (aCons (eVar 6) aNil))))) (dOf (eSl dSl (dVar 5) (oSome (dVar 7)) oNone)))))))
-- l__law_pairs_2: head 0:_law_script 1:_law_town 2:_law_many 3:_law_got 4:_law_is_free 5:_law_order of 10
def l__law_pairs_2 : Fs :=
    (sSeq (sEnd [8] (sPar 6 9 (aCons (eCall m__law_draw (aCons (eVar 0) (aCons (eVar 1) (aCons (eVar 2) aNil)))) (aCons (eCall m__law_draw (aCons (eVar 0) (aCons (eVar 1) (aCons (eVar 2) aNil)))) aNil))))
    (sSeq (sIf (bAnd (bTru (dVar 4)) (bTest (eBin (dCmp rGt zGt) (dOf (eMt isLstD gIndexLX (dVar 5) (sCons (dVar 6) sNil))) (dOf (eMt isLstD gIndexLX (dVar 5) (sCons (dVar 9) sNil))))))
    (sPar 6 9 (aCons (eVar 9) (aCons (eVar 6) aNil)))
    sNil')
    (sEnd [6, 9] (sIf (bTest (eBin dNe (dVar 6) (dVar 9)))
    (sEnd [6, 9] (sPut 3 (dOf (eTup (aCons (eVar 6) (aCons (eVar 9) aNil)))) (eC (.int 0))))
    sNil'))))
-- l__law_follows_1: head 0:_law_pairs_here 1:_law_got of 8
def l__law_follows_1 : Fs :=
    (sEnd [2] (sPut 1 (dVar 2) (eC (.int 0))))
-- l__law_follows_4: head 0:_law_pairs_here 1:_law_got 4:_law_one 5:_law_other of 8
def l__law_follows_4 : Fs :=
    (sEnd [6, 7] (sIf (bTest (eBin dEq (dVar 5) (dVar 6)))
    (sEnd [6, 7] (sPut 1 (dOf (eTup (aCons (eVar 4) (aCons (eVar 7) aNil)))) (eC (.int 0))))
    sNil'))
-- l__law_follows_3: head 0:_law_pairs_here 1:_law_got of 8
def l__law_follows_3 : Fs :=
    (sEnd [4, 5] (sFor (iVal (eVar 0)) (gMany [6, 7])
    l__law_follows_4))
-- l__law_follows_2: head 0:_law_pairs_here 1:_law_got of 8
def l__law_follows_2 : Fs :=
    (sForK [3] (iVal (eApp gListD (sCons (dVar 1) sNil))) (gMany [4, 5])
    l__law_follows_3)
-- l__law_rings_1: head 0:_law_pairs_here 1:_law_way 2:_law_got of 5
def l__law_rings_1 (m : Fn) : Fs :=
    (sSeq (sIf (bAnd (bTest (eBin dEq (dVar 3) (dOf (eBin dIx (dVar 1) (dOf (eUn dNeg (dOf (eC (.int 1))))))))) (bTest (eBin dEq (dVar 4) (dOf (eBin dIx (dVar 1) (dOf (eC (.int 0))))))))
    (sApp 2 (eVar 1))
    sNil')
    (sEnd [3, 4] (sIf (bAnd (bTest (eBin dEq (dVar 3) (dOf (eBin dIx (dVar 1) (dOf (eUn dNeg (dOf (eC (.int 1))))))))) (bAnd (bTest (eBin (dCmp rGt zGt) (dVar 4) (dOf (eBin dIx (dVar 1) (dOf (eC (.int 0))))))) (bTest (eBin dNotIn (dVar 4) (dVar 1)))))
    (sEnd [3, 4] (sSet 2 (eBin dAdd (dVar 2) (dOf (eCall m (aCons (eVar 0) (aCons (eBin dAdd (dVar 1) (dOf (eTup (aCons (eVar 4) aNil)))) aNil)))))))
    sNil')))
-- l_free_pairs_2: head 1:many 2:every 3:found 4:one of 6
def l_free_pairs_2 : Fs :=
    (sEnd [5] (sIf (bAnd (bTest (eBin dNotIn (dOf (eTup (aCons (eVar 4) (aCons (eVar 5) aNil)))) (dVar 2))) (bTest (eBin dNotIn (dOf (eTup (aCons (eVar 5) (aCons (eVar 4) aNil)))) (dVar 2))))
    (sEnd [5] (sApp 3 (eTup (aCons (eVar 4) (aCons (eVar 5) aNil)))))
    sNil'))
-- l_free_pairs_1: head 1:many 2:every 3:found of 6
def l_free_pairs_1 : Fs :=
    (sEnd [4] (sFor (iRng2 (dOf (eBin dAdd (dVar 4) (dOf (eC (.int 1))))) (dVar 1)) (gOne 5)
    l_free_pairs_2))
def b_free_pairs : Fs :=
    (sSeq (sEnd [0] (sSet 2 (eFrz (eCall m_closed (aCons (eVar 0) aNil)))))
    (sSeq (sSet 3 (eLst aNil))
    (sSeq (sEnd [1, 2] (sFor (iRng1 (dVar 1)) (gOne 4)
    l_free_pairs_1))
    (sRet (eApp gTup (sCons (dVar 3) sNil))))))
def m_free_pairs : Fn := runB 6 b_free_pairs
-- l__law_orders_1: head 0:_law_pairs_here 1:_law_left 2:_law_got of 9
def l__law_orders_1 (m : Fn) : Fs :=
    (sEnd [3] (sIf (bNot (bTru (dOf (eComp (iOf (dVar 0)) (gMany [4, 5]) [4, 5] (bAnd (bTest (eBin dEq (dVar 5) (dVar 3))) (bTest (eBin dIn (dVar 4) (dVar 1)))) (eC (.int 1))))))
    (sSeq (sSet 6 (eFrz (eComp (iOf (dVar 1)) (gOne 7) [7] (bTest (eBin dNe (dVar 7) (dVar 3))) (eVar 7))))
    (sEnd [3, 6] (sSet 2 (eFrz (eBin dAdd (dVar 2) (dOf (eComp (iOf (dOf (eCall m (aCons (eVar 0) (aCons (eVar 6) aNil))))) (gOne 8) [8] bYes (eBin dAdd (dOf (eTup (aCons (eVar 3) aNil))) (dVar 8)))))))))
    sNil'))
def b_need_none : Fs :=
    (sEnd [0] (sIf (bTest (eBin dNotN (dOf (eCall m_ring (aCons (eVar 0) aNil))) (dOf (eC .none))))
    (fun _ _ => none)
    sNil'))
def m_need_none : Fn := runB 1 b_need_none
def bx_need_none : Fsx :=
    (sEndX [0] (sIfX (bTest (eBin dNotN (dOf (eCall m_ring (aCons (eVar 0) aNil))) (dOf (eC .none))))
    (sRz 0)
    (lft sNil')))
def x_need_none : Fnx := runX 1 bx_need_none
-- l_bare_1: head 1:every 2:found of 6
def l_bare_1 : Fs :=
    (sEnd [3, 4] (sIf (bNot (bTru (dOf (eComp (iOf (dOf (eCall m_behind (aCons (eVar 1) (aCons (eVar 3) aNil))))) (gOne 5) [5] (bTest (eBin dIn (dOf (eTup (aCons (eVar 5) (aCons (eVar 4) aNil)))) (dVar 1))) (eVar 5)))))
    (sEnd [3, 4] (sApp 2 (eTup (aCons (eVar 3) (aCons (eVar 4) aNil)))))
    sNil'))
def b_bare : Fs :=
    (sSeq (sDrop (eCall m_need_none (aCons (eVar 0) aNil)))
    (sSeq (sEnd [0] (sSet 1 (eFrz (eCall m_closed (aCons (eVar 0) aNil)))))
    (sSeq (sSet 2 (eLst aNil))
    (sSeq (sEnd [1] (sFor (iVal (eVar 1)) (gMany [3, 4])
    l_bare_1))
    (sRet (eApp gTup (sCons (dVar 2) sNil)))))))
def m_bare : Fn := runB 6 b_bare
def bx_bare : Fsx :=
    (sSeqX (sDropX (xCall x_need_none (aCons (eVar 0) aNil)))
    (lft (sSeq (sEnd [0] (sSet 1 (eFrz (eCall m_closed (aCons (eVar 0) aNil)))))
    (sSeq (sSet 2 (eLst aNil))
    (sSeq (sEnd [1] (sFor (iVal (eVar 1)) (gMany [3, 4])
    l_bare_1))
    (sRet (eApp gTup (sCons (dVar 2) sNil))))))))
def x_bare : Fnx := runX 6 bx_bare
-- l_orders_from_1: head 0:pairs 1:left 2:found of 8
def l_orders_from_1 (m : Fn) : Fs :=
    (sEnd [3] (sIf (bNot (bTru (dOf (eComp (iOf (dVar 0)) (gMany [4, 5]) [4, 5] (bAnd (bTest (eBin dEq (dVar 5) (dVar 3))) (bTest (eBin dIn (dVar 4) (dVar 1)))) (eVar 4)))))
    (sEnd [3] (sExt 2 (eComp (iOf (dOf (eCall m (aCons (eVar 0) (aCons (eComp (iOf (dVar 1)) (gOne 7) [7] (bTest (eBin dNe (dVar 7) (dVar 3))) (eVar 7)) aNil))))) (gOne 6) [6] bYes (eBin dAdd (dOf (eTup (aCons (eVar 3) aNil))) (dVar 6)))))
    sNil'))
def b_orders_from (m : Fn) : Fs :=
    (sSeq (sIf (bNot (bTru (dVar 1)))
    (sRet (eLst (aCons (eTup aNil) aNil)))
    sNil')
    (sSeq (sSet 2 (eLst aNil))
    (sSeq (sEnd [0, 1] (sFor (iVal (eVar 1)) (gOne 3)
    (l_orders_from_1 m)))
    (sRetO 2))))
def m_orders_from_ : Nat → Fn
  | 0 => fun _ _ => none
  | k + 1 => runB 8 (b_orders_from (m_orders_from_ k))
def m_orders_from : Fn := m_orders_from_ 10
def b_orders : Fs :=
    (sSeq (sDrop (eCall m_need_none (aCons (eVar 0) aNil)))
    (sRet (eApp gTup (sCons (dOf (eCall m_orders_from (aCons (eVar 0) (aCons (eListRg1 (dVar 1)) aNil)))) sNil))))
def m_orders : Fn := runB 2 b_orders
def bx_orders : Fsx :=
    (sSeqX (sDropX (xCall x_need_none (aCons (eVar 0) aNil)))
    (lft (sRet (eApp gTup (sCons (dOf (eCall m_orders_from (aCons (eVar 0) (aCons (eListRg1 (dVar 1)) aNil)))) sNil)))))
def x_orders : Fnx := runX 2 bx_orders
-- l_least_order_2: head 0:pairs 2:found 3:left of 8
def l_least_order_2 : Fs :=
    (sEnd [4] (sIf (bNot (bTru (dOf (eComp (iOf (dVar 0)) (gMany [5, 6]) [5, 6] (bAnd (bTest (eBin dEq (dVar 6) (dVar 4))) (bTest (eBin dIn (dVar 5) (dVar 3)))) (eVar 5)))))
    (sSeq (sSet 2 (eFrz (eBin dAdd (dVar 2) (dOf (eTup (aCons (eVar 4) aNil))))))
    (sSeq (sEnd [4] (sSet 3 (eFrz (eComp (iOf (dVar 3)) (gOne 7) [7] (bTest (eBin dNe (dVar 7) (dVar 4))) (eVar 7)))))
    sBrk))
    sNil'))
-- l_least_order_1: head 0:pairs 2:found 3:left of 8
def l_least_order_1 : Fs :=
    (sFor (iVal (eVar 3)) (gOne 4)
    l_least_order_2)
def b_least_order : Fs :=
    (sSeq (sDrop (eCall m_need_none (aCons (eVar 0) aNil)))
    (sSeq (sSet 2 (eTup aNil))
    (sSeq (sEnd [1] (sSet 3 (eFrz (eListRg1 (dVar 1)))))
    (sSeq (sEnd [0, 3] (loopW (bTru (dVar 3)) l_least_order_1 100000))
    (sRet (eVar 2))))))
def m_least_order : Fn := runB 8 b_least_order
def bx_least_order : Fsx :=
    (sSeqX (sDropX (xCall x_need_none (aCons (eVar 0) aNil)))
    (lft (sSeq (sSet 2 (eTup aNil))
    (sSeq (sEnd [1] (sSet 3 (eFrz (eListRg1 (dVar 1)))))
    (sSeq (sEnd [0, 3] (loopW (bTru (dVar 3)) l_least_order_1 100000))
    (sRet (eVar 2)))))))
def x_least_order : Fnx := runX 8 bx_least_order
-- l_levels_1: head 0:pairs 1:many 2:found of 6
def l_levels_1 : Fs :=
    (sEnd [3] (sPut 2 (dVar 3) (eApp gMax1 (sCons (dOf (eBin dAdd (dOf (eLst (aCons (eC (.int 0)) aNil))) (dOf (eComp (iOf (dVar 0)) (gMany [4, 5]) [4, 5] (bTest (eBin dEq (dVar 5) (dVar 3))) (eBin dAdd (dOf (eBin dIxD (dVar 2) (dVar 4))) (dOf (eC (.int 1)))))))) sNil))))
def b_levels : Fs :=
    (sSeq (sDrop (eCall m_need_none (aCons (eVar 0) aNil)))
    (sSeq (sSet 2 eDicK)
    (sSeq (sEnd [0] (sFor (iVal (eCall m_least_order (aCons (eVar 0) (aCons (eVar 1) aNil)))) (gOne 3)
    l_levels_1))
    (sRet (eApp gTup (sCons (dOf (eComp (iRng1 (dVar 1)) (gOne 3) [3] bYes (eBin dIxD (dVar 2) (dVar 3)))) sNil))))))
def m_levels : Fn := runB 6 b_levels
def bx_levels : Fsx :=
    (sSeqX (sDropX (xCall x_need_none (aCons (eVar 0) aNil)))
    (lft (sSeq (sSet 2 eDicK)
    (sSeq (sEnd [0] (sFor (iVal (eCall m_least_order (aCons (eVar 0) (aCons (eVar 1) aNil)))) (gOne 3)
    l_levels_1))
    (sRet (eApp gTup (sCons (dOf (eComp (iRng1 (dVar 1)) (gOne 3) [3] bYes (eBin dIxD (dVar 2) (dVar 3)))) sNil)))))))
def x_levels : Fnx := runX 6 bx_levels
-- l_plain_keys_1: head 0:found of 4
def l_plain_keys_1 : Fs :=
    (sEnd [1] (sExt 0 (eComp (iRng2 (dOf (eBin dAdd (dVar 1) (dOf (eC (.int 1))))) (dOf (eC (.int 3)))) (gOne 3) [3] bYes (eTup (aCons (eC (.str "sum")) (aCons (eVar 1) (aCons (eVar 3) aNil)))))))
-- l_agreeing_1: head 0:things 1:keys 2:found of 5
def l_agreeing_1 : Fs :=
    (sEnd [3] (sIf (bTru (dOf (eCall m_is_ordered (aCons (eTup (aCons (eVar 3) aNil)) (aCons (eVar 0) aNil)))))
    (sEnd [3] (sExt 2 (eComp (iOf (dVar 1)) (gOne 4) [4] (bAnd (bTest (eBin dNe (dVar 4) (dVar 3))) (bTru (dOf (eCall m_is_ordered (aCons (eTup (aCons (eVar 3) (aCons (eVar 4) aNil))) (aCons (eVar 0) aNil)))))) (eTup (aCons (eVar 3) (aCons (eVar 4) aNil))))))
    sNil'))
-- l_unlike_rows_1: head 1:seen 2:found of 5
def l_unlike_rows_1 : Fs :=
    (sSeq (sSet 4 (eFrz (eCall m_form (aCons (eVar 3) aNil))))
    (sEnd [3, 4] (sIf (bTest (eBin dNotInD (dVar 4) (dVar 1)))
    (sSeq (sEnd [4] (sPut 1 (dVar 4) (eC (.bool true))))
    (sEnd [3] (sApp 2 (eVar 3))))
    sNil')))
-- l__law_rows_1: head 0:_law_every_here 1:_law_got of 4
def l__law_rows_1 : Fs :=
    (sEnd [2] (sSet 1 (eFrz (eBin dAdd (dVar 1) (dOf (eComp (iOf (dVar 0)) (gOne 3) [3] (bTest (eBin dNe (dVar 3) (dVar 2))) (eTup (aCons (eVar 2) (aCons (eVar 3) aNil)))))))))
-- l__law_goes_on_3: head 0:_law_row 1:_law_lists 2:_law_some 3:_law_other of 5
def l__law_goes_on_3 : Fs :=
    (sEnd [4] (sIf (bAnd (bTest (eBin (dCmp rLt zLt) (dOf (eCall m_list_told (aCons (eVar 0) (aCons (eVar 2) (aCons (eVar 3) aNil))))) (dOf (eC (.int 1))))) (bTest (eBin (dCmp rLt zLt) (dOf (eCall m_list_told (aCons (eVar 0) (aCons (eVar 3) (aCons (eVar 4) aNil))))) (dOf (eC (.int 1))))))
    (sEnd [4] (sIf (bTest (eBin (dCmp rGt zGt) (dOf (eCall m_list_told (aCons (eVar 0) (aCons (eVar 2) (aCons (eVar 4) aNil))))) (dOf (eC (.int 0)))))
    (sRet (eC (.bool false)))
    sNil'))
    sNil'))
-- l__law_goes_on_2: head 0:_law_row 1:_law_lists 2:_law_some of 5
def l__law_goes_on_2 : Fs :=
    (sEnd [3] (sFor (iVal (eVar 1)) (gOne 4)
    l__law_goes_on_3))
-- l__law_goes_on_1: head 0:_law_row 1:_law_lists of 5
def l__law_goes_on_1 : Fs :=
    (sEnd [2] (sFor (iVal (eVar 1)) (gOne 3)
    l__law_goes_on_2))
-- l__law_ways_1: head 1:_law_got of 3
def l__law_ways_1 : Fs :=
    (sEnd [2] (sSet 1 (eBin dMul (dVar 1) (dVar 2))))
def b_chosen : Fs :=
    (sRet (eApp gTup (sCons (dOf (eComp (iOf (dVar 1)) (gOne 2) [2] bYes (eBin dIx (dVar 0) (dVar 2)))) sNil)))
def m_chosen : Fn := runB 3 b_chosen
-- l_choices_2: head 0:many 4:longer of 7
def l_choices_2 : Fs :=
    (sEnd [5] (sExt 4 (eComp (iRng2 (dOf (eBin dAdd (dOf (eApp gMax1 (sCons (dOf (eBin dAdd (dOf (eTup (aCons (eUn dNeg (dOf (eC (.int 1)))) aNil))) (dVar 5))) sNil))) (dOf (eC (.int 1))))) (dVar 0)) (gOne 6) [6] bYes (eBin dAdd (dVar 5) (dOf (eTup (aCons (eVar 6) aNil)))))))
-- l_choices_1: head 0:many 2:found of 7
def l_choices_1 : Fs :=
    (sSeq (sEnd [3] (sSet 4 (eLst aNil)))
    (sSeq (sForK [2] (iVal (eVar 2)) (gOne 5)
    l_choices_2)
    (sEnd [4] (frzAt 4 (sSet 2 (eVar 4))))))
def b_choices : Fs :=
    (sSeq (sSet 2 (eFrz (eLst (aCons (eTup aNil) aNil))))
    (sSeq (sEnd [0] (sForK [1] (iRng1 (dVar 1)) (gOne 3)
    l_choices_1))
    (sRet (eVar 2))))
def m_choices : Fn := runB 7 b_choices
-- l_fewest_1: head 0:row of 4
def l_fewest_1 : Fs :=
    (sSeq (sEnd [1] (sSet 2 (eApp gTup (sCons (dOf (eComp (iOf (dOf (eCall m_choices (aCons (eApp gLen (sCons (dVar 0) sNil)) (aCons (eVar 1) aNil))))) (gOne 3) [3] (bTru (dOf (eCall m_alike (aCons (eCall m_chosen (aCons (eVar 0) (aCons (eVar 3) aNil))) (aCons (eVar 0) aNil))))) (eVar 3))) sNil))))
    (sEnd [2] (sIf (bTru (dVar 2))
    (sRet (eVar 2))
    sNil')))
-- l__law_choices_1: head 1:_law_got of 4
def l__law_choices_1 : Fs :=
    (sEnd [2] (sSet 1 (eFrz (eBin dAdd (dVar 1) (dOf (eComp (iOf (dVar 1)) (gOne 3) [3] bYes (eBin dAdd (dVar 3) (dOf (eTup (aCons (eVar 2) aNil))))))))))
def b_comes_later : Fs :=
    (sSeq (sIf (bTest (eBin dEq (dVar 1) (dOf (eC (.str "many")))))
    (sRet (eBin (dCmp rGt zGt) (dOf (eApp gLen (sCons (dVar 2) sNil))) (dOf (eApp gLen (sCons (dVar 3) sNil)))))
    sNil')
    (sSeq (sIf (bTest (eBin dEq (dVar 1) (dOf (eC (.str "first")))))
    (sRet (eBin (dCmp rGt zGt) (dOf (eCall m_told (aCons (eVar 0) (aCons (eBin dIx (dVar 2) (dOf (eC (.int 0)))) (aCons (eBin dIx (dVar 3) (dOf (eC (.int 0)))) aNil))))) (dOf (eC (.int 0)))))
    sNil')
    (sSeq (sEnd [0, 1, 2, 3] (sIf (bTest (eBin dEq (dVar 1) (dOf (eC (.str "last")))))
    (sRet (eBin (dCmp rGt zGt) (dOf (eCall m_told (aCons (eVar 0) (aCons (eBin dIx (dVar 2) (dOf (eUn dNeg (dOf (eC (.int 1)))))) (aCons (eBin dIx (dVar 3) (dOf (eUn dNeg (dOf (eC (.int 1)))))) aNil))))) (dOf (eC (.int 0)))))
    sNil'))
    (sRet (eC (.bool false))))))
def m_comes_later : Fn := runB 4 b_comes_later
-- l_nested_2: head 1:inner 2:kind 4:found 6:one 7:at of 8
def l_nested_2 : Fs :=
    (sSet 7 (eBin dSub (dVar 7) (dOf (eC (.int 1)))))
-- l_nested_1: head 1:inner 2:kind 4:found of 8
def l_nested_1 : Fs :=
    (sSeq (sEnd [5] (sSet 6 (eFrz (eCall m_ordered (aCons (eVar 1) (aCons (eVar 5) aNil))))))
    (sSeq (sSet 7 (eApp gLen (sCons (dVar 4) sNil)))
    (sSeq (loopW (bAnd (bTest (eBin (dCmp rGt zGt) (dVar 7) (dOf (eC (.int 0))))) (bTru (dOf (eCall m_comes_later (aCons (eVar 1) (aCons (eVar 2) (aCons (eBin dIx (dVar 4) (dOf (eBin dSub (dVar 7) (dOf (eC (.int 1)))))) (aCons (eVar 6) aNil)))))))) l_nested_2 100000)
    (sEnd [6, 7] (sIns 4 (dVar 7) (eVar 6))))))
def b_nested : Fs :=
    (sSeq (sSet 4 (eLst aNil))
    (sSeq (sEnd [1, 2] (sForK [0, 3] (iVal (eCall m_groups (aCons (eVar 0) (aCons (eVar 3) aNil)))) (gOne 5)
    l_nested_1))
    (sRet (eApp gTup (sCons (dVar 4) sNil)))))
def m_nested : Fn := runB 8 b_nested
-- l__law_groups_1: head 0:_law_row 1:_law_inner 2:_law_things 3:_law_got of 6
def l__law_groups_1 : Fs :=
    (sIf (bAnd (bTru (dVar 3)) (bTest (eBin dEq (dOf (eCall m__law_word (aCons (eVar 0) (aCons (eBin dIx (dOf (eBin dIx (dVar 3) (dOf (eUn dNeg (dOf (eC (.int 1))))))) (dOf (eC (.int 0)))) (aCons (eBin dIx (dVar 2) (dVar 4)) aNil))))) (dOf (eC (.int 0))))))
    (sEnd [4] (sSetIx 3 (dOf (eUn dNeg (dOf (eC (.int 1))))) (eBin dAdd (dOf (eBin dIx (dVar 3) (dOf (eUn dNeg (dOf (eC (.int 1))))))) (dOf (eTup (aCons (eBin dIx (dVar 2) (dVar 4)) aNil))))))
    (sEnd [4] (sApp 3 (eTup (aCons (eBin dIx (dVar 2) (dVar 4)) aNil)))))
-- l_merged_all_1: head 0:row 2:left 3:found of 7
def l_merged_all_1 : Fs :=
    (sSeq (sSet 5 (eC .none))
    (sSeq (sEnd [6, 4] (sForEI 2 6 4 (bAnd (bTru (dVar 4)) (bOr (bTest (eBin dIsN (dVar 5) (dOf (eC .none)))) (bTest (eBin (dCmp rLt zLt) (dOf (eCall m_told (aCons (eVar 0) (aCons (eBin dIx (dVar 4) (dOf (eC (.int 0)))) (aCons (eBin dIx (dOf (eBin dIx (dVar 2) (dVar 5))) (dOf (eC (.int 0)))) aNil))))) (dOf (eC (.int 0))))))) 5 (eVar 6)))
    (sSeq (sSet 3 (eFrz (eBin dAdd (dVar 3) (dOf (eSl dSl (dOf (eBin dIx (dVar 2) (dVar 5))) oNone (oSome (dOf (eC (.int 1)))))))))
    (sEnd [5] (sSetIx 2 (dVar 5) (eSl dSl (dOf (eBin dIx (dVar 2) (dVar 5))) (oSome (dOf (eC (.int 1)))) oNone))))))
def b_beats : Fs :=
    (sSeq (sEnd [0, 1, 2] (sSet 3 (eFrz (eComp (iOf (dVar 0)) (gOne 4) [4] bYes (eCall m_told (aCons (eVar 4) (aCons (eVar 1) (aCons (eVar 2) aNil))))))))
    (sRet (eAnd (eBin dIn (dOf (eUn dNeg (dOf (eC (.int 1))))) (dVar 3)) (eBin dNotIn (dOf (eC (.int 1))) (dVar 3)))))
def m_beats : Fn := runB 5 b_beats
-- l_front_1: head 0:rows 1:things 2:found of 6
def l_front_1 : Fs :=
    (sEnd [3, 4] (sIf (bNot (bTru (dOf (eApp gAnyX (sCons (dOf (eComp (iOf (dVar 1)) (gOne 5) [5] bYes (eCall m_beats (aCons (eVar 0) (aCons (eVar 5) (aCons (eVar 4) aNil)))))) sNil)))))
    (sEnd [3, 4] (sApp 2 (eVar 3)))
    sNil'))
def b_front : Fs :=
    (sSeq (sSet 2 (eLst aNil))
    (sSeq (sEnd [0, 1] (sFor (iEnumF (eVar 1)) (gMany [3, 4])
    l_front_1))
    (sRet (eApp gTup (sCons (dVar 2) sNil)))))
def m_front : Fn := runB 6 b_front
-- l_layers_1: head 0:rows 1:things 2:left 3:found of 7
def l_layers_1 : Fs :=
    (sSeq (sSet 4 (eFrz (eCall m_front (aCons (eVar 0) (aCons (eApp gTup (sCons (dOf (eComp (iOf (dVar 2)) (gOne 5) [5] bYes (eBin dIx (dVar 1) (dVar 5)))) sNil)) aNil)))))
    (sSeq (sEnd [4] (sSet 6 (eApp gTup (sCons (dOf (eComp (iOf (dVar 4)) (gOne 5) [5] bYes (eBin dIx (dVar 2) (dVar 5)))) sNil))))
    (sSeq (sSet 3 (eFrz (eBin dAdd (dVar 3) (dOf (eTup (aCons (eVar 6) aNil))))))
    (sEnd [6] (sSet 2 (eFrz (eComp (iOf (dVar 2)) (gOne 5) [5] (bTest (eBin dNotIn (dVar 5) (dVar 6))) (eVar 5))))))))
-- l_agreed_1: head 0:rows 1:things 2:found of 7
def l_agreed_1 : Fs :=
    (sEnd [3, 4] (sExt 2 (eComp (iEnumV (dVar 1)) (gMany [5, 6]) [5, 6] (bTru (dOf (eCall m_beats (aCons (eVar 0) (aCons (eVar 4) (aCons (eVar 6) aNil)))))) (eTup (aCons (eVar 3) (aCons (eVar 5) aNil))))))
-- l__law_rows_v2_1: head 0:_law_script 1:_law_town 2:_law_rows_here of 6
def l__law_rows_v2_1 : Fs :=
    (sSeq (sEnd [3] (sSet 4 (eFrz (eCall m__law_keys (aCons (eVar 0) (aCons (eVar 1) (aCons (eC (.int 2)) aNil)))))))
    (sSeq (sIf (bAnd (bTru (dVar 2)) (bTest (eBin dEq (dOf (eCall m__law_draw (aCons (eVar 0) (aCons (eVar 1) (aCons (eC (.int 4)) aNil))))) (dOf (eC (.int 0))))))
    (sSet 4 (eApp gTup (sCons (dOf (eComp (iOf (dOf (eBin dIx (dVar 2) (dOf (eC (.int 0)))))) (gOne 5) [5] bYes (eCall m__law_turn (aCons (eVar 5) aNil)))) sNil)))
    sNil')
    (sEnd [4] (sSet 2 (eFrz (eBin dAdd (dVar 2) (dOf (eTup (aCons (eVar 4) aNil)))))))))
def b__law_draw_v2 : Fs :=
    (sSeq (sTown 1)
    (sSeq (sEnd [1] (sSet 3 (eTLen 1)))
    (sSeq (sSet 4 (eC (.int 0)))
    (sSeq (sEnd [0] (sIf (bTru (dVar 0))
    (sEnd [0] (sSet 4 (eBin dIx (dVar 0) (dOf (eBin dMod (dVar 3) (dOf (eApp gLen (sCons (dVar 0) sNil))))))))
    sNil'))
    (sSeq (sEnd [3, 4] (sSet 5 (eBin dMod (dOf (eBin dAdd (dVar 4) (dOf (eBin dMul (dOf (eC (.int 104729))) (dVar 3))))) (dOf (eC (.int 4294967291))))))
    (sSeq (sSet 5 (eBin dMod (dOf (eBin dMul (dOf (eBin dMod (dOf (eBin dMul (dVar 5) (dVar 5))) (dOf (eC (.int 4294967279))))) (dOf (eC (.int 48271))))) (dOf (eC (.int 4294967291)))))
    (sSeq (sSet 6 (eBin dMod (dOf (eBin dMul (dOf (eBin dMod (dOf (eBin dMul (dVar 5) (dVar 5))) (dOf (eC (.int 4294967279))))) (dOf (eC (.int 69621))))) (dOf (eC (.int 4294967291)))))
    (sRet (eBin dMod (dOf (eBin dAdd (dOf (eBin dMul (dOf (eBin dDiv (dVar 5) (dOf (eC (.int 64))))) (dOf (eC (.int 67108864))))) (dOf (eBin dDiv (dVar 6) (dOf (eC (.int 64))))))) (dVar 2))))))))))
def m__law_draw_v2 : Fn := runB 7 b__law_draw_v2
def b__law_pick_v2 : Fs :=
    (sRet (eBin dIx (dVar 2) (dOf (eCall m__law_draw_v2 (aCons (eVar 0) (aCons (eVar 1) (aCons (eApp gLen (sCons (dVar 2) sNil)) aNil)))))))
def m__law_pick_v2 : Fn := runB 3 b__law_pick_v2
-- l__law_plain_v2_1: head 0:_law_script 1:_law_town 2:_law_field 3:_law_word 6:_law_left 7:_law_got of 9
def l__law_plain_v2_1 : Fs :=
    (sEnd [8] (sSetX 7 (xCat (eVar 7) (xTup1 (xPop 6 (dOf (eCall m__law_draw_v2 (aCons (eVar 0) (aCons (eVar 1) (aCons (eApp gLen (sCons (dVar 6) sNil)) aNil))))))))))
def b__law_plain_v2 : Fs :=
    (sSeq (sPar 2 3 (aCons (eCall m__law_draw_v2 (aCons (eVar 0) (aCons (eVar 1) (aCons (eC (.int 3)) aNil)))) (aCons (eCall m__law_draw_v2 (aCons (eVar 0) (aCons (eVar 1) (aCons (eC (.int 6)) aNil)))) aNil)))
    (sSeq (sIf (bTest (eBin (dCmp rLt zLt) (dVar 3) (dOf (eC (.int 2)))))
    (sRet (eTup (aCons (eC (.str "up")) (aCons (eVar 2) aNil))))
    sNil')
    (sSeq (sIf (bTest (eBin dEq (dVar 3) (dOf (eC (.int 2)))))
    (sRet (eTup (aCons (eCall m__law_pick_v2 (aCons (eVar 0) (aCons (eVar 1) (aCons (eLst (aCons (eC (.str "part")) (aCons (eC (.str "rest")) aNil))) aNil)))) (aCons (eVar 2) (aCons (eBin dAdd (dOf (eC (.int 2))) (dOf (eCall m__law_draw_v2 (aCons (eVar 0) (aCons (eVar 1) (aCons (eC (.int 2)) aNil)))))) aNil)))))
    sNil')
    (sSeq (sIf (bTest (eBin dEq (dVar 3) (dOf (eC (.int 5)))))
    (sSeq (sEnd [2, 3] (sAsg (gMany [4, 5]) (eCall m__law_pick_v2 (aCons (eVar 0) (aCons (eVar 1) (aCons (eLst (aCons (eTup (aCons (eC (.int 0)) (aCons (eC (.int 1)) aNil))) (aCons (eTup (aCons (eC (.int 0)) (aCons (eC (.int 2)) aNil))) (aCons (eTup (aCons (eC (.int 1)) (aCons (eC (.int 2)) aNil))) aNil)))) aNil))))))
    (sRet (eTup (aCons (eCall m__law_pick_v2 (aCons (eVar 0) (aCons (eVar 1) (aCons (eLst (aCons (eC (.str "sum")) (aCons (eC (.str "gap")) (aCons (eC (.str "most")) aNil)))) aNil)))) (aCons (eVar 4) (aCons (eVar 5) aNil))))))
    sNil')
    (sSeq (sParO 6 7 (eLst (aCons (eC (.int 0)) (aCons (eC (.int 1)) (aCons (eC (.int 2)) (aCons (eC (.int 3)) (aCons (eC (.int 4)) (aCons (eC (.int 5)) aNil))))))) (eTup aNil))
    (sSeq (sEnd [0, 1, 6] (sFor (iRng1 (dOf (eBin dAdd (dOf (eC (.int 1))) (dOf (eCall m__law_draw_v2 (aCons (eVar 0) (aCons (eVar 1) (aCons (eC (.int 4)) aNil)))))))) (gOne 8)
    l__law_plain_v2_1))
    (sRet (eIf (bTest (eBin dEq (dVar 3) (dOf (eC (.int 3))))) (eTup (aCons (eC (.str "table")) (aCons (eVar 2) (aCons (eVar 7) aNil)))) (eTup (aCons (eC (.str "among")) (aCons (eVar 2) (aCons (eApp gTup (sCons (dOf (eApp gSorted (sCons (dVar 7) sNil))) sNil)) aNil))))))))))))
def m__law_plain_v2 : Fn := runB 9 b__law_plain_v2
-- l__law_row_v2_1: head 0:_law_script 1:_law_town 3:_law_got of 6
def l__law_row_v2_1 : Fs :=
    (sSeq (sEnd [4] (sSet 5 (eFrz (eCall m__law_plain_v2 (aCons (eVar 0) (aCons (eVar 1) aNil))))))
    (sEnd [5] (sSet 3 (eFrz (eBin dAdd (dVar 3) (dOf (eTup (aCons (eIf (bTest (eBin dEq (dOf (eCall m__law_draw_v2 (aCons (eVar 0) (aCons (eVar 1) (aCons (eC (.int 3)) aNil))))) (dOf (eC (.int 0))))) (eTup (aCons (eC (.str "down")) (aCons (eVar 5) aNil))) (eVar 5)) aNil))))))))
def b__law_thing_v2 : Fs :=
    (sRet (eApp gTup (sCons (dOf (eComp (iRng1 (dOf (eC (.int 3)))) (gOne 2) [2] bYes (eCall m__law_draw_v2 (aCons (eVar 0) (aCons (eVar 1) (aCons (eC (.int 6)) aNil)))))) sNil)))
def m__law_thing_v2 : Fn := runB 3 b__law_thing_v2
-- l__law_choices_v2_2: head 0:_law_many 1:_law_some 2:_law_got 3:_law_first of 6
def l__law_choices_v2_2 (m : Fn) : Fs :=
    (sEnd [4] (sApp 2 (eBin dAdd (dOf (eTup (aCons (eVar 3) aNil))) (dOf (eApp gTup (sCons (dOf (eComp (iOf (dVar 4)) (gOne 5) [5] bYes (eBin dAdd (dOf (eBin dAdd (dVar 5) (dVar 3))) (dOf (eC (.int 1)))))) sNil))))))
-- l__law_choices_v2_1: head 0:_law_many 1:_law_some 2:_law_got of 6
def l__law_choices_v2_1 (m : Fn) : Fs :=
    (sEnd [3] (sFor (iVal (eCall m (aCons (eBin dSub (dOf (eBin dSub (dVar 0) (dVar 3))) (dOf (eC (.int 1)))) (aCons (eBin dSub (dVar 1) (dOf (eC (.int 1)))) aNil)))) (gOne 4)
    (l__law_choices_v2_2 m)))
-- l__law_few_hold_1: head 0:_law_row_here 2:_law_every of 7
def l__law_few_hold_1 : Fs :=
    (sEnd [4] (sIf (bTest (eBin dNe (dOf (eCall m_alike (aCons (eApp gTup (sCons (dOf (eComp (iOf (dVar 4)) (gOne 5) [5] bYes (eBin dIx (dVar 0) (dVar 5)))) sNil)) (aCons (eVar 0) aNil)))) (dOf (eBin dIn (dVar 4) (dVar 2)))))
    (sRet (eC (.bool false)))
    sNil'))
-- l__law_few_hold_3: head 0:_law_row_here 4:_law_some of 7
def l__law_few_hold_3 : Fs :=
    (sEnd [6] (sIf (bTru (dOf (eCall m_alike (aCons (eApp gTup (sCons (dOf (eComp (iOf (dOf (eBin dAdd (dOf (eSl dSl (dVar 4) oNone (oSome (dVar 6)))) (dOf (eSl dSl (dVar 4) (oSome (dOf (eBin dAdd (dVar 6) (dOf (eC (.int 1)))))) oNone))))) (gOne 5) [5] bYes (eBin dIx (dVar 0) (dVar 5)))) sNil)) (aCons (eVar 0) aNil)))))
    (sRet (eC (.bool false)))
    sNil'))
-- l__law_few_hold_2: head 0:_law_row_here of 7
def l__law_few_hold_2 : Fs :=
    (sSeq (sIf (bOr (bTest (eBin dNe (dOf (eApp gList (sCons (dVar 4) sNil))) (dOf (eApp gSortDict (sCons (dOf (eComp (iOf (dVar 4)) (gOne 5) [5] bYes (eTup (aCons (eVar 5) (aCons (eC (.int 0)) aNil))))) sNil))))) (bNot (bTru (dOf (eApp gAll (sCons (dOf (eComp (iOf (dVar 4)) (gOne 5) [5] bYes (eChain (dCmp rLe zLe) (dCmp rLt zLt) (dOf (eC (.int 0))) (dVar 5) (dOf (eApp gLen (sCons (dVar 0) sNil)))))) sNil))))))
    (sRet (eC (.bool false)))
    sNil')
    (sSeq (sIf (bNot (bTru (dOf (eCall m_alike (aCons (eApp gTup (sCons (dOf (eComp (iOf (dVar 4)) (gOne 5) [5] bYes (eBin dIx (dVar 0) (dVar 5)))) sNil)) (aCons (eVar 0) aNil))))))
    (sRet (eC (.bool false)))
    sNil')
    (sEnd [4] (sFor (iRng1 (dOf (eApp gLen (sCons (dVar 4) sNil)))) (gOne 6)
    l__law_few_hold_3))))
-- l__law_things_1: head 0:_law_script 1:_law_town 3:_law_got of 5
def l__law_things_1 : Fs :=
    (sEnd [4] (sSet 3 (eFrz (eBin dAdd (dVar 3) (dOf (eTup (aCons (eCall m__law_pick_v2 (aCons (eVar 0) (aCons (eVar 1) (aCons (eBin dAdd (dOf (eTup (aCons (eCall m__law_thing_v2 (aCons (eVar 0) (aCons (eVar 1) aNil))) aNil))) (dOf (eSl dSl (dVar 3) oNone (oSome (dOf (eC (.int 1))))))) aNil)))) aNil)))))))
-- l__law_order_holds_1: head 0:_law_row_here 1:_law_things_here of 7
def l__law_order_holds_1 : Fs :=
    (sSeq (sSet 5 (eFrz (eCall m_told (aCons (eVar 0) (aCons (eBin dIx (dVar 1) (dVar 3)) (aCons (eBin dIx (dVar 1) (dVar 4)) aNil))))))
    (sEnd [3, 4, 5] (sIf (bOr (bTest (eBin (dCmp rGt zGt) (dVar 5) (dOf (eC (.int 0))))) (bAnd (bTest (eBin dEq (dVar 5) (dOf (eC (.int 0))))) (bTest (eBin (dCmp rGt zGt) (dVar 3) (dVar 4)))))
    (sRet (eC (.bool false)))
    sNil')))
-- l__law_runs_hold_1: head 0:_law_row_here 1:_law_things_here 2:_law_some 3:_law_whole of 6
def l__law_runs_hold_1 : Fs :=
    (sSeq (sEnd [4] (sIf (bOr (bTest (eBin dEq (dVar 5) (dOf (eTup aNil)))) (bOr (bNot (bTru (dOf (eCall m_is_ordered (aCons (eVar 0) (aCons (eVar 5) aNil)))))) (bAnd (bTru (dVar 4)) (bTest (eBin dNe (dOf (eCall m_told (aCons (eVar 0) (aCons (eBin dIx (dOf (eBin dIx (dVar 2) (dOf (eBin dSub (dVar 4) (dOf (eC (.int 1))))))) (dOf (eUn dNeg (dOf (eC (.int 1)))))) (aCons (eBin dIx (dVar 5) (dOf (eC (.int 0)))) aNil))))) (dOf (eC (.int 1))))))))
    (sRet (eC (.bool false)))
    sNil'))
    (sEnd [5] (sSet 3 (eFrz (eBin dAdd (dVar 3) (dVar 5))))))
-- l__law_turns_hold_1: head 0:_law_row_here 1:_law_things_here 2:_law_some 3:_law_many 4:_law_due of 7
def l__law_turns_hold_1 : Fs :=
    (sPar 3 4 (aCons (eBin dDiv (dOf (eBin dAdd (dVar 3) (dOf (eC (.int 1))))) (dOf (eC (.int 2)))) (aCons (eBin dAdd (dVar 4) (dOf (eC (.int 1)))) aNil)))
-- l__law_turns_hold_2: head 0:_law_row_here 1:_law_things_here 5:_law_before of 7
def l__law_turns_hold_2 : Fs :=
    (sSeq (sIf (bOr (bTest (eBin dNe (dOf (eApp gSorted (sCons (dVar 6) sNil))) (dOf (eApp gSorted (sCons (dVar 1) sNil))))) (bTest (eBin (dCmp rGe zGe) (dOf (eApp gLen (sCons (dOf (eCall m_runs (aCons (eVar 0) (aCons (eVar 6) aNil)))) sNil))) (dOf (eApp gLen (sCons (dOf (eCall m_runs (aCons (eVar 0) (aCons (eVar 5) aNil)))) sNil))))))
    (sRet (eC (.bool false)))
    sNil')
    (sSeq (sEnd [5] (sIf (bOr (bTest (eBin (dCmp rGt zGt) (dOf (eCall m_crossings (aCons (eVar 0) (aCons (eVar 6) aNil)))) (dOf (eCall m_crossings (aCons (eVar 0) (aCons (eVar 5) aNil)))))) (bTest (eBin dNe (dOf (eCall m_ordered (aCons (eVar 0) (aCons (eVar 6) aNil)))) (dOf (eCall m_ordered (aCons (eVar 0) (aCons (eVar 1) aNil)))))))
    (sRet (eC (.bool false)))
    sNil'))
    (sEnd [6] (sSet 5 (eVar 6)))))
-- l__law_place_holds_1: head 0:_law_row_here 1:_law_things_here 2:_law_thing_here of 8
def l__law_place_holds_1 : Fs :=
    (sEnd [7] (sIf (bNot (bTru (dOf (eCall m_is_ordered (aCons (eVar 0) (aCons (eBin dAdd (dOf (eBin dAdd (dOf (eSl dSl (dVar 1) oNone (oSome (dVar 7)))) (dOf (eTup (aCons (eVar 2) aNil))))) (dOf (eSl dSl (dVar 1) (oSome (dVar 7)) oNone))) aNil))))))
    (sRet (eC (.bool false)))
    sNil'))
-- l__law_groups_hold_1: head 0:_law_row_here 1:_law_things_here 2:_law_some 3:_law_whole of 10
def l__law_groups_hold_1 : Fs :=
    (sSeq (sEnd [4] (sIf (bOr (bTru (dOf (eApp gAnyX (sCons (dOf (eComp (iOf (dVar 5)) (gOne 6) [6] bYes (eCall m_told (aCons (eVar 0) (aCons (eBin dIx (dVar 5) (dOf (eC (.int 0)))) (aCons (eVar 6) aNil)))))) sNil)))) (bAnd (bTru (dVar 4)) (bTest (eBin dNe (dOf (eCall m_told (aCons (eVar 0) (aCons (eBin dIx (dOf (eBin dIx (dVar 2) (dOf (eBin dSub (dVar 4) (dOf (eC (.int 1))))))) (dOf (eC (.int 0)))) (aCons (eBin dIx (dVar 5) (dOf (eC (.int 0)))) aNil))))) (dOf (eUn dNeg (dOf (eC (.int 1)))))))))
    (sRet (eC (.bool false)))
    sNil'))
    (sEnd [5] (sSet 3 (eFrz (eBin dAdd (dVar 3) (dVar 5))))))
-- l__law_groups_hold_3: head 0:_law_row_here 1:_law_things_here 2:_law_some 3:_law_whole 7:_law_many 8:_law_top 9:_law_size of 10
def l__law_groups_hold_3 : Fs :=
    (sEnd [5] (sSet 9 (eFrz (eBin dAdd (dVar 9) (dOf (eIf (bTest (eBin (dCmp rLt zLt) (dVar 9) (dVar 7))) (eApp gLen (sCons (dVar 5) sNil)) (eC (.int 0))))))))
-- l__law_groups_hold_2: head 0:_law_row_here 1:_law_things_here 2:_law_some 3:_law_whole of 10
def l__law_groups_hold_2 : Fs :=
    (sSeq (sSet 8 (eFrz (eCall m_best (aCons (eVar 0) (aCons (eVar 1) (aCons (eVar 7) aNil))))))
    (sSeq (sSet 9 (eC (.int 0)))
    (sSeq (sFor (iVal (eVar 2)) (gOne 5)
    l__law_groups_hold_3)
    (sEnd [7, 8, 9] (sIf (bOr (bTest (eBin dNe (dVar 8) (dOf (eSl dSl (dVar 3) oNone (oSome (dVar 9)))))) (bTest (eBin (dCmp rLt zLt) (dOf (eApp gLen (sCons (dVar 8) sNil))) (dVar 7))))
    (sRet (eC (.bool false)))
    sNil')))))
-- l__law_mixed_1: head 0:_law_script 1:_law_town 3:_law_left 4:_law_got of 5
def l__law_mixed_1 : Fs :=
    (sAppX 4 (xPop 3 (dOf (eCall m__law_draw_v2 (aCons (eVar 0) (aCons (eVar 1) (aCons (eApp gLen (sCons (dVar 3) sNil)) aNil)))))))
-- l__law_ranks_hold_2: head 0:_law_table 1:_law_some 2:_law_one 3:_law_at of 6
def l__law_ranks_hold_2 : Fs :=
    (sEnd [4, 5] (sIf (bTest (eBin dNe (dOf (eBin dIx (dOf (eBin dIx (dVar 0) (dVar 3))) (dVar 4))) (dOf (eBin dSub (dOf (eApp gInt (sCons (dOf (eBin (dCmp rGt zGt) (dVar 2) (dVar 5))) sNil))) (dOf (eApp gInt (sCons (dOf (eBin (dCmp rLt zLt) (dVar 2) (dVar 5))) sNil)))))))
    (sRet (eC (.bool false)))
    sNil'))
-- l__law_ranks_hold_1: head 0:_law_table 1:_law_some of 6
def l__law_ranks_hold_1 : Fs :=
    (sEnd [2, 3] (sFor (iEnumF (eVar 1)) (gMany [4, 5])
    l__law_ranks_hold_2))
-- l__law_pairs_v2_1: head 0:_law_script 1:_law_town 2:_law_many 3:_law_got of 8
def l__law_pairs_v2_1 : Fs :=
    (sSeq (sEnd [4] (sPar 5 6 (aCons (eCall m__law_draw_v2 (aCons (eVar 0) (aCons (eVar 1) (aCons (eVar 2) aNil)))) (aCons (eCall m__law_draw_v2 (aCons (eVar 0) (aCons (eVar 1) (aCons (eVar 2) aNil)))) aNil))))
    (sEnd [5, 6] (sIf (bTest (eBin dNe (dVar 5) (dVar 6)))
    (sSeq (sSet 7 (eTup (aCons (eApp gMin2 (sCons (dVar 5) (sCons (dVar 6) sNil))) (aCons (eApp gMax2 (sCons (dVar 5) (sCons (dVar 6) sNil))) aNil))))
    (sEnd [5, 6, 7] (sPut 3 (dOf (eIf (bTru (dOf (eCall m__law_draw_v2 (aCons (eVar 0) (aCons (eVar 1) (aCons (eC (.int 8)) aNil)))))) (eVar 7) (eTup (aCons (eApp gMax2 (sCons (dVar 5) (sCons (dVar 6) sNil))) (aCons (eApp gMin2 (sCons (dVar 5) (sCons (dVar 6) sNil))) aNil))))) (eC (.int 0)))))
    sNil')))
def b__law_pairs_v2 : Fs :=
    (sSeq (sSet 3 eDicT)
    (sSeq (sEnd [0, 1, 2] (sFor (iRng1 (dOf (eCall m__law_draw_v2 (aCons (eVar 0) (aCons (eVar 1) (aCons (eC (.int 8)) aNil)))))) (gOne 4)
    l__law_pairs_v2_1))
    (sRet (eApp gTup (sCons (dOf (eApp gSortedD (sCons (dVar 3) sNil))) sNil)))))
def m__law_pairs_v2 : Fn := runB 8 b__law_pairs_v2
-- l__law_closed_holds_2: head 0:_law_pairs_here 1:_law_every 3:_law_one 4:_law_other of 8
def l__law_closed_holds_2 : Fs :=
    (sEnd [6, 7] (sIf (bAnd (bTest (eBin dEq (dVar 6) (dVar 4))) (bTest (eBin dNotIn (dOf (eTup (aCons (eVar 3) (aCons (eVar 7) aNil)))) (dVar 1))))
    (sRet (eC (.bool false)))
    sNil'))
-- l__law_closed_holds_1: head 0:_law_pairs_here 1:_law_every of 8
def l__law_closed_holds_1 : Fs :=
    (sSeq (sSet 5 (eFrz (eComp (iOf (dVar 1)) (gMany [6, 7]) [6, 7] (bTest (eBin dEq (dVar 6) (dVar 3))) (eVar 7))))
    (sSeq (sEnd [5] (sIf (bAnd (bTest (eBin dNotIn (dOf (eTup (aCons (eVar 3) (aCons (eVar 4) aNil)))) (dVar 0))) (bNot (bTru (dOf (eApp gAnyX (sCons (dOf (eComp (iOf (dVar 5)) (gOne 7) [7] bYes (eBin dIn (dOf (eTup (aCons (eVar 7) (aCons (eVar 4) aNil)))) (dVar 0)))) sNil))))))
    (sRet (eC (.bool false)))
    sNil'))
    (sEnd [3, 4] (sFor (iVal (eVar 1)) (gMany [6, 7])
    l__law_closed_holds_2))))
def b__law_closed_holds : Fs :=
    (sSeq (sSet 1 (eFrz (eCall m_closed (aCons (eVar 0) aNil))))
    (sSeq (sIf (bOr (bTest (eBin dNe (dOf (eApp gList (sCons (dVar 1) sNil))) (dOf (eAlt (eApp gSortDict (sCons (dOf (eComp (iOf (dVar 1)) (gOne 2) [2] bYes (eTup (aCons (eVar 2) (aCons (eC (.int 0)) aNil))))) sNil)) (eApp gSortedD (sCons (dOf (eApp gDictT (sCons (dOf (eComp (iOf (dVar 1)) (gOne 2) [2] bYes (eTup (aCons (eVar 2) (aCons (eC (.int 0)) aNil))))) sNil))) sNil)))))) (bNot (bTru (dOf (eApp gAll (sCons (dOf (eComp (iOf (dVar 0)) (gOne 2) [2] bYes (eBin dIn (dVar 2) (dVar 1)))) sNil))))))
    (sRet (eC (.bool false)))
    sNil')
    (sSeq (sEnd [0, 1] (sFor (iVal (eVar 1)) (gMany [3, 4])
    l__law_closed_holds_1))
    (sRet (eC (.bool true))))))
def m__law_closed_holds : Fn := runB 8 b__law_closed_holds
def b__law_ring_holds : Fs :=
    (sSeq (sPar 1 2 (aCons (eCall m_ring (aCons (eVar 0) aNil)) (aCons (eCall m_closed (aCons (eVar 0) aNil)) aNil)))
    (sSeq (sEnd [2] (sIf (bTest (eBin dNe (dOf (eBin dIsN (dVar 1) (dOf (eC .none)))) (dOf (eNotD (dOf (eComp (iOf (dVar 2)) (gMany [3, 4]) [3, 4] (bTest (eBin dEq (dVar 3) (dVar 4))) (eVar 3)))))))
    (sRet (eC (.bool false)))
    sNil'))
    (sSeq (sIf (bTest (eBin dIsN (dVar 1) (dOf (eC .none))))
    (sRet (eC (.bool true)))
    sNil')
    (sSeq (sIf (bOr (bTest (eBin dNe (dOf (eApp gMinT (sCons (dVar 1) sNil))) (dOf (eBin dIx (dVar 1) (dOf (eC (.int 0))))))) (bTest (eBin dNe (dOf (eApp gLenDict (sCons (dOf (eComp (iOf (dVar 1)) (gOne 3) [3] bYes (eTup (aCons (eVar 3) (aCons (eC (.int 0)) aNil))))) sNil))) (dOf (eApp gLen (sCons (dVar 1) sNil))))))
    (sRet (eC (.bool false)))
    sNil')
    (sRet (eApp gAll (sCons (dOf (eComp (iZipV (dVar 1) (dOf (eBin dAdd (dOf (eSl dSl (dVar 1) (oSome (dOf (eC (.int 1)))) oNone)) (dOf (eSl dSl (dVar 1) oNone (oSome (dOf (eC (.int 1))))))))) (gMany [3, 4]) [3, 4] bYes (eBin dIn (dOf (eTup (aCons (eVar 3) (aCons (eVar 4) aNil)))) (dVar 0)))) sNil)))))))
def m__law_ring_holds : Fn := runB 5 b__law_ring_holds
-- l__law_refused_1: head 0:_law_pairs_here 1:_law_many 2:_law_got of 4
def l__law_refused_1 : Fs :=
    (sTry (sIfX (bTest (eBin dEq (dVar 3) (dOf (eC (.str "bare")))))
    (sEndX [3] (sDropX (xCall x_bare (aCons (eVar 0) aNil))))
    (sIfX (bTest (eBin dEq (dVar 3) (dOf (eC (.str "orders")))))
    (sEndX [3] (sDropX (xCall x_orders (aCons (eVar 0) (aCons (eVar 1) aNil)))))
    (sIfX (bTest (eBin dEq (dVar 3) (dOf (eC (.str "least")))))
    (sEndX [3] (sDropX (xCall x_least_order (aCons (eVar 0) (aCons (eVar 1) aNil)))))
    (sEndX [3] (sDropX (xCall x_levels (aCons (eVar 0) (aCons (eVar 1) aNil))))))))
    (sEnd [3] (sSet 2 (eFrz (eBin dAdd (dVar 2) (dOf (eC (.int 1))))))))
def b__law_refused : Fs :=
    (sSeq (sSet 2 (eC (.int 0)))
    (sSeq (sEnd [0, 1] (sFor (iVal (eTup (aCons (eC (.str "bare")) (aCons (eC (.str "orders")) (aCons (eC (.str "least")) (aCons (eC (.str "levels")) aNil)))))) (gOne 3)
    l__law_refused_1))
    (sRet (eVar 2))))
def m__law_refused : Fn := runB 4 b__law_refused
-- l__law_orders_hold_1: head 0:_law_pairs_here 1:_law_many 2:_law_some 3:_law_few 4:_law_high of 14
def l__law_orders_hold_1 : Fs :=
    (sSeq (sSet 6 (eFrz (eComp (iOf (dVar 0)) (gMany [7, 8]) [7, 8] (bTest (eBin (dCmp rGt zGt) (dOf (eMt isTupD gIndexT (dVar 5) (sCons (dVar 7) sNil))) (dOf (eMt isTupD gIndexT (dVar 5) (sCons (dVar 8) sNil))))) (eVar 7))))
    (sEnd [5, 6] (sIf (bOr (bTest (eBin dNe (dOf (eApp gSorted (sCons (dVar 5) sNil))) (dOf (eListRg1 (dVar 1))))) (bTest (eBin dNe (dVar 6) (dOf (eLst aNil)))))
    (sRet (eC (.bool false)))
    sNil')))
-- l__law_orders_hold_2: head 0:_law_pairs_here 1:_law_many 2:_law_some 3:_law_few 4:_law_high of 14
def l__law_orders_hold_2 : Fs :=
    (sEnd [9, 10] (sIf (bTest (eBin dIn (dVar 9) (dOf (eCall m_closed (aCons (eBin dAdd (dOf (eSl dSl (dVar 3) oNone (oSome (dVar 10)))) (dOf (eSl dSl (dVar 3) (oSome (dOf (eBin dAdd (dVar 10) (dOf (eC (.int 1)))))) oNone))) aNil)))))
    (sRet (eC (.bool false)))
    sNil'))
-- l__law_orders_hold_3: head 0:_law_pairs_here 1:_law_many 2:_law_some 4:_law_high of 14
def l__law_orders_hold_3 : Fs :=
    (sEnd [11] (sIf (bTest (eBin dNe (dOf (eBin dIx (dVar 4) (dVar 11))) (dOf (eApp gMax1 (sCons (dOf (eBin dAdd (dOf (eLst (aCons (eC (.int 0)) aNil))) (dOf (eComp (iOf (dVar 0)) (gMany [7, 8]) [7, 8] (bTest (eBin dEq (dVar 8) (dVar 11))) (eBin dAdd (dOf (eBin dIx (dVar 4) (dVar 7))) (dOf (eC (.int 1)))))))) sNil)))))
    (sRet (eC (.bool false)))
    sNil'))
-- l__law_orders_hold_4: head 0:_law_pairs_here 1:_law_many 2:_law_some of 14
def l__law_orders_hold_4 : Fs :=
    (sEnd [5, 12] (sIf (bTest (eBin dNe (dOf (eApp gLenDictB (sCons (dOf (eComp (iOf (dVar 2)) (gOne 13) [13] bYes (eTup (aCons (eBin (dCmp rLt zLt) (dOf (eMt isTupD gIndexT (dVar 13) (sCons (dVar 5) sNil))) (dOf (eMt isTupD gIndexT (dVar 13) (sCons (dVar 12) sNil)))) (aCons (eC (.int 0)) aNil))))) sNil))) (dOf (eC (.int 2)))))
    (sRet (eC (.bool false)))
    sNil'))
def b__law_orders_hold : Fs :=
    (sSeq (sAsg (gMany [2, 3, 4]) (eTup (aCons (eCall m_orders (aCons (eVar 0) (aCons (eVar 1) aNil))) (aCons (eCall m_bare (aCons (eVar 0) aNil)) (aCons (eCall m_levels (aCons (eVar 0) (aCons (eVar 1) aNil))) aNil)))))
    (sSeq (sIf (bOr (bTest (eBin dNe (dOf (eApp gList (sCons (dVar 2) sNil))) (dOf (eAlt (eApp gSortDict (sCons (dOf (eComp (iOf (dVar 2)) (gOne 5) [5] bYes (eTup (aCons (eVar 5) (aCons (eC (.int 0)) aNil))))) sNil)) (eApp gSortedD (sCons (dOf (eApp gDictT (sCons (dOf (eComp (iOf (dVar 2)) (gOne 5) [5] bYes (eTup (aCons (eVar 5) (aCons (eC (.int 0)) aNil))))) sNil))) sNil)))))) (bTest (eBin dNe (dOf (eBin dIx (dVar 2) (dOf (eC (.int 0))))) (dOf (eCall m_least_order (aCons (eVar 0) (aCons (eVar 1) aNil)))))))
    (sRet (eC (.bool false)))
    sNil')
    (sSeq (sFor (iVal (eVar 2)) (gOne 5)
    l__law_orders_hold_1)
    (sSeq (sIf (bOr (bTest (eBin dNe (dOf (eCall m_closed (aCons (eVar 3) aNil))) (dOf (eCall m_closed (aCons (eVar 0) aNil))))) (bOr (bTest (eBin dNe (dOf (eCall m_orders (aCons (eVar 3) (aCons (eVar 1) aNil)))) (dVar 2))) (bNot (bTru (dOf (eApp gAll (sCons (dOf (eComp (iOf (dVar 3)) (gOne 9) [9] bYes (eBin dIn (dVar 9) (dOf (eCall m_closed (aCons (eVar 0) aNil)))))) sNil)))))))
    (sRet (eC (.bool false)))
    sNil')
    (sSeq (sEnd [3] (sFor (iEnumF (eVar 3)) (gMany [10, 9])
    l__law_orders_hold_2))
    (sSeq (sEnd [4] (sFor (iRng1 (dVar 1)) (gOne 11)
    l__law_orders_hold_3))
    (sSeq (sEnd [2] (sFor (iVal (eCall m_free_pairs (aCons (eVar 0) (aCons (eVar 1) aNil)))) (gMany [5, 12])
    l__law_orders_hold_4))
    (sRet (eBin dEq (dOf (eBin dAdd (dOf (eApp gLen (sCons (dOf (eCall m_free_pairs (aCons (eVar 0) (aCons (eVar 1) aNil)))) sNil))) (dOf (eApp gLen (sCons (dOf (eCall m_closed (aCons (eVar 0) aNil))) sNil))))) (dOf (eBin dDiv (dOf (eBin dMul (dVar 1) (dOf (eBin dSub (dVar 1) (dOf (eC (.int 1))))))) (dOf (eC (.int 2))))))))))))))
def m__law_orders_hold : Fn := runB 14 b__law_orders_hold
-- l__law_all_rows_1: head 0:_law_keys 1:_law_got of 4
def l__law_all_rows_1 : Fs :=
    (sEnd [2] (sExt 1 (eComp (iOf (dVar 0)) (gOne 3) [3] (bTest (eBin dNe (dVar 3) (dVar 2))) (eTup (aCons (eVar 2) (aCons (eVar 3) aNil))))))
-- l__law_unlike_holds_1: head 1:_law_few 2:_law_at of 5
def l__law_unlike_holds_1 : Fs :=
    (sEnd [3] (sIf (bNot (bTru (dOf (eApp gAnyX (sCons (dOf (eComp (iOf (dOf (eSl dSl (dVar 1) oNone (oSome (dVar 2))))) (gOne 4) [4] bYes (eCall m_alike (aCons (eVar 3) (aCons (eVar 4) aNil))))) sNil)))))
    (sSeq (sEnd [3] (sIf (bOr (bTest (eBin dEq (dVar 2) (dOf (eApp gLen (sCons (dVar 1) sNil))))) (bTest (eBin dNe (dOf (eBin dIx (dVar 1) (dVar 2))) (dVar 3))))
    (sRet (eC (.bool false)))
    sNil'))
    (sSet 2 (eFrz (eBin dAdd (dVar 2) (dOf (eC (.int 1)))))))
    sNil'))
-- l__law_layers_hold_2: head 0:_law_rows 1:_law_things_here 2:_law_some 3:_law_left 4:_law_at 5:_law_layer of 11
def l__law_layers_hold_2 : Fs :=
    (sSeq (sSet 9 (eFrz (eComp (iOf (dOf (eBin dIx (dVar 2) (dOf (eBin dSub (dVar 4) (dOf (eC (.int 1)))))))) (gOne 8) [8] bYes (eBin dIx (dVar 1) (dVar 8)))))
    (sEnd [7, 9] (sIf (bNot (bTru (dOf (eApp gAnyX (sCons (dOf (eComp (iOf (dVar 9)) (gOne 8) [8] bYes (eCall m_beats (aCons (eVar 0) (aCons (eVar 8) (aCons (eBin dIx (dVar 1) (dVar 7)) aNil)))))) sNil)))))
    (sRet (eC (.bool false)))
    sNil')))
-- l__law_layers_hold_1: head 0:_law_rows 1:_law_things_here 2:_law_some 3:_law_left of 11
def l__law_layers_hold_1 : Fs :=
    (sSeq (sSet 6 (eComp (iOf (dVar 3)) (gOne 7) [7] (bNot (bTru (dOf (eApp gAnyX (sCons (dOf (eComp (iOf (dVar 3)) (gOne 8) [8] bYes (eCall m_beats (aCons (eVar 0) (aCons (eBin dIx (dVar 1) (dVar 8)) (aCons (eBin dIx (dVar 1) (dVar 7)) aNil)))))) sNil))))) (eVar 7)))
    (sSeq (sEnd [6] (sIf (bOr (bTest (eBin dNe (dOf (eApp gList (sCons (dVar 5) sNil))) (dVar 6))) (bTest (eBin dEq (dVar 5) (dOf (eTup aNil)))))
    (sRet (eC (.bool false)))
    sNil'))
    (sSeq (sEnd [4] (sFor (iVal (eIf (bTru (dVar 4)) (eVar 5) (eTup aNil))) (gOne 7)
    l__law_layers_hold_2))
    (sEnd [5] (sSet 3 (eFrz (eComp (iOf (dVar 3)) (gOne 7) [7] (bTest (eBin dNotIn (dVar 7) (dVar 5))) (eVar 7))))))))
-- l__law_layers_hold_3: head 0:_law_rows 1:_law_things_here 6:_law_due of 11
def l__law_layers_hold_3 : Fs :=
    (sEnd [4, 8] (sExt 6 (eComp (iEnumV (dVar 1)) (gMany [7, 10]) [7, 10] (bTru (dOf (eCall m_beats (aCons (eVar 0) (aCons (eVar 8) (aCons (eVar 10) aNil)))))) (eTup (aCons (eVar 4) (aCons (eVar 7) aNil))))))
-- l__law_nest_holds_2: head 0:_law_row_here 1:_law_inner 2:_law_things_here 3:_law_base 5:_law_kind 6:_law_some 7:_law_places_of of 13
def l__law_nest_holds_2 : Fs :=
    (sSeq (sIf (bTest (eBin dNotIn (dVar 4) (dVar 3)))
    (sRet (eC (.bool false)))
    sNil')
    (sEnd [4] (sApp 7 (eMt isLstD gIndexLX (dVar 3) (sCons (dVar 4) sNil)))))
-- l__law_nest_holds_3: head 0:_law_row_here 1:_law_inner 2:_law_things_here 3:_law_base 5:_law_kind 6:_law_some 7:_law_places_of of 13
def l__law_nest_holds_3 : Fs :=
    (sSeq (sPar 9 10 (aCons (eBin dIx (dVar 6) (dOf (eBin dSub (dVar 8) (dOf (eC (.int 1)))))) (aCons (eBin dIx (dVar 6) (dVar 8)) aNil)))
    (sSeq (sSet 11 (eBin dSub (dOf (eApp gInt (sCons (dOf (eBin (dCmp rGt zGt) (dOf (eApp gLen (sCons (dVar 9) sNil))) (dOf (eApp gLen (sCons (dVar 10) sNil))))) sNil))) (dOf (eApp gInt (sCons (dOf (eBin (dCmp rLt zLt) (dOf (eApp gLen (sCons (dVar 9) sNil))) (dOf (eApp gLen (sCons (dVar 10) sNil))))) sNil)))))
    (sSeq (sEnd [9, 10] (sIf (bTest (eBin dNe (dVar 5) (dOf (eC (.str "many")))))
    (sSeq (sEnd [11] (sSet 12 (eIf (bTest (eBin dEq (dVar 5) (dOf (eC (.str "first"))))) (eC (.int 0)) (eUn dNeg (dOf (eC (.int 1)))))))
    (sEnd [9, 10, 12] (sSet 11 (eFrz (eCall m_told (aCons (eVar 1) (aCons (eBin dIx (dVar 9) (dVar 12)) (aCons (eBin dIx (dVar 10) (dVar 12)) aNil))))))))
    sNil'))
    (sEnd [8, 11] (sIf (bOr (bTest (eBin (dCmp rGt zGt) (dVar 11) (dOf (eC (.int 0))))) (bAnd (bTest (eBin dEq (dVar 11) (dOf (eC (.int 0))))) (bTest (eBin (dCmp rGt zGt) (dOf (eBin dIx (dVar 7) (dOf (eBin dSub (dVar 8) (dOf (eC (.int 1))))))) (dOf (eBin dIx (dVar 7) (dVar 8)))))))
    (sRet (eC (.bool false)))
    sNil')))))
-- l__law_nest_holds_1: head 0:_law_row_here 1:_law_inner 2:_law_things_here 3:_law_base of 13
def l__law_nest_holds_1 : Fs :=
    (sSeq (sParO 6 7 (eFrz (eCall m_nested (aCons (eVar 0) (aCons (eVar 1) (aCons (eVar 5) (aCons (eVar 2) aNil)))))) (eLst aNil))
    (sSeq (sFor (iVal (eVar 6)) (gOne 4)
    l__law_nest_holds_2)
    (sSeq (sIf (bTest (eBin dNe (dOf (eApp gSorted (sCons (dVar 7) sNil))) (dOf (eListRg1 (dOf (eApp gLen (sCons (dVar 3) sNil)))))))
    (sRet (eC (.bool false)))
    sNil')
    (sEnd [5, 6, 7] (sFor (iRng2 (dOf (eC (.int 1))) (dOf (eApp gLen (sCons (dVar 6) sNil)))) (gOne 8)
    l__law_nest_holds_3)))))
end L2.Lv.Sh
namespace L2.Lv
open PySem PySem.Spec PyProof.Rows
theorem eVar_ap (i : Nat) (ρ : List W) (n : Nat) : eVar i ρ n = match ρ[i]? with
  | some (.d x) => some (.d x, n)
  | some .town => some (.town, n)
  | _ => none := rfl
theorem dVar_ap (i : Nat) (ρ : List W) (n : Nat) : dVar i ρ n = (ρ[i]?.bind W.dat).map (·, n) := rfl
theorem eC_ap (x : PyData) (ρ : List W) (n : Nat) : eC x ρ n = some (.d x, n) := rfl
theorem dOf_ap (f : Fe) (ρ : List W) (n : Nat) : dOf f ρ n = (f ρ n).bind fun p => p.1.dat.map (·, p.2) := rfl
theorem eFrz_ap (f : Fe) (ρ : List W) (n : Nat) : eFrz f ρ n = (f ρ n).map fun p => (p.1.frz, p.2) := rfl
theorem eBin_ap (g : PyData → PyData → Option W) (fa fb : Fd) (ρ : List W) (n : Nat) : eBin g fa fb ρ n = (fa ρ n).bind fun p => (fb ρ p.2).bind fun q => (g p.1 q.1).map (·, q.2) := rfl
theorem bTest_ap (f : Fe) (ρ : List W) (n : Nat) : bTest f ρ n = (f ρ n).bind fun p => match p.1 with
  | .d (.bool c) => some (c, p.2)
  | _ => none := rfl
theorem bTru_ap (f : Fd) (ρ : List W) (n : Nat) : bTru f ρ n = (f ρ n).bind fun p => (dTru p.1).map (·, p.2) := rfl
theorem bAnd_ap (ta tb : Ft) (ρ : List W) (n : Nat) : bAnd ta tb ρ n = (ta ρ n).bind fun p => if p.1 then tb ρ p.2 else some (false, p.2) := rfl
theorem bOr_ap (ta tb : Ft) (ρ : List W) (n : Nat) : bOr ta tb ρ n = (ta ρ n).bind fun p => if p.1 then some (true, p.2) else tb ρ p.2 := rfl
theorem bNot_ap (ta : Ft) (ρ : List W) (n : Nat) : bNot ta ρ n = (ta ρ n).map fun p => (!p.1, p.2) := rfl
theorem eIf_ap (tc : Ft) (fa fb : Fe) (ρ : List W) (n : Nat) : eIf tc fa fb ρ n = (tc ρ n).bind fun p => if p.1 then fa ρ p.2 else fb ρ p.2 := rfl
theorem eB_ap (t : Ft) (ρ : List W) (n : Nat) : eB t ρ n = (t ρ n).map fun p => (.d (.bool p.1), p.2) := rfl
theorem eAnd_ap (fa fb : Fe) (ρ : List W) (n : Nat) : eAnd fa fb ρ n = (fa ρ n).bind fun p => match p.1 with
  | .d (.bool true) => fb ρ p.2
  | .d (.bool false) => some (.d (.bool false), p.2)
  | _ => none := rfl
theorem eOr_ap (fa fb : Fe) (ρ : List W) (n : Nat) : eOr fa fb ρ n = (fa ρ n).bind fun p => match p.1 with
  | .d (.bool false) => fb ρ p.2
  | .d (.bool true) => some (.d (.bool true), p.2)
  | _ => none := rfl
theorem aNil_ap (ρ : List W) (n : Nat) : aNil  ρ n = some ([], n) := rfl
theorem aCons_ap (f : Fe) (fs : Fa) (ρ : List W) (n : Nat) : aCons f fs ρ n = (f ρ n).bind fun p => p.1.arg.bind fun w => (fs ρ p.2).map fun q => (w :: q.1, q.2) := rfl
theorem sNil_ap (ρ : List W) (n : Nat) : sNil  ρ n = some ([], n) := rfl
theorem sCons_ap (f : Fd) (fs : Fds) (ρ : List W) (n : Nat) : sCons f fs ρ n = (f ρ n).bind fun p => (fs ρ p.2).map fun q => (p.1 :: q.1, q.2) := rfl
theorem eTup_ap (fs : Fa) (ρ : List W) (n : Nat) : eTup fs ρ n = (fs ρ n).bind fun p => (vals p.1).map fun xs => (.d (.tuple xs), p.2) := rfl
theorem eLst_ap (fs : Fa) (ρ : List W) (n : Nat) : eLst fs ρ n = (fs ρ n).bind fun p => (vals p.1).map fun xs => (.ol xs, p.2) := rfl
theorem eCall_ap (F : Fn) (fs : Fa) (ρ : List W) (n : Nat) : eCall F fs ρ n = (fs ρ n).bind fun p => F p.1 p.2 := rfl
theorem eApp_ap (g : List PyData → Option W) (ds : Fds) (ρ : List W) (n : Nat) : eApp g ds ρ n = (ds ρ n).bind fun p => (g p.1).map (·, p.2) := rfl
theorem oNone_ap (ρ : List W) (n : Nat) : oNone  ρ n = some (none, n) := rfl
theorem oSome_ap (d : Fd) (ρ : List W) (n : Nat) : oSome d ρ n = (d ρ n).bind fun p => match p.1 with
  | .int i => some (some i, p.2)
  | _ => none := rfl
theorem eSl_ap (g : PyData → Option Int → Option Int → Option W) (d : Fd) (o o' : Fo) (ρ : List W) (n : Nat) : eSl g d o o' ρ n = (d ρ n).bind fun p => (o ρ p.2).bind fun q => (o' ρ q.2).bind fun r => (g p.1 q.1 r.1).map (·, r.2) := rfl
theorem sNil'_ap (ρ : List W) (n : Nat) : sNil'  ρ n = some (.nx ρ n) := rfl
theorem sSeq_ap (g h : Fs) (ρ : List W) (n : Nat) : sSeq g h ρ n = (g ρ n).bind fun o => match o with
  | .nx ρ' n' => h ρ' n'
  | o => some o := rfl
theorem sBrk_ap (ρ : List W) (n : Nat) : sBrk  ρ n = some (.bk ρ n) := rfl
theorem sRet_ap (f : Fe) (ρ : List W) (n : Nat) : sRet f ρ n = (f ρ n).map fun p => .rt p.1 p.2 := rfl
theorem sRetN_ap (ρ : List W) (n : Nat) : sRetN  ρ n = some (.rt (.d .none) n) := rfl
theorem sRetO_ap (i : Nat) (ρ : List W) (n : Nat) : sRetO i ρ n = match ρ[i]? with
  | some (.ol xs) => some (.rt (.ol xs) n)
  | some (.od xs) => some (.rt (.od xs) n)
  | _ => none := rfl
theorem sDrop_ap (f : Fe) (ρ : List W) (n : Nat) : sDrop f ρ n = (f ρ n).map fun p => .nx ρ p.2 := rfl
theorem sIf_ap (c : Ft) (g h : Fs) (ρ : List W) (n : Nat) : sIf c g h ρ n = (c ρ n).bind fun p => if p.1 then g ρ p.2 else h ρ p.2 := rfl
theorem sSet_ap (i : Nat) (f : Fe) (ρ : List W) (n : Nat) : sSet i f ρ n = (f ρ n).map fun p => .nx (ρ.set i p.1) p.2 := rfl
theorem sApp_ap (i : Nat) (f : Fe) (ρ : List W) (n : Nat) : sApp i f ρ n = (f ρ n).bind fun p => p.1.frz.val.bind fun x => match ρ[i]? with
  | some (.ol xs) => if xs.length < big then some (.nx (ρ.set i (.ol (xs ++ [x]))) p.2) else none
  | _ => none := rfl
theorem sTown_ap (i : Nat) (ρ : List W) (n : Nat) : sTown i ρ n = match ρ[i]? with
  | some .town => if n < big then some (.nx ρ (n + 1)) else none
  | _ => none := rfl
theorem sExt_ap (i : Nat) (f : Fe) (ρ : List W) (n : Nat) : sExt i f ρ n = (f ρ n).bind fun p => match p.1, ρ[i]? with
  | .ol ys, some (.ol xs) => if xs.length + ys.length ≤ big then some (.nx (ρ.set i (.ol (xs ++ ys))) p.2) else none
  | _, _ => none := rfl
theorem sIns_ap (i : Nat) (d : Fd) (f : Fe) (ρ : List W) (n : Nat) : sIns i d f ρ n = (d ρ n).bind fun k => (f ρ k.2).bind fun p => p.1.frz.val.bind fun x => match k.1, ρ[i]? with
  | .int z, some (.ol xs) => if xs.length < big ∧ 0 ≤ z ∧ z ≤ xs.length then some (.nx (ρ.set i (.ol (xs.take z.toNat ++ x :: xs.drop z.toNat))) p.2) else none
  | _, _ => none := rfl
theorem sSetIx_ap (i : Nat) (d : Fd) (f : Fe) (ρ : List W) (n : Nat) : sSetIx i d f ρ n = (f ρ n).bind fun p => p.1.frz.val.bind fun x => (d ρ p.2).bind fun k => match k.1, ρ[i]? with
  | .int z, some (.ol xs) => (ixN xs.length z).map fun j => .nx (ρ.set i (.ol (xs.set j x))) k.2
  | _, _ => none := rfl
theorem sAsg_ap (g : Fg) (f : Fe) (ρ : List W) (n : Nat) : sAsg g f ρ n = (f ρ n).bind fun p => p.1.frz.val.bind fun x => (g x ρ).map fun ρ' => .nx ρ' p.2 := rfl
theorem sPar_ap (i j : Nat) (fs : Fa) (ρ : List W) (n : Nat) : sPar i j fs ρ n = (fs ρ n).bind fun p => match p.1 with
  | [w, w'] => some (.nx ((ρ.set i w).set j w') p.2)
  | _ => none := rfl
theorem iOf_ap (d : Fd) (ρ : List W) (n : Nat) : iOf d ρ n = (d ρ n).bind fun p => (iSeq p.1).map (·, p.2) := rfl
theorem iVal_ap (f : Fe) (ρ : List W) (n : Nat) : iVal f ρ n = (f ρ n).bind fun p => p.1.frz.val.bind fun x => (iSeq x).map (·, p.2) := rfl
theorem iRng1_ap (d : Fd) (ρ : List W) (n : Nat) : iRng1 d ρ n = (d ρ n).bind fun p => (rng1 p.1).map (·, p.2) := rfl
theorem iRng2_ap (da db : Fd) (ρ : List W) (n : Nat) : iRng2 da db ρ n = (da ρ n).bind fun p => (db ρ p.2).bind fun q => (rng2 p.1 q.1).map (·, q.2) := rfl
theorem sFor_ap (fi : Fi) (g : Fg) (body : Fs) (ρ : List W) (n : Nat) : sFor fi g body ρ n = (fi ρ n).bind fun p => loopF g body p.1 ρ p.2 := rfl
theorem eComp_ap (fi : Fi) (g : Fg) (own : List Nat) (tst : Ft) (elt : Fe) (ρ : List W) (n : Nat) : eComp fi g own tst elt ρ n = (fi ρ n).bind fun p => if p.1.length ≤ big then (loopC g own tst elt ρ p.1 p.2).map fun q => (.ol q.1, q.2) else none := rfl
theorem bYes_ap (ρ : List W) (n : Nat) : bYes  ρ n = some (true, n) := rfl
theorem frzAt_ap (i : Nat) (g : Fs) (ρ : List W) (n : Nat) : frzAt i g ρ n = match ρ[i]? with
  | some w => g (ρ.set i w.frz) n
  | none => none := rfl
theorem eUn_ap (g : PyData → Option W) (d : Fd) (ρ : List W) (n : Nat) : eUn g d ρ n = (d ρ n).bind fun p => (g p.1).map (·, p.2) := rfl
theorem eNotD_ap (d : Fd) (ρ : List W) (n : Nat) : eNotD d ρ n = (d ρ n).bind fun p => (dTru p.1).map fun c => (.d (.bool (!c)), p.2) := rfl
theorem eOrD_ap (fa fb : Fe) (ρ : List W) (n : Nat) : eOrD fa fb ρ n = (fa ρ n).bind fun p => p.1.val.bind fun x => (dTru x).bind fun c => if c then some (.d x, p.2) else fb ρ p.2 := rfl
theorem eChain_ap (g g' : PyData → PyData → Option W) (da db dc : Fd) (ρ : List W) (n : Nat) : eChain g g' da db dc ρ n = (da ρ n).bind fun p => (db ρ p.2).bind fun q => (g p.1 q.1).bind fun w => match w with
  | .d (.bool true) => (dc ρ q.2).bind fun r => (g' q.1 r.1).map (·, r.2)
  | .d (.bool false) => some (.d (.bool false), q.2)
  | _ => none := rfl
theorem eListRg1_ap (d : Fd) (ρ : List W) (n : Nat) : eListRg1 d ρ n = (d ρ n).bind fun p => match p.1 with
  | .int j => if 0 ≤ j ∧ j ≤ big then some (.ol (rangeD 0 j.toNat), p.2) else none
  | _ => none := rfl
theorem eIsa_ap (T : String) (d : Fd) (ρ : List W) (n : Nat) : eIsa T d ρ n = (d ρ n).bind fun p => match p.1 with
  | .dict _ => none
  | x => some (.d (.bool (isa T x)), p.2) := rfl
theorem eMt_ap (p : PyData → Bool) (g : PyData → List PyData → Option W) (d : Fd) (ds : Fds) (ρ : List W) (n : Nat) : eMt p g d ds ρ n = (d ρ n).bind fun x => if p x.1 then (ds ρ x.2).bind fun q => (g x.1 q.1).map (·, q.2) else none := rfl
theorem iEnumV_ap (d : Fd) (ρ : List W) (n : Nat) : iEnumV d ρ n = (d ρ n).bind fun p => (seqOf p.1).map fun xs => (enumD xs, p.2) := rfl
theorem iEnumF_ap (f : Fe) (ρ : List W) (n : Nat) : iEnumF f ρ n = (f ρ n).bind fun p => p.1.frz.val.bind fun x => (seqOf x).map fun xs => (enumD xs, p.2) := rfl
theorem iZipV_ap (da db : Fd) (ρ : List W) (n : Nat) : iZipV da db ρ n = (da ρ n).bind fun p => (db ρ p.2).bind fun q => (zipOk p.1 q.1).map (·, q.2) := rfl
theorem iZipF_ap (fa fb : Fe) (ρ : List W) (n : Nat) : iZipF fa fb ρ n = (fa ρ n).bind fun p => p.1.frz.val.bind fun x => (fb ρ p.2).bind fun q => q.1.frz.val.bind fun y => (zipOk x y).map (·, q.2) := rfl
theorem eTLen_ap (i : Nat) (ρ : List W) (n : Nat) : eTLen i ρ n = match ρ[i]? with
  | some .town => some (.d (.int n), n)
  | _ => none := rfl
theorem iRng3D_ap (da db dc : Fd) (ρ : List W) (n : Nat) : iRng3D da db dc ρ n = (da ρ n).bind fun p => (db ρ p.2).bind fun q => (dc ρ q.2).bind fun r => (rng3 p.1 q.1 r.1).map (·, r.2) := rfl
theorem sEnd_ap (is : List Nat) (g : Fs) (ρ : List W) (n : Nat) : sEnd is g ρ n = (g ρ n).map (Out.kill is) := rfl
theorem eSs_ap (g : PyData → Option Int → Option Int → Int → Option W) (d : Fd) (o o' o'' : Fo) (ρ : List W) (n : Nat) : eSs g d o o' o'' ρ n = (d ρ n).bind fun p => (o ρ p.2).bind fun q => (o' ρ q.2).bind fun r => (o'' ρ r.2).bind fun s => s.1.bind fun c => (g p.1 q.1 r.1 c).map (·, s.2) := rfl
theorem sPar3_ap (i j l : Nat) (fs : Fa) (ρ : List W) (n : Nat) : sPar3 i j l fs ρ n = (fs ρ n).bind fun p => match p.1 with
  | [w, w', w''] => some (.nx (((ρ.set i w).set j w').set l w'') p.2)
  | _ => none := rfl
theorem xPop_ap (i : Nat) (d : Fd) (ρ : List W) (n : Nat) : xPop i d ρ n = (d ρ n).bind fun k => match k.1, ρ[i]? with
  | .int z, some (.ol xs) => if xs.length ≤ big then (ixN xs.length z).bind fun j => (xs[j]?).map fun x => (x, ρ.set i (.ol (xs.eraseIdx j)), k.2) else none
  | _, _ => none := rfl
theorem xTup1_ap (f : Fx) (ρ : List W) (n : Nat) : xTup1 f ρ n = (f ρ n).map fun p => (.tuple [p.1], p.2.1, p.2.2) := rfl
theorem xCat_ap (fa : Fe) (f : Fx) (ρ : List W) (n : Nat) : xCat fa f ρ n = (fa ρ n).bind fun p => p.1.val.bind fun x => (f ρ p.2).bind fun q => match dAdd x q.1 with
  | some (.d z) => some (z, q.2.1, q.2.2)
  | _ => none := rfl
theorem sSetX_ap (i : Nat) (f : Fx) (ρ : List W) (n : Nat) : sSetX i f ρ n = (f ρ n).map fun p => .nx (p.2.1.set i (.d p.1)) p.2.2 := rfl
theorem sAppX_ap (i : Nat) (f : Fx) (ρ : List W) (n : Nat) : sAppX i f ρ n = match ρ[i]? with
  | some (.ol _) => (f ρ n).bind fun p => match p.2.1[i]? with
    | some (.ol xs) => if xs.length < big then some (.nx (p.2.1.set i (.ol (xs ++ [p.1]))) p.2.2) else none
    | _ => none
  | _ => none := rfl
theorem sParO_ap (i j : Nat) (fa fb : Fe) (ρ : List W) (n : Nat) : sParO i j fa fb ρ n = (fa ρ n).bind fun p => (fb ρ p.2).bind fun q => some (.nx ((ρ.set i p.1).set j q.1) q.2) := rfl
theorem sForEI_ap (i p q : Nat) (tst : Ft) (y : Nat) (fe : Fe) (ρ : List W) (n : Nat) : sForEI i p q tst y fe ρ n = match ρ[i]? with
  | some (.ol xs) => (loopI p q tst y fe (enumN xs) ρ n).map fun r => .nx r.1 r.2
  | _ => none := rfl
theorem sForK_ap (ks : List Nat) (fi : Fi) (g : Fg) (body : Fs) (ρ : List W) (n : Nat) : sForK ks fi g body ρ n = (fi ρ n).bind fun p => loopF g body p.1 (wipeW ρ ks) p.2 := rfl
theorem eRep_ap (fa : Fe) (db : Fd) (ρ : List W) (n : Nat) : eRep fa db ρ n = (fa ρ n).bind fun p => match p.1 with
  | .ol xs => (db ρ p.2).bind fun q => match q.1 with
    | .int k => if -1000000 ≤ k ∧ k ≤ 1000000 ∧ xs.length * k.toNat ≤ big then some (.ol (List.replicate k.toNat xs).flatten, q.2) else none
    | _ => none
  | _ => none := rfl
theorem eDicK_ap (ρ : List W) (n : Nat) : eDicK  ρ n = some (.od [], n) := rfl
theorem eDicT_ap (ρ : List W) (n : Nat) : eDicT  ρ n = some (.od [markT], n) := rfl
theorem sPut_ap (i : Nat) (d : Fd) (f : Fe) (ρ : List W) (n : Nat) : sPut i d f ρ n = (f ρ n).bind fun p => p.1.frz.val.bind fun x => (d ρ p.2).bind fun k => match ρ[i]? with
  | some (.od kvs) => (putD kvs k.1 x).map fun m => .nx (ρ.set i (.od m)) k.2
  | _ => none := rfl
theorem eAlt_ap (f g : Fe) (ρ : List W) (n : Nat) : eAlt f g ρ n = (f ρ n).or (g ρ n) := rfl
theorem sTry_ap (r : Fsx) (g : Fs) (ρ : List W) (n : Nat) : sTry r g ρ n = (r ρ n).bind fun o => match o with
  | .inl out => some out
  | .inr (_, ρ', n') => g ρ' n' := rfl
theorem eGetD_ap (da db dc : Fd) (ρ : List W) (n : Nat) : eGetD da db dc ρ n = (da ρ n).bind fun p => (db ρ p.2).bind fun q => (dc ρ q.2).bind fun r => (dGet3 p.1 q.1 r.1).map (·, r.2) := rfl
theorem eLockI_ap (i : Nat) (f : Fe) (ρ : List W) (n : Nat) : eLockI i f ρ n = match ρ[i]? with
  | some (.od kvs) => if hdM kvs = true then none else (f (ρ.set i (.od (markF :: kvs))) n).bind fun p => match p.1 with
    | .d (.int z) => some (.d (.int z), p.2)
    | _ => none
  | _ => none := rfl
theorem iKeyF_ap (i : Nat) (ρ : List W) (n : Nat) : iKeyF i ρ n = match ρ[i]? with
  | some (.od (kv :: rest)) => if isFz kv = true then some (rest.map (·.1), n) else none
  | _ => none := rfl
theorem runB_ap (m : Nat) (g : Fs) (ws : List W) (n : Nat) : runB m g ws n = (g (ws ++ List.replicate (m - ws.length) .no) n).bind fun o => match o with
  | .rt w n' => some (w, n')
  | .nx _ n' => some (.d .none, n')
  | .bk _ _ => none := rfl
theorem gOne_ap (i : Nat) (x : PyData) (ρ : List W) : gOne i x ρ = some (ρ.set i (.d x)) := rfl
theorem gMany_ap (is : List Nat) (xs : List PyData) (ρ : List W) : gMany is (.tuple xs) ρ = setD is xs ρ := rfl
theorem dI_ap (C : Int → Int → Bool) (g : Int → Int → Int) (i j : Int) : dI C g (.int i) (.int j) = if C i j then some (.d (.int (g i j))) else none := rfl
theorem yesC_ap (i j : Int) : yesC i j = true := rfl
theorem dCmp_int (r : Int → Int → Bool) (z : Nat → Nat → Bool) (i j : Int) : dCmp r z (.int i) (.int j) = some (.d (.bool (r i j))) := rfl
theorem loopF_nil (g : Fg) (body : Fs) (ρ : List W) (n : Nat) : loopF g body [] ρ n = some (.nx ρ n) := rfl
theorem loopF_cons (g : Fg) (body : Fs) (x : PyData) (xs : List PyData) (ρ : List W) (n : Nat) : loopF g body (x :: xs) ρ n = (g x ρ).bind fun ρ1 => (body ρ1 n).bind fun o => match o with
    | .nx ρ' n' => loopF g body xs ρ' n'
    | .bk ρ' n' => some (.nx ρ' n')
    | .rt w n' => some (.rt w n') := rfl
theorem loopC_cons (g : Fg) (own : List Nat) (tst : Ft) (elt : Fe) (ρ : List W) (x : PyData) (xs : List PyData) (n : Nat) : loopC g own tst elt ρ (x :: xs) n = (g x (wipeW ρ own)).bind fun ρ1 => (tst ρ1 n).bind fun b => if b.1 then
      (elt ρ1 b.2).bind fun w => w.1.frz.val.bind fun y => (loopC g own tst elt ρ xs w.2).map fun r => (y :: r.1, r.2)
    else loopC g own tst elt ρ xs b.2 := rfl
theorem loopW_succ (c : Ft) (body : Fs) (k : Nat) (ρ : List W) (n : Nat) : loopW c body (k + 1) ρ n = (c ρ n).bind fun p => if p.1 then (body ρ p.2).bind fun o => match o with
    | .nx ρ' n' => loopW c body k ρ' n'
    | .bk ρ' n' => some (.nx ρ' n')
    | .rt w n' => some (.rt w n')
    else some (.nx ρ p.2) := rfl
theorem wdat_no : W.dat (.no) = none := rfl
theorem wdat_d (x : PyData) : W.dat (.d x) = some x := rfl
theorem wdat_town : W.dat (.town) = none := rfl
theorem wdat_ol (xs : List PyData) : W.dat (.ol xs) = some (.list xs) := rfl
theorem wdat_od (xs : List (PyData × PyData)) : W.dat (.od xs) = some (.dict xs) := rfl
theorem wfrz_no : W.frz (.no) = .no := rfl
theorem wfrz_d (x : PyData) : W.frz (.d x) = .d x := rfl
theorem wfrz_town : W.frz (.town) = .town := rfl
theorem wfrz_ol (xs : List PyData) : W.frz (.ol xs) = .d (.list xs) := rfl
theorem wfrz_od (xs : List (PyData × PyData)) : W.frz (.od xs) = .od xs := rfl
theorem wval_no : W.val (.no) = none := rfl
theorem wval_d (x : PyData) : W.val (.d x) = some x := rfl
theorem wval_town : W.val (.town) = none := rfl
theorem wval_ol (xs : List PyData) : W.val (.ol xs) = none := rfl
theorem wval_od (xs : List (PyData × PyData)) : W.val (.od xs) = none := rfl
theorem warg_no : W.arg (.no) = none := rfl
theorem warg_d (x : PyData) : W.arg (.d x) = some (.d x) := rfl
theorem warg_town : W.arg (.town) = some .town := rfl
theorem warg_ol (xs : List PyData) : W.arg (.ol xs) = some (.d (.list xs)) := rfl
theorem warg_od (xs : List (PyData × PyData)) : W.arg (.od xs) = none := rfl
theorem kill_nx (is : List Nat) (ρ : List W) (n : Nat) : Out.kill is (.nx ρ n) = .nx (wipeW ρ is) n := rfl
theorem kill_rt (is : List Nat) (w : W) (n : Nat) : Out.kill is (.rt w n) = .rt w n := rfl
theorem kill_bk (is : List Nat) (ρ : List W) (n : Nat) : Out.kill is (.bk ρ n) = .bk ρ n := rfl

end L2.Lv
namespace L2.Lv.Sh
open PySem PySem.Spec PyProof.Rows L2 L2.Lv
abbrev Sc (ns : List Int) : W := .d (.list (ns.map .int))
abbrev I' (i : Int) : W := .d (.int i)
theorem mulC_l {i j : Int} (h : -(2 ^ 64) < i) (h2 : i < 2 ^ 64) : mulC i j = true := decide_eq_true (.inl ⟨h, h2⟩)
theorem divC_ok {i j : Int} (h : 0 < j) (h2 : j < 1073741824) : divC i j = true := decide_eq_true ⟨h, h2⟩
theorem modC_ok {i j : Int} (h : 0 < j) : modC i j = true := decide_eq_true h
theorem atI_ok {α : Type} {xs : List α} {i : Int} (h : 0 ≤ i) (h2 : i.toNat < xs.length) : atI xs i = some xs[i.toNat] := by
  obtain ⟨k, rfl⟩ := Int.eq_ofNat_of_zero_le h
  simp only [Int.ofNat_eq_natCast, Int.toNat_natCast] at h2 ⊢
  exact atI_nat (List.getElem?_eq_getElem h2)
end L2.Lv.Sh
namespace L2.Lv.Sh
open PySem PySem.Spec PyProof.Rows L2 L2.Lv
/-! isinstance -/
theorem isa_b_i (i : Int) : isa "bool" (.int i) = false := by simp [isa, tyN]
theorem isa_b_b (i : Bool) : isa "bool" (.bool i) = true := by simp [isa, tyN]
theorem isa_b_s (i : Str) : isa "bool" (.str i) = false := by simp [isa, tyN]
theorem isa_b_t (i : List PyData) : isa "bool" (.tuple i) = false := by simp [isa, tyN]
theorem isa_b_l (i : List PyData) : isa "bool" (.list i) = false := by simp [isa, tyN]
theorem isa_b_n : isa "bool" .none = false := by simp [isa, tyN]
theorem isa_t_i (i : Int) : isa "tuple" (.int i) = false := by simp [isa, tyN]
theorem isa_t_b (i : Bool) : isa "tuple" (.bool i) = false := by simp [isa, tyN]
theorem isa_t_s (i : Str) : isa "tuple" (.str i) = false := by simp [isa, tyN]
theorem isa_t_t (i : List PyData) : isa "tuple" (.tuple i) = true := by simp [isa, tyN]
theorem isa_t_l (i : List PyData) : isa "tuple" (.list i) = false := by simp [isa, tyN]
theorem isa_t_n : isa "tuple" .none = false := by simp [isa, tyN]
theorem isa_s_i (i : Int) : isa "str" (.int i) = false := by simp [isa, tyN]
theorem isa_s_b (i : Bool) : isa "str" (.bool i) = false := by simp [isa, tyN]
theorem isa_s_s (i : Str) : isa "str" (.str i) = true := by simp [isa, tyN]
theorem isa_s_t (i : List PyData) : isa "str" (.tuple i) = false := by simp [isa, tyN]
theorem isa_s_n : isa "str" .none = false := by simp [isa, tyN]
theorem isa_i_i (i : Int) : isa "int" (.int i) = true := by simp [isa, tyN]
theorem isa_i_b (i : Bool) : isa "int" (.bool i) = true := by simp [isa, tyN]
theorem isa_i_s (i : Str) : isa "int" (.str i) = false := by simp [isa, tyN]
theorem isa_i_t (i : List PyData) : isa "int" (.tuple i) = false := by simp [isa, tyN]
theorem isa_i_n : isa "int" .none = false := by simp [isa, tyN]

theorem shp_int (i : Int) : shp (.int i) = true := by simp [shp, SeqAt.shaped, PyData.canLay0, PyData.depth]
theorem dEq_int (i j : Int) : dEq (.int i) (.int j) = some (.d (.bool (i == j))) := by simp [dEq, shp_int, PyData.eqv]
theorem dNe_int (i j : Int) : dNe (.int i) (.int j) = some (.d (.bool (!(i == j)))) := by simp [dNe, shp_int, PyData.eqv]
theorem dEq_str {i j : Str} (h : shp (.str i) = true) (h2 : shp (.str j) = true) : dEq (.str i) (.str j) = some (.d (.bool (i == j))) := by simp [dEq, h, h2, PyData.eqv]
theorem zipD_length : ∀ (xs ys : List PyData), (zipD xs ys).length ≤ xs.length
  | [], [] => Nat.le_refl _
  | [], _ :: _ => Nat.le_refl _
  | _ :: _, [] => Nat.zero_le _
  | _ :: xs, _ :: ys => Nat.succ_le_succ (zipD_length xs ys)
/-- tuples in it are not too long -/
def short : Nat → PyData → Bool
  | 0, _ => true
  | k + 1, .tuple xs => decide (xs.length ≤ 1000000) && xs.all (short k)
  | _ + 1, _ => true
end L2.Lv.Sh
namespace L2.Lv.Sh
open PySem PySem.Spec PyProof.Rows L2 L2.Lv
abbrev sUp : Str := "up"
abbrev sDown : Str := "down"
abbrev sPart : Str := "part"
abbrev sRest : Str := "rest"
abbrev sTable : Str := "table"
abbrev sAmong : Str := "among"
abbrev sSum : Str := "sum"
abbrev sGap : Str := "gap"
abbrev sMost : Str := "most"
/-- plain keys -/
inductive PK where
  | up (a : Int)
  | part (a d : Int)
  | rest (a d : Int)
  | table (a : Int) (t : List Int)
  | among (a : Int) (t : List Int)
  | sum (a b : Int)
  | gap (a b : Int)
  | most (a b : Int)
abbrev ti (t : List Int) : PyData := .tuple (t.map .int)
def PK.d : PK → PyData
  | up a => .tuple [.str sUp, .int a]
  | part a d => .tuple [.str sPart, .int a, .int d]
  | rest a d => .tuple [.str sRest, .int a, .int d]
  | table a t => .tuple [.str sTable, .int a, ti t]
  | among a t => .tuple [.str sAmong, .int a, ti t]
  | sum a b => .tuple [.str sSum, .int a, .int b]
  | gap a b => .tuple [.str sGap, .int a, .int b]
  | most a b => .tuple [.str sMost, .int a, .int b]
inductive Ky where
  | pl (p : PK)
  | dn (p : PK)
def Ky.d : Ky → PyData
  | pl p => p.d
  | dn p => .tuple [.str sDown, p.d]
def pl3 (a : Int) : Prop := 0 ≤ a ∧ a < 3
def tOk (t : List Int) : Prop := t ≠ [] ∧ t.length ≤ 6 ∧ t.Nodup ∧ ∀ x ∈ t, 0 ≤ x ∧ x < 6
def prOk (a b : Int) : Prop := (a = 0 ∧ b = 1) ∨ (a = 0 ∧ b = 2) ∨ (a = 1 ∧ b = 2)
def PK.ok : PK → Prop
  | up a => pl3 a
  | part a d => pl3 a ∧ (d = 2 ∨ d = 3)
  | rest a d => pl3 a ∧ (d = 2 ∨ d = 3)
  | table a t => pl3 a ∧ tOk t
  | among a t => pl3 a ∧ tOk t ∧ t.Pairwise (· < ·)
  | sum a b => prOk a b
  | gap a b => prOk a b
  | most a b => prOk a b
def Ky.pk : Ky → PK
  | pl p => p
  | dn p => p
def Ky.ok (k : Ky) : Prop := k.pk.ok
/-- what a thing is -/
abbrev Th := Int × Int × Int
def Th.d (t : Th) : PyData := ti [t.1, t.2.1, t.2.2]
def Th.ok (t : Th) : Prop := (0 ≤ t.1 ∧ t.1 < 6) ∧ (0 ≤ t.2.1 ∧ t.2.1 < 6) ∧ (0 ≤ t.2.2 ∧ t.2.2 < 6)
def Th.at (t : Th) (i : Int) : Int := if i = 0 then t.1 else if i = 1 then t.2.1 else t.2.2
theorem memD_ints (x : Int) : ∀ t : List Int, memD (.int x) (t.map .int) = decide (x ∈ t)
  | [] => by simp [memD]
  | y :: t => by
    have ih := memD_ints x t
    unfold memD at ih ⊢
    rw [List.map_cons, List.any_cons, ih]
    by_cases h : x = y
    · subst h; simp [PyData.eqv]
    · simp [PyData.eqv, h, Ne.symm h]
theorem canLay_ints : ∀ t : List Int, PyData.canLayAll0 (t.map .int) = true
  | [] => by simp [PyData.canLayAll0]
  | y :: t => by simp [PyData.canLayAll0, PyData.canLay0, canLay_ints t]
theorem depthAll_ints : ∀ t : List Int, PyData.depthAll (t.map .int) ≤ 1
  | [] => by simp [PyData.depthAll]
  | y :: t => by
    have := depthAll_ints t
    simp [PyData.depthAll, PyData.depth]
    omega
theorem shp_ti (t : List Int) : shp (ti t) = true := by
  have := depthAll_ints t
  simp [shp, SeqAt.shaped, PyData.canLay0, PyData.depth, canLay_ints]
  omega
theorem shp_li (t : List Int) : shp (.list (t.map .int)) = true := by
  have := depthAll_ints t
  simp [shp, SeqAt.shaped, PyData.canLay0, PyData.depth, canLay_ints]
  omega
theorem dIn_ints (x : Int) (t : List Int) : dIn (.int x) (ti t) = some (.d (.bool (decide (x ∈ t)))) := by
  show (some (t.map PyData.int)).bind _ = _
  rw [Option.bind_some, shp_int, shp_ti, memD_ints]
  rfl
theorem dNotIn_ints (x : Int) (t : List Int) : dNotIn (.int x) (ti t) = some (.d (.bool (!decide (x ∈ t)))) := by
  show (some (t.map PyData.int)).bind _ = _
  rw [Option.bind_some, shp_int, shp_ti, memD_ints]
  rfl
theorem dAdd_int (i j : Int) : dAdd (.int i) (.int j) = some (.d (.int (i + j))) := rfl
theorem dSub_int (i j : Int) : dSub (.int i) (.int j) = some (.d (.int (i - j))) := rfl
theorem dAdd_tup (xs ys : List PyData) (h : xs.length + ys.length ≤ big) : dAdd (.tuple xs) (.tuple ys) = some (.d (.tuple (xs ++ ys))) := if_pos h
theorem dAdd_lst (xs ys : List PyData) (h : xs.length + ys.length ≤ big) : dAdd (.list xs) (.list ys) = some (.ol (xs ++ ys)) := if_pos h
theorem le_big {k : Nat} (h : k ≤ 1000000) : k ≤ big := Nat.le_trans h (by decide)
/-! sorted ints -/
theorem dataLe_int (a b : Int) : PySem.W.dataLe false (fun x => x) (.int a) (.int b) = decide (a ≤ b) := by
  simp [PySem.W.dataLe, PySem.W.sortLe, PySem.W.keyToks, PyProof.Rows.lexLt, PyProof.Rows.itemLt]
  by_cases h : a ≤ b
  · have : ¬ b < a := by omega
    simp [h, this]
  · have : b < a := by omega
    simp [h, this]
def srtI (t : List Int) : List Int := t.mergeSort fun a b => decide (a ≤ b)
theorem srt_ints (t : List Int) : srt (t.map .int) = (srtI t).map .int := by
  unfold srt srtI
  exact (List.map_mergeSort fun a _ b _ => (dataLe_int a b).symm).symm
theorem srtOk_ints (t : List Int) : srtOk (t.map .int) = true := by
  have h1 : ∀ a b : Int, PySem.W.alike (.int a) (.int b) = true := fun a b => by simp [PySem.W.alike]
  simp [srtOk, h1, PyData.depth]
theorem gSorted_ints (t : List Int) : gSorted [ti t] = some (.ol ((srtI t).map .int)) := by
  simp only [gSorted, ti, seqOf, Option.bind_some, srtOk_ints, srt_ints, if_true]
theorem srtI_perm (t : List Int) : (srtI t).Perm t := List.mergeSort_perm t _
theorem srtI_pw (t : List Int) : (srtI t).Pairwise (· ≤ ·) := by
  have h := List.pairwise_mergeSort (le := fun a b : Int => decide (a ≤ b)) (fun a b c h1 h2 => by simp at h1 h2 ⊢; omega) (fun a b => by simp; omega) t
  exact h.imp fun h => by simpa using h
theorem tOk.srt {t : List Int} (h : tOk t) : tOk (srtI t) ∧ (srtI t).Pairwise (· < ·) := by
  obtain ⟨h1, h2, h3, h4⟩ := h
  have p := srtI_perm t
  have nd : (srtI t).Nodup := p.nodup_iff.mpr h3
  refine ⟨⟨fun e => h1 ?_, by rw [p.length_eq]; exact h2, nd, fun x hx => h4 x (p.mem_iff.mp hx)⟩, ?_⟩
  · have := p.length_eq
    rw [e] at this
    exact List.length_eq_zero_iff.mp this.symm
  · exact (srtI_pw t).imp₂ (fun a b h1 h2 => by have : a ≠ b := h2; omega) nd
/-! draws of keys -/
end L2.Lv.Sh
namespace L2.Lv.Sh
open PySem PySem.Spec PyProof.Rows L2 L2.Lv
theorem ixT (xs : List PyData) (i : Int) (h : 0 ≤ i) (h2 : i.toNat < xs.length) : dIx (.tuple xs) (.int i) = some (.d xs[i.toNat]) := by
  show (atI _ _).map W.d = _
  rw [atI_ok h h2]; rfl
theorem rangeD_len (lo : Int) (n : Nat) : (rangeD lo n).length = n := by simp [rangeD]
theorem rng1_ok {j : Int} (h : 0 ≤ j) (h2 : j < 1000000) : rng1 (.int j) = some (rangeD 0 j.toNat) := by
  show (if _ then _ else _) = _
  rw [if_pos (by omega)]
end L2.Lv.Sh
namespace L2.Lv.Sh
open PySem PySem.Spec PyProof.Rows L2 L2.Lv
theorem shp_Up : shp (.str sUp) = true := by decide +kernel
theorem shp_Down : shp (.str sDown) = true := by decide +kernel
theorem shp_Part : shp (.str sPart) = true := by decide +kernel
theorem shp_Rest : shp (.str sRest) = true := by decide +kernel
theorem shp_Table : shp (.str sTable) = true := by decide +kernel
theorem shp_Among : shp (.str sAmong) = true := by decide +kernel
theorem shp_Sum : shp (.str sSum) = true := by decide +kernel
theorem shp_Gap : shp (.str sGap) = true := by decide +kernel
theorem shp_Most : shp (.str sMost) = true := by decide +kernel
theorem q_Up_Up : dEq (.str sUp) (.str sUp) = some (.d (.bool true)) := by rw [dEq_str shp_Up shp_Up]; rfl
theorem q_Up_Down : dEq (.str sUp) (.str sDown) = some (.d (.bool false)) := by rw [dEq_str shp_Up shp_Down]; rfl
theorem q_Up_Part : dEq (.str sUp) (.str sPart) = some (.d (.bool false)) := by rw [dEq_str shp_Up shp_Part]; rfl
theorem q_Up_Rest : dEq (.str sUp) (.str sRest) = some (.d (.bool false)) := by rw [dEq_str shp_Up shp_Rest]; rfl
theorem q_Up_Table : dEq (.str sUp) (.str sTable) = some (.d (.bool false)) := by rw [dEq_str shp_Up shp_Table]; rfl
theorem q_Up_Among : dEq (.str sUp) (.str sAmong) = some (.d (.bool false)) := by rw [dEq_str shp_Up shp_Among]; rfl
theorem q_Up_Sum : dEq (.str sUp) (.str sSum) = some (.d (.bool false)) := by rw [dEq_str shp_Up shp_Sum]; rfl
theorem q_Up_Gap : dEq (.str sUp) (.str sGap) = some (.d (.bool false)) := by rw [dEq_str shp_Up shp_Gap]; rfl
theorem q_Down_Up : dEq (.str sDown) (.str sUp) = some (.d (.bool false)) := by rw [dEq_str shp_Down shp_Up]; rfl
theorem q_Down_Down : dEq (.str sDown) (.str sDown) = some (.d (.bool true)) := by rw [dEq_str shp_Down shp_Down]; rfl
theorem q_Down_Part : dEq (.str sDown) (.str sPart) = some (.d (.bool false)) := by rw [dEq_str shp_Down shp_Part]; rfl
theorem q_Down_Rest : dEq (.str sDown) (.str sRest) = some (.d (.bool false)) := by rw [dEq_str shp_Down shp_Rest]; rfl
theorem q_Down_Table : dEq (.str sDown) (.str sTable) = some (.d (.bool false)) := by rw [dEq_str shp_Down shp_Table]; rfl
theorem q_Down_Among : dEq (.str sDown) (.str sAmong) = some (.d (.bool false)) := by rw [dEq_str shp_Down shp_Among]; rfl
theorem q_Down_Sum : dEq (.str sDown) (.str sSum) = some (.d (.bool false)) := by rw [dEq_str shp_Down shp_Sum]; rfl
theorem q_Down_Gap : dEq (.str sDown) (.str sGap) = some (.d (.bool false)) := by rw [dEq_str shp_Down shp_Gap]; rfl
theorem q_Part_Up : dEq (.str sPart) (.str sUp) = some (.d (.bool false)) := by rw [dEq_str shp_Part shp_Up]; rfl
theorem q_Part_Down : dEq (.str sPart) (.str sDown) = some (.d (.bool false)) := by rw [dEq_str shp_Part shp_Down]; rfl
theorem q_Part_Part : dEq (.str sPart) (.str sPart) = some (.d (.bool true)) := by rw [dEq_str shp_Part shp_Part]; rfl
theorem q_Part_Rest : dEq (.str sPart) (.str sRest) = some (.d (.bool false)) := by rw [dEq_str shp_Part shp_Rest]; rfl
theorem q_Part_Table : dEq (.str sPart) (.str sTable) = some (.d (.bool false)) := by rw [dEq_str shp_Part shp_Table]; rfl
theorem q_Part_Among : dEq (.str sPart) (.str sAmong) = some (.d (.bool false)) := by rw [dEq_str shp_Part shp_Among]; rfl
theorem q_Part_Sum : dEq (.str sPart) (.str sSum) = some (.d (.bool false)) := by rw [dEq_str shp_Part shp_Sum]; rfl
theorem q_Part_Gap : dEq (.str sPart) (.str sGap) = some (.d (.bool false)) := by rw [dEq_str shp_Part shp_Gap]; rfl
theorem q_Rest_Up : dEq (.str sRest) (.str sUp) = some (.d (.bool false)) := by rw [dEq_str shp_Rest shp_Up]; rfl
theorem q_Rest_Down : dEq (.str sRest) (.str sDown) = some (.d (.bool false)) := by rw [dEq_str shp_Rest shp_Down]; rfl
theorem q_Rest_Part : dEq (.str sRest) (.str sPart) = some (.d (.bool false)) := by rw [dEq_str shp_Rest shp_Part]; rfl
theorem q_Rest_Rest : dEq (.str sRest) (.str sRest) = some (.d (.bool true)) := by rw [dEq_str shp_Rest shp_Rest]; rfl
theorem q_Rest_Table : dEq (.str sRest) (.str sTable) = some (.d (.bool false)) := by rw [dEq_str shp_Rest shp_Table]; rfl
theorem q_Rest_Among : dEq (.str sRest) (.str sAmong) = some (.d (.bool false)) := by rw [dEq_str shp_Rest shp_Among]; rfl
theorem q_Rest_Sum : dEq (.str sRest) (.str sSum) = some (.d (.bool false)) := by rw [dEq_str shp_Rest shp_Sum]; rfl
theorem q_Rest_Gap : dEq (.str sRest) (.str sGap) = some (.d (.bool false)) := by rw [dEq_str shp_Rest shp_Gap]; rfl
theorem q_Table_Up : dEq (.str sTable) (.str sUp) = some (.d (.bool false)) := by rw [dEq_str shp_Table shp_Up]; rfl
theorem q_Table_Down : dEq (.str sTable) (.str sDown) = some (.d (.bool false)) := by rw [dEq_str shp_Table shp_Down]; rfl
theorem q_Table_Part : dEq (.str sTable) (.str sPart) = some (.d (.bool false)) := by rw [dEq_str shp_Table shp_Part]; rfl
theorem q_Table_Rest : dEq (.str sTable) (.str sRest) = some (.d (.bool false)) := by rw [dEq_str shp_Table shp_Rest]; rfl
theorem q_Table_Table : dEq (.str sTable) (.str sTable) = some (.d (.bool true)) := by rw [dEq_str shp_Table shp_Table]; rfl
theorem q_Table_Among : dEq (.str sTable) (.str sAmong) = some (.d (.bool false)) := by rw [dEq_str shp_Table shp_Among]; rfl
theorem q_Table_Sum : dEq (.str sTable) (.str sSum) = some (.d (.bool false)) := by rw [dEq_str shp_Table shp_Sum]; rfl
theorem q_Table_Gap : dEq (.str sTable) (.str sGap) = some (.d (.bool false)) := by rw [dEq_str shp_Table shp_Gap]; rfl
theorem q_Among_Up : dEq (.str sAmong) (.str sUp) = some (.d (.bool false)) := by rw [dEq_str shp_Among shp_Up]; rfl
theorem q_Among_Down : dEq (.str sAmong) (.str sDown) = some (.d (.bool false)) := by rw [dEq_str shp_Among shp_Down]; rfl
theorem q_Among_Part : dEq (.str sAmong) (.str sPart) = some (.d (.bool false)) := by rw [dEq_str shp_Among shp_Part]; rfl
theorem q_Among_Rest : dEq (.str sAmong) (.str sRest) = some (.d (.bool false)) := by rw [dEq_str shp_Among shp_Rest]; rfl
theorem q_Among_Table : dEq (.str sAmong) (.str sTable) = some (.d (.bool false)) := by rw [dEq_str shp_Among shp_Table]; rfl
theorem q_Among_Among : dEq (.str sAmong) (.str sAmong) = some (.d (.bool true)) := by rw [dEq_str shp_Among shp_Among]; rfl
theorem q_Among_Sum : dEq (.str sAmong) (.str sSum) = some (.d (.bool false)) := by rw [dEq_str shp_Among shp_Sum]; rfl
theorem q_Among_Gap : dEq (.str sAmong) (.str sGap) = some (.d (.bool false)) := by rw [dEq_str shp_Among shp_Gap]; rfl
theorem q_Sum_Up : dEq (.str sSum) (.str sUp) = some (.d (.bool false)) := by rw [dEq_str shp_Sum shp_Up]; rfl
theorem q_Sum_Down : dEq (.str sSum) (.str sDown) = some (.d (.bool false)) := by rw [dEq_str shp_Sum shp_Down]; rfl
theorem q_Sum_Part : dEq (.str sSum) (.str sPart) = some (.d (.bool false)) := by rw [dEq_str shp_Sum shp_Part]; rfl
theorem q_Sum_Rest : dEq (.str sSum) (.str sRest) = some (.d (.bool false)) := by rw [dEq_str shp_Sum shp_Rest]; rfl
theorem q_Sum_Table : dEq (.str sSum) (.str sTable) = some (.d (.bool false)) := by rw [dEq_str shp_Sum shp_Table]; rfl
theorem q_Sum_Among : dEq (.str sSum) (.str sAmong) = some (.d (.bool false)) := by rw [dEq_str shp_Sum shp_Among]; rfl
theorem q_Sum_Sum : dEq (.str sSum) (.str sSum) = some (.d (.bool true)) := by rw [dEq_str shp_Sum shp_Sum]; rfl
theorem q_Sum_Gap : dEq (.str sSum) (.str sGap) = some (.d (.bool false)) := by rw [dEq_str shp_Sum shp_Gap]; rfl
theorem q_Gap_Up : dEq (.str sGap) (.str sUp) = some (.d (.bool false)) := by rw [dEq_str shp_Gap shp_Up]; rfl
theorem q_Gap_Down : dEq (.str sGap) (.str sDown) = some (.d (.bool false)) := by rw [dEq_str shp_Gap shp_Down]; rfl
theorem q_Gap_Part : dEq (.str sGap) (.str sPart) = some (.d (.bool false)) := by rw [dEq_str shp_Gap shp_Part]; rfl
theorem q_Gap_Rest : dEq (.str sGap) (.str sRest) = some (.d (.bool false)) := by rw [dEq_str shp_Gap shp_Rest]; rfl
theorem q_Gap_Table : dEq (.str sGap) (.str sTable) = some (.d (.bool false)) := by rw [dEq_str shp_Gap shp_Table]; rfl
theorem q_Gap_Among : dEq (.str sGap) (.str sAmong) = some (.d (.bool false)) := by rw [dEq_str shp_Gap shp_Among]; rfl
theorem q_Gap_Sum : dEq (.str sGap) (.str sSum) = some (.d (.bool false)) := by rw [dEq_str shp_Gap shp_Sum]; rfl
theorem q_Gap_Gap : dEq (.str sGap) (.str sGap) = some (.d (.bool true)) := by rw [dEq_str shp_Gap shp_Gap]; rfl
theorem q_Most_Up : dEq (.str sMost) (.str sUp) = some (.d (.bool false)) := by rw [dEq_str shp_Most shp_Up]; rfl
theorem q_Most_Down : dEq (.str sMost) (.str sDown) = some (.d (.bool false)) := by rw [dEq_str shp_Most shp_Down]; rfl
theorem q_Most_Part : dEq (.str sMost) (.str sPart) = some (.d (.bool false)) := by rw [dEq_str shp_Most shp_Part]; rfl
theorem q_Most_Rest : dEq (.str sMost) (.str sRest) = some (.d (.bool false)) := by rw [dEq_str shp_Most shp_Rest]; rfl
theorem q_Most_Table : dEq (.str sMost) (.str sTable) = some (.d (.bool false)) := by rw [dEq_str shp_Most shp_Table]; rfl
theorem q_Most_Among : dEq (.str sMost) (.str sAmong) = some (.d (.bool false)) := by rw [dEq_str shp_Most shp_Among]; rfl
theorem q_Most_Sum : dEq (.str sMost) (.str sSum) = some (.d (.bool false)) := by rw [dEq_str shp_Most shp_Sum]; rfl
theorem q_Most_Gap : dEq (.str sMost) (.str sGap) = some (.d (.bool false)) := by rw [dEq_str shp_Most shp_Gap]; rfl

/-! comprehensions -/
end L2.Lv.Sh
namespace L2.Lv.Sh
open PySem PySem.Spec PyProof.Rows L2 L2.Lv
/-! what a key tells of a thing -/
def PK.worth (p : PK) (t : Th) : Int := match p with
  | up a => t.at a
  | part a d => t.at a / d
  | rest a d => t.at a % d
  | table a l => if t.at a ∈ l then (l.idxOf (t.at a) : Nat) else (l.length : Nat)
  | among a l => if t.at a ∈ l then 0 else 1
  | sum a b => t.at a + t.at b
  | gap a b => if t.at a - t.at b < 0 then -(t.at a - t.at b) else t.at a - t.at b
  | most a b => if t.at b > t.at a then t.at b else t.at a
def Ky.worth (k : Ky) (t : Th) : Int := match k with
  | pl p => p.worth t
  | dn p => 0 - p.worth t
theorem prOk.l {a b : Int} (h : prOk a b) : pl3 a ∧ pl3 b := by
  rcases h with ⟨rfl, rfl⟩ | ⟨rfl, rfl⟩ | ⟨rfl, rfl⟩ <;> simp [pl3]
theorem gIndexT_ints {t : List Int} {x : Int} (h : x ∈ t) : gIndexT (ti t) [.int x] = some (.d (.int (t.idxOf x : Nat))) := by
  simp [gIndexT, ti, h]
theorem i0 (x : PyData) (xs : List PyData) : dIx (.tuple (x :: xs)) (.int 0) = some (.d x) := ixT (x :: xs) 0 (by decide) (by simp)
theorem i1 (x y : PyData) (xs : List PyData) : dIx (.tuple (x :: y :: xs)) (.int 1) = some (.d y) := ixT (x :: y :: xs) 1 (by decide) (by simp)
theorem i2 (x y z : PyData) : dIx (.tuple [x, y, z]) (.int 2) = some (.d z) := rfl

/-! rows -/
abbrev Rw := List Ky
def Rw.ok (r : Rw) : Prop := ∀ k ∈ r, k.ok
end L2.Lv.Sh
namespace L2.Lv.Sh
open PySem PySem.Spec PyProof.Rows L2 L2.Lv

/-- the first key that tells -/
def wrd : Rw → Th → Th → Int
  | [], _, _ => 0
  | k :: r, s, t => if k.worth s = k.worth t then wrd r s t else if k.worth s < k.worth t then -1 else 1
theorem wrd_anti (r : Rw) (s t : Th) : wrd r t s = 0 - wrd r s t := by
  induction r with
  | nil => rfl
  | cons k r ih =>
    simp only [wrd]
    by_cases e : k.worth s = k.worth t
    · rw [if_pos e.symm, if_pos e, ih]
    · rw [if_neg e, if_neg (Ne.symm e)]
      split <;> split <;> omega
theorem wrd_refl (r : Rw) (s : Th) : wrd r s s = 0 := by have := wrd_anti r s s; omega
/-- the order is one -/
theorem wrd_trans (r : Rw) (s t u : Th) (h1 : wrd r s t < 1) (h2 : wrd r t u < 1) : wrd r s u < 1 := by
  induction r with
  | nil => exact Int.one_pos
  | cons k r ih =>
    simp only [wrd] at h1 h2 ⊢
    by_cases e1 : k.worth s = k.worth t
    · by_cases e2 : k.worth t = k.worth u
      · rw [if_pos e1] at h1; rw [if_pos e2] at h2; rw [if_pos (e1.trans e2)]; exact ih h1 h2
      · rw [if_neg e2] at h2
        rw [e1, if_neg e2]
        exact h2
    · rw [if_neg e1] at h1
      split at h1
      · by_cases e2 : k.worth t = k.worth u
        · rw [← e2, if_neg e1, if_pos (by assumption)]; decide
        · rw [if_neg e2] at h2
          split at h2
          · rw [if_neg (by omega), if_pos (by omega)]; decide
          · omega
      · omega
/-! turned -/
end L2.Lv.Sh
namespace L2.Lv.Sh
open PySem PySem.Spec PyProof.Rows L2 L2.Lv
/-- plain data, of depth at most k, its tuples not too long -/
def nc : Nat → PyData → Bool
  | 0, _ => false
  | _ + 1, .none => true
  | _ + 1, .bool _ => true
  | _ + 1, .int _ => true
  | _ + 1, .str s => shp (.str s)
  | k + 1, .tuple xs => decide (xs.length ≤ 1000000) && xs.all (nc k)
  | _ + 1, _ => false
theorem nc_tup {k : Nat} {xs : List PyData} (hl : xs.length ≤ 1000000) (h : ∀ x ∈ xs, nc k x = true) : nc (k + 1) (.tuple xs) = true := by
  simp [nc]; exact ⟨hl, h⟩
theorem nc_ti {l : List Int} (hl : l.length ≤ 1000000) : nc 2 (ti l) = true := nc_tup (by simpa using hl) fun x hx => by
  obtain ⟨i, _, rfl⟩ := List.mem_map.mp hx; rfl
/-! all things -/
def six : List Int := [0, 1, 2, 3, 4, 5]
end L2.Lv.Sh
namespace L2.Lv.Sh
open PySem PySem.Spec PyProof.Rows L2 L2.Lv
end L2.Lv.Sh
namespace L2.Lv.Sh
open PySem PySem.Spec PyProof.Rows L2 L2.Lv
/-! comprehensions over typed lists -/
theorem comp_mapA {α : Type} {g : Fg} {own : List Nat} {elt : Fe} {ρ : List W} {n : Nat} (enc f : α → PyData) : ∀ (xs : List α), (∀ x ∈ xs, ∃ ρ1, g (enc x) (wipeW ρ own) = some ρ1 ∧ elt ρ1 n = some (.d (f x), n)) →
    loopC g own bYes elt ρ (xs.map enc) n = some (xs.map f, n)
  | [], _ => rfl
  | x :: xs, h => by
    obtain ⟨ρ1, e1, e2⟩ := h x (List.mem_cons_self ..)
    rw [List.map_cons, loopC_cons]
    simp -implicitDefEqProofs only [eVar_ap, dVar_ap, eC_ap, dOf_ap, eFrz_ap, eBin_ap, bTest_ap, bTru_ap, bAnd_ap, bOr_ap, bNot_ap, eIf_ap, eB_ap, eAnd_ap, eOr_ap, aNil_ap, aCons_ap, sNil_ap, sCons_ap, eTup_ap, eLst_ap, eCall_ap, eApp_ap, oNone_ap, oSome_ap, eSl_ap, sNil'_ap, sSeq_ap, sBrk_ap, sRet_ap, sRetN_ap, sRetO_ap, sDrop_ap, sIf_ap, sSet_ap, sApp_ap, sTown_ap, sExt_ap, sIns_ap, sSetIx_ap, sAsg_ap, sPar_ap, iOf_ap, iVal_ap, iRng1_ap, iRng2_ap, sFor_ap, eComp_ap, bYes_ap, frzAt_ap, eUn_ap, eNotD_ap, eOrD_ap, eChain_ap, eListRg1_ap, eIsa_ap, eMt_ap, iEnumV_ap, iEnumF_ap, iZipV_ap, iZipF_ap, eTLen_ap, iRng3D_ap, sEnd_ap, eSs_ap, sPar3_ap, xPop_ap, xTup1_ap, xCat_ap, sSetX_ap, sAppX_ap, sParO_ap, sForEI_ap, sForK_ap, eRep_ap, eDicK_ap, eDicT_ap, sPut_ap, eAlt_ap, sTry_ap, eGetD_ap, eLockI_ap, iKeyF_ap, runB_ap, gOne_ap, gMany_ap, dI_ap, yesC_ap, dCmp_int, setD, kill_nx, kill_rt, kill_bk, Option.bind_some, Option.map_some, Option.bind_none, Option.map_none, List.getElem?_cons_zero, List.getElem?_cons_succ, List.set_cons_zero, List.set_cons_succ, List.cons_append, List.nil_append, List.append_nil, List.replicate, List.length_cons, List.length_nil, Nat.reduceAdd, Nat.reduceSub, Nat.zero_add, wdat_no, wdat_d, wdat_town, wdat_ol, wdat_od, wfrz_no, wfrz_d, wfrz_town, wfrz_ol, wfrz_od, wval_no, wval_d, wval_town, wval_ol, wval_od, warg_no, warg_d, warg_town, warg_ol, warg_od, vals, gLen, gAbs, gMax2, gMin2, gInt, gTup, gList, wipeW, if_true, if_false, Bool.false_eq_true, Bool.not_true, Bool.not_false, reduceCtorEq, e1, e2, comp_mapA enc f xs fun z hz => h z (List.mem_cons_of_mem _ hz), List.map_cons]
theorem comp_filA {α : Type} {g : Fg} {own : List Nat} {tst : Ft} {elt : Fe} {ρ : List W} {n : Nat} (enc f : α → PyData) (p : α → Bool) : ∀ (xs : List α), (∀ x ∈ xs, ∃ ρ1, g (enc x) (wipeW ρ own) = some ρ1 ∧ tst ρ1 n = some (p x, n) ∧ (p x = true → elt ρ1 n = some (.d (f x), n))) →
    loopC g own tst elt ρ (xs.map enc) n = some ((xs.filter p).map f, n)
  | [], _ => rfl
  | x :: xs, h => by
    obtain ⟨ρ1, e1, e2, e3⟩ := h x (List.mem_cons_self ..)
    have ih := comp_filA enc f p xs fun z hz => h z (List.mem_cons_of_mem _ hz)
    rw [List.map_cons, loopC_cons]
    cases hp : p x with
    | true => simp -implicitDefEqProofs only [eVar_ap, dVar_ap, eC_ap, dOf_ap, eFrz_ap, eBin_ap, bTest_ap, bTru_ap, bAnd_ap, bOr_ap, bNot_ap, eIf_ap, eB_ap, eAnd_ap, eOr_ap, aNil_ap, aCons_ap, sNil_ap, sCons_ap, eTup_ap, eLst_ap, eCall_ap, eApp_ap, oNone_ap, oSome_ap, eSl_ap, sNil'_ap, sSeq_ap, sBrk_ap, sRet_ap, sRetN_ap, sRetO_ap, sDrop_ap, sIf_ap, sSet_ap, sApp_ap, sTown_ap, sExt_ap, sIns_ap, sSetIx_ap, sAsg_ap, sPar_ap, iOf_ap, iVal_ap, iRng1_ap, iRng2_ap, sFor_ap, eComp_ap, bYes_ap, frzAt_ap, eUn_ap, eNotD_ap, eOrD_ap, eChain_ap, eListRg1_ap, eIsa_ap, eMt_ap, iEnumV_ap, iEnumF_ap, iZipV_ap, iZipF_ap, eTLen_ap, iRng3D_ap, sEnd_ap, eSs_ap, sPar3_ap, xPop_ap, xTup1_ap, xCat_ap, sSetX_ap, sAppX_ap, sParO_ap, sForEI_ap, sForK_ap, eRep_ap, eDicK_ap, eDicT_ap, sPut_ap, eAlt_ap, sTry_ap, eGetD_ap, eLockI_ap, iKeyF_ap, runB_ap, gOne_ap, gMany_ap, dI_ap, yesC_ap, dCmp_int, setD, kill_nx, kill_rt, kill_bk, Option.bind_some, Option.map_some, Option.bind_none, Option.map_none, List.getElem?_cons_zero, List.getElem?_cons_succ, List.set_cons_zero, List.set_cons_succ, List.cons_append, List.nil_append, List.append_nil, List.replicate, List.length_cons, List.length_nil, Nat.reduceAdd, Nat.reduceSub, Nat.zero_add, wdat_no, wdat_d, wdat_town, wdat_ol, wdat_od, wfrz_no, wfrz_d, wfrz_town, wfrz_ol, wfrz_od, wval_no, wval_d, wval_town, wval_ol, wval_od, warg_no, warg_d, warg_town, warg_ol, warg_od, vals, gLen, gAbs, gMax2, gMin2, gInt, gTup, gList, wipeW, if_true, if_false, Bool.false_eq_true, Bool.not_true, Bool.not_false, reduceCtorEq, e1, e2, e3 hp, hp, ih, List.map_cons, List.filter_cons]
    | false => simp -implicitDefEqProofs only [eVar_ap, dVar_ap, eC_ap, dOf_ap, eFrz_ap, eBin_ap, bTest_ap, bTru_ap, bAnd_ap, bOr_ap, bNot_ap, eIf_ap, eB_ap, eAnd_ap, eOr_ap, aNil_ap, aCons_ap, sNil_ap, sCons_ap, eTup_ap, eLst_ap, eCall_ap, eApp_ap, oNone_ap, oSome_ap, eSl_ap, sNil'_ap, sSeq_ap, sBrk_ap, sRet_ap, sRetN_ap, sRetO_ap, sDrop_ap, sIf_ap, sSet_ap, sApp_ap, sTown_ap, sExt_ap, sIns_ap, sSetIx_ap, sAsg_ap, sPar_ap, iOf_ap, iVal_ap, iRng1_ap, iRng2_ap, sFor_ap, eComp_ap, bYes_ap, frzAt_ap, eUn_ap, eNotD_ap, eOrD_ap, eChain_ap, eListRg1_ap, eIsa_ap, eMt_ap, iEnumV_ap, iEnumF_ap, iZipV_ap, iZipF_ap, eTLen_ap, iRng3D_ap, sEnd_ap, eSs_ap, sPar3_ap, xPop_ap, xTup1_ap, xCat_ap, sSetX_ap, sAppX_ap, sParO_ap, sForEI_ap, sForK_ap, eRep_ap, eDicK_ap, eDicT_ap, sPut_ap, eAlt_ap, sTry_ap, eGetD_ap, eLockI_ap, iKeyF_ap, runB_ap, gOne_ap, gMany_ap, dI_ap, yesC_ap, dCmp_int, setD, kill_nx, kill_rt, kill_bk, Option.bind_some, Option.map_some, Option.bind_none, Option.map_none, List.getElem?_cons_zero, List.getElem?_cons_succ, List.set_cons_zero, List.set_cons_succ, List.cons_append, List.nil_append, List.append_nil, List.replicate, List.length_cons, List.length_nil, Nat.reduceAdd, Nat.reduceSub, Nat.zero_add, wdat_no, wdat_d, wdat_town, wdat_ol, wdat_od, wfrz_no, wfrz_d, wfrz_town, wfrz_ol, wfrz_od, wval_no, wval_d, wval_town, wval_ol, wval_od, warg_no, warg_d, warg_town, warg_ol, warg_od, vals, gLen, gAbs, gMax2, gMin2, gInt, gTup, gList, wipeW, if_true, if_false, Bool.false_eq_true, Bool.not_true, Bool.not_false, reduceCtorEq, e1, e2, hp, ih, List.filter_cons]
/-! lists of things -/
/-! orders of things -/
/-- p stands ahead of q, or is q -/
def rle (r : Rw) (p q : Nat × Th) : Prop := wrd r p.2 q.2 < 0 ∨ (wrd r p.2 q.2 = 0 ∧ p.1 ≤ q.1)
instance (r : Rw) (p q : Nat × Th) : Decidable (rle r p q) := inferInstanceAs (Decidable (_ ∨ _))
end L2.Lv.Sh
namespace L2.Lv.Sh
open PySem PySem.Spec PyProof.Rows L2 L2.Lv
/-! sorted by worths and place -/
def lx (X Y : List (Int ⊕ List Nat)) : Bool := lexLt itemOrd X Y
theorem lx_tok (a b : Int) (X Y : List (Int ⊕ List Nat)) : lx (.inl a :: X) (.inl b :: Y) = (decide (a < b) || (!decide (b < a) && lx X Y)) := lex_cons (O := itemOrd) (.inl a) (.inl b) X Y
theorem alike_ints : ∀ (xs ys : List Int), xs.length = ys.length → PySem.W.alikeAll (xs.map .int) (ys.map .int) = true
  | [], [], _ => rfl
  | x :: xs, y :: ys, h => by
    simp only [List.map_cons, PySem.W.alikeAll]
    rw [alike_ints xs ys (by simpa using h)]
    rfl
  | [], _ :: _, h => by simp at h
  | _ :: _, [], h => by simp at h
end L2.Lv.Sh
namespace L2.Lv.Sh
open PySem PySem.Spec PyProof.Rows L2 L2.Lv
/-! slices -/
theorem cutD_drop (xs : List PyData) (k : Nat) (h : k ≤ xs.length) : cutD xs (some (k : Int)) none = xs.drop k := by
  unfold cutD
  rw [HT.sIx_none, HT.sIx_nat, Nat.min_eq_left h, ← List.length_drop, List.take_length]
/-! the list by hand -/
def ins (r : Rw) (p : Nat × Th) (L : List (Nat × Th)) : List (Nat × Th) := L.takeWhile (fun q => decide (wrd r q.2 p.2 < 1)) ++ p :: L.dropWhile (fun q => decide (wrd r q.2 p.2 < 1))
end L2.Lv.Sh
namespace L2.Lv.Sh
open PySem PySem.Spec PyProof.Rows L2 L2.Lv
/-! runs -/
def rStep (r : Rw) (acc : List (List Th)) (t : Th) : List (List Th) := match acc.getLast? with
  | none => acc ++ [[t]]
  | some l => match l.getLast? with
    | none => acc ++ [[t]]
    | some u => if wrd r u t < 1 then acc.dropLast ++ [l ++ [t]] else acc ++ [[t]]
theorem rStep_nil (r : Rw) (t : Th) : rStep r [] t = [[t]] := rfl
theorem rStep_app (r : Rw) (A : List (List Th)) (B : List Th) (u t : Th) : rStep r (A ++ [B ++ [u]]) t = if wrd r u t < 1 then A ++ [B ++ [u] ++ [t]] else A ++ [B ++ [u]] ++ [[t]] := by
  unfold rStep
  simp
theorem ixN_last (k : Nat) : ixN (k + 1) (-1) = some k := by
  unfold ixN
  simp
  try omega
/-- what holds of the list so far -/
def rInv (acc : List (List Th)) (k : Nat) : Prop := acc.length + k ≤ 1000 ∧ ∀ l ∈ acc, l ≠ [] ∧ l.length + k ≤ 1000
theorem rInv.step {r : Rw} {acc : List (List Th)} {k : Nat} {t : Th} (h : rInv acc (k + 1)) : rInv (rStep r acc t) k := by
  obtain ⟨h1, h2⟩ := h
  rcases List.eq_nil_or_concat acc with rfl | ⟨A, l, rfl⟩
  · rw [rStep_nil]; exact ⟨by simp at h1 ⊢; omega, fun l hl => by simp at hl; subst hl; exact ⟨by simp, by simp at h1 ⊢; omega⟩⟩
  · obtain ⟨n1, n2⟩ := h2 l (by simp)
    rcases List.eq_nil_or_concat l with rfl | ⟨B, u, rfl⟩
    · exact absurd rfl n1
    · simp only [List.concat_eq_append] at *
      rw [rStep_app]
      split
      · refine ⟨by simp at h1 ⊢; omega, fun l hl => ?_⟩
        rcases List.mem_append.mp hl with hl | hl
        · obtain ⟨m1, m2⟩ := h2 l (List.mem_append_left _ hl); exact ⟨m1, by omega⟩
        · simp at hl; subst hl; exact ⟨by simp, by simp at n2 ⊢; omega⟩
      · refine ⟨by simp at h1 ⊢; omega, fun l hl => ?_⟩
        rcases List.mem_append.mp hl with hl | hl
        · obtain ⟨m1, m2⟩ := h2 l hl; exact ⟨m1, by omega⟩
        · simp at hl; subst hl; exact ⟨by simp, by simp at h1 ⊢; omega⟩
/-! crossings -/
end L2.Lv.Sh
namespace L2.Lv.Sh
open PySem PySem.Spec PyProof.Rows L2 L2.Lv
/-! in order -/
theorem cutD_tail (xs : List PyData) : cutD xs (some 1) none = xs.tail := by
  cases xs with
  | nil => rfl
  | cons x xs =>
    have := cutD_drop (x :: xs) 1 (by simp)
    simpa using this
def prs : List Th → List (Th × Th)
  | t :: u :: ts => (t, u) :: prs (u :: ts)
  | _ => []
theorem boolsOf_map {α : Type} (f : α → Bool) : ∀ l : List α, boolsOf (l.map fun x => .bool (f x)) = some (l.map f)
  | [] => rfl
  | x :: l => by
    show (boolsOf (l.map fun x => PyData.bool (f x))).map _ = _
    rw [boolsOf_map f l]; rfl
theorem gAll_map {α : Type} (f : α → Bool) (l : List α) : gAll [.list (l.map fun x => .bool (f x))] = some (.d (.bool (l.all f))) := by
  simp only [gAll, boolsOf_map, Option.map_some]
  congr 3
  rw [List.all_map]; rfl
end L2.Lv.Sh
namespace L2.Lv.Sh
open PySem PySem.Spec PyProof.Rows L2 L2.Lv
/-! places in a list in order -/
theorem wrd_lt0 {r : Rw} {a b t : Th} (h1 : wrd r a b < 1) (h2 : wrd r b t < 0) : wrd r a t < 0 := by
  have q := wrd_trans r t a b
  have a1 := wrd_anti r a t
  have a2 := wrd_anti r b t
  by_cases h : wrd r a t < 0
  · exact h
  · have := q (by omega) h1; omega
end L2.Lv.Sh
namespace L2.Lv.Sh
open PySem PySem.Spec PyProof.Rows L2 L2.Lv
/-! groups -/
def gStep (r : Rw) (acc : List (List Th)) (t : Th) : List (List Th) := match acc.getLast? with
  | none => acc ++ [[t]]
  | some l => match l.head? with
    | none => acc ++ [[t]]
    | some u => if wrd r u t = 0 then acc.dropLast ++ [l ++ [t]] else acc ++ [[t]]
theorem gStep_nil (r : Rw) (t : Th) : gStep r [] t = [[t]] := rfl
theorem gStep_app (r : Rw) (A : List (List Th)) (u : Th) (B : List Th) (t : Th) : gStep r (A ++ [u :: B]) t = if wrd r u t = 0 then A ++ [u :: (B ++ [t])] else A ++ [u :: B] ++ [[t]] := by
  unfold gStep
  simp
/-- what holds of the list so far -/
def gInv (acc : List (List Th)) (k : Nat) : Prop := acc.flatten.length + k ≤ 1000 ∧ ∀ l ∈ acc, l ≠ []
theorem gInv.len {acc : List (List Th)} {k : Nat} (h : gInv acc k) : acc.length + k ≤ 1000 := by
  obtain ⟨h1, h2⟩ := h
  have key : acc.length ≤ acc.flatten.length := by
    clear h1
    induction acc with
    | nil => exact Nat.le_refl _
    | cons l acc ih =>
      have := ih fun z hz => h2 z (List.mem_cons_of_mem _ hz)
      have h3 := List.length_pos_iff.mpr (h2 l (List.mem_cons_self ..))
      simp at this ⊢; omega
  omega
theorem gInv.at {acc : List (List Th)} {k : Nat} (h : gInv acc k) {l : List Th} (hl : l ∈ acc) : l.length + k ≤ 1000 := by
  have h1 := h.1
  have : l.length ≤ acc.flatten.length := by
    obtain ⟨A, B, rfl⟩ := List.append_of_mem hl
    simp; omega
  omega
theorem gStep_flat (r : Rw) (acc : List (List Th)) (t : Th) (h : ∀ l ∈ acc, l ≠ []) : (gStep r acc t).flatten = acc.flatten ++ [t] ∧ ∀ l ∈ gStep r acc t, l ≠ [] := by
  rcases List.eq_nil_or_concat acc with rfl | ⟨A, l, rfl⟩
  · exact ⟨rfl, fun l hl => by rw [gStep_nil] at hl; simp at hl; subst hl; simp⟩
  · simp only [List.concat_eq_append] at *
    cases l with
    | nil => exact absurd rfl (h [] (by simp))
    | cons u B =>
      rw [gStep_app]
      split
      · refine ⟨by simp, fun l hl => ?_⟩
        rcases List.mem_append.mp hl with hl | hl
        · exact h l (List.mem_append_left _ hl)
        · simp at hl; subst hl; simp
      · refine ⟨by simp, fun l hl => ?_⟩
        rcases List.mem_append.mp hl with hl | hl
        · exact h l hl
        · simp at hl; subst hl; simp
theorem gInv.step {r : Rw} {acc : List (List Th)} {k : Nat} {t : Th} (h : gInv acc (k + 1)) : gInv (gStep r acc t) k := by
  obtain ⟨h1, h2⟩ := h
  obtain ⟨f1, f2⟩ := gStep_flat r acc t h2
  exact ⟨by rw [f1]; simp at h1 ⊢; omega, f2⟩
/-! the best -/
/-! lists told -/
end L2.Lv.Sh
namespace L2.Lv.Sh
open PySem PySem.Spec PyProof.Rows L2 L2.Lv
end L2.Lv.Sh
namespace L2.Lv.Sh
open PySem PySem.Spec PyProof.Rows L2 L2.Lv
/-! the one list in order, by its classes -/
def eqv (r : Rw) (x : Th) (l : List Th) : List Th := l.filter fun y => wrd r x y == 0
def srted (r : Rw) (l : List Th) : Prop := l.Pairwise fun s t => wrd r s t < 1
/-- l is ts put in order, what is alike left as it stood -/
def Is (r : Rw) (l ts : List Th) : Prop := srted r l ∧ ∀ x, eqv r x l = eqv r x ts
/-! two lists led together -/
end L2.Lv.Sh
namespace L2.Lv.Sh
open PySem PySem.Spec PyProof.Rows L2 L2.Lv
/-! loops whose state is known -/
theorem sSeq_nx {g h : Fs} {ρ ρ' : List W} {n n' : Nat} (e : g ρ n = some (.nx ρ' n')) : sSeq g h ρ n = h ρ' n' := by rw [sSeq_ap, e]; rfl
theorem rng2_any {i j : Int} (h : 0 ≤ i) (h0 : i < 1000000) (h1 : 0 ≤ j) (h2 : j < 1000000) : rng2 (.int i) (.int j) = some (rangeD i (j - i).toNat) := by
  show (if _ then _ else _) = _
  rw [if_pos (by omega)]
theorem loopF_same {α : Type} {g : Fg} {body : Fs} {ρ : List W} {n : Nat} (enc : α → PyData) : ∀ (xs : List α), (∀ x ∈ xs, ∃ ρ1, g (enc x) ρ = some ρ1 ∧ body ρ1 n = some (.nx ρ n)) → loopF g body (xs.map enc) ρ n = some (.nx ρ n)
  | [], _ => rfl
  | x :: xs, h => by
    obtain ⟨ρ1, e1, e2⟩ := h x (List.mem_cons_self ..)
    rw [List.map_cons, loopF_cons]
    simp -implicitDefEqProofs only [eVar_ap, dVar_ap, eC_ap, dOf_ap, eFrz_ap, eBin_ap, bTest_ap, bTru_ap, bAnd_ap, bOr_ap, bNot_ap, eIf_ap, eB_ap, eAnd_ap, eOr_ap, aNil_ap, aCons_ap, sNil_ap, sCons_ap, eTup_ap, eLst_ap, eCall_ap, eApp_ap, oNone_ap, oSome_ap, eSl_ap, sNil'_ap, sSeq_ap, sBrk_ap, sRet_ap, sRetN_ap, sRetO_ap, sDrop_ap, sIf_ap, sSet_ap, sApp_ap, sTown_ap, sExt_ap, sIns_ap, sSetIx_ap, sAsg_ap, sPar_ap, iOf_ap, iVal_ap, iRng1_ap, iRng2_ap, sFor_ap, eComp_ap, bYes_ap, frzAt_ap, eUn_ap, eNotD_ap, eOrD_ap, eChain_ap, eListRg1_ap, eIsa_ap, eMt_ap, iEnumV_ap, iEnumF_ap, iZipV_ap, iZipF_ap, eTLen_ap, iRng3D_ap, sEnd_ap, eSs_ap, sPar3_ap, xPop_ap, xTup1_ap, xCat_ap, sSetX_ap, sAppX_ap, sParO_ap, sForEI_ap, sForK_ap, eRep_ap, eDicK_ap, eDicT_ap, sPut_ap, eAlt_ap, sTry_ap, eGetD_ap, eLockI_ap, iKeyF_ap, runB_ap, gOne_ap, gMany_ap, dI_ap, yesC_ap, dCmp_int, setD, kill_nx, kill_rt, kill_bk, Option.bind_some, Option.map_some, Option.bind_none, Option.map_none, List.getElem?_cons_zero, List.getElem?_cons_succ, List.set_cons_zero, List.set_cons_succ, List.cons_append, List.nil_append, List.append_nil, List.replicate, List.length_cons, List.length_nil, Nat.reduceAdd, Nat.reduceSub, Nat.zero_add, wdat_no, wdat_d, wdat_town, wdat_ol, wdat_od, wfrz_no, wfrz_d, wfrz_town, wfrz_ol, wfrz_od, wval_no, wval_d, wval_town, wval_ol, wval_od, warg_no, warg_d, warg_town, warg_ol, warg_od, vals, gLen, gAbs, gMax2, gMin2, gInt, gTup, gList, wipeW, if_true, if_false, Bool.false_eq_true, Bool.not_true, Bool.not_false, reduceCtorEq, e1, e2, loopF_same enc xs fun z hz => h z (List.mem_cons_of_mem _ hz)]
/-- the turns of a law -/
theorem loop_law {g : Fg} {body : Fs} {ρ : List W} (c : Nat) (h : ∀ (x : PyData) (n : Nat), n + c ≤ big → ∃ ρ1 n', g x ρ = some ρ1 ∧ body ρ1 n = some (.nx ρ n') ∧ n ≤ n' ∧ n' ≤ n + c) :
    ∀ (xs : List PyData) (n : Nat), n + c * xs.length ≤ big → ∃ n', loopF g body xs ρ n = some (.nx ρ n') ∧ n ≤ n' ∧ n' ≤ n + c * xs.length
  | [], n, _ => ⟨n, rfl, Nat.le_refl _, Nat.le_add_right _ _⟩
  | x :: xs, n, hn => by
    rw [List.length_cons, Nat.mul_succ] at hn
    obtain ⟨ρ1, n1, e1, e2, l1, l2⟩ := h x n (by omega)
    obtain ⟨n2, e3, l3, l4⟩ := loop_law c h xs n1 (by omega)
    refine ⟨n2, ?_, by omega, by rw [List.length_cons, Nat.mul_succ]; omega⟩
    rw [loopF_cons]
    simp -implicitDefEqProofs only [eVar_ap, dVar_ap, eC_ap, dOf_ap, eFrz_ap, eBin_ap, bTest_ap, bTru_ap, bAnd_ap, bOr_ap, bNot_ap, eIf_ap, eB_ap, eAnd_ap, eOr_ap, aNil_ap, aCons_ap, sNil_ap, sCons_ap, eTup_ap, eLst_ap, eCall_ap, eApp_ap, oNone_ap, oSome_ap, eSl_ap, sNil'_ap, sSeq_ap, sBrk_ap, sRet_ap, sRetN_ap, sRetO_ap, sDrop_ap, sIf_ap, sSet_ap, sApp_ap, sTown_ap, sExt_ap, sIns_ap, sSetIx_ap, sAsg_ap, sPar_ap, iOf_ap, iVal_ap, iRng1_ap, iRng2_ap, sFor_ap, eComp_ap, bYes_ap, frzAt_ap, eUn_ap, eNotD_ap, eOrD_ap, eChain_ap, eListRg1_ap, eIsa_ap, eMt_ap, iEnumV_ap, iEnumF_ap, iZipV_ap, iZipF_ap, eTLen_ap, iRng3D_ap, sEnd_ap, eSs_ap, sPar3_ap, xPop_ap, xTup1_ap, xCat_ap, sSetX_ap, sAppX_ap, sParO_ap, sForEI_ap, sForK_ap, eRep_ap, eDicK_ap, eDicT_ap, sPut_ap, eAlt_ap, sTry_ap, eGetD_ap, eLockI_ap, iKeyF_ap, runB_ap, gOne_ap, gMany_ap, dI_ap, yesC_ap, dCmp_int, setD, kill_nx, kill_rt, kill_bk, Option.bind_some, Option.map_some, Option.bind_none, Option.map_none, List.getElem?_cons_zero, List.getElem?_cons_succ, List.set_cons_zero, List.set_cons_succ, List.cons_append, List.nil_append, List.append_nil, List.replicate, List.length_cons, List.length_nil, Nat.reduceAdd, Nat.reduceSub, Nat.zero_add, wdat_no, wdat_d, wdat_town, wdat_ol, wdat_od, wfrz_no, wfrz_d, wfrz_town, wfrz_ol, wfrz_od, wval_no, wval_d, wval_town, wval_ol, wval_od, warg_no, warg_d, warg_town, warg_ol, warg_od, vals, gLen, gAbs, gMax2, gMin2, gInt, gTup, gList, wipeW, if_true, if_false, Bool.false_eq_true, Bool.not_true, Bool.not_false, reduceCtorEq, e1, e2, e3]
theorem rangeD_map (n : Nat) : rangeD 0 n = (List.range n).map fun (i : Nat) => PyData.int (i : Int) := by
  unfold rangeD
  exact List.map_congr_left fun i _ => by rw [Int.zero_add]
/-! merged -/
theorem ix0 (x : PyData) (xs : List PyData) : dIx (.tuple (x :: xs)) (.int 0) = some (.d x) := i0 x xs
theorem dTru_bool (b : Bool) : dTru (.bool b) = some b := rfl
end L2.Lv.Sh
namespace L2.Lv.Sh
open PySem PySem.Spec PyProof.Rows L2 L2.Lv
/-! lists led together two and two -/
end L2.Lv.Sh
namespace L2.Lv.Sh
open PySem PySem.Spec PyProof.Rows L2 L2.Lv L2.Lv.Sh
/-! what the runs are -/
/-! by hand -/
end L2.Lv.Sh
namespace L2.Lv.Sh
open PySem PySem.Spec PyProof.Rows L2 L2.Lv
/-! what rows tell, put together -/
theorem wrd_le_lt {r : Rw} {a b c : Th} (h1 : wrd r a b < 1) (h2 : wrd r b c < 0) : wrd r a c < 0 := wrd_lt0 h1 h2
theorem wrd_lt_le {r : Rw} {a b c : Th} (h1 : wrd r a b < 0) (h2 : wrd r b c < 1) : wrd r a c < 0 := by
  have a1 := wrd_anti r a b
  have a2 := wrd_anti r b c
  have a3 := wrd_anti r a c
  have t := wrd_trans r b c a h2
  by_cases h : wrd r a c < 0
  · exact h
  · have := t (by omega)
    omega
theorem wrd_eq_trans {r : Rw} {a b c : Th} (h1 : wrd r a b = 0) (h2 : wrd r b c = 0) : wrd r a c = 0 := by
  have a1 := wrd_anti r a b
  have a2 := wrd_anti r b c
  have a3 := wrd_anti r a c
  have t1 := wrd_trans r a b c (by omega) (by omega)
  have t2 := wrd_trans r c b a (by omega) (by omega)
  omega
theorem wrd_sym {r : Rw} {a b : Th} (h : wrd r a b = 0) : wrd r b a = 0 := by have := wrd_anti r a b; omega
/-! groups -/
structure IsG (r : Rw) (G : List (List Th)) : Prop where
  eq : ∀ g ∈ G, ∀ a ∈ g, ∀ b ∈ g, wrd r a b = 0
  lt : G.Pairwise fun g h => ∀ a ∈ g, ∀ b ∈ h, wrd r a b < 0
  ne : ∀ g ∈ G, g ≠ []
theorem IsG.step {r : Rw} {acc : List (List Th)} {t : Th} (h : IsG r acc) (ht : ∀ a ∈ acc.flatten, wrd r a t < 1) : IsG r (gStep r acc t) := by
  rcases List.eq_nil_or_concat acc with rfl | ⟨A, l, rfl⟩
  · rw [gStep_nil]
    refine ⟨fun g hg a ha b hb => ?_, List.pairwise_singleton _ _, by simp⟩
    simp only [List.mem_singleton] at hg
    subst hg
    simp only [List.mem_singleton] at ha hb
    rw [ha, hb, wrd_refl]
  · simp only [List.concat_eq_append] at *
    cases l with
    | nil => exact absurd rfl (h.ne [] (by simp))
    | cons u B =>
      rw [gStep_app]
      have hu : wrd r u t < 1 := ht u (by simp)
      have hl := List.pairwise_append.mp h.lt
      have heq : ∀ a ∈ u :: B, wrd r a u = 0 := fun a ha => h.eq (u :: B) (by simp) a ha u (by simp)
      split
      · rename_i c
        have hat : ∀ a ∈ u :: B, wrd r a t = 0 := fun a ha => wrd_eq_trans (heq a ha) c
        refine ⟨fun g hg a ha b hb => ?_, List.pairwise_append.mpr ⟨hl.1, List.pairwise_singleton _ _, fun g hg k hk a ha b hb => ?_⟩, fun g hg => ?_⟩
        · rcases List.mem_append.mp hg with hg | hg
          · exact h.eq g (List.mem_append_left _ hg) a ha b hb
          · simp only [List.mem_singleton] at hg
            subst hg
            have ha : a ∈ (u :: B) ++ [t] := ha
            have hb : b ∈ (u :: B) ++ [t] := hb
            rcases List.mem_append.mp ha with ha | ha <;> rcases List.mem_append.mp hb with hb | hb
            · exact h.eq (u :: B) (by simp) a ha b hb
            · rw [List.mem_singleton.mp hb]; exact hat a ha
            · rw [List.mem_singleton.mp ha]; exact wrd_sym (hat b hb)
            · rw [List.mem_singleton.mp ha, List.mem_singleton.mp hb]; exact wrd_refl _ _
        · simp only [List.mem_singleton] at hk
          subst hk
          have hb : b ∈ (u :: B) ++ [t] := hb
          rcases List.mem_append.mp hb with hb | hb
          · exact hl.2.2 g hg (u :: B) (by simp) a ha b hb
          · simp only [List.mem_singleton] at hb; subst hb
            exact wrd_lt_le (hl.2.2 g hg (u :: B) (by simp) a ha u (by simp)) hu
        · rcases List.mem_append.mp hg with hg | hg
          · exact h.ne g (List.mem_append_left _ hg)
          · simp only [List.mem_singleton] at hg; subst hg; simp
      · rename_i c
        have hut : wrd r u t < 0 := by omega
        have hat : ∀ a ∈ u :: B, wrd r a t < 0 := fun a ha => wrd_le_lt (by have := heq a ha; omega) hut
        refine ⟨fun g hg a ha b hb => ?_, List.pairwise_append.mpr ⟨h.lt, List.pairwise_singleton _ _, fun g hg k hk a ha b hb => ?_⟩, fun g hg => ?_⟩
        · rcases List.mem_append.mp hg with hg | hg
          · exact h.eq g hg a ha b hb
          · simp only [List.mem_singleton] at hg; subst hg
            simp only [List.mem_singleton] at ha hb; subst ha hb; exact wrd_refl _ _
        · simp only [List.mem_singleton] at hk; subst hk
          simp only [List.mem_singleton] at hb; subst hb
          rcases List.mem_append.mp hg with hg | hg
          · exact wrd_lt_le (hl.2.2 g hg (u :: B) (by simp) a ha u (by simp)) hu
          · simp only [List.mem_singleton] at hg; subst hg; exact hat a ha
        · rcases List.mem_append.mp hg with hg | hg
          · exact h.ne g hg
          · simp only [List.mem_singleton] at hg; subst hg; simp
theorem IsG.tail {r : Rw} {g : List Th} {G : List (List Th)} (h : IsG r (g :: G)) : IsG r G := ⟨fun k hk => h.eq k (List.mem_cons_of_mem _ hk), (List.pairwise_cons.mp h.lt).2, fun k hk => h.ne k (List.mem_cons_of_mem _ hk)⟩
theorem IsG.srt {r : Rw} : ∀ {G : List (List Th)}, IsG r G → srted r G.flatten
  | [], _ => List.Pairwise.nil
  | g :: G, h => by
    rw [List.flatten_cons]
    refine List.pairwise_append.mpr ⟨?_, h.tail.srt, fun a ha b hb => ?_⟩
    · rw [List.pairwise_iff_getElem]
      intro i j hi hj _
      have := h.eq g (by simp) g[i] (List.getElem_mem _) g[j] (List.getElem_mem _)
      omega
    · obtain ⟨m, h1, h2⟩ := List.mem_flatten.mp hb
      have := (List.pairwise_cons.mp h.lt).1 m h1 a ha b h2
      omega
/-! crossings, pairs not told apart -/
def tri : Nat → Nat
  | 0 => 0
  | n + 1 => tri n + n
theorem tri_two (n : Nat) : tri n * 2 = n * (n - 1) := by
  induction n with
  | zero => rfl
  | succ n ih =>
    rw [tri, Nat.add_mul, ih, Nat.add_sub_cancel]
    cases n with
    | zero => rfl
    | succ n =>
      rw [Nat.add_sub_cancel, ← Nat.mul_add, Nat.mul_comm]
theorem tri_int (n : Nat) : ((n : Int) * ((n : Int) - 1)) / 2 = (tri n : Nat) := by
  have h := tri_two n
  have e : (n : Int) * ((n : Int) - 1) = ((n * (n - 1) : Nat) : Int) := by
    cases n with
    | zero => rfl
    | succ n =>
      rw [Nat.add_sub_cancel, Int.natCast_mul]
      congr 1
      omega
  rw [e, ← h]
  omega
/-! the best -/
/-! lists told go on -/
/-! places -/
end L2.Lv.Sh
namespace L2.Lv.Sh
open PySem PySem.Spec PyProof.Rows L2 L2.Lv
/-! plain data is like itself -/
mutual
theorem nc_self : ∀ (k : Nat) (x : PyData), nc k x = true → x.canLay0 = true ∧ x.depth ≤ k ∧ PyData.eqv x x = true
  | 0, _, h => by simp [nc] at h
  | k + 1, .none, _ => by simp [PyData.canLay0, PyData.depth, PyData.eqv]
  | k + 1, .bool b, _ => by simp [PyData.canLay0, PyData.depth, PyData.eqv]
  | k + 1, .int i, _ => by simp [PyData.canLay0, PyData.depth, PyData.eqv]
  | k + 1, .str s, h => by
    have h : shp (.str s) = true := h
    have := SeqAt.canLay_of_shaped h
    refine ⟨this, by simp [PyData.depth], by simp [PyData.eqv]⟩
  | k + 1, .tuple xs, h => by
    simp [nc] at h
    obtain ⟨h1, h2, h3⟩ := nc_selfAll k xs h.2
    exact ⟨by simpa [PyData.canLay0] using h1, by simp [PyData.depth]; omega, by simpa [PyData.eqv] using h3⟩
  | k + 1, .list _, h => by simp [nc] at h
  | k + 1, .dict _, h => by simp [nc] at h
theorem nc_selfAll : ∀ (k : Nat) (xs : List PyData), (∀ x ∈ xs, nc k x = true) → PyData.canLayAll0 xs = true ∧ PyData.depthAll xs ≤ k ∧ PyData.eqvAll xs xs = true
  | _, [], _ => by simp [PyData.canLayAll0, PyData.depthAll, PyData.eqvAll]
  | k, x :: xs, h => by
    obtain ⟨a1, a2, a3⟩ := nc_self k x (h x (List.mem_cons_self ..))
    obtain ⟨b1, b2, b3⟩ := nc_selfAll k xs fun z hz => h z (List.mem_cons_of_mem _ hz)
    refine ⟨by simp [PyData.canLayAll0, a1, b1], by simp [PyData.depthAll]; omega, by simp [PyData.eqvAll, a3, b3]⟩
end
theorem nc_shp {k : Nat} {x : PyData} (h : nc k x = true) (hk : k ≤ 60) : shp x = true := by
  obtain ⟨h1, h2, _⟩ := nc_self k x h
  simp only [shp, SeqAt.shaped, h1, Bool.true_and, decide_eq_true_eq]
  omega
theorem dNe_self {k : Nat} {x : PyData} (h : nc k x = true) (hk : k ≤ 60) : dNe x x = some (.d (.bool false)) := by
  rw [dNe, nc_shp h hk, (nc_self k x h).2.2]; rfl
/-- .. lists of plain data -/
theorem ls_shp {k : Nat} {xs : List PyData} (h : ∀ x ∈ xs, nc k x = true) (hk : k ≤ 60) : shp (.list xs) = true ∧ PyData.eqv (.list xs) (.list xs) = true := by
  obtain ⟨h1, h2, h3⟩ := nc_selfAll k xs h
  constructor
  · have e : (PyData.list xs).depth = PyData.depthAll xs + 1 := by simp [PyData.depth]
    have e2 : (PyData.list xs).canLay0 = true := by simpa [PyData.canLay0] using h1
    simp only [shp, SeqAt.shaped, e2, Bool.true_and, decide_eq_true_eq]
    omega
  · simpa [PyData.eqv] using h3
theorem dNe_ls {k : Nat} {xs : List PyData} (h : ∀ x ∈ xs, nc k x = true) (hk : k ≤ 60) : dNe (.list xs) (.list xs) = some (.d (.bool false)) := by
  rw [dNe, (ls_shp h hk).1, (ls_shp h hk).2]; rfl
/-! a tuple the other way round -/
end L2.Lv.Sh
namespace L2.Lv.Sh
open PySem PySem.Spec PyProof.Rows L2 L2.Lv
/-! orders put in one another -/
inductive Kd where
  | as | many | first | last
  deriving DecidableEq
abbrev kAs : Str := "as"
abbrev kMany : Str := "many"
abbrev kFirst : Str := "first"
abbrev kLast : Str := "last"
def Kd.s : Kd → Str
  | as => kAs
  | many => kMany
  | first => kFirst
  | last => kLast
theorem shp_as : shp (.str kAs) = true := by decide +kernel
theorem shp_many : shp (.str kMany) = true := by decide +kernel
theorem shp_first : shp (.str kFirst) = true := by decide +kernel
theorem shp_last : shp (.str kLast) = true := by decide +kernel
theorem Kd.shp (k : Kd) : L2.Lv.shp (.str k.s) = true := by
  cases k
  · exact shp_as
  · exact shp_many
  · exact shp_first
  · exact shp_last
/-! put in by kind -/
end L2.Lv.Sh
namespace L2.Lv.Sh
open PySem PySem.Spec PyProof.Rows L2 L2.Lv
/-! many lists led together -/
end L2.Lv.Sh
namespace L2.Lv.Sh
open PySem PySem.Spec PyProof.Rows L2 L2.Lv
/-! fronts -/
/-- one beats the other -/
def btT (R : List Rw) (a b : Th) : Bool := R.any (fun r => wrd r a b == -1) && R.all (fun r => !(wrd r a b == 1))
/-- the ones that none beats -/
def nb (R : List Rw) (L : List (Nat × Th)) (p : Nat × Th) : Bool := !(L.any fun o => btT R o.2 p.2)
theorem gAny_map {α : Type} (f : α → Bool) (l : List α) : gAnyX [.list (l.map fun x => .bool (f x))] = some (.d (.bool (l.any f))) := by
  simp only [gAnyX, gAny, boolsOf_map, Option.map_some, Option.some_or]
  rw [List.any_map]; rfl
end L2.Lv.Sh
namespace L2.Lv.Sh
open PySem PySem.Spec PyProof.Rows L2 L2.Lv
def drawH (c1 c2 c3 c4 c5 c6 c7 : Int) : Fs :=
    (sSeq (sTown 1)
    (sSeq (sEnd [1] (sSet 3 (eTLen 1)))
    (sSeq (sSet 4 (eC (.int 0)))
    (sSeq (sEnd [0] (sIf (bTru (dVar 0))
    (sEnd [0] (sSet 4 (eBin dIx (dVar 0) (dOf (eBin dMod (dVar 3) (dOf (eApp gLen (sCons (dVar 0) sNil))))))))
    sNil'))
    (sSeq (sEnd [3, 4] (sSet 5 (eBin dMod (dOf (eBin dAdd (dVar 4) (dOf (eBin dMul (dOf (eC (.int c1))) (dVar 3))))) (dOf (eC (.int c2))))))
    (sSeq (sSet 5 (eBin dMod (dOf (eBin dMul (dOf (eBin dMod (dOf (eBin dMul (dVar 5) (dVar 5))) (dOf (eC (.int c3))))) (dOf (eC (.int c4))))) (dOf (eC (.int c2)))))
    (sSeq (sSet 6 (eBin dMod (dOf (eBin dMul (dOf (eBin dMod (dOf (eBin dMul (dVar 5) (dVar 5))) (dOf (eC (.int c3))))) (dOf (eC (.int c5))))) (dOf (eC (.int c2)))))
    (sRet (eBin dMod (dOf (eBin dAdd (dOf (eBin dMul (dOf (eBin dDiv (dVar 5) (dOf (eC (.int c6))))) (dOf (eC (.int c7))))) (dOf (eBin dDiv (dVar 6) (dOf (eC (.int c6))))))) (dVar 2))))))))))
theorem drawH_ok (c1 c2 c3 c4 c5 c6 c7 : Int) (h1 : ∀ k : Int, mulC c1 k = true) (h2 : ∀ k : Int, mulC (k % c2) (k % c2) = true) (h3 : ∀ k : Int, mulC (k % c3) c4 = true) (h3' : ∀ k : Int, mulC (k % c3) c5 = true) (h4 : ∀ k : Int, modC k c2 = true) (h5 : ∀ k : Int, modC k c3 = true) (h6 : ∀ k : Int, divC k c6 = true) (h9 : ∀ k : Int, mulC (k % c2 / c6) c7 = true)
    (ns : List Int) (n : Nat) (hn : n < big) (many : Int) (hm : 0 < many) : ∃ r : Int, 0 ≤ r ∧ r < many ∧ runB 7 (drawH c1 c2 c3 c4 c5 c6 c7) [Sc ns, .town, I' many] n = some (I' r, n + 1) := by
  have h7 : ∀ k : Int, modC k many = true := fun k => modC_ok hm
  unfold drawH
  cases ns with
  | nil =>
    simp -implicitDefEqProofs only [eVar_ap, dVar_ap, eC_ap, dOf_ap, eFrz_ap, eBin_ap, bTest_ap, bTru_ap, bAnd_ap, bOr_ap, bNot_ap, eIf_ap, eB_ap, eAnd_ap, eOr_ap, aNil_ap, aCons_ap, sNil_ap, sCons_ap, eTup_ap, eLst_ap, eCall_ap, eApp_ap, oNone_ap, oSome_ap, eSl_ap, sNil'_ap, sSeq_ap, sBrk_ap, sRet_ap, sRetN_ap, sRetO_ap, sDrop_ap, sIf_ap, sSet_ap, sApp_ap, sTown_ap, sExt_ap, sIns_ap, sSetIx_ap, sAsg_ap, sPar_ap, iOf_ap, iVal_ap, iRng1_ap, iRng2_ap, sFor_ap, eComp_ap, bYes_ap, frzAt_ap, eUn_ap, eNotD_ap, eOrD_ap, eChain_ap, eListRg1_ap, eIsa_ap, eMt_ap, iEnumV_ap, iEnumF_ap, iZipV_ap, iZipF_ap, eTLen_ap, iRng3D_ap, sEnd_ap, eSs_ap, sPar3_ap, xPop_ap, xTup1_ap, xCat_ap, sSetX_ap, sAppX_ap, sParO_ap, sForEI_ap, sForK_ap, eRep_ap, eDicK_ap, eDicT_ap, sPut_ap, eAlt_ap, sTry_ap, eGetD_ap, eLockI_ap, iKeyF_ap, runB_ap, gOne_ap, gMany_ap, dI_ap, yesC_ap, dCmp_int, setD, kill_nx, kill_rt, kill_bk, Option.bind_some, Option.map_some, Option.bind_none, Option.map_none, List.getElem?_cons_zero, List.getElem?_cons_succ, List.set_cons_zero, List.set_cons_succ, List.cons_append, List.nil_append, List.append_nil, List.replicate, List.length_cons, List.length_nil, Nat.reduceAdd, Nat.reduceSub, Nat.zero_add, wdat_no, wdat_d, wdat_town, wdat_ol, wdat_od, wfrz_no, wfrz_d, wfrz_town, wfrz_ol, wfrz_od, wval_no, wval_d, wval_town, wval_ol, wval_od, warg_no, warg_d, warg_town, warg_ol, warg_od, vals, gLen, gAbs, gMax2, gMin2, gInt, gTup, gList, wipeW, if_true, if_false, Bool.false_eq_true, Bool.not_true, Bool.not_false, reduceCtorEq, Sc, I', List.map_nil]
    rw [if_pos hn]
    simp -implicitDefEqProofs only [eVar_ap, dVar_ap, eC_ap, dOf_ap, eFrz_ap, eBin_ap, bTest_ap, bTru_ap, bAnd_ap, bOr_ap, bNot_ap, eIf_ap, eB_ap, eAnd_ap, eOr_ap, aNil_ap, aCons_ap, sNil_ap, sCons_ap, eTup_ap, eLst_ap, eCall_ap, eApp_ap, oNone_ap, oSome_ap, eSl_ap, sNil'_ap, sSeq_ap, sBrk_ap, sRet_ap, sRetN_ap, sRetO_ap, sDrop_ap, sIf_ap, sSet_ap, sApp_ap, sTown_ap, sExt_ap, sIns_ap, sSetIx_ap, sAsg_ap, sPar_ap, iOf_ap, iVal_ap, iRng1_ap, iRng2_ap, sFor_ap, eComp_ap, bYes_ap, frzAt_ap, eUn_ap, eNotD_ap, eOrD_ap, eChain_ap, eListRg1_ap, eIsa_ap, eMt_ap, iEnumV_ap, iEnumF_ap, iZipV_ap, iZipF_ap, eTLen_ap, iRng3D_ap, sEnd_ap, eSs_ap, sPar3_ap, xPop_ap, xTup1_ap, xCat_ap, sSetX_ap, sAppX_ap, sParO_ap, sForEI_ap, sForK_ap, eRep_ap, eDicK_ap, eDicT_ap, sPut_ap, eAlt_ap, sTry_ap, eGetD_ap, eLockI_ap, iKeyF_ap, runB_ap, gOne_ap, gMany_ap, dI_ap, yesC_ap, dCmp_int, setD, kill_nx, kill_rt, kill_bk, Option.bind_some, Option.map_some, Option.bind_none, Option.map_none, List.getElem?_cons_zero, List.getElem?_cons_succ, List.set_cons_zero, List.set_cons_succ, List.cons_append, List.nil_append, List.append_nil, List.replicate, List.length_cons, List.length_nil, Nat.reduceAdd, Nat.reduceSub, Nat.zero_add, wdat_no, wdat_d, wdat_town, wdat_ol, wdat_od, wfrz_no, wfrz_d, wfrz_town, wfrz_ol, wfrz_od, wval_no, wval_d, wval_town, wval_ol, wval_od, warg_no, warg_d, warg_town, warg_ol, warg_od, vals, gLen, gAbs, gMax2, gMin2, gInt, gTup, gList, wipeW, if_true, if_false, Bool.false_eq_true, Bool.not_true, Bool.not_false, reduceCtorEq, dTru, List.isEmpty_nil]
    simp -implicitDefEqProofs only [eVar_ap, dVar_ap, eC_ap, dOf_ap, eFrz_ap, eBin_ap, bTest_ap, bTru_ap, bAnd_ap, bOr_ap, bNot_ap, eIf_ap, eB_ap, eAnd_ap, eOr_ap, aNil_ap, aCons_ap, sNil_ap, sCons_ap, eTup_ap, eLst_ap, eCall_ap, eApp_ap, oNone_ap, oSome_ap, eSl_ap, sNil'_ap, sSeq_ap, sBrk_ap, sRet_ap, sRetN_ap, sRetO_ap, sDrop_ap, sIf_ap, sSet_ap, sApp_ap, sTown_ap, sExt_ap, sIns_ap, sSetIx_ap, sAsg_ap, sPar_ap, iOf_ap, iVal_ap, iRng1_ap, iRng2_ap, sFor_ap, eComp_ap, bYes_ap, frzAt_ap, eUn_ap, eNotD_ap, eOrD_ap, eChain_ap, eListRg1_ap, eIsa_ap, eMt_ap, iEnumV_ap, iEnumF_ap, iZipV_ap, iZipF_ap, eTLen_ap, iRng3D_ap, sEnd_ap, eSs_ap, sPar3_ap, xPop_ap, xTup1_ap, xCat_ap, sSetX_ap, sAppX_ap, sParO_ap, sForEI_ap, sForK_ap, eRep_ap, eDicK_ap, eDicT_ap, sPut_ap, eAlt_ap, sTry_ap, eGetD_ap, eLockI_ap, iKeyF_ap, runB_ap, gOne_ap, gMany_ap, dI_ap, yesC_ap, dCmp_int, setD, kill_nx, kill_rt, kill_bk, Option.bind_some, Option.map_some, Option.bind_none, Option.map_none, List.getElem?_cons_zero, List.getElem?_cons_succ, List.set_cons_zero, List.set_cons_succ, List.cons_append, List.nil_append, List.append_nil, List.replicate, List.length_cons, List.length_nil, Nat.reduceAdd, Nat.reduceSub, Nat.zero_add, wdat_no, wdat_d, wdat_town, wdat_ol, wdat_od, wfrz_no, wfrz_d, wfrz_town, wfrz_ol, wfrz_od, wval_no, wval_d, wval_town, wval_ol, wval_od, warg_no, warg_d, warg_town, warg_ol, warg_od, vals, gLen, gAbs, gMax2, gMin2, gInt, gTup, gList, wipeW, if_true, if_false, Bool.false_eq_true, Bool.not_true, Bool.not_false, reduceCtorEq, dAdd, dMul, dMod, dDiv, h1, h2, h3, h3', h4, h5, h6, h7, h9]
    exact ⟨_, Int.emod_nonneg _ (by omega), Int.emod_lt_of_pos _ hm, rfl⟩
  | cons a ns =>
    simp -implicitDefEqProofs only [eVar_ap, dVar_ap, eC_ap, dOf_ap, eFrz_ap, eBin_ap, bTest_ap, bTru_ap, bAnd_ap, bOr_ap, bNot_ap, eIf_ap, eB_ap, eAnd_ap, eOr_ap, aNil_ap, aCons_ap, sNil_ap, sCons_ap, eTup_ap, eLst_ap, eCall_ap, eApp_ap, oNone_ap, oSome_ap, eSl_ap, sNil'_ap, sSeq_ap, sBrk_ap, sRet_ap, sRetN_ap, sRetO_ap, sDrop_ap, sIf_ap, sSet_ap, sApp_ap, sTown_ap, sExt_ap, sIns_ap, sSetIx_ap, sAsg_ap, sPar_ap, iOf_ap, iVal_ap, iRng1_ap, iRng2_ap, sFor_ap, eComp_ap, bYes_ap, frzAt_ap, eUn_ap, eNotD_ap, eOrD_ap, eChain_ap, eListRg1_ap, eIsa_ap, eMt_ap, iEnumV_ap, iEnumF_ap, iZipV_ap, iZipF_ap, eTLen_ap, iRng3D_ap, sEnd_ap, eSs_ap, sPar3_ap, xPop_ap, xTup1_ap, xCat_ap, sSetX_ap, sAppX_ap, sParO_ap, sForEI_ap, sForK_ap, eRep_ap, eDicK_ap, eDicT_ap, sPut_ap, eAlt_ap, sTry_ap, eGetD_ap, eLockI_ap, iKeyF_ap, runB_ap, gOne_ap, gMany_ap, dI_ap, yesC_ap, dCmp_int, setD, kill_nx, kill_rt, kill_bk, Option.bind_some, Option.map_some, Option.bind_none, Option.map_none, List.getElem?_cons_zero, List.getElem?_cons_succ, List.set_cons_zero, List.set_cons_succ, List.cons_append, List.nil_append, List.append_nil, List.replicate, List.length_cons, List.length_nil, Nat.reduceAdd, Nat.reduceSub, Nat.zero_add, wdat_no, wdat_d, wdat_town, wdat_ol, wdat_od, wfrz_no, wfrz_d, wfrz_town, wfrz_ol, wfrz_od, wval_no, wval_d, wval_town, wval_ol, wval_od, warg_no, warg_d, warg_town, warg_ol, warg_od, vals, gLen, gAbs, gMax2, gMin2, gInt, gTup, gList, wipeW, if_true, if_false, Bool.false_eq_true, Bool.not_true, Bool.not_false, reduceCtorEq, Sc, I', List.map_cons]
    rw [if_pos hn]
    simp -implicitDefEqProofs only [eVar_ap, dVar_ap, eC_ap, dOf_ap, eFrz_ap, eBin_ap, bTest_ap, bTru_ap, bAnd_ap, bOr_ap, bNot_ap, eIf_ap, eB_ap, eAnd_ap, eOr_ap, aNil_ap, aCons_ap, sNil_ap, sCons_ap, eTup_ap, eLst_ap, eCall_ap, eApp_ap, oNone_ap, oSome_ap, eSl_ap, sNil'_ap, sSeq_ap, sBrk_ap, sRet_ap, sRetN_ap, sRetO_ap, sDrop_ap, sIf_ap, sSet_ap, sApp_ap, sTown_ap, sExt_ap, sIns_ap, sSetIx_ap, sAsg_ap, sPar_ap, iOf_ap, iVal_ap, iRng1_ap, iRng2_ap, sFor_ap, eComp_ap, bYes_ap, frzAt_ap, eUn_ap, eNotD_ap, eOrD_ap, eChain_ap, eListRg1_ap, eIsa_ap, eMt_ap, iEnumV_ap, iEnumF_ap, iZipV_ap, iZipF_ap, eTLen_ap, iRng3D_ap, sEnd_ap, eSs_ap, sPar3_ap, xPop_ap, xTup1_ap, xCat_ap, sSetX_ap, sAppX_ap, sParO_ap, sForEI_ap, sForK_ap, eRep_ap, eDicK_ap, eDicT_ap, sPut_ap, eAlt_ap, sTry_ap, eGetD_ap, eLockI_ap, iKeyF_ap, runB_ap, gOne_ap, gMany_ap, dI_ap, yesC_ap, dCmp_int, setD, kill_nx, kill_rt, kill_bk, Option.bind_some, Option.map_some, Option.bind_none, Option.map_none, List.getElem?_cons_zero, List.getElem?_cons_succ, List.set_cons_zero, List.set_cons_succ, List.cons_append, List.nil_append, List.append_nil, List.replicate, List.length_cons, List.length_nil, Nat.reduceAdd, Nat.reduceSub, Nat.zero_add, wdat_no, wdat_d, wdat_town, wdat_ol, wdat_od, wfrz_no, wfrz_d, wfrz_town, wfrz_ol, wfrz_od, wval_no, wval_d, wval_town, wval_ol, wval_od, warg_no, warg_d, warg_town, warg_ol, warg_od, vals, gLen, gAbs, gMax2, gMin2, gInt, gTup, gList, wipeW, if_true, if_false, Bool.false_eq_true, Bool.not_true, Bool.not_false, reduceCtorEq, dTru, List.isEmpty_cons]
    have h8 : modC ((n + 1 : Nat) : Int) ((List.map PyData.int ns).length + 1 : Nat) = true := modC_ok (by omega)
    have h9' : ∃ c : Int, dIx (.list (PyData.int a :: List.map PyData.int ns)) (.int (((n + 1 : Nat) : Int) % ((List.map PyData.int ns).length + 1 : Nat))) = some (.d (.int c)) := by
      have e : PyData.int a :: List.map PyData.int ns = (a :: ns).map .int := rfl
      rw [e]
      have l0 := Int.emod_nonneg ((n + 1 : Nat) : Int) (show (((List.map PyData.int ns).length + 1 : Nat) : Int) ≠ 0 by omega)
      have l1 := Int.emod_lt_of_pos ((n + 1 : Nat) : Int) (show 0 < (((List.map PyData.int ns).length + 1 : Nat) : Int) by omega)
      have l2 : (((n + 1 : Nat) : Int) % ((List.map PyData.int ns).length + 1 : Nat)).toNat < ((a :: ns).map PyData.int).length := by
        simp only [List.length_map, List.length_cons] at l0 l1 ⊢
        omega
      refine ⟨(a :: ns)[(((n + 1 : Nat) : Int) % ((List.map PyData.int ns).length + 1 : Nat)).toNat]'(by simpa using l2), ?_⟩
      show (atI _ _).map W.d = _
      rw [atI_ok l0 l2, Option.map_some, List.getElem_map]
    obtain ⟨c, h10⟩ := h9'
    simp -implicitDefEqProofs only [eVar_ap, dVar_ap, eC_ap, dOf_ap, eFrz_ap, eBin_ap, bTest_ap, bTru_ap, bAnd_ap, bOr_ap, bNot_ap, eIf_ap, eB_ap, eAnd_ap, eOr_ap, aNil_ap, aCons_ap, sNil_ap, sCons_ap, eTup_ap, eLst_ap, eCall_ap, eApp_ap, oNone_ap, oSome_ap, eSl_ap, sNil'_ap, sSeq_ap, sBrk_ap, sRet_ap, sRetN_ap, sRetO_ap, sDrop_ap, sIf_ap, sSet_ap, sApp_ap, sTown_ap, sExt_ap, sIns_ap, sSetIx_ap, sAsg_ap, sPar_ap, iOf_ap, iVal_ap, iRng1_ap, iRng2_ap, sFor_ap, eComp_ap, bYes_ap, frzAt_ap, eUn_ap, eNotD_ap, eOrD_ap, eChain_ap, eListRg1_ap, eIsa_ap, eMt_ap, iEnumV_ap, iEnumF_ap, iZipV_ap, iZipF_ap, eTLen_ap, iRng3D_ap, sEnd_ap, eSs_ap, sPar3_ap, xPop_ap, xTup1_ap, xCat_ap, sSetX_ap, sAppX_ap, sParO_ap, sForEI_ap, sForK_ap, eRep_ap, eDicK_ap, eDicT_ap, sPut_ap, eAlt_ap, sTry_ap, eGetD_ap, eLockI_ap, iKeyF_ap, runB_ap, gOne_ap, gMany_ap, dI_ap, yesC_ap, dCmp_int, setD, kill_nx, kill_rt, kill_bk, Option.bind_some, Option.map_some, Option.bind_none, Option.map_none, List.getElem?_cons_zero, List.getElem?_cons_succ, List.set_cons_zero, List.set_cons_succ, List.cons_append, List.nil_append, List.append_nil, List.replicate, List.length_cons, List.length_nil, Nat.reduceAdd, Nat.reduceSub, Nat.zero_add, wdat_no, wdat_d, wdat_town, wdat_ol, wdat_od, wfrz_no, wfrz_d, wfrz_town, wfrz_ol, wfrz_od, wval_no, wval_d, wval_town, wval_ol, wval_od, warg_no, warg_d, warg_town, warg_ol, warg_od, vals, gLen, gAbs, gMax2, gMin2, gInt, gTup, gList, wipeW, if_true, if_false, Bool.false_eq_true, Bool.not_true, Bool.not_false, reduceCtorEq, dAdd, dMul, dMod, dDiv, h1, h2, h3, h3', h4, h5, h6, h7, h8, h9, h10]
    exact ⟨_, Int.emod_nonneg _ (by omega), Int.emod_lt_of_pos _ hm, rfl⟩
theorem draw2_ok (ns : List Int) (n : Nat) (hn : n < big) (many : Int) (hm : 0 < many) : ∃ r : Int, 0 ≤ r ∧ r < many ∧ m__law_draw_v2 [Sc ns, .town, I' many] n = some (I' r, n + 1) :=
  drawH_ok 104729 4294967291 4294967279 48271 69621 64 67108864 (fun k => mulC_l (by decide) (by decide)) (fun k => mulC_l (by omega) (by omega)) (fun k => mulC_l (by omega) (by omega)) (fun k => mulC_l (by omega) (by omega)) (fun k => modC_ok (by decide)) (fun k => modC_ok (by decide)) (fun k => divC_ok (by decide) (by decide)) (fun k => mulC_l (by omega) (by omega)) ns n hn many hm
def _root_.L2.Lv.Sh.PK.few : PK → Prop
  | .table _ t => t.length ≤ 4
  | .among _ t => t.length ≤ 4
  | _ => True
end L2.Lv.Sh
namespace L2.Lv.Sh
open PySem PySem.Spec PyProof.Rows L2 L2.Lv
/-! runs: between one and the next the order breaks -/
/-! crossings of two parts -/
/-! things sorted as they are -/
def thle (a b : Th) : Prop := a.1 < b.1 ∨ (a.1 = b.1 ∧ (a.2.1 < b.2.1 ∨ (a.2.1 = b.2.1 ∧ a.2.2 ≤ b.2.2)))
instance (a b : Th) : Decidable (thle a b) := inferInstanceAs (Decidable (_ ∨ _))
end L2.Lv.Sh
namespace L2.Lv.Sh
open PySem PySem.Spec PyProof.Rows L2 L2.Lv
theorem loopF_enumD {α : Type} {g : Fg} {body : Fs} {n : Nat} (enc : α → PyData) (env : Nat → List W) (xs : List α) (h : ∀ (i : Nat) (x : α), xs[i]? = some x → ∃ ρ1, g (.tuple [.int (i : Int), enc x]) (env i) = some ρ1 ∧ body ρ1 n = some (.nx (env (i + 1)) n)) :
    ∀ (ys : List α) (k : Nat), xs.drop k = ys → loopF g body (ys.mapIdx fun j y => .tuple [.int ((k + j : Nat) : Int), enc y]) (env k) n = some (.nx (env (k + ys.length)) n)
  | [], k, _ => rfl
  | y :: ys, k, hk => by
    have h1 : xs[k]? = some y := by have := congrArg (·[0]?) hk; simpa [List.getElem?_drop] using this
    have h2 : xs.drop (k + 1) = ys := by
      have := congrArg List.tail hk
      simpa [List.tail_drop] using this
    obtain ⟨ρ1, e1, e2⟩ := h k y h1
    have ih := loopF_enumD enc env xs h ys (k + 1) h2
    have hm : ((y :: ys).mapIdx fun j y => PyData.tuple [.int ((k + j : Nat) : Int), enc y]) = .tuple [.int (k : Int), enc y] :: (ys.mapIdx fun j y => PyData.tuple [.int ((k + 1 + j : Nat) : Int), enc y]) := by
      rw [List.mapIdx_cons]
      congr 1
      congr 1
      funext j z
      rw [show k + (j + 1) = k + 1 + j by omega]
    rw [hm, loopF_cons, List.length_cons, show k + (ys.length + 1) = k + 1 + ys.length by omega, ← ih]
    simp -implicitDefEqProofs only [eVar_ap, dVar_ap, eC_ap, dOf_ap, eFrz_ap, eBin_ap, bTest_ap, bTru_ap, bAnd_ap, bOr_ap, bNot_ap, eIf_ap, eB_ap, eAnd_ap, eOr_ap, aNil_ap, aCons_ap, sNil_ap, sCons_ap, eTup_ap, eLst_ap, eCall_ap, eApp_ap, oNone_ap, oSome_ap, eSl_ap, sNil'_ap, sSeq_ap, sBrk_ap, sRet_ap, sRetN_ap, sRetO_ap, sDrop_ap, sIf_ap, sSet_ap, sApp_ap, sTown_ap, sExt_ap, sIns_ap, sSetIx_ap, sAsg_ap, sPar_ap, iOf_ap, iVal_ap, iRng1_ap, iRng2_ap, sFor_ap, eComp_ap, bYes_ap, frzAt_ap, eUn_ap, eNotD_ap, eOrD_ap, eChain_ap, eListRg1_ap, eIsa_ap, eMt_ap, iEnumV_ap, iEnumF_ap, iZipV_ap, iZipF_ap, eTLen_ap, iRng3D_ap, sEnd_ap, eSs_ap, sPar3_ap, xPop_ap, xTup1_ap, xCat_ap, sSetX_ap, sAppX_ap, sParO_ap, sForEI_ap, sForK_ap, eRep_ap, eDicK_ap, eDicT_ap, sPut_ap, eAlt_ap, sTry_ap, eGetD_ap, eLockI_ap, iKeyF_ap, runB_ap, gOne_ap, gMany_ap, dI_ap, yesC_ap, dCmp_int, setD, kill_nx, kill_rt, kill_bk, Option.bind_some, Option.map_some, Option.bind_none, Option.map_none, List.getElem?_cons_zero, List.getElem?_cons_succ, List.set_cons_zero, List.set_cons_succ, List.cons_append, List.nil_append, List.append_nil, List.replicate, List.length_cons, List.length_nil, Nat.reduceAdd, Nat.reduceSub, Nat.zero_add, wdat_no, wdat_d, wdat_town, wdat_ol, wdat_od, wfrz_no, wfrz_d, wfrz_town, wfrz_ol, wfrz_od, wval_no, wval_d, wval_town, wval_ol, wval_od, warg_no, warg_d, warg_town, warg_ol, warg_od, vals, gLen, gAbs, gMax2, gMin2, gInt, gTup, gList, wipeW, if_true, if_false, Bool.false_eq_true, Bool.not_true, Bool.not_false, reduceCtorEq, e1, e2]
theorem loopF_enum {α : Type} {g : Fg} {body : Fs} {n : Nat} (enc : α → PyData) (env : Nat → List W) (xs : List α) (h : ∀ (i : Nat) (x : α), xs[i]? = some x → ∃ ρ1, g (.tuple [.int (i : Int), enc x]) (env i) = some ρ1 ∧ body ρ1 n = some (.nx (env (i + 1)) n)) :
    loopF g body (enumD (xs.map enc)) (env 0) n = some (.nx (env xs.length) n) := by
  have := loopF_enumD enc env xs h xs 0 rfl
  rw [Nat.zero_add] at this
  rw [← this]
  congr 1
  unfold enumD
  apply List.ext_getElem?
  intro i
  simp only [List.getElem?_mapIdx, List.getElem?_map, Nat.zero_add, Option.map_map]
  rfl
end L2.Lv.Sh
namespace L2.Lv.Sh
open PySem PySem.Spec PyProof.Rows L2 L2.Lv
/-! layer by layer -/
/-! put in stably -/
end L2.Lv.Sh
namespace L2.Lv.Sh
open PySem PySem.Spec PyProof.Rows L2 L2.Lv
/-! loops that come back with the first one found -/
theorem loopF_find {α : Type} {g : Fg} {body : Fs} {ρ : List W} {n : Nat} (enc : α → PyData) (ret : α → Option W) : ∀ xs : List α, (∀ x ∈ xs, ∃ ρ1, g (enc x) ρ = some ρ1 ∧ body ρ1 n = some (match ret x with | some w => .rt w n | none => .nx ρ n)) →
    loopF g body (xs.map enc) ρ n = some (match xs.findSome? ret with | some w => .rt w n | none => .nx ρ n)
  | [], _ => rfl
  | x :: xs, h => by
    obtain ⟨ρ1, e1, e2⟩ := h x (List.mem_cons_self ..)
    have ih := loopF_find enc ret xs fun z hz => h z (List.mem_cons_of_mem _ hz)
    rw [List.map_cons, loopF_cons, List.findSome?_cons]
    cases hr : ret x with
    | some w => rw [hr] at e2; simp -implicitDefEqProofs only [eVar_ap, dVar_ap, eC_ap, dOf_ap, eFrz_ap, eBin_ap, bTest_ap, bTru_ap, bAnd_ap, bOr_ap, bNot_ap, eIf_ap, eB_ap, eAnd_ap, eOr_ap, aNil_ap, aCons_ap, sNil_ap, sCons_ap, eTup_ap, eLst_ap, eCall_ap, eApp_ap, oNone_ap, oSome_ap, eSl_ap, sNil'_ap, sSeq_ap, sBrk_ap, sRet_ap, sRetN_ap, sRetO_ap, sDrop_ap, sIf_ap, sSet_ap, sApp_ap, sTown_ap, sExt_ap, sIns_ap, sSetIx_ap, sAsg_ap, sPar_ap, iOf_ap, iVal_ap, iRng1_ap, iRng2_ap, sFor_ap, eComp_ap, bYes_ap, frzAt_ap, eUn_ap, eNotD_ap, eOrD_ap, eChain_ap, eListRg1_ap, eIsa_ap, eMt_ap, iEnumV_ap, iEnumF_ap, iZipV_ap, iZipF_ap, eTLen_ap, iRng3D_ap, sEnd_ap, eSs_ap, sPar3_ap, xPop_ap, xTup1_ap, xCat_ap, sSetX_ap, sAppX_ap, sParO_ap, sForEI_ap, sForK_ap, eRep_ap, eDicK_ap, eDicT_ap, sPut_ap, eAlt_ap, sTry_ap, eGetD_ap, eLockI_ap, iKeyF_ap, runB_ap, gOne_ap, gMany_ap, dI_ap, yesC_ap, dCmp_int, setD, kill_nx, kill_rt, kill_bk, Option.bind_some, Option.map_some, Option.bind_none, Option.map_none, List.getElem?_cons_zero, List.getElem?_cons_succ, List.set_cons_zero, List.set_cons_succ, List.cons_append, List.nil_append, List.append_nil, List.replicate, List.length_cons, List.length_nil, Nat.reduceAdd, Nat.reduceSub, Nat.zero_add, wdat_no, wdat_d, wdat_town, wdat_ol, wdat_od, wfrz_no, wfrz_d, wfrz_town, wfrz_ol, wfrz_od, wval_no, wval_d, wval_town, wval_ol, wval_od, warg_no, warg_d, warg_town, warg_ol, warg_od, vals, gLen, gAbs, gMax2, gMin2, gInt, gTup, gList, wipeW, if_true, if_false, Bool.false_eq_true, Bool.not_true, Bool.not_false, reduceCtorEq, e1, e2]
    | none => rw [hr] at e2; simp -implicitDefEqProofs only [eVar_ap, dVar_ap, eC_ap, dOf_ap, eFrz_ap, eBin_ap, bTest_ap, bTru_ap, bAnd_ap, bOr_ap, bNot_ap, eIf_ap, eB_ap, eAnd_ap, eOr_ap, aNil_ap, aCons_ap, sNil_ap, sCons_ap, eTup_ap, eLst_ap, eCall_ap, eApp_ap, oNone_ap, oSome_ap, eSl_ap, sNil'_ap, sSeq_ap, sBrk_ap, sRet_ap, sRetN_ap, sRetO_ap, sDrop_ap, sIf_ap, sSet_ap, sApp_ap, sTown_ap, sExt_ap, sIns_ap, sSetIx_ap, sAsg_ap, sPar_ap, iOf_ap, iVal_ap, iRng1_ap, iRng2_ap, sFor_ap, eComp_ap, bYes_ap, frzAt_ap, eUn_ap, eNotD_ap, eOrD_ap, eChain_ap, eListRg1_ap, eIsa_ap, eMt_ap, iEnumV_ap, iEnumF_ap, iZipV_ap, iZipF_ap, eTLen_ap, iRng3D_ap, sEnd_ap, eSs_ap, sPar3_ap, xPop_ap, xTup1_ap, xCat_ap, sSetX_ap, sAppX_ap, sParO_ap, sForEI_ap, sForK_ap, eRep_ap, eDicK_ap, eDicT_ap, sPut_ap, eAlt_ap, sTry_ap, eGetD_ap, eLockI_ap, iKeyF_ap, runB_ap, gOne_ap, gMany_ap, dI_ap, yesC_ap, dCmp_int, setD, kill_nx, kill_rt, kill_bk, Option.bind_some, Option.map_some, Option.bind_none, Option.map_none, List.getElem?_cons_zero, List.getElem?_cons_succ, List.set_cons_zero, List.set_cons_succ, List.cons_append, List.nil_append, List.append_nil, List.replicate, List.length_cons, List.length_nil, Nat.reduceAdd, Nat.reduceSub, Nat.zero_add, wdat_no, wdat_d, wdat_town, wdat_ol, wdat_od, wfrz_no, wfrz_d, wfrz_town, wfrz_ol, wfrz_od, wval_no, wval_d, wval_town, wval_ol, wval_od, warg_no, warg_d, warg_town, warg_ol, warg_od, vals, gLen, gAbs, gMax2, gMin2, gInt, gTup, gList, wipeW, if_true, if_false, Bool.false_eq_true, Bool.not_true, Bool.not_false, reduceCtorEq, e1, e2, ih]
/-! tables -/
end L2.Lv.Sh
namespace L2.Lv.Sh
open PySem PySem.Spec PyProof.Rows L2 L2.Lv
/-- a table that tells an order -/
structure OrdB (n : Nat) (f : Nat → Nat → Int) : Prop where
  anti : ∀ i j, i < n → j < n → f i j = 0 - f j i
  ch : ∀ i j k, i < n → j < n → k < n → f i j < 1 → f j k < 1 → f i k = if f j k < f i j then f j k else f i j
theorem fil_mono {α : Type} {p q : α → Bool} : ∀ (l : List α), (∀ x ∈ l, p x = true → q x = true) → (l.filter p).length ≤ (l.filter q).length ∧ ((∃ x ∈ l, q x = true ∧ p x = false) → (l.filter p).length < (l.filter q).length)
  | [], _ => ⟨Nat.le_refl _, fun ⟨x, hx, _⟩ => by cases hx⟩
  | x :: l, h => by
    obtain ⟨h1, h2⟩ := fil_mono l fun y hy => h y (List.mem_cons_of_mem _ hy)
    have hx := h x (List.mem_cons_self ..)
    rw [List.filter_cons, List.filter_cons]
    cases hp : p x with
    | true =>
      rw [hx hp]
      simp only [if_true, List.length_cons]
      refine ⟨by omega, fun ⟨y, hy, a, b⟩ => ?_⟩
      rcases List.mem_cons.mp hy with rfl | hy
      · rw [hp] at b; cases b
      · have := h2 ⟨y, hy, a, b⟩; omega
    | false =>
      cases hq : q x with
      | true =>
        simp only [if_true, Bool.false_eq_true, if_false, List.length_cons]
        exact ⟨by omega, fun _ => by omega⟩
      | false =>
        simp only [Bool.false_eq_true, if_false]
        refine ⟨h1, fun ⟨y, hy, a, b⟩ => ?_⟩
        rcases List.mem_cons.mp hy with rfl | hy
        · rw [hq] at a; cases a
        · exact h2 ⟨y, hy, a, b⟩
def cntT (n : Nat) (f : Nat → Nat → Int) (i : Nat) : Nat := ((List.range n).filter fun k => f i k == 1).length
theorem OrdB.gt {n : Nat} {f : Nat → Nat → Int} (h : OrdB n f) {i j : Nat} (hi : i < n) (hj : j < n) (e : f i j = 1) : cntT n f j < cntT n f i := by
  have a1 := h.anti i j hi hj
  have a2 := h.anti j j hj hj
  refine (fil_mono (List.range n) fun k hk q => ?_).2 ⟨j, List.mem_range.mpr hj, by simpa using e, ?_⟩
  · have hk := List.mem_range.mp hk
    have q : f j k = 1 := by simpa using q
    have a3 := h.anti j k hj hk
    have a4 := h.anti i k hi hk
    have := h.ch k j i hk hj hi (by omega) (by omega)
    have : f k i = -1 := by rw [this]; split <;> omega
    simp; omega
  · have : f j j = 0 := by omega
    simp [this]
theorem OrdB.eq {n : Nat} {f : Nat → Nat → Int} (h : OrdB n f) {i j : Nat} (hi : i < n) (hj : j < n) (e : f i j = 0) : cntT n f i = cntT n f j := by
  have a1 := h.anti i j hi hj
  have one : ∀ {a b : Nat}, a < n → b < n → f a b = 0 → ∀ k, k < n → f b k = 1 → f a k = 1 := fun {a b} ha hb e k hk q => by
    have a1 := h.anti a b ha hb
    have a3 := h.anti b k hb hk
    have a4 := h.anti a k ha hk
    have := h.ch k b a hk hb ha (by omega) (by omega)
    have : f k a = -1 := by rw [this]; split <;> omega
    omega
  have h1 := (fil_mono (p := fun k => f i k == 1) (q := fun k => f j k == 1) (List.range n) fun k hk q => by
    have := one hj hi (by omega) k (List.mem_range.mp hk) (by simpa using q)
    simpa using this).1
  have h2 := (fil_mono (p := fun k => f j k == 1) (q := fun k => f i k == 1) (List.range n) fun k hk q => by
    have := one hi hj e k (List.mem_range.mp hk) (by simpa using q)
    simpa using this).1
  exact Nat.le_antisymm h1 h2
end L2.Lv.Sh
namespace L2.Lv.Sh
open PySem PySem.Spec PyProof.Rows L2 L2.Lv
end L2.Lv.Sh
namespace L2.Lv.Sh
open PySem PySem.Spec PyProof.Rows L2 L2.Lv
/-! shapes of parts -/
/-! whole numbers -/
/-! things -/
/-! worths -/
/-! keys -/
/-! keys and rows that are drawn are so -/
end L2.Lv.Sh
namespace L2.Lv.Sh
open PySem PySem.Spec PyProof.Rows L2 L2.Lv
/-! pairs of numbers -/
abbrev NN := Nat × Nat
def iN (k : Nat) : PyData := .int (k : Int)
def prN (p : NN) : PyData := .tuple [.int (p.1 : Int), .int (p.2 : Int)]
abbrev prsN (P : List NN) : PyData := .tuple (P.map prN)
def nle (p q : NN) : Prop := p.1 < q.1 ∨ (p.1 = q.1 ∧ p.2 ≤ q.2)
def nlt (p q : NN) : Prop := p.1 < q.1 ∨ (p.1 = q.1 ∧ p.2 < q.2)
instance (p q : NN) : Decidable (nle p q) := inferInstanceAs (Decidable (_ ∨ _))
instance (p q : NN) : Decidable (nlt p q) := inferInstanceAs (Decidable (_ ∨ _))
theorem dataLe_pr (p q : NN) : PySem.W.dataLe false (fun x => x) (prN p) (prN q) = decide (nle p q) := by
  obtain ⟨a1, a2⟩ := p
  obtain ⟨b1, b2⟩ := q
  have h : lx (PySem.W.keyToks (prN (b1, b2))) (PySem.W.keyToks (prN (a1, a2))) = !decide (nle (a1, a2) (b1, b2)) := by
    simp only [prN, PySem.W.keyToks, PySem.W.keyToksAll, List.cons_append, List.append_assoc, lx_tok, List.nil_append]
    have h3 : lx [] [] = false := rfl
    rw [Bool.eq_iff_iff, Bool.not_eq_true', decide_eq_false_iff_not]
    simp only [h3, nle, Bool.or_eq_true, Bool.and_eq_true, Bool.not_eq_true', decide_eq_true_eq, decide_eq_false_iff_not, Bool.false_eq_true, and_false, or_false]
    omega
  show (!lx (PySem.W.keyToks (prN (b1, b2))) (PySem.W.keyToks (prN (a1, a2)))) = _
  rw [h, Bool.not_not]
theorem srtOk_pr (P : List NN) : srtOk (P.map prN) = true := by
  have h1 : ∀ p q : NN, PySem.W.alike (prN p) (prN q) = true := fun p q => alike_ints [(p.1 : Int), p.2] [(q.1 : Int), q.2] rfl
  have h2 : ∀ p : NN, (prN p).depth ≤ 64 := fun p => by
    have := depthAll_ints [(p.1 : Int), p.2]
    have e : (prN p).depth = PyData.depthAll ([(p.1 : Int), (p.2 : Int)].map .int) + 1 := rfl
    omega
  unfold srtOk
  simp only [Bool.and_eq_true, List.all_eq_true, Bool.or_eq_true]
  refine ⟨⟨fun x hx y hy => ?_, .inl fun x hx => ?_⟩, fun x hx => ?_⟩
  · obtain ⟨p, _, rfl⟩ := List.mem_map.mp hx
    obtain ⟨q, _, rfl⟩ := List.mem_map.mp hy
    exact h1 p q
  · obtain ⟨p, _, rfl⟩ := List.mem_map.mp hx
    rfl
  · obtain ⟨p, _, rfl⟩ := List.mem_map.mp hx
    simpa using h2 p
def srtP (P : List NN) : List NN := P.mergeSort fun a b => decide (nle a b)
theorem srt_pr (P : List NN) : srt (P.map prN) = (srtP P).map prN := by
  unfold srt srtP
  exact (List.map_mergeSort fun a _ b _ => (dataLe_pr a b).symm).symm
theorem srtP_pw (P : List NN) : (srtP P).Pairwise nle := by
  have h := List.pairwise_mergeSort (le := fun a b : NN => decide (nle a b)) (fun a b c h1 h2 => by
    simp only [decide_eq_true_eq] at h1 h2 ⊢
    unfold nle at h1 h2 ⊢
    omega) (fun a b => by
    have : nle a b ∨ nle b a := by unfold nle; omega
    simpa using this) P
  exact h.imp fun h => by simpa using h
theorem srtP_perm (P : List NN) : (srtP P).Perm P := List.mergeSort_perm P _
theorem nle_anti {a b : NN} (h1 : nle a b) (h2 : nle b a) : a = b := by
  unfold nle at h1 h2
  obtain ⟨a1, a2⟩ := a
  obtain ⟨b1, b2⟩ := b
  simp only [Prod.mk.injEq] at h1 h2 ⊢
  omega
theorem srtP_of {P Q : List NN} (h : P.Perm Q) (hs : Q.Pairwise nle) : srtP P = Q :=
  List.Perm.eq_of_pairwise (le := nle) (fun a b _ _ h1 h2 => nle_anti h1 h2) (srtP_pw P) hs ((srtP_perm P).trans h)
theorem nlt_nodup {P : List NN} (h : P.Pairwise nlt) : P.Nodup := h.imp fun {a b} q e => by subst e; unfold nlt at q; omega
/-- a strict order, its pairs rising -/
structure So (P : List NN) : Prop where
  irr : ∀ a, (a, a) ∉ P
  tr : ∀ a b c, (a, b) ∈ P → (b, c) ∈ P → (a, c) ∈ P
  lt : ∀ p ∈ P, p.1 < 6 ∧ p.2 < 6
  few : P.length ≤ 60
  srt : P.Pairwise nlt
/-! behind -/
theorem srtI_nat (l : List Nat) : srtI (l.map fun (k : Nat) => (k : Int)) = (l.mergeSort fun a b => decide (a ≤ b)).map fun (k : Nat) => (k : Int) := by
  unfold srtI
  exact (List.map_mergeSort fun a _ b _ => by
    rw [decide_eq_decide]; omega).symm
def behN (P : List NN) (x : Nat) : List Nat := ((P.filter fun p => p.1 == x).map (·.2)).mergeSort fun a b => decide (a ≤ b)
theorem behN_mem {P : List NN} {x y : Nat} : y ∈ behN P x ↔ (x, y) ∈ P := by
  unfold behN
  rw [(List.mergeSort_perm _ _).mem_iff, List.mem_map]
  constructor
  · rintro ⟨⟨a, b⟩, h, rfl⟩
    rw [List.mem_filter] at h
    have e : a = x := by simpa using h.2
    subst e
    exact h.1
  · intro h
    exact ⟨(x, y), List.mem_filter.mpr ⟨h, by simp⟩, rfl⟩
theorem behN_len (P : List NN) (x : Nat) : (behN P x).length ≤ P.length := by
  unfold behN
  rw [List.length_mergeSort, List.length_map]
  exact List.length_filter_le _ _
theorem eqI (a b : Nat) : dEq (.int (a : Int)) (.int (b : Int)) = some (.d (.bool (a == b))) := by
  rw [dEq_int]
  congr 3
  rw [Bool.eq_iff_iff, beq_iff_eq, beq_iff_eq]
  omega
theorem neI (a b : Nat) : dNe (.int (a : Int)) (.int (b : Int)) = some (.d (.bool (!(a == b)))) := by
  rw [dNe_int]
  congr 4
  rw [Bool.eq_iff_iff, beq_iff_eq, beq_iff_eq]
  omega
theorem gSorted_li (t : List Int) : gSorted [.list (t.map .int)] = some (.ol ((srtI t).map .int)) := by
  simp only [gSorted, seqOf, Option.bind_some, srtOk_ints, srt_ints, if_true]
theorem behind_ok (P : List NN) (hP : P.length ≤ 1000) (x : Nat) (n : Nat) : m_behind [.d (prsN P), .d (.int (x : Int))] n = some (.ol ((behN P x).map iN), n) := by
  have c := comp_filA (g := gMany [2, 3]) (own := [2, 3]) (tst := bTest (eBin dEq (dVar 2) (dVar 1))) (elt := eVar 3) (ρ := [.d (prsN P), .d (.int (x : Int)), .no, .no]) (n := n) prN (fun p => .int (p.2 : Int)) (fun p => p.1 == x) P fun p hp => ⟨[.d (prsN P), .d (.int (x : Int)), .d (.int (p.1 : Int)), .d (.int (p.2 : Int))], by simp -implicitDefEqProofs only [eVar_ap, dVar_ap, eC_ap, dOf_ap, eFrz_ap, eBin_ap, bTest_ap, bTru_ap, bAnd_ap, bOr_ap, bNot_ap, eIf_ap, eB_ap, eAnd_ap, eOr_ap, aNil_ap, aCons_ap, sNil_ap, sCons_ap, eTup_ap, eLst_ap, eCall_ap, eApp_ap, oNone_ap, oSome_ap, eSl_ap, sNil'_ap, sSeq_ap, sBrk_ap, sRet_ap, sRetN_ap, sRetO_ap, sDrop_ap, sIf_ap, sSet_ap, sApp_ap, sTown_ap, sExt_ap, sIns_ap, sSetIx_ap, sAsg_ap, sPar_ap, iOf_ap, iVal_ap, iRng1_ap, iRng2_ap, sFor_ap, eComp_ap, bYes_ap, frzAt_ap, eUn_ap, eNotD_ap, eOrD_ap, eChain_ap, eListRg1_ap, eIsa_ap, eMt_ap, iEnumV_ap, iEnumF_ap, iZipV_ap, iZipF_ap, eTLen_ap, iRng3D_ap, sEnd_ap, eSs_ap, sPar3_ap, xPop_ap, xTup1_ap, xCat_ap, sSetX_ap, sAppX_ap, sParO_ap, sForEI_ap, sForK_ap, eRep_ap, eDicK_ap, eDicT_ap, sPut_ap, eAlt_ap, sTry_ap, eGetD_ap, eLockI_ap, iKeyF_ap, runB_ap, gOne_ap, gMany_ap, dI_ap, yesC_ap, dCmp_int, setD, kill_nx, kill_rt, kill_bk, Option.bind_some, Option.map_some, Option.bind_none, Option.map_none, List.getElem?_cons_zero, List.getElem?_cons_succ, List.set_cons_zero, List.set_cons_succ, List.cons_append, List.nil_append, List.append_nil, List.replicate, List.length_cons, List.length_nil, Nat.reduceAdd, Nat.reduceSub, Nat.zero_add, wdat_no, wdat_d, wdat_town, wdat_ol, wdat_od, wfrz_no, wfrz_d, wfrz_town, wfrz_ol, wfrz_od, wval_no, wval_d, wval_town, wval_ol, wval_od, warg_no, warg_d, warg_town, warg_ol, warg_od, vals, gLen, gAbs, gMax2, gMin2, gInt, gTup, gList, wipeW, if_true, if_false, Bool.false_eq_true, Bool.not_true, Bool.not_false, reduceCtorEq, prN], by simp -implicitDefEqProofs only [eVar_ap, dVar_ap, eC_ap, dOf_ap, eFrz_ap, eBin_ap, bTest_ap, bTru_ap, bAnd_ap, bOr_ap, bNot_ap, eIf_ap, eB_ap, eAnd_ap, eOr_ap, aNil_ap, aCons_ap, sNil_ap, sCons_ap, eTup_ap, eLst_ap, eCall_ap, eApp_ap, oNone_ap, oSome_ap, eSl_ap, sNil'_ap, sSeq_ap, sBrk_ap, sRet_ap, sRetN_ap, sRetO_ap, sDrop_ap, sIf_ap, sSet_ap, sApp_ap, sTown_ap, sExt_ap, sIns_ap, sSetIx_ap, sAsg_ap, sPar_ap, iOf_ap, iVal_ap, iRng1_ap, iRng2_ap, sFor_ap, eComp_ap, bYes_ap, frzAt_ap, eUn_ap, eNotD_ap, eOrD_ap, eChain_ap, eListRg1_ap, eIsa_ap, eMt_ap, iEnumV_ap, iEnumF_ap, iZipV_ap, iZipF_ap, eTLen_ap, iRng3D_ap, sEnd_ap, eSs_ap, sPar3_ap, xPop_ap, xTup1_ap, xCat_ap, sSetX_ap, sAppX_ap, sParO_ap, sForEI_ap, sForK_ap, eRep_ap, eDicK_ap, eDicT_ap, sPut_ap, eAlt_ap, sTry_ap, eGetD_ap, eLockI_ap, iKeyF_ap, runB_ap, gOne_ap, gMany_ap, dI_ap, yesC_ap, dCmp_int, setD, kill_nx, kill_rt, kill_bk, Option.bind_some, Option.map_some, Option.bind_none, Option.map_none, List.getElem?_cons_zero, List.getElem?_cons_succ, List.set_cons_zero, List.set_cons_succ, List.cons_append, List.nil_append, List.append_nil, List.replicate, List.length_cons, List.length_nil, Nat.reduceAdd, Nat.reduceSub, Nat.zero_add, wdat_no, wdat_d, wdat_town, wdat_ol, wdat_od, wfrz_no, wfrz_d, wfrz_town, wfrz_ol, wfrz_od, wval_no, wval_d, wval_town, wval_ol, wval_od, warg_no, warg_d, warg_town, warg_ol, warg_od, vals, gLen, gAbs, gMax2, gMin2, gInt, gTup, gList, wipeW, if_true, if_false, Bool.false_eq_true, Bool.not_true, Bool.not_false, reduceCtorEq, eqI], fun _ => by simp -implicitDefEqProofs only [eVar_ap, dVar_ap, eC_ap, dOf_ap, eFrz_ap, eBin_ap, bTest_ap, bTru_ap, bAnd_ap, bOr_ap, bNot_ap, eIf_ap, eB_ap, eAnd_ap, eOr_ap, aNil_ap, aCons_ap, sNil_ap, sCons_ap, eTup_ap, eLst_ap, eCall_ap, eApp_ap, oNone_ap, oSome_ap, eSl_ap, sNil'_ap, sSeq_ap, sBrk_ap, sRet_ap, sRetN_ap, sRetO_ap, sDrop_ap, sIf_ap, sSet_ap, sApp_ap, sTown_ap, sExt_ap, sIns_ap, sSetIx_ap, sAsg_ap, sPar_ap, iOf_ap, iVal_ap, iRng1_ap, iRng2_ap, sFor_ap, eComp_ap, bYes_ap, frzAt_ap, eUn_ap, eNotD_ap, eOrD_ap, eChain_ap, eListRg1_ap, eIsa_ap, eMt_ap, iEnumV_ap, iEnumF_ap, iZipV_ap, iZipF_ap, eTLen_ap, iRng3D_ap, sEnd_ap, eSs_ap, sPar3_ap, xPop_ap, xTup1_ap, xCat_ap, sSetX_ap, sAppX_ap, sParO_ap, sForEI_ap, sForK_ap, eRep_ap, eDicK_ap, eDicT_ap, sPut_ap, eAlt_ap, sTry_ap, eGetD_ap, eLockI_ap, iKeyF_ap, runB_ap, gOne_ap, gMany_ap, dI_ap, yesC_ap, dCmp_int, setD, kill_nx, kill_rt, kill_bk, Option.bind_some, Option.map_some, Option.bind_none, Option.map_none, List.getElem?_cons_zero, List.getElem?_cons_succ, List.set_cons_zero, List.set_cons_succ, List.cons_append, List.nil_append, List.append_nil, List.replicate, List.length_cons, List.length_nil, Nat.reduceAdd, Nat.reduceSub, Nat.zero_add, wdat_no, wdat_d, wdat_town, wdat_ol, wdat_od, wfrz_no, wfrz_d, wfrz_town, wfrz_ol, wfrz_od, wval_no, wval_d, wval_town, wval_ol, wval_od, warg_no, warg_d, warg_town, warg_ol, warg_od, vals, gLen, gAbs, gMax2, gMin2, gInt, gTup, gList, wipeW, if_true, if_false, Bool.false_eq_true, Bool.not_true, Bool.not_false, reduceCtorEq]⟩
  have e : (P.filter fun p => p.1 == x).map (fun p => PyData.int (p.2 : Int)) = (((P.filter fun p => p.1 == x).map (·.2)).map fun k : Nat => (k : Int)).map .int := by
    rw [List.map_map, List.map_map]; rfl
  rw [e] at c
  have g := gSorted_li (((P.filter fun p => p.1 == x).map (·.2)).map fun k : Nat => (k : Int))
  rw [srtI_nat] at g
  have hb : P.length ≤ big := le_big (by omega)
  unfold m_behind b_behind
  simp -implicitDefEqProofs only [eVar_ap, dVar_ap, eC_ap, dOf_ap, eFrz_ap, eBin_ap, bTest_ap, bTru_ap, bAnd_ap, bOr_ap, bNot_ap, eIf_ap, eB_ap, eAnd_ap, eOr_ap, aNil_ap, aCons_ap, sNil_ap, sCons_ap, eTup_ap, eLst_ap, eCall_ap, eApp_ap, oNone_ap, oSome_ap, eSl_ap, sNil'_ap, sSeq_ap, sBrk_ap, sRet_ap, sRetN_ap, sRetO_ap, sDrop_ap, sIf_ap, sSet_ap, sApp_ap, sTown_ap, sExt_ap, sIns_ap, sSetIx_ap, sAsg_ap, sPar_ap, iOf_ap, iVal_ap, iRng1_ap, iRng2_ap, sFor_ap, eComp_ap, bYes_ap, frzAt_ap, eUn_ap, eNotD_ap, eOrD_ap, eChain_ap, eListRg1_ap, eIsa_ap, eMt_ap, iEnumV_ap, iEnumF_ap, iZipV_ap, iZipF_ap, eTLen_ap, iRng3D_ap, sEnd_ap, eSs_ap, sPar3_ap, xPop_ap, xTup1_ap, xCat_ap, sSetX_ap, sAppX_ap, sParO_ap, sForEI_ap, sForK_ap, eRep_ap, eDicK_ap, eDicT_ap, sPut_ap, eAlt_ap, sTry_ap, eGetD_ap, eLockI_ap, iKeyF_ap, runB_ap, gOne_ap, gMany_ap, dI_ap, yesC_ap, dCmp_int, setD, kill_nx, kill_rt, kill_bk, Option.bind_some, Option.map_some, Option.bind_none, Option.map_none, List.getElem?_cons_zero, List.getElem?_cons_succ, List.set_cons_zero, List.set_cons_succ, List.cons_append, List.nil_append, List.append_nil, List.replicate, List.length_cons, List.length_nil, Nat.reduceAdd, Nat.reduceSub, Nat.zero_add, wdat_no, wdat_d, wdat_town, wdat_ol, wdat_od, wfrz_no, wfrz_d, wfrz_town, wfrz_ol, wfrz_od, wval_no, wval_d, wval_town, wval_ol, wval_od, warg_no, warg_d, warg_town, warg_ol, warg_od, vals, gLen, gAbs, gMax2, gMin2, gInt, gTup, gList, wipeW, if_true, if_false, Bool.false_eq_true, Bool.not_true, Bool.not_false, reduceCtorEq, iSeq, List.length_map, hb, c, g]
  show some (W.ol (List.map _ (List.map _ (behN P x))), n) = _
  rw [List.map_map]
  rfl
/-! no ring -/
abbrev wyD (w : List Nat) : PyData := .tuple (w.map iN)
theorem memN (y : Nat) (w : List Nat) : dNotIn (.int (y : Int)) (wyD w) = some (.d (.bool (!decide (y ∈ w)))) := by
  have h := dNotIn_ints (y : Int) (w.map fun k : Nat => (k : Int))
  have e : ti (w.map fun k : Nat => (k : Int)) = wyD w := by unfold ti; rw [List.map_map]; rfl
  rw [e] at h
  rw [h]
  congr 4
  rw [decide_eq_decide, List.mem_map]
  constructor
  · rintro ⟨k, hk, e⟩
    have : k = y := by exact_mod_cast e
    exact this ▸ hk
  · exact fun h => ⟨y, h, rfl⟩
theorem inN (y : Nat) (w : List Nat) : dIn (.int (y : Int)) (wyD w) = some (.d (.bool (decide (y ∈ w)))) := by
  have h := dIn_ints (y : Int) (w.map fun k : Nat => (k : Int))
  have e : ti (w.map fun k : Nat => (k : Int)) = wyD w := by unfold ti; rw [List.map_map]; rfl
  rw [e] at h
  rw [h]
  congr 3
  rw [decide_eq_decide, List.mem_map]
  constructor
  · rintro ⟨k, hk, e⟩
    have : k = y := by exact_mod_cast e
    exact this ▸ hk
  · exact fun h => ⟨y, h, rfl⟩
theorem nodup6 {w : List Nat} (h : w.Nodup) (h6 : ∀ x ∈ w, x < 6) : w.length ≤ 6 := by
  have hp : w.Nodup → (∀ x ∈ w, x ∈ List.range 6) → w.length ≤ (List.range 6).length := fun a b => by
    have key : ∀ (l m : List Nat), l.Nodup → (∀ x ∈ l, x ∈ m) → l.length ≤ m.length := by
      intro l
      induction l with
      | nil => intro m _ _; exact Nat.zero_le _
      | cons x l ih =>
        intro m hn hs
        have hx := hs x (by simp)
        have hl := List.length_erase_of_mem hx
        have hp : 0 < m.length := List.length_pos_of_mem hx
        have := ih (m.erase x) (List.nodup_cons.mp hn).2 fun y hy => by
          refine (List.mem_erase_of_ne ?_).mpr (hs y (List.mem_cons_of_mem _ hy))
          intro e
          exact (List.nodup_cons.mp hn).1 (e ▸ hy)
        rw [List.length_cons]; omega
    exact key w _ a b
  have := hp h fun x hx => List.mem_range.mpr (h6 x hx)
  simpa using this
theorem wy0 (h : Nat) (t : List Nat) : dIx (wyD (h :: t)) (.int 0) = some (.d (.int (h : Int))) := ix0 _ _
theorem wyL (i : List Nat) (l : Nat) : dIx (wyD (i ++ [l])) (.int (-1)) = some (.d (.int (l : Int))) := by
  show (atI _ _).map W.d = _
  unfold atI
  rw [List.length_map, List.length_append, List.length_singleton, ixN_last]
  simp [iN]
/-! all that follow -/
def encP (L : List NN) : List (PyData × PyData) := L.map fun p => (prN p, .bool true)
theorem pr_ints (p : NN) : prN p = .tuple (([(p.1 : Int), (p.2 : Int)] : List Int).map .int) := rfl
theorem key_pr (p q : NN) : intsOf (([(p.1 : Int), (p.2 : Int)] : List Int).map .int) = some [(q.1 : Int), (q.2 : Int)] ↔ p = q := by
  rw [intsOf_map]
  obtain ⟨a, b⟩ := p
  obtain ⟨c, d⟩ := q
  simp
  omega
theorem putT_in {p : NN} : ∀ {L : List NN}, p ∈ L → putT (encP L) [(p.1 : Int), (p.2 : Int)] (.bool true) = encP L
  | q :: L, h => by
    unfold encP putT
    rw [List.map_cons]
    show (if intsOf (([(q.1 : Int), (q.2 : Int)] : List Int).map .int) = some [(p.1 : Int), (p.2 : Int)] then _ else _) = _
    by_cases c : q = p
    · rw [if_pos ((key_pr q p).mpr c)]
    · rw [if_neg (fun e => c ((key_pr q p).mp e))]
      have := putT_in (List.mem_of_ne_of_mem (Ne.symm c) h)
      unfold encP at this
      rw [this]
theorem putT_out {p : NN} : ∀ {L : List NN}, p ∉ L → putT (encP L) [(p.1 : Int), (p.2 : Int)] (.bool true) = encP (L ++ [p])
  | [], _ => rfl
  | q :: L, h => by
    rw [List.mem_cons, not_or] at h
    unfold encP putT
    rw [List.map_cons]
    show (if intsOf (([(q.1 : Int), (q.2 : Int)] : List Int).map .int) = some [(p.1 : Int), (p.2 : Int)] then _ else _) = _
    rw [if_neg (fun e => h.1 ((key_pr q p).mp e).symm)]
    have := putT_out h.2
    unfold encP at this
    rw [this]
    rfl
def addP (L : List NN) (p : NN) : List NN := if p ∈ L then L else L ++ [p]
theorem putD_enc (L : List NN) (p : NN) (hl : L.length < big) : putD (markT :: encP L) (prN p) (.bool true) = some (markT :: encP (addP L p)) := by
  have hl : (encP L).length < big := by unfold encP; rw [List.length_map]; exact hl
  have e : putD (markT :: encP L) (prN p) (.bool true) = some (markT :: putT (encP L) [(p.1 : Int), (p.2 : Int)] (.bool true)) := by
    show (some [(p.1 : Int), (p.2 : Int)]).bind (fun ns => if (encP L).length < big then some (markT :: putT (encP L) ns (.bool true)) else none) = _
    rw [Option.bind_some, if_pos hl]
  rw [e]
  unfold addP
  split
  · rename_i h; rw [putT_in h]
  · rename_i h; rw [putT_out h]
theorem closed_one (P : List NN) (n : Nat) : ∀ (Q acc : List NN), (acc ++ Q).Nodup → (acc ++ Q).length < 1000 →
    loopF (gOne 2) l_closed_1 (Q.map prN) [.d (prsN P), .od (markT :: encP acc), .no, .no, .no, .no, .no] n = some (.nx [.d (prsN P), .od (markT :: encP (acc ++ Q)), .no, .no, .no, .no, .no] n)
  | [], acc, _, _ => by rw [List.append_nil]; rfl
  | p :: Q, acc, hn, hl => by
    have e : acc ++ p :: Q = (acc ++ [p]) ++ Q := by simp
    have hp : p ∉ acc := fun h => by
      rw [List.nodup_append] at hn
      exact hn.2.2 _ h p (by simp) rfl
    have g := putD_enc acc p (by rw [List.length_append] at hl; unfold big; omega)
    unfold addP at g
    rw [if_neg hp] at g
    rw [e] at hn hl
    have ih := closed_one P n Q (acc ++ [p]) hn hl
    rw [List.map_cons, loopF_cons, e]
    unfold l_closed_1
    simp -implicitDefEqProofs only [eVar_ap, dVar_ap, eC_ap, dOf_ap, eFrz_ap, eBin_ap, bTest_ap, bTru_ap, bAnd_ap, bOr_ap, bNot_ap, eIf_ap, eB_ap, eAnd_ap, eOr_ap, aNil_ap, aCons_ap, sNil_ap, sCons_ap, eTup_ap, eLst_ap, eCall_ap, eApp_ap, oNone_ap, oSome_ap, eSl_ap, sNil'_ap, sSeq_ap, sBrk_ap, sRet_ap, sRetN_ap, sRetO_ap, sDrop_ap, sIf_ap, sSet_ap, sApp_ap, sTown_ap, sExt_ap, sIns_ap, sSetIx_ap, sAsg_ap, sPar_ap, iOf_ap, iVal_ap, iRng1_ap, iRng2_ap, sFor_ap, eComp_ap, bYes_ap, frzAt_ap, eUn_ap, eNotD_ap, eOrD_ap, eChain_ap, eListRg1_ap, eIsa_ap, eMt_ap, iEnumV_ap, iEnumF_ap, iZipV_ap, iZipF_ap, eTLen_ap, iRng3D_ap, sEnd_ap, eSs_ap, sPar3_ap, xPop_ap, xTup1_ap, xCat_ap, sSetX_ap, sAppX_ap, sParO_ap, sForEI_ap, sForK_ap, eRep_ap, eDicK_ap, eDicT_ap, sPut_ap, eAlt_ap, sTry_ap, eGetD_ap, eLockI_ap, iKeyF_ap, runB_ap, gOne_ap, gMany_ap, dI_ap, yesC_ap, dCmp_int, setD, kill_nx, kill_rt, kill_bk, Option.bind_some, Option.map_some, Option.bind_none, Option.map_none, List.getElem?_cons_zero, List.getElem?_cons_succ, List.set_cons_zero, List.set_cons_succ, List.cons_append, List.nil_append, List.append_nil, List.replicate, List.length_cons, List.length_nil, Nat.reduceAdd, Nat.reduceSub, Nat.zero_add, wdat_no, wdat_d, wdat_town, wdat_ol, wdat_od, wfrz_no, wfrz_d, wfrz_town, wfrz_ol, wfrz_od, wval_no, wval_d, wval_town, wval_ol, wval_od, warg_no, warg_d, warg_town, warg_ol, warg_od, vals, gLen, gAbs, gMax2, gMin2, gInt, gTup, gList, wipeW, if_true, if_false, Bool.false_eq_true, Bool.not_true, Bool.not_false, reduceCtorEq, g]
    exact ih
theorem lenD_enc (L : List NN) : gLenD [.dict (markT :: encP L)] = some (.d (.int (L.length : Int))) := by
  show some (W.d (.int ((encP L).length : Int))) = _
  unfold encP
  rw [List.length_map]
theorem listD_enc (L : List NN) : gListD [.dict (markT :: encP L)] = some (.ol (L.map prN)) := by
  show some (W.ol ((encP L).map (·.1))) = _
  unfold encP
  rw [List.map_map]; rfl
theorem sortD_enc (L : List NN) : gSortedD [.dict (markT :: encP L)] = some (.ol ((srtP L).map prN)) := by
  have k : (encP L).map (·.1) = L.map prN := by unfold encP; rw [List.map_map]; rfl
  show (if (isMk markT && srtOk ((encP L).map (·.1))) = true then some (W.ol (srt ((encP L).map (·.1)))) else none) = _
  rw [k, srtOk_pr, srt_pr]
  rfl
end L2.Lv.Sh
namespace L2.Lv.Sh
open PySem PySem.Spec PyProof.Rows L2 L2.Lv
/-! orders -/
abbrev nlD (L : List Nat) : PyData := .list (L.map iN)
theorem inNl (y : Nat) (w : List Nat) : dIn (.int (y : Int)) (nlD w) = some (.d (.bool (decide (y ∈ w)))) := by
  have s1 : shp (nlD w) = true := by
    have e : nlD w = .list ((w.map fun k : Nat => (k : Int)).map .int) := by rw [List.map_map]; rfl
    rw [e]; exact shp_li _
  have h := inN y w
  have e1 : dIn (.int (y : Int)) (wyD w) = if shp (.int (y : Int)) && shp (wyD w) then some (.d (.bool (memD (.int (y : Int)) (w.map iN)))) else none := rfl
  have e2 : dIn (.int (y : Int)) (nlD w) = if shp (.int (y : Int)) && shp (nlD w) then some (.d (.bool (memD (.int (y : Int)) (w.map iN)))) else none := rfl
  have s2 : shp (wyD w) = true := by
    have e : wyD w = ti (w.map fun k : Nat => (k : Int)) := by unfold ti; rw [List.map_map]; rfl
    rw [e]; exact shp_ti _
  rw [e1, shp_int, s2] at h
  rw [e2, shp_int, s1]
  exact h
/-- what stands ahead of it among L -/
def prdN (P : List NN) (L : List Nat) (x : Nat) : Bool := P.any fun p => p.2 == x && decide (p.1 ∈ L)
theorem prdN_iff {P : List NN} {L : List Nat} {x : Nat} : prdN P L x = true ↔ ∃ f ∈ L, (f, x) ∈ P := by
  unfold prdN
  rw [List.any_eq_true]
  constructor
  · rintro ⟨⟨a, b⟩, h, q⟩
    rw [Bool.and_eq_true, beq_iff_eq, decide_eq_true_eq] at q
    have e : b = x := q.1
    subst e
    exact ⟨a, q.2, h⟩
  · rintro ⟨f, hf, h⟩
    exact ⟨(f, x), h, by simp [hf]⟩
theorem filter_emp (P : List NN) (L : List Nat) (x : Nat) : ((P.filter fun p => p.2 == x && decide (p.1 ∈ L)).map fun p => PyData.int (p.1 : Int)).isEmpty = !prdN P L x := by
  unfold prdN
  cases h : P.any fun p => p.2 == x && decide (p.1 ∈ L) with
  | false =>
    have : (P.filter fun p => p.2 == x && decide (p.1 ∈ L)) = [] := by
      rw [List.filter_eq_nil_iff]
      intro p hp
      have := List.any_eq_false.mp h p hp
      exact this
    rw [this]; rfl
  | true =>
    obtain ⟨p, hp, q⟩ := List.any_eq_true.mp h
    have hm : p ∈ P.filter fun p => p.2 == x && decide (p.1 ∈ L) := List.mem_filter.mpr ⟨hp, q⟩
    cases hf : P.filter fun p => p.2 == x && decide (p.1 ∈ L) with
    | nil => rw [hf] at hm; cases hm
    | cons a l => rfl
def ordF (P : List NN) : Nat → List Nat → List (List Nat)
  | 0, _ => []
  | k + 1, L => if L = [] then [[]] else L.flatMap fun x => if prdN P L x then [] else (ordF P k (L.filter fun y => !(y == x))).map (x :: ·)
theorem filter_lt {L : List Nat} {x : Nat} (h : x ∈ L) : (L.filter fun y => !(y == x)).length < L.length := by
  have h1 : (L.filter fun y => !(y == x)).length ≠ L.length := fun e => by
    have := (List.filter_eq_self.mp (List.filter_sublist.eq_of_length e)) x h
    simp at this
  have := List.length_filter_le (fun y => !(y == x)) L
  omega
theorem fm_le {α β : Type} (c : Nat) (f : α → List β) : ∀ L : List α, (∀ x ∈ L, (f x).length ≤ c) → (L.flatMap f).length ≤ c * L.length
  | [], _ => by simp
  | x :: L, h => by
    have := fm_le c f L fun y hy => h y (List.mem_cons_of_mem _ hy)
    have h1 := h x (by simp)
    rw [List.flatMap_cons, List.length_append, List.length_cons, Nat.mul_succ]; omega
theorem ordF_len (P : List NN) : ∀ (k : Nat) (L : List Nat), L.length ≤ 6 → (ordF P k L).length ≤ 6 ^ L.length
  | 0, L, _ => Nat.zero_le _
  | k + 1, L, h => by
    unfold ordF
    split
    · rename_i e; subst e; decide
    · rename_i ne
      have hp : 0 < L.length := List.length_pos_iff.mpr ne
      have := fm_le (6 ^ (L.length - 1)) (fun x => if prdN P L x then [] else (ordF P k (L.filter fun y => !(y == x))).map (x :: ·)) L fun x hx => by
        split
        · exact Nat.zero_le _
        · rw [List.length_map]
          have fl := filter_lt hx
          have ih := ordF_len P k (L.filter fun y => !(y == x)) (by omega)
          exact Nat.le_trans ih (Nat.pow_le_pow_right (by decide) (by omega))
      refine Nat.le_trans this ?_
      have e : 6 ^ L.length = 6 ^ (L.length - 1) * 6 := by rw [← Nat.pow_succ]; congr 1; omega
      rw [e]
      exact Nat.mul_le_mul_left _ h
theorem ord_each (P : List NN) : ∀ (k : Nat) (L : List Nat), ∀ r ∈ ordF P k L, r.length ≤ L.length
  | 0, L, r, h => by cases h
  | k + 1, L, r, h => by
    unfold ordF at h
    split at h
    · rename_i e; subst e
      rw [List.mem_singleton.mp h]; exact Nat.le_refl _
    · obtain ⟨x, hx, h⟩ := List.mem_flatMap.mp h
      split at h
      · cases h
      · obtain ⟨r', h', rfl⟩ := List.mem_map.mp h
        have := ord_each P k _ r' h'
        have := filter_lt hx
        rw [List.length_cons]; omega
theorem pow6 {n : Nat} (h : n ≤ 6) : 6 ^ n ≤ 46656 := Nat.le_trans (Nat.pow_le_pow_right (by decide) h) (by decide)
theorem left_ok (ρ : List W) (L : List Nat) (x : Nat) (n : Nat) (i : Nat) (hL : L.length ≤ 1000) (h0 : ∀ y : Nat, ((wipeW ρ [i]).set i (.d (.int (y : Int))))[i]? = some (.d (.int (y : Int)))) (t : Ft) (ht : ∀ y : Nat, t ((wipeW ρ [i]).set i (.d (.int (y : Int)))) n = some (!(y == x), n)) :
    loopC (gOne i) [i] t (eVar i) ρ (L.map iN) n = some ((L.filter fun y => !(y == x)).map iN, n) :=
  comp_filA (g := gOne i) (own := [i]) (tst := t) (elt := eVar i) (ρ := ρ) (n := n) iN iN (fun y => !(y == x)) L fun y _ => ⟨_, rfl, ht y, fun _ => by
    show (match ((wipeW ρ [i]).set i (.d (iN y)))[i]? with | some (.d x) => some (W.d x, n) | some .town => some (W.town, n) | _ => none) = _
    have := h0 y
    rw [show iN y = PyData.int (y : Int) from rfl, this]⟩
theorem orders_from_ok {P : List NN} (hP : P.length ≤ 60) (n : Nat) : ∀ (k : Nat) (L : List Nat), L.length < k → L.length ≤ 6 → m_orders_from_ k [.d (prsN P), .d (nlD L)] n = some (.ol ((ordF P k L).map wyD), n)
  | 0, L, h, _ => by omega
  | k + 1, L, h, h6 => by
    unfold m_orders_from_ b_orders_from
    by_cases e : L = []
    · subst e
      have t : dTru (.list ([] : List PyData)) = some false := rfl
      have t : dTru (nlD []) = some false := rfl
      simp -implicitDefEqProofs only [eVar_ap, dVar_ap, eC_ap, dOf_ap, eFrz_ap, eBin_ap, bTest_ap, bTru_ap, bAnd_ap, bOr_ap, bNot_ap, eIf_ap, eB_ap, eAnd_ap, eOr_ap, aNil_ap, aCons_ap, sNil_ap, sCons_ap, eTup_ap, eLst_ap, eCall_ap, eApp_ap, oNone_ap, oSome_ap, eSl_ap, sNil'_ap, sSeq_ap, sBrk_ap, sRet_ap, sRetN_ap, sRetO_ap, sDrop_ap, sIf_ap, sSet_ap, sApp_ap, sTown_ap, sExt_ap, sIns_ap, sSetIx_ap, sAsg_ap, sPar_ap, iOf_ap, iVal_ap, iRng1_ap, iRng2_ap, sFor_ap, eComp_ap, bYes_ap, frzAt_ap, eUn_ap, eNotD_ap, eOrD_ap, eChain_ap, eListRg1_ap, eIsa_ap, eMt_ap, iEnumV_ap, iEnumF_ap, iZipV_ap, iZipF_ap, eTLen_ap, iRng3D_ap, sEnd_ap, eSs_ap, sPar3_ap, xPop_ap, xTup1_ap, xCat_ap, sSetX_ap, sAppX_ap, sParO_ap, sForEI_ap, sForK_ap, eRep_ap, eDicK_ap, eDicT_ap, sPut_ap, eAlt_ap, sTry_ap, eGetD_ap, eLockI_ap, iKeyF_ap, runB_ap, gOne_ap, gMany_ap, dI_ap, yesC_ap, dCmp_int, setD, kill_nx, kill_rt, kill_bk, Option.bind_some, Option.map_some, Option.bind_none, Option.map_none, List.getElem?_cons_zero, List.getElem?_cons_succ, List.set_cons_zero, List.set_cons_succ, List.cons_append, List.nil_append, List.append_nil, List.replicate, List.length_cons, List.length_nil, Nat.reduceAdd, Nat.reduceSub, Nat.zero_add, wdat_no, wdat_d, wdat_town, wdat_ol, wdat_od, wfrz_no, wfrz_d, wfrz_town, wfrz_ol, wfrz_od, wval_no, wval_d, wval_town, wval_ol, wval_od, warg_no, warg_d, warg_town, warg_ol, warg_od, vals, gLen, gAbs, gMax2, gMin2, gInt, gTup, gList, wipeW, if_true, if_false, Bool.false_eq_true, Bool.not_true, Bool.not_false, reduceCtorEq, t, ordF]
      rfl
    · have t : dTru (nlD L) = some true := by cases L with
        | nil => exact absurd rfl e
        | cons a L => rfl
      have hbP : P.length ≤ big := le_big (by omega)
      have hbL : L.length ≤ big := le_big (by omega)
      have key : ∀ (xs : List Nat) (acc : List (List Nat)), (∀ x ∈ xs, x ∈ L) → acc.length + 46656 * xs.length ≤ 1000000 →
          loopF (gOne 3) (l_orders_from_1 (m_orders_from_ k)) (xs.map iN) [.d (prsN P), .d (nlD L), .ol (acc.map wyD), .no, .no, .no, .no, .no] n =
            some (.nx [.d (prsN P), .d (nlD L), .ol ((acc ++ xs.flatMap fun x => if prdN P L x then [] else (ordF P k (L.filter fun y => !(y == x))).map (x :: ·)).map wyD), .no, .no, .no, .no, .no] n) := by
        intro xs
        induction xs with
        | nil => intro acc _ _; simp [loopF]
        | cons x xs ih =>
          intro acc hx hl
          rw [List.length_cons] at hl
          have hxL := hx x (by simp)
          have c1 := comp_filA (g := gMany [4, 5]) (own := [4, 5]) (tst := bAnd (bTest (eBin dEq (dVar 5) (dVar 3))) (bTest (eBin dIn (dVar 4) (dVar 1)))) (elt := eVar 4) (ρ := [.d (prsN P), .d (nlD L), .ol (acc.map wyD), .d (.int (x : Int)), .no, .no, .no, .no]) (n := n) prN (fun p => .int (p.1 : Int)) (fun p => p.2 == x && decide (p.1 ∈ L)) P fun p hp => by
            have q1 := eqI p.2 x
            have q2 := inNl p.1 L
            refine ⟨[.d (prsN P), .d (nlD L), .ol (acc.map wyD), .d (.int (x : Int)), .d (.int (p.1 : Int)), .d (.int (p.2 : Int)), .no, .no], by simp -implicitDefEqProofs only [eVar_ap, dVar_ap, eC_ap, dOf_ap, eFrz_ap, eBin_ap, bTest_ap, bTru_ap, bAnd_ap, bOr_ap, bNot_ap, eIf_ap, eB_ap, eAnd_ap, eOr_ap, aNil_ap, aCons_ap, sNil_ap, sCons_ap, eTup_ap, eLst_ap, eCall_ap, eApp_ap, oNone_ap, oSome_ap, eSl_ap, sNil'_ap, sSeq_ap, sBrk_ap, sRet_ap, sRetN_ap, sRetO_ap, sDrop_ap, sIf_ap, sSet_ap, sApp_ap, sTown_ap, sExt_ap, sIns_ap, sSetIx_ap, sAsg_ap, sPar_ap, iOf_ap, iVal_ap, iRng1_ap, iRng2_ap, sFor_ap, eComp_ap, bYes_ap, frzAt_ap, eUn_ap, eNotD_ap, eOrD_ap, eChain_ap, eListRg1_ap, eIsa_ap, eMt_ap, iEnumV_ap, iEnumF_ap, iZipV_ap, iZipF_ap, eTLen_ap, iRng3D_ap, sEnd_ap, eSs_ap, sPar3_ap, xPop_ap, xTup1_ap, xCat_ap, sSetX_ap, sAppX_ap, sParO_ap, sForEI_ap, sForK_ap, eRep_ap, eDicK_ap, eDicT_ap, sPut_ap, eAlt_ap, sTry_ap, eGetD_ap, eLockI_ap, iKeyF_ap, runB_ap, gOne_ap, gMany_ap, dI_ap, yesC_ap, dCmp_int, setD, kill_nx, kill_rt, kill_bk, Option.bind_some, Option.map_some, Option.bind_none, Option.map_none, List.getElem?_cons_zero, List.getElem?_cons_succ, List.set_cons_zero, List.set_cons_succ, List.cons_append, List.nil_append, List.append_nil, List.replicate, List.length_cons, List.length_nil, Nat.reduceAdd, Nat.reduceSub, Nat.zero_add, wdat_no, wdat_d, wdat_town, wdat_ol, wdat_od, wfrz_no, wfrz_d, wfrz_town, wfrz_ol, wfrz_od, wval_no, wval_d, wval_town, wval_ol, wval_od, warg_no, warg_d, warg_town, warg_ol, warg_od, vals, gLen, gAbs, gMax2, gMin2, gInt, gTup, gList, wipeW, if_true, if_false, Bool.false_eq_true, Bool.not_true, Bool.not_false, reduceCtorEq, prN], ?_, fun _ => by simp -implicitDefEqProofs only [eVar_ap, dVar_ap, eC_ap, dOf_ap, eFrz_ap, eBin_ap, bTest_ap, bTru_ap, bAnd_ap, bOr_ap, bNot_ap, eIf_ap, eB_ap, eAnd_ap, eOr_ap, aNil_ap, aCons_ap, sNil_ap, sCons_ap, eTup_ap, eLst_ap, eCall_ap, eApp_ap, oNone_ap, oSome_ap, eSl_ap, sNil'_ap, sSeq_ap, sBrk_ap, sRet_ap, sRetN_ap, sRetO_ap, sDrop_ap, sIf_ap, sSet_ap, sApp_ap, sTown_ap, sExt_ap, sIns_ap, sSetIx_ap, sAsg_ap, sPar_ap, iOf_ap, iVal_ap, iRng1_ap, iRng2_ap, sFor_ap, eComp_ap, bYes_ap, frzAt_ap, eUn_ap, eNotD_ap, eOrD_ap, eChain_ap, eListRg1_ap, eIsa_ap, eMt_ap, iEnumV_ap, iEnumF_ap, iZipV_ap, iZipF_ap, eTLen_ap, iRng3D_ap, sEnd_ap, eSs_ap, sPar3_ap, xPop_ap, xTup1_ap, xCat_ap, sSetX_ap, sAppX_ap, sParO_ap, sForEI_ap, sForK_ap, eRep_ap, eDicK_ap, eDicT_ap, sPut_ap, eAlt_ap, sTry_ap, eGetD_ap, eLockI_ap, iKeyF_ap, runB_ap, gOne_ap, gMany_ap, dI_ap, yesC_ap, dCmp_int, setD, kill_nx, kill_rt, kill_bk, Option.bind_some, Option.map_some, Option.bind_none, Option.map_none, List.getElem?_cons_zero, List.getElem?_cons_succ, List.set_cons_zero, List.set_cons_succ, List.cons_append, List.nil_append, List.append_nil, List.replicate, List.length_cons, List.length_nil, Nat.reduceAdd, Nat.reduceSub, Nat.zero_add, wdat_no, wdat_d, wdat_town, wdat_ol, wdat_od, wfrz_no, wfrz_d, wfrz_town, wfrz_ol, wfrz_od, wval_no, wval_d, wval_town, wval_ol, wval_od, warg_no, warg_d, warg_town, warg_ol, warg_od, vals, gLen, gAbs, gMax2, gMin2, gInt, gTup, gList, wipeW, if_true, if_false, Bool.false_eq_true, Bool.not_true, Bool.not_false, reduceCtorEq]⟩
            cases c : p.2 == x with
            | false => rw [c] at q1; simp -implicitDefEqProofs only [eVar_ap, dVar_ap, eC_ap, dOf_ap, eFrz_ap, eBin_ap, bTest_ap, bTru_ap, bAnd_ap, bOr_ap, bNot_ap, eIf_ap, eB_ap, eAnd_ap, eOr_ap, aNil_ap, aCons_ap, sNil_ap, sCons_ap, eTup_ap, eLst_ap, eCall_ap, eApp_ap, oNone_ap, oSome_ap, eSl_ap, sNil'_ap, sSeq_ap, sBrk_ap, sRet_ap, sRetN_ap, sRetO_ap, sDrop_ap, sIf_ap, sSet_ap, sApp_ap, sTown_ap, sExt_ap, sIns_ap, sSetIx_ap, sAsg_ap, sPar_ap, iOf_ap, iVal_ap, iRng1_ap, iRng2_ap, sFor_ap, eComp_ap, bYes_ap, frzAt_ap, eUn_ap, eNotD_ap, eOrD_ap, eChain_ap, eListRg1_ap, eIsa_ap, eMt_ap, iEnumV_ap, iEnumF_ap, iZipV_ap, iZipF_ap, eTLen_ap, iRng3D_ap, sEnd_ap, eSs_ap, sPar3_ap, xPop_ap, xTup1_ap, xCat_ap, sSetX_ap, sAppX_ap, sParO_ap, sForEI_ap, sForK_ap, eRep_ap, eDicK_ap, eDicT_ap, sPut_ap, eAlt_ap, sTry_ap, eGetD_ap, eLockI_ap, iKeyF_ap, runB_ap, gOne_ap, gMany_ap, dI_ap, yesC_ap, dCmp_int, setD, kill_nx, kill_rt, kill_bk, Option.bind_some, Option.map_some, Option.bind_none, Option.map_none, List.getElem?_cons_zero, List.getElem?_cons_succ, List.set_cons_zero, List.set_cons_succ, List.cons_append, List.nil_append, List.append_nil, List.replicate, List.length_cons, List.length_nil, Nat.reduceAdd, Nat.reduceSub, Nat.zero_add, wdat_no, wdat_d, wdat_town, wdat_ol, wdat_od, wfrz_no, wfrz_d, wfrz_town, wfrz_ol, wfrz_od, wval_no, wval_d, wval_town, wval_ol, wval_od, warg_no, warg_d, warg_town, warg_ol, warg_od, vals, gLen, gAbs, gMax2, gMin2, gInt, gTup, gList, wipeW, if_true, if_false, Bool.false_eq_true, Bool.not_true, Bool.not_false, reduceCtorEq, q1, Bool.false_and]
            | true => rw [c] at q1; simp -implicitDefEqProofs only [eVar_ap, dVar_ap, eC_ap, dOf_ap, eFrz_ap, eBin_ap, bTest_ap, bTru_ap, bAnd_ap, bOr_ap, bNot_ap, eIf_ap, eB_ap, eAnd_ap, eOr_ap, aNil_ap, aCons_ap, sNil_ap, sCons_ap, eTup_ap, eLst_ap, eCall_ap, eApp_ap, oNone_ap, oSome_ap, eSl_ap, sNil'_ap, sSeq_ap, sBrk_ap, sRet_ap, sRetN_ap, sRetO_ap, sDrop_ap, sIf_ap, sSet_ap, sApp_ap, sTown_ap, sExt_ap, sIns_ap, sSetIx_ap, sAsg_ap, sPar_ap, iOf_ap, iVal_ap, iRng1_ap, iRng2_ap, sFor_ap, eComp_ap, bYes_ap, frzAt_ap, eUn_ap, eNotD_ap, eOrD_ap, eChain_ap, eListRg1_ap, eIsa_ap, eMt_ap, iEnumV_ap, iEnumF_ap, iZipV_ap, iZipF_ap, eTLen_ap, iRng3D_ap, sEnd_ap, eSs_ap, sPar3_ap, xPop_ap, xTup1_ap, xCat_ap, sSetX_ap, sAppX_ap, sParO_ap, sForEI_ap, sForK_ap, eRep_ap, eDicK_ap, eDicT_ap, sPut_ap, eAlt_ap, sTry_ap, eGetD_ap, eLockI_ap, iKeyF_ap, runB_ap, gOne_ap, gMany_ap, dI_ap, yesC_ap, dCmp_int, setD, kill_nx, kill_rt, kill_bk, Option.bind_some, Option.map_some, Option.bind_none, Option.map_none, List.getElem?_cons_zero, List.getElem?_cons_succ, List.set_cons_zero, List.set_cons_succ, List.cons_append, List.nil_append, List.append_nil, List.replicate, List.length_cons, List.length_nil, Nat.reduceAdd, Nat.reduceSub, Nat.zero_add, wdat_no, wdat_d, wdat_town, wdat_ol, wdat_od, wfrz_no, wfrz_d, wfrz_town, wfrz_ol, wfrz_od, wval_no, wval_d, wval_town, wval_ol, wval_od, warg_no, warg_d, warg_town, warg_ol, warg_od, vals, gLen, gAbs, gMax2, gMin2, gInt, gTup, gList, wipeW, if_true, if_false, Bool.false_eq_true, Bool.not_true, Bool.not_false, reduceCtorEq, q1, q2, Bool.true_and]
          have te : dTru (.list ((P.filter fun p => p.2 == x && decide (p.1 ∈ L)).map fun p => PyData.int (p.1 : Int))) = some (prdN P L x) := by
            show some (!List.isEmpty _) = _
            rw [filter_emp, Bool.not_not]
          rw [List.map_cons, loopF_cons, List.flatMap_cons, ← List.append_assoc]
          unfold l_orders_from_1
          cases cp : prdN P L x with
          | true =>
            rw [cp] at te
            have ih := ih (acc ++ []) (fun y hy => hx y (List.mem_cons_of_mem _ hy)) (by simp; omega)
            rw [List.append_nil] at ih
            simp -implicitDefEqProofs only [eVar_ap, dVar_ap, eC_ap, dOf_ap, eFrz_ap, eBin_ap, bTest_ap, bTru_ap, bAnd_ap, bOr_ap, bNot_ap, eIf_ap, eB_ap, eAnd_ap, eOr_ap, aNil_ap, aCons_ap, sNil_ap, sCons_ap, eTup_ap, eLst_ap, eCall_ap, eApp_ap, oNone_ap, oSome_ap, eSl_ap, sNil'_ap, sSeq_ap, sBrk_ap, sRet_ap, sRetN_ap, sRetO_ap, sDrop_ap, sIf_ap, sSet_ap, sApp_ap, sTown_ap, sExt_ap, sIns_ap, sSetIx_ap, sAsg_ap, sPar_ap, iOf_ap, iVal_ap, iRng1_ap, iRng2_ap, sFor_ap, eComp_ap, bYes_ap, frzAt_ap, eUn_ap, eNotD_ap, eOrD_ap, eChain_ap, eListRg1_ap, eIsa_ap, eMt_ap, iEnumV_ap, iEnumF_ap, iZipV_ap, iZipF_ap, eTLen_ap, iRng3D_ap, sEnd_ap, eSs_ap, sPar3_ap, xPop_ap, xTup1_ap, xCat_ap, sSetX_ap, sAppX_ap, sParO_ap, sForEI_ap, sForK_ap, eRep_ap, eDicK_ap, eDicT_ap, sPut_ap, eAlt_ap, sTry_ap, eGetD_ap, eLockI_ap, iKeyF_ap, runB_ap, gOne_ap, gMany_ap, dI_ap, yesC_ap, dCmp_int, setD, kill_nx, kill_rt, kill_bk, Option.bind_some, Option.map_some, Option.bind_none, Option.map_none, List.getElem?_cons_zero, List.getElem?_cons_succ, List.set_cons_zero, List.set_cons_succ, List.cons_append, List.nil_append, List.append_nil, List.replicate, List.length_cons, List.length_nil, Nat.reduceAdd, Nat.reduceSub, Nat.zero_add, wdat_no, wdat_d, wdat_town, wdat_ol, wdat_od, wfrz_no, wfrz_d, wfrz_town, wfrz_ol, wfrz_od, wval_no, wval_d, wval_town, wval_ol, wval_od, warg_no, warg_d, warg_town, warg_ol, warg_od, vals, gLen, gAbs, gMax2, gMin2, gInt, gTup, gList, wipeW, if_true, if_false, Bool.false_eq_true, Bool.not_true, Bool.not_false, reduceCtorEq, iN, iSeq, List.length_map, hbP, c1, te, List.append_nil]
            exact ih
          | false =>
            rw [cp] at te
            have fl := filter_lt hxL
            have rr := orders_from_ok hP n k (L.filter fun y => !(y == x)) (by omega) (by omega)
            have c2 := left_ok [.d (prsN P), .d (nlD L), .ol (acc.map wyD), .d (.int (x : Int)), .no, .no, .no, .no] L x n 7 (by omega) (fun y => rfl) (bTest (eBin dNe (dVar 7) (dVar 3))) (fun y => by
              have := neI y x
              simp -implicitDefEqProofs only [eVar_ap, dVar_ap, eC_ap, dOf_ap, eFrz_ap, eBin_ap, bTest_ap, bTru_ap, bAnd_ap, bOr_ap, bNot_ap, eIf_ap, eB_ap, eAnd_ap, eOr_ap, aNil_ap, aCons_ap, sNil_ap, sCons_ap, eTup_ap, eLst_ap, eCall_ap, eApp_ap, oNone_ap, oSome_ap, eSl_ap, sNil'_ap, sSeq_ap, sBrk_ap, sRet_ap, sRetN_ap, sRetO_ap, sDrop_ap, sIf_ap, sSet_ap, sApp_ap, sTown_ap, sExt_ap, sIns_ap, sSetIx_ap, sAsg_ap, sPar_ap, iOf_ap, iVal_ap, iRng1_ap, iRng2_ap, sFor_ap, eComp_ap, bYes_ap, frzAt_ap, eUn_ap, eNotD_ap, eOrD_ap, eChain_ap, eListRg1_ap, eIsa_ap, eMt_ap, iEnumV_ap, iEnumF_ap, iZipV_ap, iZipF_ap, eTLen_ap, iRng3D_ap, sEnd_ap, eSs_ap, sPar3_ap, xPop_ap, xTup1_ap, xCat_ap, sSetX_ap, sAppX_ap, sParO_ap, sForEI_ap, sForK_ap, eRep_ap, eDicK_ap, eDicT_ap, sPut_ap, eAlt_ap, sTry_ap, eGetD_ap, eLockI_ap, iKeyF_ap, runB_ap, gOne_ap, gMany_ap, dI_ap, yesC_ap, dCmp_int, setD, kill_nx, kill_rt, kill_bk, Option.bind_some, Option.map_some, Option.bind_none, Option.map_none, List.getElem?_cons_zero, List.getElem?_cons_succ, List.set_cons_zero, List.set_cons_succ, List.cons_append, List.nil_append, List.append_nil, List.replicate, List.length_cons, List.length_nil, Nat.reduceAdd, Nat.reduceSub, Nat.zero_add, wdat_no, wdat_d, wdat_town, wdat_ol, wdat_od, wfrz_no, wfrz_d, wfrz_town, wfrz_ol, wfrz_od, wval_no, wval_d, wval_town, wval_ol, wval_od, warg_no, warg_d, warg_town, warg_ol, warg_od, vals, gLen, gAbs, gMax2, gMin2, gInt, gTup, gList, wipeW, if_true, if_false, Bool.false_eq_true, Bool.not_true, Bool.not_false, reduceCtorEq, this])
            have ol := ordF_len P k (L.filter fun y => !(y == x)) (by omega)
            have p6 := pow6 (n := (L.filter fun y => !(y == x)).length) (by omega)
            have oe := ord_each P k (L.filter fun y => !(y == x))
            have c3 := comp_mapA (g := gOne 6) (own := [6]) (elt := eBin dAdd (dOf (eTup (aCons (eVar 3) aNil))) (dVar 6)) (ρ := [.d (prsN P), .d (nlD L), .ol (acc.map wyD), .d (.int (x : Int)), .no, .no, .no, .no]) (n := n) wyD (fun r => wyD (x :: r)) (ordF P k (L.filter fun y => !(y == x))) fun r hr => ⟨_, rfl, by
              have := dAdd_tup [.int (x : Int)] (r.map iN) (le_big (by have := oe r hr; simp; omega))
              simp -implicitDefEqProofs only [eVar_ap, dVar_ap, eC_ap, dOf_ap, eFrz_ap, eBin_ap, bTest_ap, bTru_ap, bAnd_ap, bOr_ap, bNot_ap, eIf_ap, eB_ap, eAnd_ap, eOr_ap, aNil_ap, aCons_ap, sNil_ap, sCons_ap, eTup_ap, eLst_ap, eCall_ap, eApp_ap, oNone_ap, oSome_ap, eSl_ap, sNil'_ap, sSeq_ap, sBrk_ap, sRet_ap, sRetN_ap, sRetO_ap, sDrop_ap, sIf_ap, sSet_ap, sApp_ap, sTown_ap, sExt_ap, sIns_ap, sSetIx_ap, sAsg_ap, sPar_ap, iOf_ap, iVal_ap, iRng1_ap, iRng2_ap, sFor_ap, eComp_ap, bYes_ap, frzAt_ap, eUn_ap, eNotD_ap, eOrD_ap, eChain_ap, eListRg1_ap, eIsa_ap, eMt_ap, iEnumV_ap, iEnumF_ap, iZipV_ap, iZipF_ap, eTLen_ap, iRng3D_ap, sEnd_ap, eSs_ap, sPar3_ap, xPop_ap, xTup1_ap, xCat_ap, sSetX_ap, sAppX_ap, sParO_ap, sForEI_ap, sForK_ap, eRep_ap, eDicK_ap, eDicT_ap, sPut_ap, eAlt_ap, sTry_ap, eGetD_ap, eLockI_ap, iKeyF_ap, runB_ap, gOne_ap, gMany_ap, dI_ap, yesC_ap, dCmp_int, setD, kill_nx, kill_rt, kill_bk, Option.bind_some, Option.map_some, Option.bind_none, Option.map_none, List.getElem?_cons_zero, List.getElem?_cons_succ, List.set_cons_zero, List.set_cons_succ, List.cons_append, List.nil_append, List.append_nil, List.replicate, List.length_cons, List.length_nil, Nat.reduceAdd, Nat.reduceSub, Nat.zero_add, wdat_no, wdat_d, wdat_town, wdat_ol, wdat_od, wfrz_no, wfrz_d, wfrz_town, wfrz_ol, wfrz_od, wval_no, wval_d, wval_town, wval_ol, wval_od, warg_no, warg_d, warg_town, warg_ol, warg_od, vals, gLen, gAbs, gMax2, gMin2, gInt, gTup, gList, wipeW, if_true, if_false, Bool.false_eq_true, Bool.not_true, Bool.not_false, reduceCtorEq, this]
              rfl⟩
            have hb3 : (ordF P k (L.filter fun y => !(y == x))).length ≤ big := le_big (by omega)
            have hb4 : acc.length + (ordF P k (L.filter fun y => !(y == x))).length ≤ big := le_big (by omega)
            have ih := ih (acc ++ (ordF P k (L.filter fun y => !(y == x))).map (x :: ·)) (fun y hy => hx y (List.mem_cons_of_mem _ hy)) (by simp; omega)
            rw [List.map_append, List.map_map] at ih
            simp -implicitDefEqProofs only [eVar_ap, dVar_ap, eC_ap, dOf_ap, eFrz_ap, eBin_ap, bTest_ap, bTru_ap, bAnd_ap, bOr_ap, bNot_ap, eIf_ap, eB_ap, eAnd_ap, eOr_ap, aNil_ap, aCons_ap, sNil_ap, sCons_ap, eTup_ap, eLst_ap, eCall_ap, eApp_ap, oNone_ap, oSome_ap, eSl_ap, sNil'_ap, sSeq_ap, sBrk_ap, sRet_ap, sRetN_ap, sRetO_ap, sDrop_ap, sIf_ap, sSet_ap, sApp_ap, sTown_ap, sExt_ap, sIns_ap, sSetIx_ap, sAsg_ap, sPar_ap, iOf_ap, iVal_ap, iRng1_ap, iRng2_ap, sFor_ap, eComp_ap, bYes_ap, frzAt_ap, eUn_ap, eNotD_ap, eOrD_ap, eChain_ap, eListRg1_ap, eIsa_ap, eMt_ap, iEnumV_ap, iEnumF_ap, iZipV_ap, iZipF_ap, eTLen_ap, iRng3D_ap, sEnd_ap, eSs_ap, sPar3_ap, xPop_ap, xTup1_ap, xCat_ap, sSetX_ap, sAppX_ap, sParO_ap, sForEI_ap, sForK_ap, eRep_ap, eDicK_ap, eDicT_ap, sPut_ap, eAlt_ap, sTry_ap, eGetD_ap, eLockI_ap, iKeyF_ap, runB_ap, gOne_ap, gMany_ap, dI_ap, yesC_ap, dCmp_int, setD, kill_nx, kill_rt, kill_bk, Option.bind_some, Option.map_some, Option.bind_none, Option.map_none, List.getElem?_cons_zero, List.getElem?_cons_succ, List.set_cons_zero, List.set_cons_succ, List.cons_append, List.nil_append, List.append_nil, List.replicate, List.length_cons, List.length_nil, Nat.reduceAdd, Nat.reduceSub, Nat.zero_add, wdat_no, wdat_d, wdat_town, wdat_ol, wdat_od, wfrz_no, wfrz_d, wfrz_town, wfrz_ol, wfrz_od, wval_no, wval_d, wval_town, wval_ol, wval_od, warg_no, warg_d, warg_town, warg_ol, warg_od, vals, gLen, gAbs, gMax2, gMin2, gInt, gTup, gList, wipeW, if_true, if_false, Bool.false_eq_true, Bool.not_true, Bool.not_false, reduceCtorEq, iN, iSeq, List.length_map, hbP, c1, te, hbL, c2, rr, hb3, c3, hb4]
            exact ih
      have k0 := key L [] (fun x h => h) (by simp; omega)
      rw [List.nil_append, List.map_nil] at k0
      have o0 : ordF P (k + 1) L = L.flatMap fun x => if prdN P L x then [] else (ordF P k (L.filter fun y => !(y == x))).map (x :: ·) := if_neg e
      rw [← o0] at k0
      simp -implicitDefEqProofs only [eVar_ap, dVar_ap, eC_ap, dOf_ap, eFrz_ap, eBin_ap, bTest_ap, bTru_ap, bAnd_ap, bOr_ap, bNot_ap, eIf_ap, eB_ap, eAnd_ap, eOr_ap, aNil_ap, aCons_ap, sNil_ap, sCons_ap, eTup_ap, eLst_ap, eCall_ap, eApp_ap, oNone_ap, oSome_ap, eSl_ap, sNil'_ap, sSeq_ap, sBrk_ap, sRet_ap, sRetN_ap, sRetO_ap, sDrop_ap, sIf_ap, sSet_ap, sApp_ap, sTown_ap, sExt_ap, sIns_ap, sSetIx_ap, sAsg_ap, sPar_ap, iOf_ap, iVal_ap, iRng1_ap, iRng2_ap, sFor_ap, eComp_ap, bYes_ap, frzAt_ap, eUn_ap, eNotD_ap, eOrD_ap, eChain_ap, eListRg1_ap, eIsa_ap, eMt_ap, iEnumV_ap, iEnumF_ap, iZipV_ap, iZipF_ap, eTLen_ap, iRng3D_ap, sEnd_ap, eSs_ap, sPar3_ap, xPop_ap, xTup1_ap, xCat_ap, sSetX_ap, sAppX_ap, sParO_ap, sForEI_ap, sForK_ap, eRep_ap, eDicK_ap, eDicT_ap, sPut_ap, eAlt_ap, sTry_ap, eGetD_ap, eLockI_ap, iKeyF_ap, runB_ap, gOne_ap, gMany_ap, dI_ap, yesC_ap, dCmp_int, setD, kill_nx, kill_rt, kill_bk, Option.bind_some, Option.map_some, Option.bind_none, Option.map_none, List.getElem?_cons_zero, List.getElem?_cons_succ, List.set_cons_zero, List.set_cons_succ, List.cons_append, List.nil_append, List.append_nil, List.replicate, List.length_cons, List.length_nil, Nat.reduceAdd, Nat.reduceSub, Nat.zero_add, wdat_no, wdat_d, wdat_town, wdat_ol, wdat_od, wfrz_no, wfrz_d, wfrz_town, wfrz_ol, wfrz_od, wval_no, wval_d, wval_town, wval_ol, wval_od, warg_no, warg_d, warg_town, warg_ol, warg_od, vals, gLen, gAbs, gMax2, gMin2, gInt, gTup, gList, wipeW, if_true, if_false, Bool.false_eq_true, Bool.not_true, Bool.not_false, reduceCtorEq, t, iSeq, k0]
theorem rgN (m : Nat) : rangeD 0 m = (List.range m).map iN := by
  rw [rangeD_map]
  rfl
theorem ordF_has {P : List NN} (S : ∀ a, (a, a) ∉ P) : ∀ (k : Nat) (M L : List Nat), L.length < k → L.Nodup → M.Perm L → M.Pairwise (fun a b => (b, a) ∉ P) → M ∈ ordF P k L
  | 0, _, _, h, _, _, _ => by omega
  | k + 1, M, L, h, hn, hp, hw => by
    unfold ordF
    cases M with
    | nil =>
      have : L = [] := List.nil_perm.mp hp
      subst this
      simp
    | cons x M =>
      have hx : x ∈ L := hp.mem_iff.mp (by simp)
      have hne : L ≠ [] := fun e => by rw [e] at hx; cases hx
      rw [if_neg hne, List.mem_flatMap]
      refine ⟨x, hx, ?_⟩
      have np : prdN P L x = false := by
        rw [Bool.eq_false_iff]
        intro c
        obtain ⟨f, hf, hfx⟩ := prdN_iff.mp c
        have hf' := hp.mem_iff.mpr hf
        rcases List.mem_cons.mp hf' with rfl | hf'
        · exact S _ hfx
        · exact (List.pairwise_cons.mp hw).1 f hf' hfx
      rw [if_neg (by simp [np])]
      refine List.mem_map.mpr ⟨M, ordF_has S k M _ ?_ (hn.sublist List.filter_sublist) ?_ (List.pairwise_cons.mp hw).2, rfl⟩
      · have := filter_lt hx; omega
      · have hnd : (x :: M).Nodup := hp.nodup_iff.mpr hn
        rw [List.nodup_cons] at hnd
        have hf := hp.filter fun y => !(y == x)
        have e : (x :: M).filter (fun y => !(y == x)) = M := by
          rw [List.filter_cons]
          simp only [beq_self_eq_true, Bool.not_true, Bool.false_eq_true, if_false]
          exact List.filter_eq_self.mpr fun y hy => by
            have : y ≠ x := fun e => hnd.1 (e ▸ hy)
            simp [this]
        rw [e] at hf
        exact hf
end L2.Lv.Sh
namespace L2.Lv.Sh
open PySem PySem.Spec PyProof.Rows L2 L2.Lv
theorem sub_len {α : Type} [DecidableEq α] : ∀ (l m : List α), l.Nodup → (∀ x ∈ l, x ∈ m) → l.length ≤ m.length
  | [], m, _, _ => Nat.zero_le _
  | x :: l, m, hn, hs => by
    have hx := hs x (by simp)
    have hl := List.length_erase_of_mem hx
    have hp : 0 < m.length := List.length_pos_of_mem hx
    have := sub_len l (m.erase x) (List.nodup_cons.mp hn).2 fun y hy => by
      refine (List.mem_erase_of_ne ?_).mpr (hs y (List.mem_cons_of_mem _ hy))
      intro e
      exact (List.nodup_cons.mp hn).1 (e ▸ hy)
    rw [List.length_cons]; omega
/-- those ahead of it -/
def ahd (P : List NN) (x : Nat) : List Nat := (P.filter fun p => p.2 == x).map (·.1)
theorem ahd_mem {P : List NN} {f x : Nat} : f ∈ ahd P x ↔ (f, x) ∈ P := by
  unfold ahd
  rw [List.mem_map]
  constructor
  · rintro ⟨⟨a, b⟩, h, rfl⟩
    rw [List.mem_filter] at h
    have e : b = x := by simpa using h.2
    subst e
    exact h.1
  · intro h
    exact ⟨(f, x), List.mem_filter.mpr ⟨h, by simp⟩, rfl⟩
theorem ahd_nodup {P : List NN} (h : P.Pairwise nlt) (x : Nat) : (ahd P x).Nodup := by
  unfold ahd
  have h1 : (P.filter fun p => p.2 == x).Pairwise nlt := h.sublist List.filter_sublist
  have h2 : (P.filter fun p => p.2 == x).Pairwise (fun p q => p.1 ≠ q.1) := by
    refine List.Pairwise.imp_of_mem (fun {a b} ha hb q => ?_) h1
    have ea := (List.mem_filter.mp ha).2
    have eb := (List.mem_filter.mp hb).2
    simp only [beq_iff_eq] at ea eb
    unfold nlt at q
    omega
  exact List.pairwise_map.mpr h2
def cnt (P : List NN) (x : Nat) : Nat := (ahd P x).length
theorem cnt_lt {P : List NN} (S : So P) {f x : Nat} (h : (f, x) ∈ P) : cnt P f < cnt P x := by
  have := sub_len (f :: ahd P f) (ahd P x) (List.nodup_cons.mpr ⟨fun q => S.irr f (ahd_mem.mp q), ahd_nodup S.srt f⟩) fun y hy => by
    rcases List.mem_cons.mp hy with rfl | hy
    · exact ahd_mem.mpr h
    · exact ahd_mem.mpr (S.tr _ _ _ (ahd_mem.mp hy) h)
  rw [List.length_cons] at this
  exact this
theorem cnt_le (P : List NN) (x : Nat) : cnt P x ≤ P.length := by
  unfold cnt ahd
  rw [List.length_map]
  exact List.length_filter_le _ _
/-! the least order -/
def lstF (P : List NN) : Nat → List Nat → List Nat
  | 0, _ => []
  | k + 1, L => match L.find? fun x => !prdN P L x with
    | some x => x :: lstF P k (L.filter fun y => !(y == x))
    | none => []
theorem loopF_brk {α : Type} {g : Fg} {body : Fs} {ρ : List W} {n : Nat} (enc : α → PyData) (p : α → Bool) (ρ' : α → List W) : ∀ (xs : List α) (x : α), xs.find? p = some x →
    (∀ y ∈ xs, ∃ ρ1, g (enc y) ρ = some ρ1 ∧ body ρ1 n = some (if p y then .bk (ρ' y) n else .nx ρ n)) → loopF g body (xs.map enc) ρ n = some (.nx (ρ' x) n)
  | y :: xs, x, h, hb => by
    obtain ⟨ρ1, e1, e2⟩ := hb y (by simp)
    rw [List.map_cons, loopF_cons]
    rw [List.find?_cons] at h
    cases c : p y with
    | true =>
      rw [c] at h e2
      cases h
      simp only [if_true] at e2
      simp -implicitDefEqProofs only [eVar_ap, dVar_ap, eC_ap, dOf_ap, eFrz_ap, eBin_ap, bTest_ap, bTru_ap, bAnd_ap, bOr_ap, bNot_ap, eIf_ap, eB_ap, eAnd_ap, eOr_ap, aNil_ap, aCons_ap, sNil_ap, sCons_ap, eTup_ap, eLst_ap, eCall_ap, eApp_ap, oNone_ap, oSome_ap, eSl_ap, sNil'_ap, sSeq_ap, sBrk_ap, sRet_ap, sRetN_ap, sRetO_ap, sDrop_ap, sIf_ap, sSet_ap, sApp_ap, sTown_ap, sExt_ap, sIns_ap, sSetIx_ap, sAsg_ap, sPar_ap, iOf_ap, iVal_ap, iRng1_ap, iRng2_ap, sFor_ap, eComp_ap, bYes_ap, frzAt_ap, eUn_ap, eNotD_ap, eOrD_ap, eChain_ap, eListRg1_ap, eIsa_ap, eMt_ap, iEnumV_ap, iEnumF_ap, iZipV_ap, iZipF_ap, eTLen_ap, iRng3D_ap, sEnd_ap, eSs_ap, sPar3_ap, xPop_ap, xTup1_ap, xCat_ap, sSetX_ap, sAppX_ap, sParO_ap, sForEI_ap, sForK_ap, eRep_ap, eDicK_ap, eDicT_ap, sPut_ap, eAlt_ap, sTry_ap, eGetD_ap, eLockI_ap, iKeyF_ap, runB_ap, gOne_ap, gMany_ap, dI_ap, yesC_ap, dCmp_int, setD, kill_nx, kill_rt, kill_bk, Option.bind_some, Option.map_some, Option.bind_none, Option.map_none, List.getElem?_cons_zero, List.getElem?_cons_succ, List.set_cons_zero, List.set_cons_succ, List.cons_append, List.nil_append, List.append_nil, List.replicate, List.length_cons, List.length_nil, Nat.reduceAdd, Nat.reduceSub, Nat.zero_add, wdat_no, wdat_d, wdat_town, wdat_ol, wdat_od, wfrz_no, wfrz_d, wfrz_town, wfrz_ol, wfrz_od, wval_no, wval_d, wval_town, wval_ol, wval_od, warg_no, warg_d, warg_town, warg_ol, warg_od, vals, gLen, gAbs, gMax2, gMin2, gInt, gTup, gList, wipeW, if_true, if_false, Bool.false_eq_true, Bool.not_true, Bool.not_false, reduceCtorEq, e1, e2]
    | false =>
      rw [c] at h e2
      simp only [Bool.false_eq_true, if_false] at e2
      have ih := loopF_brk enc p ρ' xs x h fun z hz => hb z (List.mem_cons_of_mem _ hz)
      simp -implicitDefEqProofs only [eVar_ap, dVar_ap, eC_ap, dOf_ap, eFrz_ap, eBin_ap, bTest_ap, bTru_ap, bAnd_ap, bOr_ap, bNot_ap, eIf_ap, eB_ap, eAnd_ap, eOr_ap, aNil_ap, aCons_ap, sNil_ap, sCons_ap, eTup_ap, eLst_ap, eCall_ap, eApp_ap, oNone_ap, oSome_ap, eSl_ap, sNil'_ap, sSeq_ap, sBrk_ap, sRet_ap, sRetN_ap, sRetO_ap, sDrop_ap, sIf_ap, sSet_ap, sApp_ap, sTown_ap, sExt_ap, sIns_ap, sSetIx_ap, sAsg_ap, sPar_ap, iOf_ap, iVal_ap, iRng1_ap, iRng2_ap, sFor_ap, eComp_ap, bYes_ap, frzAt_ap, eUn_ap, eNotD_ap, eOrD_ap, eChain_ap, eListRg1_ap, eIsa_ap, eMt_ap, iEnumV_ap, iEnumF_ap, iZipV_ap, iZipF_ap, eTLen_ap, iRng3D_ap, sEnd_ap, eSs_ap, sPar3_ap, xPop_ap, xTup1_ap, xCat_ap, sSetX_ap, sAppX_ap, sParO_ap, sForEI_ap, sForK_ap, eRep_ap, eDicK_ap, eDicT_ap, sPut_ap, eAlt_ap, sTry_ap, eGetD_ap, eLockI_ap, iKeyF_ap, runB_ap, gOne_ap, gMany_ap, dI_ap, yesC_ap, dCmp_int, setD, kill_nx, kill_rt, kill_bk, Option.bind_some, Option.map_some, Option.bind_none, Option.map_none, List.getElem?_cons_zero, List.getElem?_cons_succ, List.set_cons_zero, List.set_cons_succ, List.cons_append, List.nil_append, List.append_nil, List.replicate, List.length_cons, List.length_nil, Nat.reduceAdd, Nat.reduceSub, Nat.zero_add, wdat_no, wdat_d, wdat_town, wdat_ol, wdat_od, wfrz_no, wfrz_d, wfrz_town, wfrz_ol, wfrz_od, wval_no, wval_d, wval_town, wval_ol, wval_od, warg_no, warg_d, warg_town, warg_ol, warg_od, vals, gLen, gAbs, gMax2, gMin2, gInt, gTup, gList, wipeW, if_true, if_false, Bool.false_eq_true, Bool.not_true, Bool.not_false, reduceCtorEq, e1, e2, ih]
theorem range_nodup (m : Nat) : (List.range m).Nodup := List.nodup_range
/-! heights -/
def maxN (l : List Nat) : Nat := l.foldr max 0
theorem maxN_spec : ∀ l : List Nat, (maxN l = 0 ∨ maxN l ∈ l) ∧ ∀ z ∈ l, z ≤ maxN l
  | [] => ⟨.inl rfl, fun z h => by cases h⟩
  | x :: l => by
    obtain ⟨h1, h2⟩ := maxN_spec l
    have e : maxN (x :: l) = max x (maxN l) := rfl
    rw [e]
    refine ⟨?_, fun z hz => ?_⟩
    · rcases Nat.le_total x (maxN l) with c | c
      · rw [Nat.max_eq_right c]
        exact h1.imp id fun q => List.mem_cons_of_mem _ q
      · rw [Nat.max_eq_left c]
        exact .inr (by simp)
    · rcases List.mem_cons.mp hz with rfl | hz
      · exact Nat.le_max_left _ _
      · exact Nat.le_trans (h2 z hz) (Nat.le_max_right _ _)
theorem top_nat (l : List Nat) : topI 0 (l.map fun k : Nat => (k : Int)) = ((maxN l : Nat) : Int) := by
  obtain ⟨h1, h2⟩ := maxN_spec l
  refine (top_uniq ?_ fun y hy => ?_).symm
  · rcases h1 with e | e
    · rw [e]; simp
    · exact List.mem_cons_of_mem _ (List.mem_map.mpr ⟨_, e, rfl⟩)
  · rcases List.mem_cons.mp hy with rfl | hy
    · omega
    · obtain ⟨k, hk, rfl⟩ := List.mem_map.mp hy
      have := h2 k hk
      exact_mod_cast this
def hF (P : List NN) : Nat → Nat → Nat
  | 0, _ => 0
  | k + 1, x => maxN ((ahd P x).map fun f => hF P k f + 1)
def hgt (P : List NN) (x : Nat) : Nat := hF P 100 x
def encH (P : List NN) (L : List Nat) : List (PyData × PyData) := L.map fun x => (iN x, iN (hgt P x))
theorem lookI_enc {P : List NN} {x : Nat} : ∀ {L : List Nat}, x ∈ L → lookI (encH P L) (x : Int) = some (iN (hgt P x))
  | y :: L, h => by
    show (if (y : Int) = (x : Int) then some (iN (hgt P y)) else lookI (encH P L) (x : Int)) = _
    by_cases c : y = x
    · subst c; rw [if_pos rfl]
    · rw [if_neg (by omega)]
      exact lookI_enc (List.mem_of_ne_of_mem (Ne.symm c) h)
theorem ixD_enc {P : List NN} {x : Nat} {L : List Nat} (h : x ∈ L) : dIxD (.dict (encH P L)) (.int (x : Int)) = some (.d (.int ((hgt P x : Nat) : Int))) := by
  show (lookD (encH P L) (.int (x : Int))).bind _ = _
  have e : lookD (encH P L) (.int (x : Int)) = some (some (iN (hgt P x))) := by
    have := lookI_enc (P := P) h
    cases L with
    | nil => cases h
    | cons y L =>
      show (if isMk (iN y, iN (hgt P y)) = true then none else some (lookI (encH P (y :: L)) (x : Int))) = _
      rw [if_neg (by simp [isMk, iN])]
      exact congrArg some this
  rw [e]; rfl
theorem putI_enc {P : List NN} {x : Nat} : ∀ {L : List Nat}, x ∉ L → putI (encH P L) (x : Int) (iN (hgt P x)) = encH P (L ++ [x])
  | [], _ => rfl
  | y :: L, h => by
    rw [List.mem_cons, not_or] at h
    show (if some (y : Int) = some (x : Int) then (iN y, iN (hgt P x)) :: encH P L else (iN y, iN (hgt P y)) :: putI (encH P L) (x : Int) (iN (hgt P x))) = _
    rw [if_neg (by simp; omega), putI_enc h.2]
    rfl
theorem putD_encH {P : List NN} {x : Nat} {L : List Nat} (h : x ∉ L) (hl : L.length < 1000) : putD (encH P L) (.int (x : Int)) (.int ((hgt P x : Nat) : Int)) = some (encH P (L ++ [x])) := by
  have := putI_enc (P := P) h
  cases L with
  | nil => rfl
  | cons y L =>
    show (if isMk (iN y, iN (hgt P y)) = true then none else if (encH P (y :: L)).length < big then some (putI (encH P (y :: L)) (x : Int) (iN (hgt P x))) else none) = _
    rw [if_neg (by simp [isMk, iN]), if_pos (by unfold encH big; rw [List.length_map]; omega)]
    exact congrArg some this
end L2.Lv.Sh
namespace L2.Lv.Sh
open PySem PySem.Spec PyProof.Rows L2 L2.Lv
/-! what is agreed, as a strict order -/
/-! layers by heights -/
/-! of one row -/
/-! places are an order -/
theorem cut_take (xs : List PyData) (k : Nat) : cutD xs none (some (k : Int)) = xs.take k := by
  unfold cutD
  have h1 : HT.sIx xs.length xs.length (some (k : Int)) = min k xs.length := by
    simp only [HT.sIx]
    rw [if_neg (by omega)]; omega
  have h2 : HT.sIx xs.length 0 none = 0 := rfl
  rw [h1, h2, List.drop_zero, Nat.sub_zero, ← List.take_eq_take_min]
theorem wy_nc (l : List Nat) (h : l.length ≤ 1000) : nc 2 (wyD l) = true := nc_tup (by simp; omega) fun x hx => by
  obtain ⟨k, _, rfl⟩ := List.mem_map.mp hx
  rfl
end L2.Lv.Sh
namespace L2.Lv.Sh
open PySem PySem.Spec PyProof.Rows L2 L2.Lv
/-! what follows from pairs -/
inductive TC (P : List NN) : Nat → Nat → Prop
  | base {a b : Nat} : (a, b) ∈ P → TC P a b
  | step {a b c : Nat} : TC P a b → (b, c) ∈ P → TC P a c
theorem TC.trans {P : List NN} {a b c : Nat} (h : TC P a b) (g : TC P b c) : TC P a c := by
  induction g with
  | base q => exact .step h q
  | step _ q ih => exact .step ih q
theorem TC.mono {P Q : List NN} (h : ∀ p ∈ P, p ∈ Q) {a b : Nat} (t : TC P a b) : TC Q a b := by
  induction t with
  | base q => exact .base (h _ q)
  | step _ q ih => exact .step ih (h _ q)
/-- pairs of numbers below six, each once -/
structure Pr (P : List NN) : Prop where
  lt : ∀ p ∈ P, p.1 < 6 ∧ p.2 < 6
  nd : P.Nodup
theorem nodup_le : ∀ (l m : List Nat), l.Nodup → (∀ x ∈ l, x ∈ m) → l.length ≤ m.length
  | [], m, _, _ => Nat.zero_le _
  | x :: l, m, hn, hs => by
    have hx := hs x (by simp)
    have hl := List.length_erase_of_mem hx
    have hp : 0 < m.length := List.length_pos_of_mem hx
    have := nodup_le l (m.erase x) (List.nodup_cons.mp hn).2 fun y hy => by
      refine (List.mem_erase_of_ne ?_).mpr (hs y (List.mem_cons_of_mem _ hy))
      intro e
      exact (List.nodup_cons.mp hn).1 (e ▸ hy)
    rw [List.length_cons]; omega
theorem Pr.few {P : List NN} (h : Pr P) : P.length ≤ 36 := by
  have nd : (P.map fun p => 6 * p.1 + p.2).Nodup := by
    unfold List.Nodup
    rw [List.pairwise_map]
    refine List.Pairwise.imp_of_mem (fun {a b} ha hb ne e => ?_) h.nd
    have := h.lt a ha
    have := h.lt b hb
    refine ne ?_
    obtain ⟨a1, a2⟩ := a
    obtain ⟨b1, b2⟩ := b
    simp only [Prod.mk.injEq] at *
    omega
  have := nodup_le _ (List.range 36) nd fun x hx => by
    obtain ⟨p, hp, rfl⟩ := List.mem_map.mp hx
    have := h.lt p hp
    exact List.mem_range.mpr (by omega)
  simpa using this
theorem TC.lt {P : List NN} (h : Pr P) {a b : Nat} (t : TC P a b) : a < 6 ∧ b < 6 := by
  induction t with
  | base q => exact h.lt _ q
  | step _ q ih => exact ⟨ih.1, (h.lt _ q).2⟩
/-! adding up -/
def addAll (L Q : List NN) : List NN := Q.foldl addP L
theorem addP_mem {L : List NN} {p x : NN} : x ∈ addP L p ↔ x ∈ L ∨ x = p := by
  unfold addP
  split
  · rename_i h
    exact ⟨.inl, fun q => q.elim id fun e => e ▸ h⟩
  · rw [List.mem_append, List.mem_singleton]
theorem addP_nd {L : List NN} {p : NN} (h : L.Nodup) : (addP L p).Nodup := by
  unfold addP
  split
  · exact h
  · rename_i hp
    rw [List.nodup_append]
    exact ⟨h, by simp, fun a ha b hb => by rw [List.mem_singleton.mp hb]; exact fun e => hp (e ▸ ha)⟩
theorem addP_len (L : List NN) (p : NN) : L.length ≤ (addP L p).length ∧ (addP L p).length ≤ L.length + 1 := by
  unfold addP
  split
  · omega
  · rw [List.length_append, List.length_singleton]; omega
theorem addAll_mem : ∀ {Q L : List NN} {x : NN}, x ∈ addAll L Q ↔ x ∈ L ∨ x ∈ Q
  | [], L, x => by simp [addAll]
  | p :: Q, L, x => by
    show x ∈ addAll (addP L p) Q ↔ _
    rw [addAll_mem, addP_mem, List.mem_cons]
    constructor
    · rintro ((h | h) | h)
      · exact .inl h
      · exact .inr (.inl h)
      · exact .inr (.inr h)
    · rintro (h | h | h)
      · exact .inl (.inl h)
      · exact .inl (.inr h)
      · exact .inr h
theorem addAll_nd : ∀ {Q L : List NN}, L.Nodup → (addAll L Q).Nodup
  | [], _, h => h
  | _ :: Q, _, h => addAll_nd (Q := Q) (addP_nd h)
theorem addAll_len : ∀ (Q L : List NN), L.length ≤ (addAll L Q).length ∧ (addAll L Q).length ≤ L.length + Q.length
  | [], _ => by simp [addAll]
  | p :: Q, L => by
    have h := addAll_len Q (addP L p)
    have g := addP_len L p
    show L.length ≤ (addAll (addP L p) Q).length ∧ (addAll (addP L p) Q).length ≤ _
    rw [List.length_cons]
    omega
theorem addAll_sub : ∀ {Q L : List NN}, (addAll L Q).length = L.length → ∀ x ∈ Q, x ∈ L
  | [], _, _, x, hx => by cases hx
  | p :: Q, L, h, x, hx => by
    have h1 : (addAll (addP L p) Q).length = L.length := h
    have h2 := addAll_len Q (addP L p)
    have h3 := addP_len L p
    have hp : p ∈ L := by
      refine Classical.byContradiction fun c => ?_
      have : (addP L p).length = L.length + 1 := by unfold addP; rw [if_neg c]; simp
      omega
    have e : addP L p = L := by unfold addP; rw [if_pos hp]
    rw [e] at h1
    rcases List.mem_cons.mp hx with rfl | hx
    · exact hp
    · exact addAll_sub h1 x hx
/-- one step on -/
def Nx (P A A' : List NN) : Prop := ∀ a c, (a, c) ∈ A' ↔ (a, c) ∈ A ∨ ∃ b, (a, b) ∈ A ∧ (b, c) ∈ P
def Sat (P A : List NN) : Prop := ∀ a b c, (a, b) ∈ A → (b, c) ∈ P → (a, c) ∈ A
structure Within (P A : List NN) : Prop where
  low : ∀ p ∈ P, p ∈ A
  up : ∀ a b, (a, b) ∈ A → TC P a b
  nd : A.Nodup
theorem Within.pr {P A : List NN} (W : Within P A) (h : Pr P) : Pr A := ⟨fun p hp => (W.up p.1 p.2 hp).lt h, W.nd⟩
theorem Within.next {P A A' : List NN} (W : Within P A) (x : Nx P A A') (nd : A'.Nodup) : Within P A' := ⟨fun p hp => (x p.1 p.2).mpr (.inl (W.low p hp)), fun a b h => by
  rcases (x a b).mp h with h | ⟨c, h1, h2⟩
  · exact W.up a b h
  · exact .step (W.up a c h1) h2, nd⟩
theorem Within.tc {P A : List NN} (W : Within P A) (s : Sat P A) (a b : Nat) : (a, b) ∈ A ↔ TC P a b := ⟨W.up a b, fun t => by
  induction t with
  | base q => exact W.low _ q
  | step _ q ih => exact s _ _ _ ih q⟩
/-- the list of all that follow -/
def nxt (P A : List NN) : List NN := addAll A (A.flatMap fun p => (P.filter fun q => p.2 == q.1).map fun q => (p.1, q.2))
theorem nxt_nx (P A : List NN) : Nx P A (nxt P A) := fun a c => by
  unfold nxt
  rw [addAll_mem, List.mem_flatMap]
  refine or_congr Iff.rfl ⟨?_, ?_⟩
  · rintro ⟨p, hp, h⟩
    obtain ⟨q, hq, e⟩ := List.mem_map.mp h
    rw [List.mem_filter, beq_iff_eq] at hq
    cases e
    exact ⟨p.2, hp, by rw [hq.2]; exact hq.1⟩
  · rintro ⟨b, h1, h2⟩
    exact ⟨(a, b), h1, List.mem_map.mpr ⟨(b, c), List.mem_filter.mpr ⟨h2, by simp⟩, rfl⟩⟩
def itN (P : List NN) : Nat → List NN → List NN
  | 0, A => A
  | k + 1, A => itN P k (nxt P A)
theorem itN_in {P : List NN} : ∀ (k : Nat) {A : List NN}, Within P A → Within P (itN P k A)
  | 0, _, W => W
  | k + 1, _, W => itN_in k (W.next (nxt_nx P _) (addAll_nd W.nd))
theorem itN_succ (P : List NN) : ∀ (k : Nat) (A : List NN), itN P (k + 1) A = nxt P (itN P k A)
  | 0, _ => rfl
  | k + 1, A => by
    show itN P (k + 1) (nxt P A) = _
    rw [itN_succ P k]; rfl
/-- from one number on, six steps are enough -/
theorem row_grow {P : List NN} (A : Nat → List NN) (hx : ∀ k, Nx P (A k) (A (k + 1))) (a : Nat) : ∀ k, (∀ c, (a, c) ∈ A (k + 1) → (a, c) ∈ A k) ∨ ∃ l : List Nat, l.length = k + 1 ∧ l.Nodup ∧ ∀ c ∈ l, (a, c) ∈ A (k + 1)
  | 0 => by
    by_cases h : ∀ c, (a, c) ∈ A 1 → (a, c) ∈ A 0
    · exact .inl h
    · obtain ⟨c, hc⟩ := Classical.not_forall.mp h
      exact .inr ⟨[c], rfl, by simp, fun d hd => by rw [List.mem_singleton.mp hd]; exact (Classical.not_imp.mp hc).1⟩
  | k + 1 => by
    rcases row_grow A hx a k with h | ⟨l, h1, h2, h3⟩
    · left
      intro c hc
      rcases (hx (k + 1) a c).mp hc with q | ⟨b, q1, q2⟩
      · exact q
      · exact (hx k a c).mpr (.inr ⟨b, h b q1, q2⟩)
    · by_cases h : ∀ c, (a, c) ∈ A (k + 2) → (a, c) ∈ A (k + 1)
      · exact .inl h
      · obtain ⟨c, hc⟩ := Classical.not_forall.mp h
        obtain ⟨c1, c2⟩ := Classical.not_imp.mp hc
        refine .inr ⟨c :: l, by rw [List.length_cons, h1], List.nodup_cons.mpr ⟨fun q => c2 (h3 c q), h2⟩, fun d hd => ?_⟩
        rcases List.mem_cons.mp hd with rfl | hd
        · exact c1
        · exact (hx (k + 1) a d).mpr (.inl (h3 d hd))
theorem itN_sat {P : List NN} (h : Pr P) : Sat P (itN P 6 P) := by
  intro a b c h1 h2
  have W : ∀ k, Within P (itN P k P) := fun k => itN_in k ⟨fun _ q => q, fun _ _ q => .base q, h.nd⟩
  have hx : ∀ k, Nx P (itN P k P) (itN P (k + 1) P) := fun k => by rw [itN_succ]; exact nxt_nx P _
  rcases row_grow (fun k => itN P k P) hx a 6 with q | ⟨l, q1, q2, q3⟩
  · exact q c ((hx 6 a c).mpr (.inr ⟨b, h1, h2⟩))
  · have := nodup6 q2 fun x hx => ((W 7).up a x (q3 x hx)).lt h |>.2
    omega
def tcL (P : List NN) : List NN := srtP (itN P 6 P)
theorem tcL_mem {P : List NN} (h : Pr P) {a b : Nat} : (a, b) ∈ tcL P ↔ TC P a b := by
  unfold tcL
  rw [(srtP_perm _).mem_iff]
  exact (itN_in 6 ⟨fun _ q => q, fun _ _ q => .base q, h.nd⟩ : Within P _).tc (itN_sat h) a b
theorem srt_eq {A B : List NN} (ha : A.Nodup) (hb : B.Nodup) (h : ∀ x, x ∈ A ↔ x ∈ B) : srtP A = srtP B := by
  have p : A.Perm B := (List.perm_ext_iff_of_nodup ha hb).mpr h
  exact srtP_of (p.trans (srtP_perm B).symm) (srtP_pw B)
theorem tcL_eq {P A : List NN} (h : Pr P) (nd : A.Nodup) (hm : ∀ a b, (a, b) ∈ A ↔ TC P a b) : srtP A = tcL P :=
  srt_eq nd (itN_in 6 ⟨fun _ q => q, fun _ _ q => .base q, h.nd⟩ : Within P _).nd fun x => by
    rw [hm x.1 x.2, ← tcL_mem h]
    unfold tcL
    rw [(srtP_perm _).mem_iff]
theorem tcL_pr {P : List NN} (h : Pr P) : Pr (tcL P) := ⟨fun p hp => ((tcL_mem h (a := p.1) (b := p.2)).mp hp).lt h, (srtP_perm _).nodup_iff.mpr (itN_in 6 ⟨fun _ q => q, fun _ _ q => .base q, h.nd⟩ : Within P _).nd⟩
theorem tc_tc {P : List NN} (h : Pr P) {a b : Nat} : TC (tcL P) a b ↔ TC P a b := ⟨fun t => by
  induction t with
  | base q => exact (tcL_mem h).mp q
  | step _ q ih => exact ih.trans ((tcL_mem h).mp q), fun t => .base ((tcL_mem h).mpr t)⟩
theorem tcL_pw {P : List NN} : (tcL P).Pairwise nle := srtP_pw _
theorem tcL_tcL {P : List NN} (h : Pr P) : tcL (tcL P) = tcL P := by
  have e := tcL_eq (P := tcL P) (A := tcL P) (tcL_pr h) (tcL_pr h).nd fun a b => by rw [tc_tc h, tcL_mem h]
  rw [← e]
  exact srtP_of (List.Perm.refl _) tcL_pw
theorem tcL_so {P : List NN} (h : Pr P) (hn : ∀ a, ¬ TC P a a) : So (tcL P) := ⟨fun a q => hn a ((tcL_mem h).mp q), fun a b c p q => (tcL_mem h).mpr (((tcL_mem h).mp p).trans ((tcL_mem h).mp q)), (tcL_pr h).lt, Nat.le_trans (tcL_pr h).few (by decide), by
  have nd := (tcL_pr h).nd
  have pw := tcL_pw (P := P)
  unfold List.Nodup at nd
  refine (nd.and pw).imp fun {a b} q => ?_
  obtain ⟨q1, q2⟩ := q
  unfold nle at q2
  unfold nlt
  obtain ⟨a1, a2⟩ := a
  obtain ⟨b1, b2⟩ := b
  simp only [ne_eq, Prod.mk.injEq, not_and] at *
  omega⟩
/-! closed -/
theorem closed_in (w0 w3 w4 : W) (a n : Nat) : ∀ (ts : List Nat) (acc : List NN), acc.length + ts.length ≤ 100000 →
    loopF (gOne 6) l_closed_4 (ts.map iN) [w0, .od (markT :: encP acc), .no, w3, .d (.int (a : Int)), .no, .no] n = some (.nx [w0, .od (markT :: encP (addAll acc (ts.map fun t => (a, t)))), .no, w3, .d (.int (a : Int)), .no, .no] n)
  | [], acc, _ => rfl
  | t :: ts, acc, h => by
    rw [List.length_cons] at h
    have g := putD_enc acc (a, t) (by unfold big; omega)
    have g : putD (markT :: encP acc) (.tuple [.int (a : Int), .int (t : Int)]) (.bool true) = some (markT :: encP (addP acc (a, t))) := g
    have rest := closed_in w0 w3 w4 a n ts (addP acc (a, t)) (by have := (addP_len acc (a, t)).2; omega)
    rw [List.map_cons, loopF_cons]
    unfold l_closed_4
    simp -implicitDefEqProofs only [eVar_ap, dVar_ap, eC_ap, dOf_ap, eFrz_ap, eBin_ap, bTest_ap, bTru_ap, bAnd_ap, bOr_ap, bNot_ap, eIf_ap, eB_ap, eAnd_ap, eOr_ap, aNil_ap, aCons_ap, sNil_ap, sCons_ap, eTup_ap, eLst_ap, eCall_ap, eApp_ap, oNone_ap, oSome_ap, eSl_ap, sNil'_ap, sSeq_ap, sBrk_ap, sRet_ap, sRetN_ap, sRetO_ap, sDrop_ap, sIf_ap, sSet_ap, sApp_ap, sTown_ap, sExt_ap, sIns_ap, sSetIx_ap, sAsg_ap, sPar_ap, iOf_ap, iVal_ap, iRng1_ap, iRng2_ap, sFor_ap, eComp_ap, bYes_ap, frzAt_ap, eUn_ap, eNotD_ap, eOrD_ap, eChain_ap, eListRg1_ap, eIsa_ap, eMt_ap, iEnumV_ap, iEnumF_ap, iZipV_ap, iZipF_ap, eTLen_ap, iRng3D_ap, sEnd_ap, eSs_ap, sPar3_ap, xPop_ap, xTup1_ap, xCat_ap, sSetX_ap, sAppX_ap, sParO_ap, sForEI_ap, sForK_ap, eRep_ap, eDicK_ap, eDicT_ap, sPut_ap, eAlt_ap, sTry_ap, eGetD_ap, eLockI_ap, iKeyF_ap, runB_ap, gOne_ap, gMany_ap, dI_ap, yesC_ap, dCmp_int, setD, kill_nx, kill_rt, kill_bk, Option.bind_some, Option.map_some, Option.bind_none, Option.map_none, List.getElem?_cons_zero, List.getElem?_cons_succ, List.set_cons_zero, List.set_cons_succ, List.cons_append, List.nil_append, List.append_nil, List.replicate, List.length_cons, List.length_nil, Nat.reduceAdd, Nat.reduceSub, Nat.zero_add, wdat_no, wdat_d, wdat_town, wdat_ol, wdat_od, wfrz_no, wfrz_d, wfrz_town, wfrz_ol, wfrz_od, wval_no, wval_d, wval_town, wval_ol, wval_od, warg_no, warg_d, warg_town, warg_ol, warg_od, vals, gLen, gAbs, gMax2, gMin2, gInt, gTup, gList, wipeW, if_true, if_false, Bool.false_eq_true, Bool.not_true, Bool.not_false, reduceCtorEq, iN, g]
    exact rest
theorem closed_mid (P : List NN) (hP : P.length ≤ 36) (w3 : W) (n : Nat) : ∀ (L acc : List NN), acc.length + 36 * L.length ≤ 100000 →
    loopF (gMany [4, 5]) l_closed_3 (L.map prN) [.d (prsN P), .od (markT :: encP acc), .no, w3, .no, .no, .no] n = some (.nx [.d (prsN P), .od (markT :: encP (addAll acc (L.flatMap fun p => (behN P p.2).map fun t => (p.1, t)))), .no, w3, .no, .no, .no] n)
  | [], acc, _ => rfl
  | p :: L, acc, h => by
    rw [List.length_cons] at h
    have b := behind_ok P (by omega) p.2 n
    have bl := behN_len P p.2
    have lp := closed_in (.d (prsN P)) w3 .no p.1 n (behN P p.2) acc (by omega)
    have al := (addAll_len ((behN P p.2).map fun t => (p.1, t)) acc).2
    rw [List.length_map] at al
    have rest := closed_mid P hP w3 n L (addAll acc ((behN P p.2).map fun t => (p.1, t))) (by omega)
    have e : addAll acc ((p :: L).flatMap fun p => (behN P p.2).map fun t => (p.1, t)) = addAll (addAll acc ((behN P p.2).map fun t => (p.1, t))) (L.flatMap fun p => (behN P p.2).map fun t => (p.1, t)) := by
      unfold addAll
      rw [List.flatMap_cons, List.foldl_append]
    rw [List.map_cons, loopF_cons, e]
    unfold l_closed_3
    simp -implicitDefEqProofs only [eVar_ap, dVar_ap, eC_ap, dOf_ap, eFrz_ap, eBin_ap, bTest_ap, bTru_ap, bAnd_ap, bOr_ap, bNot_ap, eIf_ap, eB_ap, eAnd_ap, eOr_ap, aNil_ap, aCons_ap, sNil_ap, sCons_ap, eTup_ap, eLst_ap, eCall_ap, eApp_ap, oNone_ap, oSome_ap, eSl_ap, sNil'_ap, sSeq_ap, sBrk_ap, sRet_ap, sRetN_ap, sRetO_ap, sDrop_ap, sIf_ap, sSet_ap, sApp_ap, sTown_ap, sExt_ap, sIns_ap, sSetIx_ap, sAsg_ap, sPar_ap, iOf_ap, iVal_ap, iRng1_ap, iRng2_ap, sFor_ap, eComp_ap, bYes_ap, frzAt_ap, eUn_ap, eNotD_ap, eOrD_ap, eChain_ap, eListRg1_ap, eIsa_ap, eMt_ap, iEnumV_ap, iEnumF_ap, iZipV_ap, iZipF_ap, eTLen_ap, iRng3D_ap, sEnd_ap, eSs_ap, sPar3_ap, xPop_ap, xTup1_ap, xCat_ap, sSetX_ap, sAppX_ap, sParO_ap, sForEI_ap, sForK_ap, eRep_ap, eDicK_ap, eDicT_ap, sPut_ap, eAlt_ap, sTry_ap, eGetD_ap, eLockI_ap, iKeyF_ap, runB_ap, gOne_ap, gMany_ap, dI_ap, yesC_ap, dCmp_int, setD, kill_nx, kill_rt, kill_bk, Option.bind_some, Option.map_some, Option.bind_none, Option.map_none, List.getElem?_cons_zero, List.getElem?_cons_succ, List.set_cons_zero, List.set_cons_succ, List.cons_append, List.nil_append, List.append_nil, List.replicate, List.length_cons, List.length_nil, Nat.reduceAdd, Nat.reduceSub, Nat.zero_add, wdat_no, wdat_d, wdat_town, wdat_ol, wdat_od, wfrz_no, wfrz_d, wfrz_town, wfrz_ol, wfrz_od, wval_no, wval_d, wval_town, wval_ol, wval_od, warg_no, warg_d, warg_town, warg_ol, warg_od, vals, gLen, gAbs, gMax2, gMin2, gInt, gTup, gList, wipeW, if_true, if_false, Bool.false_eq_true, Bool.not_true, Bool.not_false, reduceCtorEq, prN, b, iSeq, lp]
    exact rest
def nxB (P A : List NN) : List NN := addAll A (A.flatMap fun p => (behN P p.2).map fun t => (p.1, t))
theorem nxB_nx (P A : List NN) : Nx P A (nxB P A) := fun a c => by
  unfold nxB
  rw [addAll_mem, List.mem_flatMap]
  refine or_congr Iff.rfl ⟨?_, ?_⟩
  · rintro ⟨p, hp, h⟩
    obtain ⟨t, ht, e⟩ := List.mem_map.mp h
    cases e
    exact ⟨p.2, hp, behN_mem.mp ht⟩
  · rintro ⟨b, h1, h2⟩
    exact ⟨(a, b), h1, List.mem_map.mpr ⟨c, behN_mem.mpr h2, rfl⟩⟩
theorem closed_wh {P : List NN} (hP : Pr P) (n : Nat) : ∀ (d : Nat) (acc : List NN), 36 < acc.length + d → Within P acc → ∀ z : Int, z ≠ (acc.length : Int) → ∀ f, d ≤ f →
    ∃ acc', Within P acc' ∧ Sat P acc' ∧ loopW (bTest (eBin dNe (dVar 3) (dOf (eApp gLenD (sCons (dVar 1) sNil))))) l_closed_2 (f + 1) [.d (prsN P), .od (markT :: encP acc), .no, .d (.int z), .no, .no, .no] n = some (.nx [.d (prsN P), .od (markT :: encP acc'), .no, .d (.int (acc'.length : Int)), .no, .no, .no] n)
  | 0, acc, h, W, _, _, _, _ => by
    have := (W.pr hP).few
    omega
  | d + 1, acc, h, W, z, hz, f, hf => by
    obtain ⟨f, rfl⟩ : ∃ f', f = f' + 1 := ⟨f - 1, by omega⟩
    have fw := (W.pr hP).few
    have c1 : dNe (.int z) (.int (acc.length : Int)) = some (.d (.bool true)) := by
      rw [dNe_int, beq_eq_false_iff_ne.mpr hz]; rfl
    have l1 := lenD_enc acc
    have ld := listD_enc acc
    have md := closed_mid P hP.few (.d (.int (acc.length : Int))) n acc acc (by omega)
    have W' := W.next (nxB_nx P acc) (addAll_nd W.nd)
    have l2 := lenD_enc (nxB P acc)
    rw [loopW_succ]
    by_cases c : (nxB P acc).length = acc.length
    · have s : Sat P acc := fun a b c' h1 h2 => by
        have := addAll_sub c (a, c') (List.mem_flatMap.mpr ⟨(a, b), h1, List.mem_map.mpr ⟨c', behN_mem.mpr h2, rfl⟩⟩)
        exact this
      have s' : Sat P (nxB P acc) := fun a b c' h1 h2 => by
        have q : (a, b) ∈ acc := by
          rcases (nxB_nx P acc a b).mp h1 with q | ⟨e, q1, q2⟩
          · exact q
          · exact s _ _ _ q1 q2
        exact (nxB_nx P acc a c').mpr (.inl (s _ _ _ q h2))
      refine ⟨nxB P acc, W', s', ?_⟩
      have c2 : dNe (.int (acc.length : Int)) (.int ((nxB P acc).length : Int)) = some (.d (.bool false)) := by rw [c]; simp [dNe_int]
      unfold l_closed_2
      simp -implicitDefEqProofs only [eVar_ap, dVar_ap, eC_ap, dOf_ap, eFrz_ap, eBin_ap, bTest_ap, bTru_ap, bAnd_ap, bOr_ap, bNot_ap, eIf_ap, eB_ap, eAnd_ap, eOr_ap, aNil_ap, aCons_ap, sNil_ap, sCons_ap, eTup_ap, eLst_ap, eCall_ap, eApp_ap, oNone_ap, oSome_ap, eSl_ap, sNil'_ap, sSeq_ap, sBrk_ap, sRet_ap, sRetN_ap, sRetO_ap, sDrop_ap, sIf_ap, sSet_ap, sApp_ap, sTown_ap, sExt_ap, sIns_ap, sSetIx_ap, sAsg_ap, sPar_ap, iOf_ap, iVal_ap, iRng1_ap, iRng2_ap, sFor_ap, eComp_ap, bYes_ap, frzAt_ap, eUn_ap, eNotD_ap, eOrD_ap, eChain_ap, eListRg1_ap, eIsa_ap, eMt_ap, iEnumV_ap, iEnumF_ap, iZipV_ap, iZipF_ap, eTLen_ap, iRng3D_ap, sEnd_ap, eSs_ap, sPar3_ap, xPop_ap, xTup1_ap, xCat_ap, sSetX_ap, sAppX_ap, sParO_ap, sForEI_ap, sForK_ap, eRep_ap, eDicK_ap, eDicT_ap, sPut_ap, eAlt_ap, sTry_ap, eGetD_ap, eLockI_ap, iKeyF_ap, runB_ap, gOne_ap, gMany_ap, dI_ap, yesC_ap, dCmp_int, setD, kill_nx, kill_rt, kill_bk, Option.bind_some, Option.map_some, Option.bind_none, Option.map_none, List.getElem?_cons_zero, List.getElem?_cons_succ, List.set_cons_zero, List.set_cons_succ, List.cons_append, List.nil_append, List.append_nil, List.replicate, List.length_cons, List.length_nil, Nat.reduceAdd, Nat.reduceSub, Nat.zero_add, wdat_no, wdat_d, wdat_town, wdat_ol, wdat_od, wfrz_no, wfrz_d, wfrz_town, wfrz_ol, wfrz_od, wval_no, wval_d, wval_town, wval_ol, wval_od, warg_no, warg_d, warg_town, warg_ol, warg_od, vals, gLen, gAbs, gMax2, gMin2, gInt, gTup, gList, wipeW, if_true, if_false, Bool.false_eq_true, Bool.not_true, Bool.not_false, reduceCtorEq, l1, c1, ld, iSeq, md]
      rw [loopW_succ]
      have l2 : gLenD [.dict (markT :: encP (addAll acc (acc.flatMap fun p => (behN P p.2).map fun t => (p.1, t))))] = some (.d (.int ((nxB P acc).length : Int))) := l2
      simp -implicitDefEqProofs only [eVar_ap, dVar_ap, eC_ap, dOf_ap, eFrz_ap, eBin_ap, bTest_ap, bTru_ap, bAnd_ap, bOr_ap, bNot_ap, eIf_ap, eB_ap, eAnd_ap, eOr_ap, aNil_ap, aCons_ap, sNil_ap, sCons_ap, eTup_ap, eLst_ap, eCall_ap, eApp_ap, oNone_ap, oSome_ap, eSl_ap, sNil'_ap, sSeq_ap, sBrk_ap, sRet_ap, sRetN_ap, sRetO_ap, sDrop_ap, sIf_ap, sSet_ap, sApp_ap, sTown_ap, sExt_ap, sIns_ap, sSetIx_ap, sAsg_ap, sPar_ap, iOf_ap, iVal_ap, iRng1_ap, iRng2_ap, sFor_ap, eComp_ap, bYes_ap, frzAt_ap, eUn_ap, eNotD_ap, eOrD_ap, eChain_ap, eListRg1_ap, eIsa_ap, eMt_ap, iEnumV_ap, iEnumF_ap, iZipV_ap, iZipF_ap, eTLen_ap, iRng3D_ap, sEnd_ap, eSs_ap, sPar3_ap, xPop_ap, xTup1_ap, xCat_ap, sSetX_ap, sAppX_ap, sParO_ap, sForEI_ap, sForK_ap, eRep_ap, eDicK_ap, eDicT_ap, sPut_ap, eAlt_ap, sTry_ap, eGetD_ap, eLockI_ap, iKeyF_ap, runB_ap, gOne_ap, gMany_ap, dI_ap, yesC_ap, dCmp_int, setD, kill_nx, kill_rt, kill_bk, Option.bind_some, Option.map_some, Option.bind_none, Option.map_none, List.getElem?_cons_zero, List.getElem?_cons_succ, List.set_cons_zero, List.set_cons_succ, List.cons_append, List.nil_append, List.append_nil, List.replicate, List.length_cons, List.length_nil, Nat.reduceAdd, Nat.reduceSub, Nat.zero_add, wdat_no, wdat_d, wdat_town, wdat_ol, wdat_od, wfrz_no, wfrz_d, wfrz_town, wfrz_ol, wfrz_od, wval_no, wval_d, wval_town, wval_ol, wval_od, warg_no, warg_d, warg_town, warg_ol, warg_od, vals, gLen, gAbs, gMax2, gMin2, gInt, gTup, gList, wipeW, if_true, if_false, Bool.false_eq_true, Bool.not_true, Bool.not_false, reduceCtorEq, l2, c2]
      rw [c]; rfl
    · have g := addAll_len (acc.flatMap fun p => (behN P p.2).map fun t => (p.1, t)) acc
      have g1 : acc.length ≤ (nxB P acc).length := g.1
      obtain ⟨acc', h1, h2, h3⟩ := closed_wh hP n d (nxB P acc) (by omega) W' (acc.length : Int) (by omega) f (by omega)
      refine ⟨acc', h1, h2, ?_⟩
      unfold l_closed_2
      simp -implicitDefEqProofs only [eVar_ap, dVar_ap, eC_ap, dOf_ap, eFrz_ap, eBin_ap, bTest_ap, bTru_ap, bAnd_ap, bOr_ap, bNot_ap, eIf_ap, eB_ap, eAnd_ap, eOr_ap, aNil_ap, aCons_ap, sNil_ap, sCons_ap, eTup_ap, eLst_ap, eCall_ap, eApp_ap, oNone_ap, oSome_ap, eSl_ap, sNil'_ap, sSeq_ap, sBrk_ap, sRet_ap, sRetN_ap, sRetO_ap, sDrop_ap, sIf_ap, sSet_ap, sApp_ap, sTown_ap, sExt_ap, sIns_ap, sSetIx_ap, sAsg_ap, sPar_ap, iOf_ap, iVal_ap, iRng1_ap, iRng2_ap, sFor_ap, eComp_ap, bYes_ap, frzAt_ap, eUn_ap, eNotD_ap, eOrD_ap, eChain_ap, eListRg1_ap, eIsa_ap, eMt_ap, iEnumV_ap, iEnumF_ap, iZipV_ap, iZipF_ap, eTLen_ap, iRng3D_ap, sEnd_ap, eSs_ap, sPar3_ap, xPop_ap, xTup1_ap, xCat_ap, sSetX_ap, sAppX_ap, sParO_ap, sForEI_ap, sForK_ap, eRep_ap, eDicK_ap, eDicT_ap, sPut_ap, eAlt_ap, sTry_ap, eGetD_ap, eLockI_ap, iKeyF_ap, runB_ap, gOne_ap, gMany_ap, dI_ap, yesC_ap, dCmp_int, setD, kill_nx, kill_rt, kill_bk, Option.bind_some, Option.map_some, Option.bind_none, Option.map_none, List.getElem?_cons_zero, List.getElem?_cons_succ, List.set_cons_zero, List.set_cons_succ, List.cons_append, List.nil_append, List.append_nil, List.replicate, List.length_cons, List.length_nil, Nat.reduceAdd, Nat.reduceSub, Nat.zero_add, wdat_no, wdat_d, wdat_town, wdat_ol, wdat_od, wfrz_no, wfrz_d, wfrz_town, wfrz_ol, wfrz_od, wval_no, wval_d, wval_town, wval_ol, wval_od, warg_no, warg_d, warg_town, warg_ol, warg_od, vals, gLen, gAbs, gMax2, gMin2, gInt, gTup, gList, wipeW, if_true, if_false, Bool.false_eq_true, Bool.not_true, Bool.not_false, reduceCtorEq, l1, c1, ld, iSeq, md]
      exact h3
theorem closed_any {P : List NN} (hP : Pr P) (n : Nat) : m_closed [.d (prsN P)] n = some (.d (prsN (tcL P)), n) := by
  have h1 := closed_one P n P [] (by rw [List.nil_append]; exact hP.nd) (by rw [List.nil_append]; have := hP.few; omega)
  rw [List.nil_append] at h1
  have h1 : loopF (gOne 2) l_closed_1 (P.map prN) [.d (prsN P), .od [markT], .no, .no, .no, .no, .no] n = _ := h1
  obtain ⟨A, W, s, w1⟩ := closed_wh hP n 37 P (by omega) ⟨fun _ q => q, fun _ _ q => .base q, hP.nd⟩ (-1) (by omega) 99999 (by omega)
  have w1 : loopW (bTest (eBin dNe (dVar 3) (dOf (eApp gLenD (sCons (dVar 1) sNil))))) l_closed_2 100000 [.d (prsN P), .od (markT :: encP P), .no, .d (.int (-1)), .no, .no, .no] n = _ := w1
  have s1 := sortD_enc A
  rw [tcL_eq hP W.nd (W.tc s)] at s1
  unfold m_closed b_closed
  simp -implicitDefEqProofs only [eVar_ap, dVar_ap, eC_ap, dOf_ap, eFrz_ap, eBin_ap, bTest_ap, bTru_ap, bAnd_ap, bOr_ap, bNot_ap, eIf_ap, eB_ap, eAnd_ap, eOr_ap, aNil_ap, aCons_ap, sNil_ap, sCons_ap, eTup_ap, eLst_ap, eCall_ap, eApp_ap, oNone_ap, oSome_ap, eSl_ap, sNil'_ap, sSeq_ap, sBrk_ap, sRet_ap, sRetN_ap, sRetO_ap, sDrop_ap, sIf_ap, sSet_ap, sApp_ap, sTown_ap, sExt_ap, sIns_ap, sSetIx_ap, sAsg_ap, sPar_ap, iOf_ap, iVal_ap, iRng1_ap, iRng2_ap, sFor_ap, eComp_ap, bYes_ap, frzAt_ap, eUn_ap, eNotD_ap, eOrD_ap, eChain_ap, eListRg1_ap, eIsa_ap, eMt_ap, iEnumV_ap, iEnumF_ap, iZipV_ap, iZipF_ap, eTLen_ap, iRng3D_ap, sEnd_ap, eSs_ap, sPar3_ap, xPop_ap, xTup1_ap, xCat_ap, sSetX_ap, sAppX_ap, sParO_ap, sForEI_ap, sForK_ap, eRep_ap, eDicK_ap, eDicT_ap, sPut_ap, eAlt_ap, sTry_ap, eGetD_ap, eLockI_ap, iKeyF_ap, runB_ap, gOne_ap, gMany_ap, dI_ap, yesC_ap, dCmp_int, setD, kill_nx, kill_rt, kill_bk, Option.bind_some, Option.map_some, Option.bind_none, Option.map_none, List.getElem?_cons_zero, List.getElem?_cons_succ, List.set_cons_zero, List.set_cons_succ, List.cons_append, List.nil_append, List.append_nil, List.replicate, List.length_cons, List.length_nil, Nat.reduceAdd, Nat.reduceSub, Nat.zero_add, wdat_no, wdat_d, wdat_town, wdat_ol, wdat_od, wfrz_no, wfrz_d, wfrz_town, wfrz_ol, wfrz_od, wval_no, wval_d, wval_town, wval_ol, wval_od, warg_no, warg_d, warg_town, warg_ol, warg_od, vals, gLen, gAbs, gMax2, gMin2, gInt, gTup, gList, wipeW, if_true, if_false, Bool.false_eq_true, Bool.not_true, Bool.not_false, reduceCtorEq, iSeq, h1, dNeg, w1, s1]
end L2.Lv.Sh
namespace L2.Lv.Sh
open PySem PySem.Spec PyProof.Rows L2 L2.Lv
/-! rings -/
def hdw (w : List Nat) : Nat := w.headD 0
def ls0 (w : List Nat) : Nat := w.getLastD 0
theorem ls0_snoc (i : List Nat) (l : Nat) : ls0 (i ++ [l]) = l := by simp [ls0]
theorem snoc_of {w : List Nat} (h : w ≠ []) : ∃ i, w = i ++ [ls0 w] := by
  have e := List.getLast?_eq_some_getLast h
  obtain ⟨i, hi⟩ := List.getLast?_eq_some_iff.mp e
  refine ⟨i, ?_⟩
  have g : ls0 w = w.getLast h := by
    unfold ls0
    rw [List.getLastD_eq_getLast?, e]; rfl
  rw [g]
  exact hi
theorem ixHd0 {w : List Nat} (h : w ≠ []) : dIx (wyD w) (.int 0) = some (.d (.int (hdw w : Int))) := by
  cases w with
  | nil => exact absurd rfl h
  | cons a t => exact wy0 a t
theorem ixLs0 {w : List Nat} (h : w ≠ []) : dIx (wyD w) (.int (-1)) = some (.d (.int (ls0 w : Int))) := by
  obtain ⟨i, e⟩ := snoc_of h
  generalize ls0 w = l at *
  subst e
  exact wyL i l
def sc (P : List NN) (l : Nat) : List Nat := (P.filter fun q => q.1 == l).map (·.2)
theorem sc_mem {P : List NN} {l b : Nat} : b ∈ sc P l ↔ (l, b) ∈ P := by
  unfold sc
  rw [List.mem_map]
  constructor
  · rintro ⟨⟨a, c⟩, h, rfl⟩
    rw [List.mem_filter, beq_iff_eq] at h
    have e : a = l := h.2
    subst e
    exact h.1
  · intro h
    exact ⟨(l, b), List.mem_filter.mpr ⟨h, by simp⟩, rfl⟩
theorem sc_pw {P : List NN} (h : P.Pairwise nlt) (l : Nat) : (sc P l).Pairwise (· < ·) := by
  unfold sc
  rw [List.pairwise_map]
  refine List.Pairwise.imp_of_mem (fun {a b} ha hb q => ?_) (h.sublist List.filter_sublist)
  rw [List.mem_filter, beq_iff_eq] at ha hb
  unfold nlt at q
  omega
theorem behN_sc {P : List NN} (h : P.Pairwise nlt) (l : Nat) : behN P l = sc P l := by
  refine List.Perm.eq_of_pairwise (le := fun a b : Nat => a ≤ b) (fun a b _ _ h1 h2 => Nat.le_antisymm h1 h2) ?_ ((sc_pw h l).imp fun q => Nat.le_of_lt q) (List.mergeSort_perm _ _)
  have p := List.pairwise_mergeSort (le := fun a b : Nat => decide (a ≤ b)) (fun a b c h1 h2 => by
    simp only [decide_eq_true_eq] at h1 h2 ⊢; omega) (fun a b => by simp; omega) ((P.filter fun p => p.1 == l).map (·.2))
  exact p.imp fun q => by simpa using q
structure Wy (w : List Nat) : Prop where
  ne : w ≠ []
  nd : w.Nodup
  lt : ∀ x ∈ w, x < 6
theorem Wy.snoc {w : List Nat} (h : Wy w) {b : Nat} (hb : b < 6) (hn : b ∉ w) : Wy (w ++ [b]) := ⟨by simp, by
  rw [List.nodup_append]
  exact ⟨h.nd, by simp, fun a ha c hc => by rw [List.mem_singleton.mp hc]; exact fun e => hn (e ▸ ha)⟩, fun x hx => by
  rcases List.mem_append.mp hx with hx | hx
  · exact h.lt x hx
  · rw [List.mem_singleton.mp hx]; exact hb⟩
theorem Wy.one {x : Nat} (h : x < 6) : Wy [x] := ⟨by simp, by simp, by simpa using h⟩
theorem Wy.len {w : List Nat} (h : Wy w) : w.length ≤ 6 := nodup6 h.nd h.lt
def rgP (r : List Nat → List (List Nat)) (w : List Nat) (b : Nat) : List (List Nat) := if b = hdw w then [w] else if hdw w < b ∧ b ∉ w then r (w ++ [b]) else []
def rgF (P : List NN) : Nat → List Nat → List (List Nat)
  | 0, _ => []
  | k + 1, w => (sc P (ls0 w)).flatMap (rgP (rgF P k) w)
/-! .. by hand -/
/-! .. the first one -/
def rgO : Option (List Nat) → PyData
  | none => .none
  | some r => wyD r
theorem find_map {α β γ : Type} (g : α → Option β) (h : β → γ) : ∀ l : List α, l.findSome? (fun x => (g x).map h) = (l.findSome? g).map h
  | [] => rfl
  | x :: l => by
    rw [List.findSome?_cons, List.findSome?_cons]
    cases e : g x with
    | none => exact find_map g h l
    | some y => rfl
theorem ring_from_ok {P : List NN} (hP : Pr P) (hs : P.Pairwise nlt) (n : Nat) : ∀ (k : Nat) (w : List Nat), Wy w → 7 ≤ k + w.length → m_ring_from_ k [.d (prsN P), .d (wyD w)] n = some (.d (rgO (rgF P k w).head?), n)
  | 0, w, hw, hk => by have := hw.len; omega
  | k + 1, w, hw, hk => by
    have i0 := ixHd0 hw.ne
    have i1 := ixLs0 hw.ne
    have b := behind_ok P (by have := hP.few; omega) (ls0 w) n
    rw [behN_sc hs] at b
    have lp := loopF_find (g := gOne 2) (body := l_ring_from_1 (m_ring_from_ k)) (ρ := [.d (prsN P), .d (wyD w), .no, .no]) (n := n) iN (fun b => ((rgP (rgF P k) w b).head?).map fun r => W.d (wyD r)) (sc P (ls0 w)) fun y hy => by
      have q2 := eqI y (hdw w)
      refine ⟨_, rfl, ?_⟩
      unfold l_ring_from_1
      by_cases c2 : y = hdw w
      · rw [beq_iff_eq.mpr c2] at q2
        have ep : rgP (rgF P k) w y = [w] := by unfold rgP; rw [if_pos c2]
        rw [ep]
        simp -implicitDefEqProofs only [eVar_ap, dVar_ap, eC_ap, dOf_ap, eFrz_ap, eBin_ap, bTest_ap, bTru_ap, bAnd_ap, bOr_ap, bNot_ap, eIf_ap, eB_ap, eAnd_ap, eOr_ap, aNil_ap, aCons_ap, sNil_ap, sCons_ap, eTup_ap, eLst_ap, eCall_ap, eApp_ap, oNone_ap, oSome_ap, eSl_ap, sNil'_ap, sSeq_ap, sBrk_ap, sRet_ap, sRetN_ap, sRetO_ap, sDrop_ap, sIf_ap, sSet_ap, sApp_ap, sTown_ap, sExt_ap, sIns_ap, sSetIx_ap, sAsg_ap, sPar_ap, iOf_ap, iVal_ap, iRng1_ap, iRng2_ap, sFor_ap, eComp_ap, bYes_ap, frzAt_ap, eUn_ap, eNotD_ap, eOrD_ap, eChain_ap, eListRg1_ap, eIsa_ap, eMt_ap, iEnumV_ap, iEnumF_ap, iZipV_ap, iZipF_ap, eTLen_ap, iRng3D_ap, sEnd_ap, eSs_ap, sPar3_ap, xPop_ap, xTup1_ap, xCat_ap, sSetX_ap, sAppX_ap, sParO_ap, sForEI_ap, sForK_ap, eRep_ap, eDicK_ap, eDicT_ap, sPut_ap, eAlt_ap, sTry_ap, eGetD_ap, eLockI_ap, iKeyF_ap, runB_ap, gOne_ap, gMany_ap, dI_ap, yesC_ap, dCmp_int, setD, kill_nx, kill_rt, kill_bk, Option.bind_some, Option.map_some, Option.bind_none, Option.map_none, List.getElem?_cons_zero, List.getElem?_cons_succ, List.set_cons_zero, List.set_cons_succ, List.cons_append, List.nil_append, List.append_nil, List.replicate, List.length_cons, List.length_nil, Nat.reduceAdd, Nat.reduceSub, Nat.zero_add, wdat_no, wdat_d, wdat_town, wdat_ol, wdat_od, wfrz_no, wfrz_d, wfrz_town, wfrz_ol, wfrz_od, wval_no, wval_d, wval_town, wval_ol, wval_od, warg_no, warg_d, warg_town, warg_ol, warg_od, vals, gLen, gAbs, gMax2, gMin2, gInt, gTup, gList, wipeW, if_true, if_false, Bool.false_eq_true, Bool.not_true, Bool.not_false, reduceCtorEq, iN, i0, q2]
        rfl
      · rw [beq_eq_false_iff_ne.mpr c2] at q2
        by_cases c3 : hdw w < y
        · have g1 : rGt (y : Int) (hdw w : Int) = true := decide_eq_true (by omega)
          have m1 := memN y w
          by_cases c4 : y ∈ w
          · rw [decide_eq_true c4] at m1
            have ep : rgP (rgF P k) w y = [] := by unfold rgP; rw [if_neg c2, if_neg (fun h => h.2 c4)]
            rw [ep]
            simp -implicitDefEqProofs only [eVar_ap, dVar_ap, eC_ap, dOf_ap, eFrz_ap, eBin_ap, bTest_ap, bTru_ap, bAnd_ap, bOr_ap, bNot_ap, eIf_ap, eB_ap, eAnd_ap, eOr_ap, aNil_ap, aCons_ap, sNil_ap, sCons_ap, eTup_ap, eLst_ap, eCall_ap, eApp_ap, oNone_ap, oSome_ap, eSl_ap, sNil'_ap, sSeq_ap, sBrk_ap, sRet_ap, sRetN_ap, sRetO_ap, sDrop_ap, sIf_ap, sSet_ap, sApp_ap, sTown_ap, sExt_ap, sIns_ap, sSetIx_ap, sAsg_ap, sPar_ap, iOf_ap, iVal_ap, iRng1_ap, iRng2_ap, sFor_ap, eComp_ap, bYes_ap, frzAt_ap, eUn_ap, eNotD_ap, eOrD_ap, eChain_ap, eListRg1_ap, eIsa_ap, eMt_ap, iEnumV_ap, iEnumF_ap, iZipV_ap, iZipF_ap, eTLen_ap, iRng3D_ap, sEnd_ap, eSs_ap, sPar3_ap, xPop_ap, xTup1_ap, xCat_ap, sSetX_ap, sAppX_ap, sParO_ap, sForEI_ap, sForK_ap, eRep_ap, eDicK_ap, eDicT_ap, sPut_ap, eAlt_ap, sTry_ap, eGetD_ap, eLockI_ap, iKeyF_ap, runB_ap, gOne_ap, gMany_ap, dI_ap, yesC_ap, dCmp_int, setD, kill_nx, kill_rt, kill_bk, Option.bind_some, Option.map_some, Option.bind_none, Option.map_none, List.getElem?_cons_zero, List.getElem?_cons_succ, List.set_cons_zero, List.set_cons_succ, List.cons_append, List.nil_append, List.append_nil, List.replicate, List.length_cons, List.length_nil, Nat.reduceAdd, Nat.reduceSub, Nat.zero_add, wdat_no, wdat_d, wdat_town, wdat_ol, wdat_od, wfrz_no, wfrz_d, wfrz_town, wfrz_ol, wfrz_od, wval_no, wval_d, wval_town, wval_ol, wval_od, warg_no, warg_d, warg_town, warg_ol, warg_od, vals, gLen, gAbs, gMax2, gMin2, gInt, gTup, gList, wipeW, if_true, if_false, Bool.false_eq_true, Bool.not_true, Bool.not_false, reduceCtorEq, iN, i0, q2, g1, m1]
            rfl
          · rw [decide_eq_false c4] at m1
            have ep : rgP (rgF P k) w y = rgF P k (w ++ [y]) := by unfold rgP; rw [if_neg c2, if_pos ⟨c3, c4⟩]
            rw [ep]
            have l6 := hw.len
            have d1 := dAdd_tup (w.map iN) [iN y] (le_big (by simp; omega))
            have d1 : dAdd (wyD w) (.tuple [.int (y : Int)]) = some (.d (wyD (w ++ [y]))) := by
              show _ = some (W.d (.tuple ((w ++ [y]).map iN)))
              rw [List.map_append]; exact d1
            have ih := ring_from_ok hP hs n k (w ++ [y]) (hw.snoc (hP.lt _ (sc_mem.mp hy)).2 c4) (by simp; omega)
            cases e : (rgF P k (w ++ [y])).head? with
            | none =>
              rw [e] at ih
              have ih : m_ring_from_ k [.d (prsN P), .d (wyD (w ++ [y]))] n = some (.d .none, n) := ih
              have nn : dNotN .none .none = some (.d (.bool false)) := rfl
              simp -implicitDefEqProofs only [eVar_ap, dVar_ap, eC_ap, dOf_ap, eFrz_ap, eBin_ap, bTest_ap, bTru_ap, bAnd_ap, bOr_ap, bNot_ap, eIf_ap, eB_ap, eAnd_ap, eOr_ap, aNil_ap, aCons_ap, sNil_ap, sCons_ap, eTup_ap, eLst_ap, eCall_ap, eApp_ap, oNone_ap, oSome_ap, eSl_ap, sNil'_ap, sSeq_ap, sBrk_ap, sRet_ap, sRetN_ap, sRetO_ap, sDrop_ap, sIf_ap, sSet_ap, sApp_ap, sTown_ap, sExt_ap, sIns_ap, sSetIx_ap, sAsg_ap, sPar_ap, iOf_ap, iVal_ap, iRng1_ap, iRng2_ap, sFor_ap, eComp_ap, bYes_ap, frzAt_ap, eUn_ap, eNotD_ap, eOrD_ap, eChain_ap, eListRg1_ap, eIsa_ap, eMt_ap, iEnumV_ap, iEnumF_ap, iZipV_ap, iZipF_ap, eTLen_ap, iRng3D_ap, sEnd_ap, eSs_ap, sPar3_ap, xPop_ap, xTup1_ap, xCat_ap, sSetX_ap, sAppX_ap, sParO_ap, sForEI_ap, sForK_ap, eRep_ap, eDicK_ap, eDicT_ap, sPut_ap, eAlt_ap, sTry_ap, eGetD_ap, eLockI_ap, iKeyF_ap, runB_ap, gOne_ap, gMany_ap, dI_ap, yesC_ap, dCmp_int, setD, kill_nx, kill_rt, kill_bk, Option.bind_some, Option.map_some, Option.bind_none, Option.map_none, List.getElem?_cons_zero, List.getElem?_cons_succ, List.set_cons_zero, List.set_cons_succ, List.cons_append, List.nil_append, List.append_nil, List.replicate, List.length_cons, List.length_nil, Nat.reduceAdd, Nat.reduceSub, Nat.zero_add, wdat_no, wdat_d, wdat_town, wdat_ol, wdat_od, wfrz_no, wfrz_d, wfrz_town, wfrz_ol, wfrz_od, wval_no, wval_d, wval_town, wval_ol, wval_od, warg_no, warg_d, warg_town, warg_ol, warg_od, vals, gLen, gAbs, gMax2, gMin2, gInt, gTup, gList, wipeW, if_true, if_false, Bool.false_eq_true, Bool.not_true, Bool.not_false, reduceCtorEq, iN, i0, q2, g1, m1, d1, ih, nn]
            | some r =>
              rw [e] at ih
              have ih : m_ring_from_ k [.d (prsN P), .d (wyD (w ++ [y]))] n = some (.d (wyD r), n) := ih
              have nn : dNotN (wyD r) .none = some (.d (.bool true)) := rfl
              simp -implicitDefEqProofs only [eVar_ap, dVar_ap, eC_ap, dOf_ap, eFrz_ap, eBin_ap, bTest_ap, bTru_ap, bAnd_ap, bOr_ap, bNot_ap, eIf_ap, eB_ap, eAnd_ap, eOr_ap, aNil_ap, aCons_ap, sNil_ap, sCons_ap, eTup_ap, eLst_ap, eCall_ap, eApp_ap, oNone_ap, oSome_ap, eSl_ap, sNil'_ap, sSeq_ap, sBrk_ap, sRet_ap, sRetN_ap, sRetO_ap, sDrop_ap, sIf_ap, sSet_ap, sApp_ap, sTown_ap, sExt_ap, sIns_ap, sSetIx_ap, sAsg_ap, sPar_ap, iOf_ap, iVal_ap, iRng1_ap, iRng2_ap, sFor_ap, eComp_ap, bYes_ap, frzAt_ap, eUn_ap, eNotD_ap, eOrD_ap, eChain_ap, eListRg1_ap, eIsa_ap, eMt_ap, iEnumV_ap, iEnumF_ap, iZipV_ap, iZipF_ap, eTLen_ap, iRng3D_ap, sEnd_ap, eSs_ap, sPar3_ap, xPop_ap, xTup1_ap, xCat_ap, sSetX_ap, sAppX_ap, sParO_ap, sForEI_ap, sForK_ap, eRep_ap, eDicK_ap, eDicT_ap, sPut_ap, eAlt_ap, sTry_ap, eGetD_ap, eLockI_ap, iKeyF_ap, runB_ap, gOne_ap, gMany_ap, dI_ap, yesC_ap, dCmp_int, setD, kill_nx, kill_rt, kill_bk, Option.bind_some, Option.map_some, Option.bind_none, Option.map_none, List.getElem?_cons_zero, List.getElem?_cons_succ, List.set_cons_zero, List.set_cons_succ, List.cons_append, List.nil_append, List.append_nil, List.replicate, List.length_cons, List.length_nil, Nat.reduceAdd, Nat.reduceSub, Nat.zero_add, wdat_no, wdat_d, wdat_town, wdat_ol, wdat_od, wfrz_no, wfrz_d, wfrz_town, wfrz_ol, wfrz_od, wval_no, wval_d, wval_town, wval_ol, wval_od, warg_no, warg_d, warg_town, warg_ol, warg_od, vals, gLen, gAbs, gMax2, gMin2, gInt, gTup, gList, wipeW, if_true, if_false, Bool.false_eq_true, Bool.not_true, Bool.not_false, reduceCtorEq, iN, i0, q2, g1, m1, d1, ih, nn]
        · have g1 : rGt (y : Int) (hdw w : Int) = false := decide_eq_false (by omega)
          have ep : rgP (rgF P k) w y = [] := by unfold rgP; rw [if_neg c2, if_neg (fun h => c3 h.1)]
          rw [ep]
          simp -implicitDefEqProofs only [eVar_ap, dVar_ap, eC_ap, dOf_ap, eFrz_ap, eBin_ap, bTest_ap, bTru_ap, bAnd_ap, bOr_ap, bNot_ap, eIf_ap, eB_ap, eAnd_ap, eOr_ap, aNil_ap, aCons_ap, sNil_ap, sCons_ap, eTup_ap, eLst_ap, eCall_ap, eApp_ap, oNone_ap, oSome_ap, eSl_ap, sNil'_ap, sSeq_ap, sBrk_ap, sRet_ap, sRetN_ap, sRetO_ap, sDrop_ap, sIf_ap, sSet_ap, sApp_ap, sTown_ap, sExt_ap, sIns_ap, sSetIx_ap, sAsg_ap, sPar_ap, iOf_ap, iVal_ap, iRng1_ap, iRng2_ap, sFor_ap, eComp_ap, bYes_ap, frzAt_ap, eUn_ap, eNotD_ap, eOrD_ap, eChain_ap, eListRg1_ap, eIsa_ap, eMt_ap, iEnumV_ap, iEnumF_ap, iZipV_ap, iZipF_ap, eTLen_ap, iRng3D_ap, sEnd_ap, eSs_ap, sPar3_ap, xPop_ap, xTup1_ap, xCat_ap, sSetX_ap, sAppX_ap, sParO_ap, sForEI_ap, sForK_ap, eRep_ap, eDicK_ap, eDicT_ap, sPut_ap, eAlt_ap, sTry_ap, eGetD_ap, eLockI_ap, iKeyF_ap, runB_ap, gOne_ap, gMany_ap, dI_ap, yesC_ap, dCmp_int, setD, kill_nx, kill_rt, kill_bk, Option.bind_some, Option.map_some, Option.bind_none, Option.map_none, List.getElem?_cons_zero, List.getElem?_cons_succ, List.set_cons_zero, List.set_cons_succ, List.cons_append, List.nil_append, List.append_nil, List.replicate, List.length_cons, List.length_nil, Nat.reduceAdd, Nat.reduceSub, Nat.zero_add, wdat_no, wdat_d, wdat_town, wdat_ol, wdat_od, wfrz_no, wfrz_d, wfrz_town, wfrz_ol, wfrz_od, wval_no, wval_d, wval_town, wval_ol, wval_od, warg_no, warg_d, warg_town, warg_ol, warg_od, vals, gLen, gAbs, gMax2, gMin2, gInt, gTup, gList, wipeW, if_true, if_false, Bool.false_eq_true, Bool.not_true, Bool.not_false, reduceCtorEq, iN, i0, q2, g1]
          rfl
    rw [find_map] at lp
    have eh : (rgF P (k + 1) w).head? = (sc P (ls0 w)).findSome? fun b => (rgP (rgF P k) w b).head? := List.head?_flatMap
    rw [← eh] at lp
    show runB 4 (b_ring_from (m_ring_from_ k)) [.d (prsN P), .d (wyD w)] n = _
    unfold b_ring_from
    cases e : (rgF P (k + 1) w).head? with
    | none =>
      rw [e] at lp
      have lp : loopF (gOne 2) (l_ring_from_1 (m_ring_from_ k)) ((sc P (ls0 w)).map iN) [.d (prsN P), .d (wyD w), .no, .no] n = some (.nx [.d (prsN P), .d (wyD w), .no, .no] n) := lp
      simp -implicitDefEqProofs only [eVar_ap, dVar_ap, eC_ap, dOf_ap, eFrz_ap, eBin_ap, bTest_ap, bTru_ap, bAnd_ap, bOr_ap, bNot_ap, eIf_ap, eB_ap, eAnd_ap, eOr_ap, aNil_ap, aCons_ap, sNil_ap, sCons_ap, eTup_ap, eLst_ap, eCall_ap, eApp_ap, oNone_ap, oSome_ap, eSl_ap, sNil'_ap, sSeq_ap, sBrk_ap, sRet_ap, sRetN_ap, sRetO_ap, sDrop_ap, sIf_ap, sSet_ap, sApp_ap, sTown_ap, sExt_ap, sIns_ap, sSetIx_ap, sAsg_ap, sPar_ap, iOf_ap, iVal_ap, iRng1_ap, iRng2_ap, sFor_ap, eComp_ap, bYes_ap, frzAt_ap, eUn_ap, eNotD_ap, eOrD_ap, eChain_ap, eListRg1_ap, eIsa_ap, eMt_ap, iEnumV_ap, iEnumF_ap, iZipV_ap, iZipF_ap, eTLen_ap, iRng3D_ap, sEnd_ap, eSs_ap, sPar3_ap, xPop_ap, xTup1_ap, xCat_ap, sSetX_ap, sAppX_ap, sParO_ap, sForEI_ap, sForK_ap, eRep_ap, eDicK_ap, eDicT_ap, sPut_ap, eAlt_ap, sTry_ap, eGetD_ap, eLockI_ap, iKeyF_ap, runB_ap, gOne_ap, gMany_ap, dI_ap, yesC_ap, dCmp_int, setD, kill_nx, kill_rt, kill_bk, Option.bind_some, Option.map_some, Option.bind_none, Option.map_none, List.getElem?_cons_zero, List.getElem?_cons_succ, List.set_cons_zero, List.set_cons_succ, List.cons_append, List.nil_append, List.append_nil, List.replicate, List.length_cons, List.length_nil, Nat.reduceAdd, Nat.reduceSub, Nat.zero_add, wdat_no, wdat_d, wdat_town, wdat_ol, wdat_od, wfrz_no, wfrz_d, wfrz_town, wfrz_ol, wfrz_od, wval_no, wval_d, wval_town, wval_ol, wval_od, warg_no, warg_d, warg_town, warg_ol, warg_od, vals, gLen, gAbs, gMax2, gMin2, gInt, gTup, gList, wipeW, if_true, if_false, Bool.false_eq_true, Bool.not_true, Bool.not_false, reduceCtorEq, dNeg, i1, b, iSeq, lp]
      rfl
    | some r =>
      rw [e] at lp
      have lp : loopF (gOne 2) (l_ring_from_1 (m_ring_from_ k)) ((sc P (ls0 w)).map iN) [.d (prsN P), .d (wyD w), .no, .no] n = some (.rt (.d (wyD r)) n) := lp
      simp -implicitDefEqProofs only [eVar_ap, dVar_ap, eC_ap, dOf_ap, eFrz_ap, eBin_ap, bTest_ap, bTru_ap, bAnd_ap, bOr_ap, bNot_ap, eIf_ap, eB_ap, eAnd_ap, eOr_ap, aNil_ap, aCons_ap, sNil_ap, sCons_ap, eTup_ap, eLst_ap, eCall_ap, eApp_ap, oNone_ap, oSome_ap, eSl_ap, sNil'_ap, sSeq_ap, sBrk_ap, sRet_ap, sRetN_ap, sRetO_ap, sDrop_ap, sIf_ap, sSet_ap, sApp_ap, sTown_ap, sExt_ap, sIns_ap, sSetIx_ap, sAsg_ap, sPar_ap, iOf_ap, iVal_ap, iRng1_ap, iRng2_ap, sFor_ap, eComp_ap, bYes_ap, frzAt_ap, eUn_ap, eNotD_ap, eOrD_ap, eChain_ap, eListRg1_ap, eIsa_ap, eMt_ap, iEnumV_ap, iEnumF_ap, iZipV_ap, iZipF_ap, eTLen_ap, iRng3D_ap, sEnd_ap, eSs_ap, sPar3_ap, xPop_ap, xTup1_ap, xCat_ap, sSetX_ap, sAppX_ap, sParO_ap, sForEI_ap, sForK_ap, eRep_ap, eDicK_ap, eDicT_ap, sPut_ap, eAlt_ap, sTry_ap, eGetD_ap, eLockI_ap, iKeyF_ap, runB_ap, gOne_ap, gMany_ap, dI_ap, yesC_ap, dCmp_int, setD, kill_nx, kill_rt, kill_bk, Option.bind_some, Option.map_some, Option.bind_none, Option.map_none, List.getElem?_cons_zero, List.getElem?_cons_succ, List.set_cons_zero, List.set_cons_succ, List.cons_append, List.nil_append, List.append_nil, List.replicate, List.length_cons, List.length_nil, Nat.reduceAdd, Nat.reduceSub, Nat.zero_add, wdat_no, wdat_d, wdat_town, wdat_ol, wdat_od, wfrz_no, wfrz_d, wfrz_town, wfrz_ol, wfrz_od, wval_no, wval_d, wval_town, wval_ol, wval_od, warg_no, warg_d, warg_town, warg_ol, warg_od, vals, gLen, gAbs, gMax2, gMin2, gInt, gTup, gList, wipeW, if_true, if_false, Bool.false_eq_true, Bool.not_true, Bool.not_false, reduceCtorEq, dNeg, i1, b, iSeq, lp]
      rfl
/-- all rings, from 0 on -/
def allR (P : List NN) (m : Nat) : List (List Nat) := (List.range m).flatMap fun x => rgF P 10 [x]
theorem rgF_nil {P : List NN} {x : Nat} (h : ∀ p ∈ P, p.1 ≠ x) (k : Nat) : rgF P k [x] = [] := by
  cases k with
  | zero => rfl
  | succ k =>
    have : sc P (ls0 [x]) = [] := by
      unfold sc
      rw [List.filter_eq_nil_iff.mpr fun q hq => by
        rw [beq_iff_eq]; exact h q hq]
      rfl
    show (sc P (ls0 [x])).flatMap _ = []
    rw [this]; rfl
theorem firsts_eq {P : List NN} {m : Nat} (hm : ∀ p ∈ P, p.1 < m) : ssetI (P.map fun p => (p.1 : Int)) = ((List.range m).filter fun x => P.any fun p => p.1 == x).map fun k : Nat => (k : Int) := by
  refine up_uniq (ssetI_pw _) ?_ fun z => ?_
  · rw [List.pairwise_map]
    exact (List.pairwise_lt_range.sublist List.filter_sublist).imp fun q => by omega
  · rw [ssetI_mem, List.mem_map, List.mem_map]
    constructor
    · rintro ⟨p, hp, rfl⟩
      exact ⟨p.1, List.mem_filter.mpr ⟨List.mem_range.mpr (hm p hp), List.any_eq_true.mpr ⟨p, hp, by simp⟩⟩, rfl⟩
    · rintro ⟨k, hk, rfl⟩
      obtain ⟨p, hp, e⟩ := List.any_eq_true.mp (List.mem_filter.mp hk).2
      exact ⟨p, hp, by rw [beq_iff_eq.mp e]⟩
theorem find_filter {α β : Type} {p : α → Bool} {f : α → Option β} : ∀ l : List α, (∀ x ∈ l, p x = false → f x = none) → (l.filter p).findSome? f = l.findSome? f
  | [], _ => rfl
  | x :: l, h => by
    have ih := find_filter l fun y hy => h y (List.mem_cons_of_mem _ hy)
    rw [List.filter_cons, List.findSome?_cons]
    cases e : p x with
    | true => rw [if_pos rfl, List.findSome?_cons, ih]
    | false => rw [if_neg (by simp), ih, h x (by simp) e]
theorem ring_ok {P : List NN} (hP : Pr P) (hs : P.Pairwise nlt) {m : Nat} (hm : ∀ p ∈ P, p.1 < m) (n : Nat) : m_ring [.d (prsN P)] n = some (.d (rgO (allR P m).head?), n) := by
  have c := comp_mapA (g := gMany [2, 3]) (own := [2, 3]) (elt := eVar 2) (ρ := [.d (prsN P), .no, .no, .no, .no]) (n := n) prN (fun p => .int (p.1 : Int)) P fun p hp => ⟨[.d (prsN P), .no, .d (.int (p.1 : Int)), .d (.int (p.2 : Int)), .no], by simp -implicitDefEqProofs only [eVar_ap, dVar_ap, eC_ap, dOf_ap, eFrz_ap, eBin_ap, bTest_ap, bTru_ap, bAnd_ap, bOr_ap, bNot_ap, eIf_ap, eB_ap, eAnd_ap, eOr_ap, aNil_ap, aCons_ap, sNil_ap, sCons_ap, eTup_ap, eLst_ap, eCall_ap, eApp_ap, oNone_ap, oSome_ap, eSl_ap, sNil'_ap, sSeq_ap, sBrk_ap, sRet_ap, sRetN_ap, sRetO_ap, sDrop_ap, sIf_ap, sSet_ap, sApp_ap, sTown_ap, sExt_ap, sIns_ap, sSetIx_ap, sAsg_ap, sPar_ap, iOf_ap, iVal_ap, iRng1_ap, iRng2_ap, sFor_ap, eComp_ap, bYes_ap, frzAt_ap, eUn_ap, eNotD_ap, eOrD_ap, eChain_ap, eListRg1_ap, eIsa_ap, eMt_ap, iEnumV_ap, iEnumF_ap, iZipV_ap, iZipF_ap, eTLen_ap, iRng3D_ap, sEnd_ap, eSs_ap, sPar3_ap, xPop_ap, xTup1_ap, xCat_ap, sSetX_ap, sAppX_ap, sParO_ap, sForEI_ap, sForK_ap, eRep_ap, eDicK_ap, eDicT_ap, sPut_ap, eAlt_ap, sTry_ap, eGetD_ap, eLockI_ap, iKeyF_ap, runB_ap, gOne_ap, gMany_ap, dI_ap, yesC_ap, dCmp_int, setD, kill_nx, kill_rt, kill_bk, Option.bind_some, Option.map_some, Option.bind_none, Option.map_none, List.getElem?_cons_zero, List.getElem?_cons_succ, List.set_cons_zero, List.set_cons_succ, List.cons_append, List.nil_append, List.append_nil, List.replicate, List.length_cons, List.length_nil, Nat.reduceAdd, Nat.reduceSub, Nat.zero_add, wdat_no, wdat_d, wdat_town, wdat_ol, wdat_od, wfrz_no, wfrz_d, wfrz_town, wfrz_ol, wfrz_od, wval_no, wval_d, wval_town, wval_ol, wval_od, warg_no, warg_d, warg_town, warg_ol, warg_od, vals, gLen, gAbs, gMax2, gMin2, gInt, gTup, gList, wipeW, if_true, if_false, Bool.false_eq_true, Bool.not_true, Bool.not_false, reduceCtorEq, prN], by simp -implicitDefEqProofs only [eVar_ap, dVar_ap, eC_ap, dOf_ap, eFrz_ap, eBin_ap, bTest_ap, bTru_ap, bAnd_ap, bOr_ap, bNot_ap, eIf_ap, eB_ap, eAnd_ap, eOr_ap, aNil_ap, aCons_ap, sNil_ap, sCons_ap, eTup_ap, eLst_ap, eCall_ap, eApp_ap, oNone_ap, oSome_ap, eSl_ap, sNil'_ap, sSeq_ap, sBrk_ap, sRet_ap, sRetN_ap, sRetO_ap, sDrop_ap, sIf_ap, sSet_ap, sApp_ap, sTown_ap, sExt_ap, sIns_ap, sSetIx_ap, sAsg_ap, sPar_ap, iOf_ap, iVal_ap, iRng1_ap, iRng2_ap, sFor_ap, eComp_ap, bYes_ap, frzAt_ap, eUn_ap, eNotD_ap, eOrD_ap, eChain_ap, eListRg1_ap, eIsa_ap, eMt_ap, iEnumV_ap, iEnumF_ap, iZipV_ap, iZipF_ap, eTLen_ap, iRng3D_ap, sEnd_ap, eSs_ap, sPar3_ap, xPop_ap, xTup1_ap, xCat_ap, sSetX_ap, sAppX_ap, sParO_ap, sForEI_ap, sForK_ap, eRep_ap, eDicK_ap, eDicT_ap, sPut_ap, eAlt_ap, sTry_ap, eGetD_ap, eLockI_ap, iKeyF_ap, runB_ap, gOne_ap, gMany_ap, dI_ap, yesC_ap, dCmp_int, setD, kill_nx, kill_rt, kill_bk, Option.bind_some, Option.map_some, Option.bind_none, Option.map_none, List.getElem?_cons_zero, List.getElem?_cons_succ, List.set_cons_zero, List.set_cons_succ, List.cons_append, List.nil_append, List.append_nil, List.replicate, List.length_cons, List.length_nil, Nat.reduceAdd, Nat.reduceSub, Nat.zero_add, wdat_no, wdat_d, wdat_town, wdat_ol, wdat_od, wfrz_no, wfrz_d, wfrz_town, wfrz_ol, wfrz_od, wval_no, wval_d, wval_town, wval_ol, wval_od, warg_no, warg_d, warg_town, warg_ol, warg_od, vals, gLen, gAbs, gMax2, gMin2, gInt, gTup, gList, wipeW, if_true, if_false, Bool.false_eq_true, Bool.not_true, Bool.not_false, reduceCtorEq]⟩
  have e : P.map (fun p => PyData.int (p.1 : Int)) = (P.map fun p => (p.1 : Int)).map .int := by rw [List.map_map]; rfl
  rw [e] at c
  have hf := hP.few
  have g : gSortSet [.list ((P.map fun p => (p.1 : Int)).map .int)] = some (.ol (((List.range m).filter fun x => P.any fun p => p.1 == x).map iN)) := by
    show (intsOf _).bind _ = _
    rw [intsOf_map, Option.bind_some, if_pos (by rw [List.length_map]; omega), firsts_eq hm, List.map_map]
    rfl
  have hb : P.length ≤ big := le_big (by omega)
  have lp := loopF_find (g := gOne 1) (body := l_ring_1) (ρ := [.d (prsN P), .no, .no, .no, .no]) (n := n) iN (fun x => ((rgF P 10 [x]).head?).map fun r => W.d (wyD r)) ((List.range m).filter fun x => P.any fun p => p.1 == x) fun x hx => by
    obtain ⟨p, hp, e⟩ := List.any_eq_true.mp (List.mem_filter.mp hx).2
    have x6 : x < 6 := by
      have := (hP.lt p hp).1
      rw [beq_iff_eq.mp e] at this
      exact this
    have r := ring_from_ok hP hs n 10 [x] (Wy.one x6) (by simp)
    refine ⟨_, rfl, ?_⟩
    unfold l_ring_1
    cases e : (rgF P 10 [x]).head? with
    | none =>
      rw [e] at r
      have r : m_ring_from [.d (prsN P), .d (.tuple [.int (x : Int)])] n = some (.d .none, n) := r
      have nn : dNotN .none .none = some (.d (.bool false)) := rfl
      simp -implicitDefEqProofs only [eVar_ap, dVar_ap, eC_ap, dOf_ap, eFrz_ap, eBin_ap, bTest_ap, bTru_ap, bAnd_ap, bOr_ap, bNot_ap, eIf_ap, eB_ap, eAnd_ap, eOr_ap, aNil_ap, aCons_ap, sNil_ap, sCons_ap, eTup_ap, eLst_ap, eCall_ap, eApp_ap, oNone_ap, oSome_ap, eSl_ap, sNil'_ap, sSeq_ap, sBrk_ap, sRet_ap, sRetN_ap, sRetO_ap, sDrop_ap, sIf_ap, sSet_ap, sApp_ap, sTown_ap, sExt_ap, sIns_ap, sSetIx_ap, sAsg_ap, sPar_ap, iOf_ap, iVal_ap, iRng1_ap, iRng2_ap, sFor_ap, eComp_ap, bYes_ap, frzAt_ap, eUn_ap, eNotD_ap, eOrD_ap, eChain_ap, eListRg1_ap, eIsa_ap, eMt_ap, iEnumV_ap, iEnumF_ap, iZipV_ap, iZipF_ap, eTLen_ap, iRng3D_ap, sEnd_ap, eSs_ap, sPar3_ap, xPop_ap, xTup1_ap, xCat_ap, sSetX_ap, sAppX_ap, sParO_ap, sForEI_ap, sForK_ap, eRep_ap, eDicK_ap, eDicT_ap, sPut_ap, eAlt_ap, sTry_ap, eGetD_ap, eLockI_ap, iKeyF_ap, runB_ap, gOne_ap, gMany_ap, dI_ap, yesC_ap, dCmp_int, setD, kill_nx, kill_rt, kill_bk, Option.bind_some, Option.map_some, Option.bind_none, Option.map_none, List.getElem?_cons_zero, List.getElem?_cons_succ, List.set_cons_zero, List.set_cons_succ, List.cons_append, List.nil_append, List.append_nil, List.replicate, List.length_cons, List.length_nil, Nat.reduceAdd, Nat.reduceSub, Nat.zero_add, wdat_no, wdat_d, wdat_town, wdat_ol, wdat_od, wfrz_no, wfrz_d, wfrz_town, wfrz_ol, wfrz_od, wval_no, wval_d, wval_town, wval_ol, wval_od, warg_no, warg_d, warg_town, warg_ol, warg_od, vals, gLen, gAbs, gMax2, gMin2, gInt, gTup, gList, wipeW, if_true, if_false, Bool.false_eq_true, Bool.not_true, Bool.not_false, reduceCtorEq, iN, r, nn]
    | some y =>
      rw [e] at r
      have r : m_ring_from [.d (prsN P), .d (.tuple [.int (x : Int)])] n = some (.d (wyD y), n) := r
      have nn : dNotN (wyD y) .none = some (.d (.bool true)) := rfl
      simp -implicitDefEqProofs only [eVar_ap, dVar_ap, eC_ap, dOf_ap, eFrz_ap, eBin_ap, bTest_ap, bTru_ap, bAnd_ap, bOr_ap, bNot_ap, eIf_ap, eB_ap, eAnd_ap, eOr_ap, aNil_ap, aCons_ap, sNil_ap, sCons_ap, eTup_ap, eLst_ap, eCall_ap, eApp_ap, oNone_ap, oSome_ap, eSl_ap, sNil'_ap, sSeq_ap, sBrk_ap, sRet_ap, sRetN_ap, sRetO_ap, sDrop_ap, sIf_ap, sSet_ap, sApp_ap, sTown_ap, sExt_ap, sIns_ap, sSetIx_ap, sAsg_ap, sPar_ap, iOf_ap, iVal_ap, iRng1_ap, iRng2_ap, sFor_ap, eComp_ap, bYes_ap, frzAt_ap, eUn_ap, eNotD_ap, eOrD_ap, eChain_ap, eListRg1_ap, eIsa_ap, eMt_ap, iEnumV_ap, iEnumF_ap, iZipV_ap, iZipF_ap, eTLen_ap, iRng3D_ap, sEnd_ap, eSs_ap, sPar3_ap, xPop_ap, xTup1_ap, xCat_ap, sSetX_ap, sAppX_ap, sParO_ap, sForEI_ap, sForK_ap, eRep_ap, eDicK_ap, eDicT_ap, sPut_ap, eAlt_ap, sTry_ap, eGetD_ap, eLockI_ap, iKeyF_ap, runB_ap, gOne_ap, gMany_ap, dI_ap, yesC_ap, dCmp_int, setD, kill_nx, kill_rt, kill_bk, Option.bind_some, Option.map_some, Option.bind_none, Option.map_none, List.getElem?_cons_zero, List.getElem?_cons_succ, List.set_cons_zero, List.set_cons_succ, List.cons_append, List.nil_append, List.append_nil, List.replicate, List.length_cons, List.length_nil, Nat.reduceAdd, Nat.reduceSub, Nat.zero_add, wdat_no, wdat_d, wdat_town, wdat_ol, wdat_od, wfrz_no, wfrz_d, wfrz_town, wfrz_ol, wfrz_od, wval_no, wval_d, wval_town, wval_ol, wval_od, warg_no, warg_d, warg_town, warg_ol, warg_od, vals, gLen, gAbs, gMax2, gMin2, gInt, gTup, gList, wipeW, if_true, if_false, Bool.false_eq_true, Bool.not_true, Bool.not_false, reduceCtorEq, iN, r, nn]
  rw [find_map, find_filter (List.range m) (f := fun x => (rgF P 10 [x]).head?) (fun x _ hx => by
    have hn : ∀ p ∈ P, p.1 ≠ x := fun p hp e => by
      rw [List.any_eq_false] at hx
      exact hx p hp (by simpa using e)
    show (rgF P 10 [x]).head? = none
    rw [rgF_nil hn]; rfl)] at lp
  have eh : (allR P m).head? = (List.range m).findSome? fun x => (rgF P 10 [x]).head? := List.head?_flatMap
  rw [← eh] at lp
  unfold m_ring b_ring
  cases e : (allR P m).head? with
  | none =>
    rw [e] at lp
    have lp : loopF (gOne 1) l_ring_1 (((List.range m).filter fun x => P.any fun p => p.1 == x).map iN) [.d (prsN P), .no, .no, .no, .no] n = some (.nx [.d (prsN P), .no, .no, .no, .no] n) := lp
    simp -implicitDefEqProofs only [eVar_ap, dVar_ap, eC_ap, dOf_ap, eFrz_ap, eBin_ap, bTest_ap, bTru_ap, bAnd_ap, bOr_ap, bNot_ap, eIf_ap, eB_ap, eAnd_ap, eOr_ap, aNil_ap, aCons_ap, sNil_ap, sCons_ap, eTup_ap, eLst_ap, eCall_ap, eApp_ap, oNone_ap, oSome_ap, eSl_ap, sNil'_ap, sSeq_ap, sBrk_ap, sRet_ap, sRetN_ap, sRetO_ap, sDrop_ap, sIf_ap, sSet_ap, sApp_ap, sTown_ap, sExt_ap, sIns_ap, sSetIx_ap, sAsg_ap, sPar_ap, iOf_ap, iVal_ap, iRng1_ap, iRng2_ap, sFor_ap, eComp_ap, bYes_ap, frzAt_ap, eUn_ap, eNotD_ap, eOrD_ap, eChain_ap, eListRg1_ap, eIsa_ap, eMt_ap, iEnumV_ap, iEnumF_ap, iZipV_ap, iZipF_ap, eTLen_ap, iRng3D_ap, sEnd_ap, eSs_ap, sPar3_ap, xPop_ap, xTup1_ap, xCat_ap, sSetX_ap, sAppX_ap, sParO_ap, sForEI_ap, sForK_ap, eRep_ap, eDicK_ap, eDicT_ap, sPut_ap, eAlt_ap, sTry_ap, eGetD_ap, eLockI_ap, iKeyF_ap, runB_ap, gOne_ap, gMany_ap, dI_ap, yesC_ap, dCmp_int, setD, kill_nx, kill_rt, kill_bk, Option.bind_some, Option.map_some, Option.bind_none, Option.map_none, List.getElem?_cons_zero, List.getElem?_cons_succ, List.set_cons_zero, List.set_cons_succ, List.cons_append, List.nil_append, List.append_nil, List.replicate, List.length_cons, List.length_nil, Nat.reduceAdd, Nat.reduceSub, Nat.zero_add, wdat_no, wdat_d, wdat_town, wdat_ol, wdat_od, wfrz_no, wfrz_d, wfrz_town, wfrz_ol, wfrz_od, wval_no, wval_d, wval_town, wval_ol, wval_od, warg_no, warg_d, warg_town, warg_ol, warg_od, vals, gLen, gAbs, gMax2, gMin2, gInt, gTup, gList, wipeW, if_true, if_false, Bool.false_eq_true, Bool.not_true, Bool.not_false, reduceCtorEq, iSeq, List.length_map, hb, c, g, lp]
    rfl
  | some r =>
    rw [e] at lp
    have lp : loopF (gOne 1) l_ring_1 (((List.range m).filter fun x => P.any fun p => p.1 == x).map iN) [.d (prsN P), .no, .no, .no, .no] n = some (.rt (.d (wyD r)) n) := lp
    simp -implicitDefEqProofs only [eVar_ap, dVar_ap, eC_ap, dOf_ap, eFrz_ap, eBin_ap, bTest_ap, bTru_ap, bAnd_ap, bOr_ap, bNot_ap, eIf_ap, eB_ap, eAnd_ap, eOr_ap, aNil_ap, aCons_ap, sNil_ap, sCons_ap, eTup_ap, eLst_ap, eCall_ap, eApp_ap, oNone_ap, oSome_ap, eSl_ap, sNil'_ap, sSeq_ap, sBrk_ap, sRet_ap, sRetN_ap, sRetO_ap, sDrop_ap, sIf_ap, sSet_ap, sApp_ap, sTown_ap, sExt_ap, sIns_ap, sSetIx_ap, sAsg_ap, sPar_ap, iOf_ap, iVal_ap, iRng1_ap, iRng2_ap, sFor_ap, eComp_ap, bYes_ap, frzAt_ap, eUn_ap, eNotD_ap, eOrD_ap, eChain_ap, eListRg1_ap, eIsa_ap, eMt_ap, iEnumV_ap, iEnumF_ap, iZipV_ap, iZipF_ap, eTLen_ap, iRng3D_ap, sEnd_ap, eSs_ap, sPar3_ap, xPop_ap, xTup1_ap, xCat_ap, sSetX_ap, sAppX_ap, sParO_ap, sForEI_ap, sForK_ap, eRep_ap, eDicK_ap, eDicT_ap, sPut_ap, eAlt_ap, sTry_ap, eGetD_ap, eLockI_ap, iKeyF_ap, runB_ap, gOne_ap, gMany_ap, dI_ap, yesC_ap, dCmp_int, setD, kill_nx, kill_rt, kill_bk, Option.bind_some, Option.map_some, Option.bind_none, Option.map_none, List.getElem?_cons_zero, List.getElem?_cons_succ, List.set_cons_zero, List.set_cons_succ, List.cons_append, List.nil_append, List.append_nil, List.replicate, List.length_cons, List.length_nil, Nat.reduceAdd, Nat.reduceSub, Nat.zero_add, wdat_no, wdat_d, wdat_town, wdat_ol, wdat_od, wfrz_no, wfrz_d, wfrz_town, wfrz_ol, wfrz_od, wval_no, wval_d, wval_town, wval_ol, wval_od, warg_no, warg_d, warg_town, warg_ol, warg_od, vals, gLen, gAbs, gMax2, gMin2, gInt, gTup, gList, wipeW, if_true, if_false, Bool.false_eq_true, Bool.not_true, Bool.not_false, reduceCtorEq, iSeq, List.length_map, hb, c, g, lp]
    rfl
end L2.Lv.Sh
namespace L2.Lv.Sh
open PySem PySem.Spec PyProof.Rows L2 L2.Lv
/-! the first ring is the least -/
def kt (w : List Nat) : List (Int ⊕ List Nat) := PySem.W.keyToksAll (w.map iN)
theorem rgF_pre (P : List NN) : ∀ (k : Nat) (w : List Nat), ∀ r ∈ rgF P k w, ∃ t, r = w ++ t
  | 0, _, _, h => by cases h
  | k + 1, w, r, h => by
    obtain ⟨b, _, h⟩ := List.mem_flatMap.mp h
    unfold rgP at h
    split at h
    · rw [List.mem_singleton.mp h]; exact ⟨[], by simp⟩
    · split at h
      · obtain ⟨t, e⟩ := rgF_pre P k (w ++ [b]) r h
        exact ⟨b :: t, by rw [e]; simp⟩
      · cases h
theorem rgP_pre {P : List NN} {k : Nat} {w : List Nat} {b : Nat} {r : List Nat} (h : r ∈ rgP (rgF P k) w b) : (b = hdw w ∧ r = w) ∨ (hdw w < b ∧ b ∉ w ∧ r ∈ rgF P k (w ++ [b]) ∧ ∃ t, r = w ++ b :: t) := by
  unfold rgP at h
  split at h
  · rename_i e; exact .inl ⟨e, List.mem_singleton.mp h⟩
  · split at h
    · rename_i c
      obtain ⟨t, e⟩ := rgF_pre P k (w ++ [b]) r h
      exact .inr ⟨c.1, c.2, h, t, by rw [e]; simp⟩
    · cases h
/-! ways along the pairs -/
def Pth (P : List NN) : List Nat → Prop
  | a :: b :: l => (a, b) ∈ P ∧ Pth P (b :: l)
  | _ => True
theorem pth_app {P : List NN} : ∀ (a : List Nat) (v : Nat) (c : List Nat), Pth P (a ++ v :: c) ↔ Pth P (a ++ [v]) ∧ Pth P (v :: c)
  | [], v, c => by simp [Pth]
  | [x], v, c => by simp [Pth]
  | x :: y :: a, v, c => by
    have ih := pth_app (P := P) (y :: a) v c
    show ((x, y) ∈ P ∧ Pth P (y :: a ++ v :: c)) ↔ ((x, y) ∈ P ∧ Pth P (y :: a ++ [v])) ∧ _
    rw [ih, and_assoc]
theorem pth_snoc {P : List NN} {w : List Nat} (h : w ≠ []) {b : Nat} (hp : Pth P w) (hb : (ls0 w, b) ∈ P) : Pth P (w ++ [b]) := by
  obtain ⟨i, e⟩ := snoc_of h
  generalize ls0 w = l at *
  subst e
  rw [List.append_assoc]
  exact (pth_app i l [b]).mpr ⟨hp, hb, trivial⟩
theorem hdw_app {w : List Nat} (h : w ≠ []) (t : List Nat) : hdw (w ++ t) = hdw w := by
  cases w with
  | nil => exact absurd rfl h
  | cons a w => rfl
/-- what is found is a ring -/
structure Rg (P : List NN) (w : List Nat) : Prop where
  ne : w ≠ []
  pth : Pth P w
  cl : (ls0 w, hdw w) ∈ P
  nd : w.Nodup
  lo : ∀ x ∈ w, hdw w ≤ x
theorem rgF_rg {P : List NN} : ∀ (k : Nat) (w : List Nat), w ≠ [] → Pth P w → w.Nodup → (∀ x ∈ w, hdw w ≤ x) → ∀ r ∈ rgF P k w, Rg P r
  | 0, _, _, _, _, _, _, h => by cases h
  | k + 1, w, ne, hp, nd, lo, r, h => by
    obtain ⟨b, hb, h⟩ := List.mem_flatMap.mp h
    have hb := sc_mem.mp hb
    rcases rgP_pre h with ⟨e1, e2⟩ | ⟨c1, c2, c3, _⟩
    · subst e2
      exact ⟨ne, hp, e1 ▸ hb, nd, lo⟩
    · refine rgF_rg k (w ++ [b]) (by simp) (pth_snoc ne hp hb) ?_ ?_ r c3
      · rw [List.nodup_append]
        exact ⟨nd, by simp, fun a ha c hc => by rw [List.mem_singleton.mp hc]; exact fun e => c2 (e ▸ ha)⟩
      · intro x hx
        rw [hdw_app ne]
        rcases List.mem_append.mp hx with hx | hx
        · exact lo x hx
        · rw [List.mem_singleton.mp hx]; omega
theorem allR_rg {P : List NN} {m : Nat} {r : List Nat} (h : r ∈ allR P m) : Rg P r := by
  obtain ⟨x, _, h⟩ := List.mem_flatMap.mp h
  exact rgF_rg 10 [x] (by simp) trivial (by simp) (fun y hy => by rw [List.mem_singleton.mp hy]; exact Nat.le_refl _) r h
/-- and each ring is found -/
theorem rgF_has {P : List NN} : ∀ (t w : List Nat) (k : Nat), w ≠ [] → Pth P (w ++ t) → (ls0 (w ++ t), hdw w) ∈ P → (w ++ t).Nodup → (∀ x ∈ t, hdw w < x) → t.length < k → w ++ t ∈ rgF P k w
  | _, _, 0, _, _, _, _, _, hk => by omega
  | [], w, k + 1, ne, _, hc, _, _, _ => by
    rw [List.append_nil] at hc ⊢
    exact List.mem_flatMap.mpr ⟨hdw w, sc_mem.mpr hc, by unfold rgP; rw [if_pos rfl]; simp⟩
  | b :: t, w, k + 1, ne, hp, hc, nd, lo, hk => by
    have e : w ++ b :: t = (w ++ [b]) ++ t := by simp
    rw [e] at hp hc nd ⊢
    have hb := lo b (by simp)
    have nb : b ∉ w := fun q => by
      rw [List.nodup_append] at nd
      have := (List.nodup_append.mp nd.1).2.2 b q b (by simp)
      exact this rfl
    have ih := rgF_has t (w ++ [b]) k (by simp) hp (by rw [hdw_app ne]; exact hc) nd (fun x hx => by rw [hdw_app ne]; exact lo x (List.mem_cons_of_mem _ hx)) (by simp at hk; omega)
    refine List.mem_flatMap.mpr ⟨b, sc_mem.mpr ?_, by unfold rgP; rw [if_neg (by omega), if_pos ⟨hb, nb⟩]; exact ih⟩
    obtain ⟨i, ei⟩ := snoc_of ne
    generalize ls0 w = l at *
    subst ei
    have e2 : (i ++ [l] ++ [b]) ++ t = i ++ l :: (b :: t) := by simp
    rw [e2, pth_app] at hp
    exact hp.2.1
/-- a ring follows itself -/
theorem pth_tc {P : List NN} : ∀ (w : List Nat), Pth P w → ∀ x ∈ w.tail, TC P (hdw w) x
  | [], _, x, hx => by cases hx
  | [_], _, x, hx => by cases hx
  | a :: b :: l, h, x, hx => by
    rcases List.mem_cons.mp (show x ∈ b :: l from hx) with rfl | hx
    · exact .base h.1
    · exact TC.trans (.base h.1) (pth_tc (b :: l) h.2 x hx)
theorem ls0_mem {w : List Nat} (h : w ≠ []) : ls0 w ∈ w := by
  obtain ⟨i, e⟩ := snoc_of h
  generalize ls0 w = l at *
  subst e
  simp
theorem closed_tc {P : List NN} {w : List Nat} (ne : w ≠ []) (hp : Pth P w) (hc : (ls0 w, hdw w) ∈ P) : TC P (hdw w) (hdw w) := by
  cases w with
  | nil => exact absurd rfl ne
  | cons a t =>
    rcases List.mem_cons.mp (ls0_mem ne) with e | e
    · have : hdw (a :: t) = a := rfl
      rw [this] at hc ⊢
      rw [e] at hc
      exact .base hc
    · exact .step (pth_tc (a :: t) hp _ e) hc
theorem tc_way {P : List NN} {a b : Nat} (t : TC P a b) : ∃ w, w ≠ [] ∧ hdw w = a ∧ Pth P w ∧ (ls0 w, b) ∈ P := by
  induction t with
  | base h => exact ⟨[a], by simp, rfl, trivial, h⟩
  | step _ h ih =>
    obtain ⟨w, h1, h2, h3, h4⟩ := ih
    exact ⟨w ++ [_], by simp, by rw [hdw_app h1]; exact h2, pth_snoc h1 h3 h4, by rw [ls0_snoc]; exact h⟩
theorem dup_split : ∀ (l : List Nat), ¬ l.Nodup → ∃ a v b c, l = a ++ v :: (b ++ v :: c)
  | [], h => absurd List.nodup_nil h
  | x :: l, h => by
    by_cases hx : x ∈ l
    · obtain ⟨b, c, e⟩ := List.append_of_mem hx
      exact ⟨[], x, b, c, by rw [e]; rfl⟩
    · obtain ⟨a, v, b, c, e⟩ := dup_split l fun n => h (List.nodup_cons.mpr ⟨hx, n⟩)
      exact ⟨x :: a, v, b, c, by rw [e]; rfl⟩
theorem ls0_app (a : List Nat) {c : List Nat} (h : c ≠ []) : ls0 (a ++ c) = ls0 c := by
  obtain ⟨i, e⟩ := snoc_of h
  generalize ls0 c = l at *
  subst e
  rw [← List.append_assoc, ls0_snoc]
theorem way_nd {P : List NN} : ∀ (k : Nat) (w : List Nat), w.length < k → w ≠ [] → Pth P w → ∃ w', w' ≠ [] ∧ hdw w' = hdw w ∧ ls0 w' = ls0 w ∧ Pth P w' ∧ w'.Nodup
  | 0, _, h, _, _ => by omega
  | k + 1, w, h, ne, hp => by
    by_cases nd : w.Nodup
    · exact ⟨w, ne, rfl, rfl, hp, nd⟩
    · obtain ⟨a, v, b, c, e⟩ := dup_split w nd
      subst e
      have h1 := (pth_app a v (b ++ v :: c)).mp hp
      have h2 := (pth_app (v :: b) v c).mp (by rw [List.cons_append]; exact h1.2)
      obtain ⟨w', q1, q2, q3, q4, q5⟩ := way_nd k (a ++ v :: c) (by simp at h ⊢; omega) (by simp) ((pth_app a v c).mpr ⟨h1.1, h2.2⟩)
      refine ⟨w', q1, ?_, ?_, q4, q5⟩
      · rw [q2]
        cases a with
        | nil => rfl
        | cons x a => rfl
      · rw [q3, ls0_app a (by simp), ls0_app a (by simp)]
        have : v :: (b ++ v :: c) = (v :: b) ++ v :: c := rfl
        rw [this, ls0_app (v :: b) (by simp)]
theorem least_of {p : Nat → Prop} : ∀ n, p n → ∃ k, p k ∧ ∀ j, j < k → ¬ p j := by
  intro n
  induction n using Nat.strongRecOn with
  | ind n ih =>
    intro h
    by_cases c : ∃ j, j < n ∧ p j
    · obtain ⟨j, hj, pj⟩ := c
      exact ih j hj pj
    · exact ⟨n, h, fun j hj pj => c ⟨j, hj, pj⟩⟩
theorem pth_all {P : List NN} : ∀ (w : List Nat), Pth P w → w ≠ [] → ∀ x ∈ w, x = ls0 w ∨ TC P x (ls0 w)
  | [], _, ne, _, _ => absurd rfl ne
  | [a], _, _, x, hx => .inl (List.mem_singleton.mp hx)
  | a :: b :: l, h, _, x, hx => by
    have ih := pth_all (b :: l) h.2 (by simp)
    have e : ls0 (a :: b :: l) = ls0 (b :: l) := ls0_app [a] (by simp)
    rw [e]
    rcases List.mem_cons.mp hx with rfl | hx
    · right
      rcases ih b (by simp) with q | q
      · rw [← q]; exact .base h.1
      · exact TC.trans (.base h.1) q
    · exact ih x hx
theorem ring_has {P : List NN} {m : Nat} (h6 : m ≤ 6) (hm : ∀ p ∈ P, p.1 < m ∧ p.2 < m) (hc : ∃ a, TC P a a) : allR P m ≠ [] := by
  obtain ⟨a, ha⟩ := hc
  obtain ⟨x, hx, mn⟩ := least_of (p := fun x => TC P x x) a ha
  obtain ⟨w, q1, q2, q3, q4⟩ := tc_way hx
  obtain ⟨w', p1, p2, p3, p4, p5⟩ := way_nd (w.length + 1) w (by omega) q1 q3
  rw [q2] at p2
  rw [← p3] at q4
  have lt : ∀ y ∈ w', y < m := fun y hy => by
    rcases pth_all w' p4 p1 y hy with e | t
    · rw [e]; exact (hm _ q4).1
    · cases t with
      | base h => exact (hm _ h).1
      | step t h =>
        clear h
        induction t with
        | base h => exact (hm _ h).1
        | step _ _ ih => exact ih
  have lo : ∀ y ∈ w', x ≤ y := fun y hy => by
    refine Classical.byContradiction fun c => mn y (by omega) ?_
    have t1 : TC P y x := by
      rcases pth_all w' p4 p1 y hy with e | t
      · rw [e]; exact .base q4
      · exact .step t q4
    cases w' with
    | nil => exact absurd rfl p1
    | cons z t =>
      have e : z = x := p2
      subst e
      rcases List.mem_cons.mp hy with e | hy
      · omega
      · exact TC.trans t1 (pth_tc (z :: t) p4 y hy)
  cases w' with
  | nil => exact absurd rfl p1
  | cons z t =>
    have e : z = x := p2
    subst e
    have l6 : (z :: t).length ≤ 6 := nodup6 p5 fun y hy => by have := lt y hy; omega
    have g := rgF_has t [z] 10 (by simp) p4 q4 p5 (fun y hy => by
      have := lo y (List.mem_cons_of_mem _ hy)
      have ne : y ≠ z := fun e => (List.nodup_cons.mp p5).1 (e ▸ hy)
      show z < y
      omega) (by simp at l6; omega)
    intro en
    have : (z :: t) ∈ allR P m := List.mem_flatMap.mpr ⟨z, List.mem_range.mpr (lt z (by simp)), g⟩
    rw [en] at this
    cases this
theorem no_ring {P : List NN} {m : Nat} (h6 : m ≤ 6) (hm : ∀ p ∈ P, p.1 < m ∧ p.2 < m) : allR P m = [] ↔ ∀ a, ¬ TC P a a := by
  constructor
  · intro e a t
    exact ring_has h6 hm ⟨a, t⟩ e
  · intro h
    refine List.eq_nil_iff_forall_not_mem.mpr fun r hr => ?_
    have R := allR_rg hr
    exact h _ (closed_tc R.ne R.pth R.cl)
theorem ring_zip {P : List NN} (z : Nat) : ∀ (w : List Nat), Pth P w → w ≠ [] → (ls0 w, z) ∈ P → ∀ p ∈ w.zip (w.tail ++ [z]), p ∈ P
  | [], _, ne, _, _, _ => absurd rfl ne
  | [a], _, _, h, p, hp => by
    have : p = (a, z) := by simpa using hp
    rw [this]; exact h
  | a :: b :: l, hp, _, h, p, hm => by
    have e : ls0 (a :: b :: l) = ls0 (b :: l) := ls0_app [a] (by simp)
    rw [e] at h
    rcases List.mem_cons.mp (show p ∈ (a, b) :: (b :: l).zip (l ++ [z]) from hm) with rfl | hm
    · exact hp.1
    · exact ring_zip z (b :: l) hp.2 (by simp) h p hm
end L2.Lv.Sh
set_option maxHeartbeats 1000000
namespace L2.Lv.Sh
open PySem PySem.Spec PyProof.Rows L2 L2.Lv
/-! dicts of pairs, 0 for each -/
def encZ (L : List NN) : List (PyData × PyData) := L.map fun p => (prN p, .int 0)
theorem putZ_in {p : NN} : ∀ {L : List NN}, p ∈ L → putT (encZ L) [(p.1 : Int), (p.2 : Int)] (.int 0) = encZ L
  | q :: L, h => by
    unfold encZ putT
    rw [List.map_cons]
    show (if intsOf (([(q.1 : Int), (q.2 : Int)] : List Int).map .int) = some [(p.1 : Int), (p.2 : Int)] then _ else _) = _
    by_cases c : q = p
    · rw [if_pos ((key_pr q p).mpr c)]
    · rw [if_neg (fun e => c ((key_pr q p).mp e))]
      have := putZ_in (List.mem_of_ne_of_mem (Ne.symm c) h)
      unfold encZ at this
      rw [this]
theorem putZ_out {p : NN} : ∀ {L : List NN}, p ∉ L → putT (encZ L) [(p.1 : Int), (p.2 : Int)] (.int 0) = encZ (L ++ [p])
  | [], _ => rfl
  | q :: L, h => by
    rw [List.mem_cons, not_or] at h
    unfold encZ putT
    rw [List.map_cons]
    show (if intsOf (([(q.1 : Int), (q.2 : Int)] : List Int).map .int) = some [(p.1 : Int), (p.2 : Int)] then _ else _) = _
    rw [if_neg (fun e => h.1 ((key_pr q p).mp e).symm)]
    have := putZ_out h.2
    unfold encZ at this
    rw [this]
    rfl
theorem putD_encZ (L : List NN) (p : NN) (hl : L.length < big) : putD (markT :: encZ L) (prN p) (.int 0) = some (markT :: encZ (addP L p)) := by
  have hl : (encZ L).length < big := by unfold encZ; rw [List.length_map]; exact hl
  have e : putD (markT :: encZ L) (prN p) (.int 0) = some (markT :: putT (encZ L) [(p.1 : Int), (p.2 : Int)] (.int 0)) := by
    show (some [(p.1 : Int), (p.2 : Int)]).bind (fun ns => if (encZ L).length < big then some (markT :: putT (encZ L) ns (.int 0)) else none) = _
    rw [Option.bind_some, if_pos hl]
  rw [e]
  unfold addP
  split
  · rename_i h; rw [putZ_in h]
  · rename_i h; rw [putZ_out h]
theorem sortD_encZ (L : List NN) : gSortedD [.dict (markT :: encZ L)] = some (.ol ((srtP L).map prN)) := by
  have k : (encZ L).map (·.1) = L.map prN := by unfold encZ; rw [List.map_map]; rfl
  show (if (isMk markT && srtOk ((encZ L).map (·.1))) = true then some (W.ol (srt ((encZ L).map (·.1)))) else none) = _
  rw [k, srtOk_pr, srt_pr]
  rfl
/-! what follows, by hand -/
theorem sc_len (P : List NN) (b : Nat) : (sc P b).length ≤ P.length := by
  unfold sc
  rw [List.length_map]
  exact List.length_filter_le _ _
/-! pairs are drawn -/
structure Gp (m : Nat) (P : List NN) : Prop where
  lt : ∀ p ∈ P, p.1 < m ∧ p.2 < m
  ne : ∀ p ∈ P, p.1 ≠ p.2
  nd : P.Nodup
theorem Gp.add {m : Nat} {P : List NN} (h : Gp m P) {p : NN} (h1 : p.1 < m ∧ p.2 < m) (h2 : p.1 ≠ p.2) : Gp m (addP P p) := ⟨fun q hq => by
  rcases addP_mem.mp hq with hq | rfl
  · exact h.lt q hq
  · exact h1, fun q hq => by
  rcases addP_mem.mp hq with hq | rfl
  · exact h.ne q hq
  · exact h2, addP_nd h.nd⟩
/-- pairs as they are drawn -/
structure Dp (m : Nat) (P : List NN) : Prop where
  pos : 0 < m
  six : m ≤ 6
  few : P.length ≤ 8
  lt : ∀ p ∈ P, p.1 < m ∧ p.2 < m
  ne : ∀ p ∈ P, p.1 ≠ p.2
  srt : P.Pairwise nlt
theorem Dp.pr {m : Nat} {P : List NN} (h : Dp m P) : Pr P := ⟨fun p hp => by have := h.lt p hp; have := h.six; omega, nlt_nodup h.srt⟩
end L2.Lv.Sh
set_option maxHeartbeats 1000000
namespace L2.Lv.Sh
open PySem PySem.Spec PyProof.Rows L2 L2.Lv
/-! pairs in lists of pairs; free pairs; bare pairs -/
theorem rgN' (a k : Nat) : rangeD (a : Int) k = (List.range' a k).map iN := by
  unfold rangeD
  rw [List.range'_eq_map_range, List.map_map]
  refine List.map_congr_left fun i _ => ?_
  show PyData.int ((a : Int) + (i : Int)) = .int ((a + i : Nat) : Int)
  rw [Int.natCast_add]
theorem eqv_ti : ∀ s t : List Int, PyData.eqv (ti s) (ti t) = decide (s = t) := by
  have key : ∀ s t : List Int, PyData.eqvAll (s.map .int) (t.map .int) = decide (s = t) := by
    intro s
    induction s with
    | nil => intro t; cases t <;> simp [PyData.eqvAll]
    | cons a s ih =>
      intro t
      cases t with
      | nil => simp [PyData.eqvAll]
      | cons b t =>
        simp only [List.map_cons, PyData.eqvAll, ih, PyData.eqv]
        rw [Bool.eq_iff_iff]
        simp
  intro s t
  simp only [ti, PyData.eqv, key]
theorem eqv_pr (p q : NN) : PyData.eqv (prN p) (prN q) = decide (p = q) := by
  have := eqv_ti [(p.1 : Int), p.2] [(q.1 : Int), q.2]
  rw [pr_ints, pr_ints, this, decide_eq_decide]
  obtain ⟨a, b⟩ := p
  obtain ⟨c, d⟩ := q
  simp
  omega
theorem memD_pr (p : NN) (P : List NN) : memD (prN p) (P.map prN) = decide (p ∈ P) := by
  unfold memD
  rw [List.any_map, Bool.eq_iff_iff, List.any_eq_true, decide_eq_true_eq]
  constructor
  · rintro ⟨q, hq, h⟩
    have h : PyData.eqv (prN q) (prN p) = true := h
    rw [eqv_pr, decide_eq_true_eq] at h
    exact h ▸ hq
  · intro h
    exact ⟨p, h, by show PyData.eqv (prN p) (prN p) = true; rw [eqv_pr]; simp⟩
theorem pr_nc (p : NN) : nc 2 (prN p) = true := nc_ti (l := [(p.1 : Int), (p.2 : Int)]) (by simp)
theorem prs_nc (P : List NN) (h : P.length ≤ 1000) : nc 3 (prsN P) = true := nc_tup (by simp; omega) fun y hy => by
  obtain ⟨p, _, rfl⟩ := List.mem_map.mp hy
  exact pr_nc p
theorem in_pr (i j : Nat) (P : List NN) (h : P.length ≤ 1000) : dIn (.tuple [.int (i : Int), .int (j : Int)]) (prsN P) = some (.d (.bool (decide ((i, j) ∈ P)))) ∧ dNotIn (.tuple [.int (i : Int), .int (j : Int)]) (prsN P) = some (.d (.bool (!decide ((i, j) ∈ P)))) := by
  have s1 : shp (prN (i, j)) = true := nc_shp (pr_nc _) (by decide)
  have s2 : shp (prsN P) = true := nc_shp (prs_nc P h) (by decide)
  have m := memD_pr (i, j) P
  constructor
  · show (some (P.map prN)).bind (fun xs => if shp (prN (i, j)) && shp (prsN P) then some (W.d (.bool (memD (prN (i, j)) xs))) else none) = _
    rw [Option.bind_some, s1, s2, m]; rfl
  · show (some (P.map prN)).bind (fun xs => if shp (prN (i, j)) && shp (prsN P) then some (W.d (.bool (!memD (prN (i, j)) xs))) else none) = _
    rw [Option.bind_some, s1, s2, m]; rfl
def frq (P : List NN) (i j : Nat) : Bool := !decide ((i, j) ∈ P) && !decide ((j, i) ∈ P)
theorem free_in (P : List NN) (hP : P.length ≤ 100) (m i n : Nat) : ∀ (js : List Nat) (F : List NN), F.length + js.length ≤ 1000 →
    loopF (gOne 5) l_free_pairs_2 (js.map iN) [.no, .d (.int (m : Int)), .d (prsN P), .ol (F.map prN), .d (.int (i : Int)), .no] n = some (.nx [.no, .d (.int (m : Int)), .d (prsN P), .ol ((F ++ (js.filter (frq P i)).map fun j => (i, j)).map prN), .d (.int (i : Int)), .no] n)
  | [], F, _ => by simp [loopF]
  | j :: js, F, hF => by
    rw [List.length_cons] at hF
    have q1 := (in_pr i j P (by omega)).2
    have q2 := (in_pr j i P (by omega)).2
    have hb : F.length < big := by unfold big; omega
    have rest := fun F' h => free_in P hP m i n js F' h
    rw [List.map_cons, loopF_cons]
    unfold l_free_pairs_2
    by_cases c1 : (i, j) ∈ P
    · rw [decide_eq_true c1] at q1
      have fz : frq P i j = false := by simp [frq, c1]
      rw [List.filter_cons, if_neg (by simp [fz])]
      simp -implicitDefEqProofs only [eVar_ap, dVar_ap, eC_ap, dOf_ap, eFrz_ap, eBin_ap, bTest_ap, bTru_ap, bAnd_ap, bOr_ap, bNot_ap, eIf_ap, eB_ap, eAnd_ap, eOr_ap, aNil_ap, aCons_ap, sNil_ap, sCons_ap, eTup_ap, eLst_ap, eCall_ap, eApp_ap, oNone_ap, oSome_ap, eSl_ap, sNil'_ap, sSeq_ap, sBrk_ap, sRet_ap, sRetN_ap, sRetO_ap, sDrop_ap, sIf_ap, sSet_ap, sApp_ap, sTown_ap, sExt_ap, sIns_ap, sSetIx_ap, sAsg_ap, sPar_ap, iOf_ap, iVal_ap, iRng1_ap, iRng2_ap, sFor_ap, eComp_ap, bYes_ap, frzAt_ap, eUn_ap, eNotD_ap, eOrD_ap, eChain_ap, eListRg1_ap, eIsa_ap, eMt_ap, iEnumV_ap, iEnumF_ap, iZipV_ap, iZipF_ap, eTLen_ap, iRng3D_ap, sEnd_ap, eSs_ap, sPar3_ap, xPop_ap, xTup1_ap, xCat_ap, sSetX_ap, sAppX_ap, sParO_ap, sForEI_ap, sForK_ap, eRep_ap, eDicK_ap, eDicT_ap, sPut_ap, eAlt_ap, sTry_ap, eGetD_ap, eLockI_ap, iKeyF_ap, runB_ap, gOne_ap, gMany_ap, dI_ap, yesC_ap, dCmp_int, setD, kill_nx, kill_rt, kill_bk, Option.bind_some, Option.map_some, Option.bind_none, Option.map_none, List.getElem?_cons_zero, List.getElem?_cons_succ, List.set_cons_zero, List.set_cons_succ, List.cons_append, List.nil_append, List.append_nil, List.replicate, List.length_cons, List.length_nil, Nat.reduceAdd, Nat.reduceSub, Nat.zero_add, wdat_no, wdat_d, wdat_town, wdat_ol, wdat_od, wfrz_no, wfrz_d, wfrz_town, wfrz_ol, wfrz_od, wval_no, wval_d, wval_town, wval_ol, wval_od, warg_no, warg_d, warg_town, warg_ol, warg_od, vals, gLen, gAbs, gMax2, gMin2, gInt, gTup, gList, wipeW, if_true, if_false, Bool.false_eq_true, Bool.not_true, Bool.not_false, reduceCtorEq, iN, q1]
      exact rest F (by omega)
    · rw [decide_eq_false c1] at q1
      by_cases c2 : (j, i) ∈ P
      · rw [decide_eq_true c2] at q2
        have fz : frq P i j = false := by simp [frq, c2]
        rw [List.filter_cons, if_neg (by simp [fz])]
        simp -implicitDefEqProofs only [eVar_ap, dVar_ap, eC_ap, dOf_ap, eFrz_ap, eBin_ap, bTest_ap, bTru_ap, bAnd_ap, bOr_ap, bNot_ap, eIf_ap, eB_ap, eAnd_ap, eOr_ap, aNil_ap, aCons_ap, sNil_ap, sCons_ap, eTup_ap, eLst_ap, eCall_ap, eApp_ap, oNone_ap, oSome_ap, eSl_ap, sNil'_ap, sSeq_ap, sBrk_ap, sRet_ap, sRetN_ap, sRetO_ap, sDrop_ap, sIf_ap, sSet_ap, sApp_ap, sTown_ap, sExt_ap, sIns_ap, sSetIx_ap, sAsg_ap, sPar_ap, iOf_ap, iVal_ap, iRng1_ap, iRng2_ap, sFor_ap, eComp_ap, bYes_ap, frzAt_ap, eUn_ap, eNotD_ap, eOrD_ap, eChain_ap, eListRg1_ap, eIsa_ap, eMt_ap, iEnumV_ap, iEnumF_ap, iZipV_ap, iZipF_ap, eTLen_ap, iRng3D_ap, sEnd_ap, eSs_ap, sPar3_ap, xPop_ap, xTup1_ap, xCat_ap, sSetX_ap, sAppX_ap, sParO_ap, sForEI_ap, sForK_ap, eRep_ap, eDicK_ap, eDicT_ap, sPut_ap, eAlt_ap, sTry_ap, eGetD_ap, eLockI_ap, iKeyF_ap, runB_ap, gOne_ap, gMany_ap, dI_ap, yesC_ap, dCmp_int, setD, kill_nx, kill_rt, kill_bk, Option.bind_some, Option.map_some, Option.bind_none, Option.map_none, List.getElem?_cons_zero, List.getElem?_cons_succ, List.set_cons_zero, List.set_cons_succ, List.cons_append, List.nil_append, List.append_nil, List.replicate, List.length_cons, List.length_nil, Nat.reduceAdd, Nat.reduceSub, Nat.zero_add, wdat_no, wdat_d, wdat_town, wdat_ol, wdat_od, wfrz_no, wfrz_d, wfrz_town, wfrz_ol, wfrz_od, wval_no, wval_d, wval_town, wval_ol, wval_od, warg_no, warg_d, warg_town, warg_ol, warg_od, vals, gLen, gAbs, gMax2, gMin2, gInt, gTup, gList, wipeW, if_true, if_false, Bool.false_eq_true, Bool.not_true, Bool.not_false, reduceCtorEq, iN, q1, q2]
        exact rest F (by omega)
      · rw [decide_eq_false c2] at q2
        have fz : frq P i j = true := by simp [frq, c1, c2]
        rw [List.filter_cons, if_pos fz, List.map_cons]
        have rest := rest (F ++ [(i, j)]) (by simp; omega)
        rw [List.append_assoc, List.map_append] at rest
        simp -implicitDefEqProofs only [eVar_ap, dVar_ap, eC_ap, dOf_ap, eFrz_ap, eBin_ap, bTest_ap, bTru_ap, bAnd_ap, bOr_ap, bNot_ap, eIf_ap, eB_ap, eAnd_ap, eOr_ap, aNil_ap, aCons_ap, sNil_ap, sCons_ap, eTup_ap, eLst_ap, eCall_ap, eApp_ap, oNone_ap, oSome_ap, eSl_ap, sNil'_ap, sSeq_ap, sBrk_ap, sRet_ap, sRetN_ap, sRetO_ap, sDrop_ap, sIf_ap, sSet_ap, sApp_ap, sTown_ap, sExt_ap, sIns_ap, sSetIx_ap, sAsg_ap, sPar_ap, iOf_ap, iVal_ap, iRng1_ap, iRng2_ap, sFor_ap, eComp_ap, bYes_ap, frzAt_ap, eUn_ap, eNotD_ap, eOrD_ap, eChain_ap, eListRg1_ap, eIsa_ap, eMt_ap, iEnumV_ap, iEnumF_ap, iZipV_ap, iZipF_ap, eTLen_ap, iRng3D_ap, sEnd_ap, eSs_ap, sPar3_ap, xPop_ap, xTup1_ap, xCat_ap, sSetX_ap, sAppX_ap, sParO_ap, sForEI_ap, sForK_ap, eRep_ap, eDicK_ap, eDicT_ap, sPut_ap, eAlt_ap, sTry_ap, eGetD_ap, eLockI_ap, iKeyF_ap, runB_ap, gOne_ap, gMany_ap, dI_ap, yesC_ap, dCmp_int, setD, kill_nx, kill_rt, kill_bk, Option.bind_some, Option.map_some, Option.bind_none, Option.map_none, List.getElem?_cons_zero, List.getElem?_cons_succ, List.set_cons_zero, List.set_cons_succ, List.cons_append, List.nil_append, List.append_nil, List.replicate, List.length_cons, List.length_nil, Nat.reduceAdd, Nat.reduceSub, Nat.zero_add, wdat_no, wdat_d, wdat_town, wdat_ol, wdat_od, wfrz_no, wfrz_d, wfrz_town, wfrz_ol, wfrz_od, wval_no, wval_d, wval_town, wval_ol, wval_od, warg_no, warg_d, warg_town, warg_ol, warg_od, vals, gLen, gAbs, gMax2, gMin2, gInt, gTup, gList, wipeW, if_true, if_false, Bool.false_eq_true, Bool.not_true, Bool.not_false, reduceCtorEq, iN, q1, q2, List.length_map, hb]
        exact rest
def frL (P : List NN) (m i : Nat) : List NN := ((List.range' (i + 1) (m - (i + 1))).filter (frq P i)).map fun j => (i, j)
theorem free_out (P : List NN) (hP : P.length ≤ 100) (m : Nat) (h6 : m ≤ 6) (n : Nat) : ∀ (is : List Nat) (F : List NN), (∀ i ∈ is, i < m) → F.length + 6 * is.length ≤ 900 →
    loopF (gOne 4) l_free_pairs_1 (is.map iN) [.no, .d (.int (m : Int)), .d (prsN P), .ol (F.map prN), .no, .no] n = some (.nx [.no, .d (.int (m : Int)), .d (prsN P), .ol ((F ++ is.flatMap (frL P m)).map prN), .no, .no] n)
  | [], F, _, _ => by simp [loopF]
  | i :: is, F, hi, hF => by
    rw [List.length_cons] at hF
    have him := hi i (by simp)
    have a1 := free_in P hP m i n (List.range' (i + 1) (m - (i + 1))) F (by rw [List.length_range']; omega)
    have fl : (frL P m i).length ≤ 6 := by
      unfold frL
      rw [List.length_map]
      have := List.length_filter_le (frq P i) (List.range' (i + 1) (m - (i + 1)))
      rw [List.length_range'] at this; omega
    have a2 := free_out P hP m h6 n is (F ++ frL P m i) (fun k hk => hi k (List.mem_cons_of_mem _ hk)) (by rw [List.length_append]; omega)
    have r1 : rng2 (.int ((i : Int) + 1)) (.int (m : Int)) = some ((List.range' (i + 1) (m - (i + 1))).map iN) := by
      rw [rng2_any (by omega) (by omega) (by omega) (by omega)]
      have e1 : ((m : Int) - ((i : Int) + 1)).toNat = m - (i + 1) := by omega
      have e2 : ((i : Int) + 1) = ((i + 1 : Nat) : Int) := by omega
      rw [e1, e2, rgN']
    rw [List.map_cons, loopF_cons, List.flatMap_cons, ← List.append_assoc]
    unfold l_free_pairs_1
    refine Eq.trans (b := (gOne 4 (.int (i : Int)) _).bind _) rfl ?_
    simp -implicitDefEqProofs only [eVar_ap, dVar_ap, eC_ap, dOf_ap, eFrz_ap, eBin_ap, bTest_ap, bTru_ap, bAnd_ap, bOr_ap, bNot_ap, eIf_ap, eB_ap, eAnd_ap, eOr_ap, aNil_ap, aCons_ap, sNil_ap, sCons_ap, eTup_ap, eLst_ap, eCall_ap, eApp_ap, oNone_ap, oSome_ap, eSl_ap, sNil'_ap, sSeq_ap, sBrk_ap, sRet_ap, sRetN_ap, sRetO_ap, sDrop_ap, sIf_ap, sSet_ap, sApp_ap, sTown_ap, sExt_ap, sIns_ap, sSetIx_ap, sAsg_ap, sPar_ap, iOf_ap, iVal_ap, iRng1_ap, iRng2_ap, sFor_ap, eComp_ap, bYes_ap, frzAt_ap, eUn_ap, eNotD_ap, eOrD_ap, eChain_ap, eListRg1_ap, eIsa_ap, eMt_ap, iEnumV_ap, iEnumF_ap, iZipV_ap, iZipF_ap, eTLen_ap, iRng3D_ap, sEnd_ap, eSs_ap, sPar3_ap, xPop_ap, xTup1_ap, xCat_ap, sSetX_ap, sAppX_ap, sParO_ap, sForEI_ap, sForK_ap, eRep_ap, eDicK_ap, eDicT_ap, sPut_ap, eAlt_ap, sTry_ap, eGetD_ap, eLockI_ap, iKeyF_ap, runB_ap, gOne_ap, gMany_ap, dI_ap, yesC_ap, dCmp_int, setD, kill_nx, kill_rt, kill_bk, Option.bind_some, Option.map_some, Option.bind_none, Option.map_none, List.getElem?_cons_zero, List.getElem?_cons_succ, List.set_cons_zero, List.set_cons_succ, List.cons_append, List.nil_append, List.append_nil, List.replicate, List.length_cons, List.length_nil, Nat.reduceAdd, Nat.reduceSub, Nat.zero_add, wdat_no, wdat_d, wdat_town, wdat_ol, wdat_od, wfrz_no, wfrz_d, wfrz_town, wfrz_ol, wfrz_od, wval_no, wval_d, wval_town, wval_ol, wval_od, warg_no, warg_d, warg_town, warg_ol, warg_od, vals, gLen, gAbs, gMax2, gMin2, gInt, gTup, gList, wipeW, if_true, if_false, Bool.false_eq_true, Bool.not_true, Bool.not_false, reduceCtorEq, dAdd_int, r1, a1]
    exact a2
/-! bare -/
def brB (P : List NN) (p : NN) : Bool := !((behN P p.1).any fun y => decide ((y, p.2) ∈ P))
theorem bare_loop (P : List NN) (hP : P.length ≤ 100) (n : Nat) : ∀ (Q F : List NN), F.length + Q.length ≤ 1000 →
    loopF (gMany [3, 4]) l_bare_1 (Q.map prN) [.no, .d (prsN P), .ol (F.map prN), .no, .no, .no] n = some (.nx [.no, .d (prsN P), .ol ((F ++ Q.filter (brB P)).map prN), .no, .no, .no] n)
  | [], F, _ => by simp [loopF]
  | p :: Q, F, hF => by
    rw [List.length_cons] at hF
    have b := behind_ok P (by omega) p.1 n
    have hb : (behN P p.1).length ≤ big := le_big (by have := behN_len P p.1; omega)
    have hF' : F.length < big := by unfold big; omega
    have c := comp_filA (g := gOne 5) (own := [5]) (tst := bTest (eBin dIn (dOf (eTup (aCons (eVar 5) (aCons (eVar 4) aNil)))) (dVar 1))) (elt := eVar 5) (ρ := [.no, .d (prsN P), .ol (F.map prN), .d (.int (p.1 : Int)), .d (.int (p.2 : Int)), .no]) (n := n) iN iN (fun y => decide ((y, p.2) ∈ P)) (behN P p.1) fun y hy => ⟨_, rfl, by
      have q := (in_pr y p.2 P (by omega)).1
      simp -implicitDefEqProofs only [eVar_ap, dVar_ap, eC_ap, dOf_ap, eFrz_ap, eBin_ap, bTest_ap, bTru_ap, bAnd_ap, bOr_ap, bNot_ap, eIf_ap, eB_ap, eAnd_ap, eOr_ap, aNil_ap, aCons_ap, sNil_ap, sCons_ap, eTup_ap, eLst_ap, eCall_ap, eApp_ap, oNone_ap, oSome_ap, eSl_ap, sNil'_ap, sSeq_ap, sBrk_ap, sRet_ap, sRetN_ap, sRetO_ap, sDrop_ap, sIf_ap, sSet_ap, sApp_ap, sTown_ap, sExt_ap, sIns_ap, sSetIx_ap, sAsg_ap, sPar_ap, iOf_ap, iVal_ap, iRng1_ap, iRng2_ap, sFor_ap, eComp_ap, bYes_ap, frzAt_ap, eUn_ap, eNotD_ap, eOrD_ap, eChain_ap, eListRg1_ap, eIsa_ap, eMt_ap, iEnumV_ap, iEnumF_ap, iZipV_ap, iZipF_ap, eTLen_ap, iRng3D_ap, sEnd_ap, eSs_ap, sPar3_ap, xPop_ap, xTup1_ap, xCat_ap, sSetX_ap, sAppX_ap, sParO_ap, sForEI_ap, sForK_ap, eRep_ap, eDicK_ap, eDicT_ap, sPut_ap, eAlt_ap, sTry_ap, eGetD_ap, eLockI_ap, iKeyF_ap, runB_ap, gOne_ap, gMany_ap, dI_ap, yesC_ap, dCmp_int, setD, kill_nx, kill_rt, kill_bk, Option.bind_some, Option.map_some, Option.bind_none, Option.map_none, List.getElem?_cons_zero, List.getElem?_cons_succ, List.set_cons_zero, List.set_cons_succ, List.cons_append, List.nil_append, List.append_nil, List.replicate, List.length_cons, List.length_nil, Nat.reduceAdd, Nat.reduceSub, Nat.zero_add, wdat_no, wdat_d, wdat_town, wdat_ol, wdat_od, wfrz_no, wfrz_d, wfrz_town, wfrz_ol, wfrz_od, wval_no, wval_d, wval_town, wval_ol, wval_od, warg_no, warg_d, warg_town, warg_ol, warg_od, vals, gLen, gAbs, gMax2, gMin2, gInt, gTup, gList, wipeW, if_true, if_false, Bool.false_eq_true, Bool.not_true, Bool.not_false, reduceCtorEq, iN, q], fun _ => by simp -implicitDefEqProofs only [eVar_ap, dVar_ap, eC_ap, dOf_ap, eFrz_ap, eBin_ap, bTest_ap, bTru_ap, bAnd_ap, bOr_ap, bNot_ap, eIf_ap, eB_ap, eAnd_ap, eOr_ap, aNil_ap, aCons_ap, sNil_ap, sCons_ap, eTup_ap, eLst_ap, eCall_ap, eApp_ap, oNone_ap, oSome_ap, eSl_ap, sNil'_ap, sSeq_ap, sBrk_ap, sRet_ap, sRetN_ap, sRetO_ap, sDrop_ap, sIf_ap, sSet_ap, sApp_ap, sTown_ap, sExt_ap, sIns_ap, sSetIx_ap, sAsg_ap, sPar_ap, iOf_ap, iVal_ap, iRng1_ap, iRng2_ap, sFor_ap, eComp_ap, bYes_ap, frzAt_ap, eUn_ap, eNotD_ap, eOrD_ap, eChain_ap, eListRg1_ap, eIsa_ap, eMt_ap, iEnumV_ap, iEnumF_ap, iZipV_ap, iZipF_ap, eTLen_ap, iRng3D_ap, sEnd_ap, eSs_ap, sPar3_ap, xPop_ap, xTup1_ap, xCat_ap, sSetX_ap, sAppX_ap, sParO_ap, sForEI_ap, sForK_ap, eRep_ap, eDicK_ap, eDicT_ap, sPut_ap, eAlt_ap, sTry_ap, eGetD_ap, eLockI_ap, iKeyF_ap, runB_ap, gOne_ap, gMany_ap, dI_ap, yesC_ap, dCmp_int, setD, kill_nx, kill_rt, kill_bk, Option.bind_some, Option.map_some, Option.bind_none, Option.map_none, List.getElem?_cons_zero, List.getElem?_cons_succ, List.set_cons_zero, List.set_cons_succ, List.cons_append, List.nil_append, List.append_nil, List.replicate, List.length_cons, List.length_nil, Nat.reduceAdd, Nat.reduceSub, Nat.zero_add, wdat_no, wdat_d, wdat_town, wdat_ol, wdat_od, wfrz_no, wfrz_d, wfrz_town, wfrz_ol, wfrz_od, wval_no, wval_d, wval_town, wval_ol, wval_od, warg_no, warg_d, warg_town, warg_ol, warg_od, vals, gLen, gAbs, gMax2, gMin2, gInt, gTup, gList, wipeW, if_true, if_false, Bool.false_eq_true, Bool.not_true, Bool.not_false, reduceCtorEq]⟩
    rw [List.map_cons, loopF_cons, List.filter_cons]
    unfold l_bare_1
    cases e : (behN P p.1).filter fun y => decide ((y, p.2) ∈ P) with
    | nil =>
      have fz : brB P p = true := by
        unfold brB
        rw [Bool.not_eq_true', List.any_eq_false]
        intro y hy h
        have : y ∈ (behN P p.1).filter fun y => decide ((y, p.2) ∈ P) := List.mem_filter.mpr ⟨hy, h⟩
        rw [e] at this
        cases this
      rw [if_pos fz]
      rw [e, List.map_nil] at c
      have t0 : dTru (.list []) = some false := rfl
      have rest := bare_loop P hP n Q (F ++ [p]) (by simp; omega)
      rw [List.append_assoc, List.map_append] at rest
      simp -implicitDefEqProofs only [eVar_ap, dVar_ap, eC_ap, dOf_ap, eFrz_ap, eBin_ap, bTest_ap, bTru_ap, bAnd_ap, bOr_ap, bNot_ap, eIf_ap, eB_ap, eAnd_ap, eOr_ap, aNil_ap, aCons_ap, sNil_ap, sCons_ap, eTup_ap, eLst_ap, eCall_ap, eApp_ap, oNone_ap, oSome_ap, eSl_ap, sNil'_ap, sSeq_ap, sBrk_ap, sRet_ap, sRetN_ap, sRetO_ap, sDrop_ap, sIf_ap, sSet_ap, sApp_ap, sTown_ap, sExt_ap, sIns_ap, sSetIx_ap, sAsg_ap, sPar_ap, iOf_ap, iVal_ap, iRng1_ap, iRng2_ap, sFor_ap, eComp_ap, bYes_ap, frzAt_ap, eUn_ap, eNotD_ap, eOrD_ap, eChain_ap, eListRg1_ap, eIsa_ap, eMt_ap, iEnumV_ap, iEnumF_ap, iZipV_ap, iZipF_ap, eTLen_ap, iRng3D_ap, sEnd_ap, eSs_ap, sPar3_ap, xPop_ap, xTup1_ap, xCat_ap, sSetX_ap, sAppX_ap, sParO_ap, sForEI_ap, sForK_ap, eRep_ap, eDicK_ap, eDicT_ap, sPut_ap, eAlt_ap, sTry_ap, eGetD_ap, eLockI_ap, iKeyF_ap, runB_ap, gOne_ap, gMany_ap, dI_ap, yesC_ap, dCmp_int, setD, kill_nx, kill_rt, kill_bk, Option.bind_some, Option.map_some, Option.bind_none, Option.map_none, List.getElem?_cons_zero, List.getElem?_cons_succ, List.set_cons_zero, List.set_cons_succ, List.cons_append, List.nil_append, List.append_nil, List.replicate, List.length_cons, List.length_nil, Nat.reduceAdd, Nat.reduceSub, Nat.zero_add, wdat_no, wdat_d, wdat_town, wdat_ol, wdat_od, wfrz_no, wfrz_d, wfrz_town, wfrz_ol, wfrz_od, wval_no, wval_d, wval_town, wval_ol, wval_od, warg_no, warg_d, warg_town, warg_ol, warg_od, vals, gLen, gAbs, gMax2, gMin2, gInt, gTup, gList, wipeW, if_true, if_false, Bool.false_eq_true, Bool.not_true, Bool.not_false, reduceCtorEq, prN, b, iSeq, List.length_map, hb, c, t0, hF']
      exact rest
    | cons y ys =>
      have fz : ¬ brB P p = true := by
        unfold brB
        rw [Bool.not_eq_true', Bool.not_eq_false, List.any_eq_true]
        have : y ∈ (behN P p.1).filter fun y => decide ((y, p.2) ∈ P) := by rw [e]; simp
        exact ⟨y, (List.mem_filter.mp this).1, (List.mem_filter.mp this).2⟩
      rw [if_neg fz]
      rw [e, List.map_cons] at c
      have t0 : dTru (.list (iN y :: ys.map iN)) = some true := rfl
      have rest := bare_loop P hP n Q F (by omega)
      simp -implicitDefEqProofs only [eVar_ap, dVar_ap, eC_ap, dOf_ap, eFrz_ap, eBin_ap, bTest_ap, bTru_ap, bAnd_ap, bOr_ap, bNot_ap, eIf_ap, eB_ap, eAnd_ap, eOr_ap, aNil_ap, aCons_ap, sNil_ap, sCons_ap, eTup_ap, eLst_ap, eCall_ap, eApp_ap, oNone_ap, oSome_ap, eSl_ap, sNil'_ap, sSeq_ap, sBrk_ap, sRet_ap, sRetN_ap, sRetO_ap, sDrop_ap, sIf_ap, sSet_ap, sApp_ap, sTown_ap, sExt_ap, sIns_ap, sSetIx_ap, sAsg_ap, sPar_ap, iOf_ap, iVal_ap, iRng1_ap, iRng2_ap, sFor_ap, eComp_ap, bYes_ap, frzAt_ap, eUn_ap, eNotD_ap, eOrD_ap, eChain_ap, eListRg1_ap, eIsa_ap, eMt_ap, iEnumV_ap, iEnumF_ap, iZipV_ap, iZipF_ap, eTLen_ap, iRng3D_ap, sEnd_ap, eSs_ap, sPar3_ap, xPop_ap, xTup1_ap, xCat_ap, sSetX_ap, sAppX_ap, sParO_ap, sForEI_ap, sForK_ap, eRep_ap, eDicK_ap, eDicT_ap, sPut_ap, eAlt_ap, sTry_ap, eGetD_ap, eLockI_ap, iKeyF_ap, runB_ap, gOne_ap, gMany_ap, dI_ap, yesC_ap, dCmp_int, setD, kill_nx, kill_rt, kill_bk, Option.bind_some, Option.map_some, Option.bind_none, Option.map_none, List.getElem?_cons_zero, List.getElem?_cons_succ, List.set_cons_zero, List.set_cons_succ, List.cons_append, List.nil_append, List.append_nil, List.replicate, List.length_cons, List.length_nil, Nat.reduceAdd, Nat.reduceSub, Nat.zero_add, wdat_no, wdat_d, wdat_town, wdat_ol, wdat_od, wfrz_no, wfrz_d, wfrz_town, wfrz_ol, wfrz_od, wval_no, wval_d, wval_town, wval_ol, wval_od, warg_no, warg_d, warg_town, warg_ol, warg_od, vals, gLen, gAbs, gMax2, gMin2, gInt, gTup, gList, wipeW, if_true, if_false, Bool.false_eq_true, Bool.not_true, Bool.not_false, reduceCtorEq, prN, b, iSeq, List.length_map, hb, c, t0]
      exact rest
theorem rgF_wy {P : List NN} (hP : Pr P) : ∀ (k : Nat) (w : List Nat), Wy w → ∀ r ∈ rgF P k w, Wy r
  | 0, _, _, _, h => by cases h
  | k + 1, w, hw, r, h => by
    obtain ⟨b, hb, h⟩ := List.mem_flatMap.mp h
    rcases rgP_pre h with ⟨_, e2⟩ | ⟨_, c2, c3, _⟩
    · rw [e2]; exact hw
    · exact rgF_wy hP k _ (hw.snoc (hP.lt _ (sc_mem.mp hb)).2 c2) r c3
theorem allR_wy {P : List NN} (hP : Pr P) {m : Nat} (h6 : m ≤ 6) : ∀ r ∈ allR P m, Wy r := fun r hr => by
  obtain ⟨x, hx, h⟩ := List.mem_flatMap.mp hr
  exact rgF_wy hP 10 [x] (Wy.one (by have := List.mem_range.mp hx; omega)) r h
theorem zip_wy : ∀ (xs ys : List Nat), zipD (xs.map iN) (ys.map iN) = (xs.zip ys).map prN
  | [], _ => by simp [zipD]
  | _ :: _, [] => by simp [zipD]
  | x :: xs, y :: ys => by
    rw [List.map_cons, List.map_cons, List.zip_cons_cons, List.map_cons, ← zip_wy xs ys]
    rfl
end L2.Lv.Sh
set_option maxHeartbeats 1000000
namespace L2.Lv.Sh
open PySem PySem.Spec PyProof.Rows L2 L2.Lv
/-! pairs without rings: each number has its height -/
structure Rk (P : List NN) where
  c : Nat → Nat
  lt : ∀ f x, (f, x) ∈ P → c f < c x
  le : ∀ x, c x ≤ 8
  few : P.length ≤ 60
theorem Rk.irr {P : List NN} (S : Rk P) (a : Nat) : (a, a) ∉ P := fun h => Nat.lt_irrefl _ (S.lt _ _ h)
theorem min_exA {P : List NN} (S : Rk P) {L : List Nat} (hL : L ≠ []) : ∃ x ∈ L, prdN P L x = false := by
  have key : ∀ (c x : Nat), x ∈ L → S.c x ≤ c → ∃ x ∈ L, prdN P L x = false := by
    intro c
    induction c with
    | zero =>
      intro x hx hc
      refine ⟨x, hx, ?_⟩
      rw [Bool.eq_false_iff]
      intro q
      obtain ⟨f, _, hf⟩ := prdN_iff.mp q
      have := S.lt _ _ hf
      omega
    | succ c ih =>
      intro x hx hc
      cases q : prdN P L x with
      | false => exact ⟨x, hx, q⟩
      | true =>
        obtain ⟨f, hf, hfx⟩ := prdN_iff.mp q
        have := S.lt _ _ hfx
        exact ih f hf (by omega)
  obtain ⟨x, hx⟩ := List.exists_mem_of_ne_nil L hL
  exact key _ x hx (Nat.le_refl _)
theorem lstF_extA {P : List NN} (S : Rk P) : ∀ (k : Nat) (L : List Nat), L.length < k → L.Nodup → (lstF P k L).Perm L ∧ (lstF P k L).Pairwise (fun a b => (b, a) ∉ P)
  | 0, _, h, _ => by omega
  | k + 1, L, h, hn => by
    unfold lstF
    cases q : L.find? fun x => !prdN P L x with
    | none =>
      have e : L = [] := Classical.byContradiction fun ne => by
        obtain ⟨x, hx, hp⟩ := min_exA S ne
        have := List.find?_eq_none.mp q x hx
        simp [hp] at this
      subst e
      exact ⟨.refl _, .nil⟩
    | some x =>
      have hx := List.mem_of_find?_eq_some q
      have hp : prdN P L x = false := by simpa using List.find?_some q
      have fl := filter_lt hx
      obtain ⟨h1, h2⟩ := lstF_extA S k (L.filter fun y => !(y == x)) (by omega) (hn.sublist List.filter_sublist)
      constructor
      · refine (h1.cons x).trans ?_
        have e : L.filter (fun y => !(y == x)) = L.erase x := by
          rw [hn.erase_eq_filter]
          exact List.filter_congr fun y _ => rfl
        rw [e]
        exact (List.perm_cons_erase hx).symm
      · refine List.pairwise_cons.mpr ⟨fun y hy hm => ?_, h2⟩
        have hy := (List.mem_filter.mp (h1.mem_iff.mp hy)).1
        have : prdN P L x = true := prdN_iff.mpr ⟨y, hy, hm⟩
        rw [hp] at this
        cases this
theorem least_loopA {P : List NN} (S : Rk P) (n : Nat) : ∀ (k : Nat) (L acc : List Nat), L.length < k → L.length ≤ 6 → L.Nodup → acc.length + L.length ≤ 100 →
    loopW (bTru (dVar 3)) l_least_order_1 k [.d (prsN P), .no, .d (wyD acc), .d (nlD L), .no, .no, .no, .no] n = some (.nx [.d (prsN P), .no, .d (wyD (acc ++ lstF P k L)), .d (nlD []), .no, .no, .no, .no] n)
  | 0, _, _, h, _, _, _ => by omega
  | k + 1, L, acc, h, h6, hn, ha => by
    rw [loopW_succ]
    by_cases e : L = []
    · subst e
      have t : dTru (nlD []) = some false := rfl
      have l0 : lstF P (k + 1) [] = [] := rfl
      rw [l0, List.append_nil]
      simp -implicitDefEqProofs only [eVar_ap, dVar_ap, eC_ap, dOf_ap, eFrz_ap, eBin_ap, bTest_ap, bTru_ap, bAnd_ap, bOr_ap, bNot_ap, eIf_ap, eB_ap, eAnd_ap, eOr_ap, aNil_ap, aCons_ap, sNil_ap, sCons_ap, eTup_ap, eLst_ap, eCall_ap, eApp_ap, oNone_ap, oSome_ap, eSl_ap, sNil'_ap, sSeq_ap, sBrk_ap, sRet_ap, sRetN_ap, sRetO_ap, sDrop_ap, sIf_ap, sSet_ap, sApp_ap, sTown_ap, sExt_ap, sIns_ap, sSetIx_ap, sAsg_ap, sPar_ap, iOf_ap, iVal_ap, iRng1_ap, iRng2_ap, sFor_ap, eComp_ap, bYes_ap, frzAt_ap, eUn_ap, eNotD_ap, eOrD_ap, eChain_ap, eListRg1_ap, eIsa_ap, eMt_ap, iEnumV_ap, iEnumF_ap, iZipV_ap, iZipF_ap, eTLen_ap, iRng3D_ap, sEnd_ap, eSs_ap, sPar3_ap, xPop_ap, xTup1_ap, xCat_ap, sSetX_ap, sAppX_ap, sParO_ap, sForEI_ap, sForK_ap, eRep_ap, eDicK_ap, eDicT_ap, sPut_ap, eAlt_ap, sTry_ap, eGetD_ap, eLockI_ap, iKeyF_ap, runB_ap, gOne_ap, gMany_ap, dI_ap, yesC_ap, dCmp_int, setD, kill_nx, kill_rt, kill_bk, Option.bind_some, Option.map_some, Option.bind_none, Option.map_none, List.getElem?_cons_zero, List.getElem?_cons_succ, List.set_cons_zero, List.set_cons_succ, List.cons_append, List.nil_append, List.append_nil, List.replicate, List.length_cons, List.length_nil, Nat.reduceAdd, Nat.reduceSub, Nat.zero_add, wdat_no, wdat_d, wdat_town, wdat_ol, wdat_od, wfrz_no, wfrz_d, wfrz_town, wfrz_ol, wfrz_od, wval_no, wval_d, wval_town, wval_ol, wval_od, warg_no, warg_d, warg_town, warg_ol, warg_od, vals, gLen, gAbs, gMax2, gMin2, gInt, gTup, gList, wipeW, if_true, if_false, Bool.false_eq_true, Bool.not_true, Bool.not_false, reduceCtorEq, t]
    · have t : dTru (nlD L) = some true := by cases L with
        | nil => exact absurd rfl e
        | cons a L => rfl
      obtain ⟨x, hx⟩ : ∃ x, L.find? (fun x => !prdN P L x) = some x := by
        cases q : L.find? fun x => !prdN P L x with
        | some x => exact ⟨x, rfl⟩
        | none =>
          obtain ⟨x, hx, hp⟩ := min_exA S e
          have := List.find?_eq_none.mp q x hx
          simp [hp] at this
      have hm := List.mem_of_find?_eq_some hx
      have fl := filter_lt hm
      have hbP : P.length ≤ big := le_big (by have := S.few; omega)
      have hbL : L.length ≤ big := le_big (by omega)
      have lp := loopF_brk (g := gOne 4) (body := l_least_order_2) (ρ := [.d (prsN P), .no, .d (wyD acc), .d (nlD L), .no, .no, .no, .no]) (n := n) iN (fun x => !prdN P L x)
        (fun x => [.d (prsN P), .no, .d (wyD (acc ++ [x])), .d (nlD (L.filter fun y => !(y == x))), .no, .no, .no, .no]) L x hx fun y hy => by
          have c1 := comp_filA (g := gMany [5, 6]) (own := [5, 6]) (tst := bAnd (bTest (eBin dEq (dVar 6) (dVar 4))) (bTest (eBin dIn (dVar 5) (dVar 3)))) (elt := eVar 5) (ρ := [.d (prsN P), .no, .d (wyD acc), .d (nlD L), .d (.int (y : Int)), .no, .no, .no]) (n := n) prN (fun p => .int (p.1 : Int)) (fun p => p.2 == y && decide (p.1 ∈ L)) P fun p hp => by
            have q1 := eqI p.2 y
            have q2 := inNl p.1 L
            refine ⟨[.d (prsN P), .no, .d (wyD acc), .d (nlD L), .d (.int (y : Int)), .d (.int (p.1 : Int)), .d (.int (p.2 : Int)), .no], by simp -implicitDefEqProofs only [eVar_ap, dVar_ap, eC_ap, dOf_ap, eFrz_ap, eBin_ap, bTest_ap, bTru_ap, bAnd_ap, bOr_ap, bNot_ap, eIf_ap, eB_ap, eAnd_ap, eOr_ap, aNil_ap, aCons_ap, sNil_ap, sCons_ap, eTup_ap, eLst_ap, eCall_ap, eApp_ap, oNone_ap, oSome_ap, eSl_ap, sNil'_ap, sSeq_ap, sBrk_ap, sRet_ap, sRetN_ap, sRetO_ap, sDrop_ap, sIf_ap, sSet_ap, sApp_ap, sTown_ap, sExt_ap, sIns_ap, sSetIx_ap, sAsg_ap, sPar_ap, iOf_ap, iVal_ap, iRng1_ap, iRng2_ap, sFor_ap, eComp_ap, bYes_ap, frzAt_ap, eUn_ap, eNotD_ap, eOrD_ap, eChain_ap, eListRg1_ap, eIsa_ap, eMt_ap, iEnumV_ap, iEnumF_ap, iZipV_ap, iZipF_ap, eTLen_ap, iRng3D_ap, sEnd_ap, eSs_ap, sPar3_ap, xPop_ap, xTup1_ap, xCat_ap, sSetX_ap, sAppX_ap, sParO_ap, sForEI_ap, sForK_ap, eRep_ap, eDicK_ap, eDicT_ap, sPut_ap, eAlt_ap, sTry_ap, eGetD_ap, eLockI_ap, iKeyF_ap, runB_ap, gOne_ap, gMany_ap, dI_ap, yesC_ap, dCmp_int, setD, kill_nx, kill_rt, kill_bk, Option.bind_some, Option.map_some, Option.bind_none, Option.map_none, List.getElem?_cons_zero, List.getElem?_cons_succ, List.set_cons_zero, List.set_cons_succ, List.cons_append, List.nil_append, List.append_nil, List.replicate, List.length_cons, List.length_nil, Nat.reduceAdd, Nat.reduceSub, Nat.zero_add, wdat_no, wdat_d, wdat_town, wdat_ol, wdat_od, wfrz_no, wfrz_d, wfrz_town, wfrz_ol, wfrz_od, wval_no, wval_d, wval_town, wval_ol, wval_od, warg_no, warg_d, warg_town, warg_ol, warg_od, vals, gLen, gAbs, gMax2, gMin2, gInt, gTup, gList, wipeW, if_true, if_false, Bool.false_eq_true, Bool.not_true, Bool.not_false, reduceCtorEq, prN], ?_, fun _ => by simp -implicitDefEqProofs only [eVar_ap, dVar_ap, eC_ap, dOf_ap, eFrz_ap, eBin_ap, bTest_ap, bTru_ap, bAnd_ap, bOr_ap, bNot_ap, eIf_ap, eB_ap, eAnd_ap, eOr_ap, aNil_ap, aCons_ap, sNil_ap, sCons_ap, eTup_ap, eLst_ap, eCall_ap, eApp_ap, oNone_ap, oSome_ap, eSl_ap, sNil'_ap, sSeq_ap, sBrk_ap, sRet_ap, sRetN_ap, sRetO_ap, sDrop_ap, sIf_ap, sSet_ap, sApp_ap, sTown_ap, sExt_ap, sIns_ap, sSetIx_ap, sAsg_ap, sPar_ap, iOf_ap, iVal_ap, iRng1_ap, iRng2_ap, sFor_ap, eComp_ap, bYes_ap, frzAt_ap, eUn_ap, eNotD_ap, eOrD_ap, eChain_ap, eListRg1_ap, eIsa_ap, eMt_ap, iEnumV_ap, iEnumF_ap, iZipV_ap, iZipF_ap, eTLen_ap, iRng3D_ap, sEnd_ap, eSs_ap, sPar3_ap, xPop_ap, xTup1_ap, xCat_ap, sSetX_ap, sAppX_ap, sParO_ap, sForEI_ap, sForK_ap, eRep_ap, eDicK_ap, eDicT_ap, sPut_ap, eAlt_ap, sTry_ap, eGetD_ap, eLockI_ap, iKeyF_ap, runB_ap, gOne_ap, gMany_ap, dI_ap, yesC_ap, dCmp_int, setD, kill_nx, kill_rt, kill_bk, Option.bind_some, Option.map_some, Option.bind_none, Option.map_none, List.getElem?_cons_zero, List.getElem?_cons_succ, List.set_cons_zero, List.set_cons_succ, List.cons_append, List.nil_append, List.append_nil, List.replicate, List.length_cons, List.length_nil, Nat.reduceAdd, Nat.reduceSub, Nat.zero_add, wdat_no, wdat_d, wdat_town, wdat_ol, wdat_od, wfrz_no, wfrz_d, wfrz_town, wfrz_ol, wfrz_od, wval_no, wval_d, wval_town, wval_ol, wval_od, warg_no, warg_d, warg_town, warg_ol, warg_od, vals, gLen, gAbs, gMax2, gMin2, gInt, gTup, gList, wipeW, if_true, if_false, Bool.false_eq_true, Bool.not_true, Bool.not_false, reduceCtorEq]⟩
            cases c : p.2 == y with
            | false => rw [c] at q1; simp -implicitDefEqProofs only [eVar_ap, dVar_ap, eC_ap, dOf_ap, eFrz_ap, eBin_ap, bTest_ap, bTru_ap, bAnd_ap, bOr_ap, bNot_ap, eIf_ap, eB_ap, eAnd_ap, eOr_ap, aNil_ap, aCons_ap, sNil_ap, sCons_ap, eTup_ap, eLst_ap, eCall_ap, eApp_ap, oNone_ap, oSome_ap, eSl_ap, sNil'_ap, sSeq_ap, sBrk_ap, sRet_ap, sRetN_ap, sRetO_ap, sDrop_ap, sIf_ap, sSet_ap, sApp_ap, sTown_ap, sExt_ap, sIns_ap, sSetIx_ap, sAsg_ap, sPar_ap, iOf_ap, iVal_ap, iRng1_ap, iRng2_ap, sFor_ap, eComp_ap, bYes_ap, frzAt_ap, eUn_ap, eNotD_ap, eOrD_ap, eChain_ap, eListRg1_ap, eIsa_ap, eMt_ap, iEnumV_ap, iEnumF_ap, iZipV_ap, iZipF_ap, eTLen_ap, iRng3D_ap, sEnd_ap, eSs_ap, sPar3_ap, xPop_ap, xTup1_ap, xCat_ap, sSetX_ap, sAppX_ap, sParO_ap, sForEI_ap, sForK_ap, eRep_ap, eDicK_ap, eDicT_ap, sPut_ap, eAlt_ap, sTry_ap, eGetD_ap, eLockI_ap, iKeyF_ap, runB_ap, gOne_ap, gMany_ap, dI_ap, yesC_ap, dCmp_int, setD, kill_nx, kill_rt, kill_bk, Option.bind_some, Option.map_some, Option.bind_none, Option.map_none, List.getElem?_cons_zero, List.getElem?_cons_succ, List.set_cons_zero, List.set_cons_succ, List.cons_append, List.nil_append, List.append_nil, List.replicate, List.length_cons, List.length_nil, Nat.reduceAdd, Nat.reduceSub, Nat.zero_add, wdat_no, wdat_d, wdat_town, wdat_ol, wdat_od, wfrz_no, wfrz_d, wfrz_town, wfrz_ol, wfrz_od, wval_no, wval_d, wval_town, wval_ol, wval_od, warg_no, warg_d, warg_town, warg_ol, warg_od, vals, gLen, gAbs, gMax2, gMin2, gInt, gTup, gList, wipeW, if_true, if_false, Bool.false_eq_true, Bool.not_true, Bool.not_false, reduceCtorEq, q1, Bool.false_and]
            | true => rw [c] at q1; simp -implicitDefEqProofs only [eVar_ap, dVar_ap, eC_ap, dOf_ap, eFrz_ap, eBin_ap, bTest_ap, bTru_ap, bAnd_ap, bOr_ap, bNot_ap, eIf_ap, eB_ap, eAnd_ap, eOr_ap, aNil_ap, aCons_ap, sNil_ap, sCons_ap, eTup_ap, eLst_ap, eCall_ap, eApp_ap, oNone_ap, oSome_ap, eSl_ap, sNil'_ap, sSeq_ap, sBrk_ap, sRet_ap, sRetN_ap, sRetO_ap, sDrop_ap, sIf_ap, sSet_ap, sApp_ap, sTown_ap, sExt_ap, sIns_ap, sSetIx_ap, sAsg_ap, sPar_ap, iOf_ap, iVal_ap, iRng1_ap, iRng2_ap, sFor_ap, eComp_ap, bYes_ap, frzAt_ap, eUn_ap, eNotD_ap, eOrD_ap, eChain_ap, eListRg1_ap, eIsa_ap, eMt_ap, iEnumV_ap, iEnumF_ap, iZipV_ap, iZipF_ap, eTLen_ap, iRng3D_ap, sEnd_ap, eSs_ap, sPar3_ap, xPop_ap, xTup1_ap, xCat_ap, sSetX_ap, sAppX_ap, sParO_ap, sForEI_ap, sForK_ap, eRep_ap, eDicK_ap, eDicT_ap, sPut_ap, eAlt_ap, sTry_ap, eGetD_ap, eLockI_ap, iKeyF_ap, runB_ap, gOne_ap, gMany_ap, dI_ap, yesC_ap, dCmp_int, setD, kill_nx, kill_rt, kill_bk, Option.bind_some, Option.map_some, Option.bind_none, Option.map_none, List.getElem?_cons_zero, List.getElem?_cons_succ, List.set_cons_zero, List.set_cons_succ, List.cons_append, List.nil_append, List.append_nil, List.replicate, List.length_cons, List.length_nil, Nat.reduceAdd, Nat.reduceSub, Nat.zero_add, wdat_no, wdat_d, wdat_town, wdat_ol, wdat_od, wfrz_no, wfrz_d, wfrz_town, wfrz_ol, wfrz_od, wval_no, wval_d, wval_town, wval_ol, wval_od, warg_no, warg_d, warg_town, warg_ol, warg_od, vals, gLen, gAbs, gMax2, gMin2, gInt, gTup, gList, wipeW, if_true, if_false, Bool.false_eq_true, Bool.not_true, Bool.not_false, reduceCtorEq, q1, q2, Bool.true_and]
          have te : dTru (.list ((P.filter fun p => p.2 == y && decide (p.1 ∈ L)).map fun p => PyData.int (p.1 : Int))) = some (prdN P L y) := by
            show some (!List.isEmpty _) = _
            rw [filter_emp, Bool.not_not]
          refine ⟨[.d (prsN P), .no, .d (wyD acc), .d (nlD L), .d (.int (y : Int)), .no, .no, .no], by simp -implicitDefEqProofs only [eVar_ap, dVar_ap, eC_ap, dOf_ap, eFrz_ap, eBin_ap, bTest_ap, bTru_ap, bAnd_ap, bOr_ap, bNot_ap, eIf_ap, eB_ap, eAnd_ap, eOr_ap, aNil_ap, aCons_ap, sNil_ap, sCons_ap, eTup_ap, eLst_ap, eCall_ap, eApp_ap, oNone_ap, oSome_ap, eSl_ap, sNil'_ap, sSeq_ap, sBrk_ap, sRet_ap, sRetN_ap, sRetO_ap, sDrop_ap, sIf_ap, sSet_ap, sApp_ap, sTown_ap, sExt_ap, sIns_ap, sSetIx_ap, sAsg_ap, sPar_ap, iOf_ap, iVal_ap, iRng1_ap, iRng2_ap, sFor_ap, eComp_ap, bYes_ap, frzAt_ap, eUn_ap, eNotD_ap, eOrD_ap, eChain_ap, eListRg1_ap, eIsa_ap, eMt_ap, iEnumV_ap, iEnumF_ap, iZipV_ap, iZipF_ap, eTLen_ap, iRng3D_ap, sEnd_ap, eSs_ap, sPar3_ap, xPop_ap, xTup1_ap, xCat_ap, sSetX_ap, sAppX_ap, sParO_ap, sForEI_ap, sForK_ap, eRep_ap, eDicK_ap, eDicT_ap, sPut_ap, eAlt_ap, sTry_ap, eGetD_ap, eLockI_ap, iKeyF_ap, runB_ap, gOne_ap, gMany_ap, dI_ap, yesC_ap, dCmp_int, setD, kill_nx, kill_rt, kill_bk, Option.bind_some, Option.map_some, Option.bind_none, Option.map_none, List.getElem?_cons_zero, List.getElem?_cons_succ, List.set_cons_zero, List.set_cons_succ, List.cons_append, List.nil_append, List.append_nil, List.replicate, List.length_cons, List.length_nil, Nat.reduceAdd, Nat.reduceSub, Nat.zero_add, wdat_no, wdat_d, wdat_town, wdat_ol, wdat_od, wfrz_no, wfrz_d, wfrz_town, wfrz_ol, wfrz_od, wval_no, wval_d, wval_town, wval_ol, wval_od, warg_no, warg_d, warg_town, warg_ol, warg_od, vals, gLen, gAbs, gMax2, gMin2, gInt, gTup, gList, wipeW, if_true, if_false, Bool.false_eq_true, Bool.not_true, Bool.not_false, reduceCtorEq, iN], ?_⟩
          unfold l_least_order_2
          cases cp : prdN P L y with
          | true =>
            rw [cp] at te
            simp -implicitDefEqProofs only [eVar_ap, dVar_ap, eC_ap, dOf_ap, eFrz_ap, eBin_ap, bTest_ap, bTru_ap, bAnd_ap, bOr_ap, bNot_ap, eIf_ap, eB_ap, eAnd_ap, eOr_ap, aNil_ap, aCons_ap, sNil_ap, sCons_ap, eTup_ap, eLst_ap, eCall_ap, eApp_ap, oNone_ap, oSome_ap, eSl_ap, sNil'_ap, sSeq_ap, sBrk_ap, sRet_ap, sRetN_ap, sRetO_ap, sDrop_ap, sIf_ap, sSet_ap, sApp_ap, sTown_ap, sExt_ap, sIns_ap, sSetIx_ap, sAsg_ap, sPar_ap, iOf_ap, iVal_ap, iRng1_ap, iRng2_ap, sFor_ap, eComp_ap, bYes_ap, frzAt_ap, eUn_ap, eNotD_ap, eOrD_ap, eChain_ap, eListRg1_ap, eIsa_ap, eMt_ap, iEnumV_ap, iEnumF_ap, iZipV_ap, iZipF_ap, eTLen_ap, iRng3D_ap, sEnd_ap, eSs_ap, sPar3_ap, xPop_ap, xTup1_ap, xCat_ap, sSetX_ap, sAppX_ap, sParO_ap, sForEI_ap, sForK_ap, eRep_ap, eDicK_ap, eDicT_ap, sPut_ap, eAlt_ap, sTry_ap, eGetD_ap, eLockI_ap, iKeyF_ap, runB_ap, gOne_ap, gMany_ap, dI_ap, yesC_ap, dCmp_int, setD, kill_nx, kill_rt, kill_bk, Option.bind_some, Option.map_some, Option.bind_none, Option.map_none, List.getElem?_cons_zero, List.getElem?_cons_succ, List.set_cons_zero, List.set_cons_succ, List.cons_append, List.nil_append, List.append_nil, List.replicate, List.length_cons, List.length_nil, Nat.reduceAdd, Nat.reduceSub, Nat.zero_add, wdat_no, wdat_d, wdat_town, wdat_ol, wdat_od, wfrz_no, wfrz_d, wfrz_town, wfrz_ol, wfrz_od, wval_no, wval_d, wval_town, wval_ol, wval_od, warg_no, warg_d, warg_town, warg_ol, warg_od, vals, gLen, gAbs, gMax2, gMin2, gInt, gTup, gList, wipeW, if_true, if_false, Bool.false_eq_true, Bool.not_true, Bool.not_false, reduceCtorEq, iSeq, List.length_map, hbP, c1, te]
          | false =>
            rw [cp] at te
            have d1 := dAdd_tup (acc.map iN) [.int (y : Int)] (le_big (by simp; omega))
            have e1 : acc.map iN ++ [PyData.int (y : Int)] = (acc ++ [y]).map iN := by rw [List.map_append]; rfl
            rw [e1] at d1
            have c2 := left_ok [.d (prsN P), .no, .d (wyD (acc ++ [y])), .d (nlD L), .d (.int (y : Int)), .no, .no, .no] L y n 7 (by omega) (fun y => rfl) (bTest (eBin dNe (dVar 7) (dVar 4))) (fun z => by
              have := neI z y
              simp -implicitDefEqProofs only [eVar_ap, dVar_ap, eC_ap, dOf_ap, eFrz_ap, eBin_ap, bTest_ap, bTru_ap, bAnd_ap, bOr_ap, bNot_ap, eIf_ap, eB_ap, eAnd_ap, eOr_ap, aNil_ap, aCons_ap, sNil_ap, sCons_ap, eTup_ap, eLst_ap, eCall_ap, eApp_ap, oNone_ap, oSome_ap, eSl_ap, sNil'_ap, sSeq_ap, sBrk_ap, sRet_ap, sRetN_ap, sRetO_ap, sDrop_ap, sIf_ap, sSet_ap, sApp_ap, sTown_ap, sExt_ap, sIns_ap, sSetIx_ap, sAsg_ap, sPar_ap, iOf_ap, iVal_ap, iRng1_ap, iRng2_ap, sFor_ap, eComp_ap, bYes_ap, frzAt_ap, eUn_ap, eNotD_ap, eOrD_ap, eChain_ap, eListRg1_ap, eIsa_ap, eMt_ap, iEnumV_ap, iEnumF_ap, iZipV_ap, iZipF_ap, eTLen_ap, iRng3D_ap, sEnd_ap, eSs_ap, sPar3_ap, xPop_ap, xTup1_ap, xCat_ap, sSetX_ap, sAppX_ap, sParO_ap, sForEI_ap, sForK_ap, eRep_ap, eDicK_ap, eDicT_ap, sPut_ap, eAlt_ap, sTry_ap, eGetD_ap, eLockI_ap, iKeyF_ap, runB_ap, gOne_ap, gMany_ap, dI_ap, yesC_ap, dCmp_int, setD, kill_nx, kill_rt, kill_bk, Option.bind_some, Option.map_some, Option.bind_none, Option.map_none, List.getElem?_cons_zero, List.getElem?_cons_succ, List.set_cons_zero, List.set_cons_succ, List.cons_append, List.nil_append, List.append_nil, List.replicate, List.length_cons, List.length_nil, Nat.reduceAdd, Nat.reduceSub, Nat.zero_add, wdat_no, wdat_d, wdat_town, wdat_ol, wdat_od, wfrz_no, wfrz_d, wfrz_town, wfrz_ol, wfrz_od, wval_no, wval_d, wval_town, wval_ol, wval_od, warg_no, warg_d, warg_town, warg_ol, warg_od, vals, gLen, gAbs, gMax2, gMin2, gInt, gTup, gList, wipeW, if_true, if_false, Bool.false_eq_true, Bool.not_true, Bool.not_false, reduceCtorEq, this])
            simp -implicitDefEqProofs only [eVar_ap, dVar_ap, eC_ap, dOf_ap, eFrz_ap, eBin_ap, bTest_ap, bTru_ap, bAnd_ap, bOr_ap, bNot_ap, eIf_ap, eB_ap, eAnd_ap, eOr_ap, aNil_ap, aCons_ap, sNil_ap, sCons_ap, eTup_ap, eLst_ap, eCall_ap, eApp_ap, oNone_ap, oSome_ap, eSl_ap, sNil'_ap, sSeq_ap, sBrk_ap, sRet_ap, sRetN_ap, sRetO_ap, sDrop_ap, sIf_ap, sSet_ap, sApp_ap, sTown_ap, sExt_ap, sIns_ap, sSetIx_ap, sAsg_ap, sPar_ap, iOf_ap, iVal_ap, iRng1_ap, iRng2_ap, sFor_ap, eComp_ap, bYes_ap, frzAt_ap, eUn_ap, eNotD_ap, eOrD_ap, eChain_ap, eListRg1_ap, eIsa_ap, eMt_ap, iEnumV_ap, iEnumF_ap, iZipV_ap, iZipF_ap, eTLen_ap, iRng3D_ap, sEnd_ap, eSs_ap, sPar3_ap, xPop_ap, xTup1_ap, xCat_ap, sSetX_ap, sAppX_ap, sParO_ap, sForEI_ap, sForK_ap, eRep_ap, eDicK_ap, eDicT_ap, sPut_ap, eAlt_ap, sTry_ap, eGetD_ap, eLockI_ap, iKeyF_ap, runB_ap, gOne_ap, gMany_ap, dI_ap, yesC_ap, dCmp_int, setD, kill_nx, kill_rt, kill_bk, Option.bind_some, Option.map_some, Option.bind_none, Option.map_none, List.getElem?_cons_zero, List.getElem?_cons_succ, List.set_cons_zero, List.set_cons_succ, List.cons_append, List.nil_append, List.append_nil, List.replicate, List.length_cons, List.length_nil, Nat.reduceAdd, Nat.reduceSub, Nat.zero_add, wdat_no, wdat_d, wdat_town, wdat_ol, wdat_od, wfrz_no, wfrz_d, wfrz_town, wfrz_ol, wfrz_od, wval_no, wval_d, wval_town, wval_ol, wval_od, warg_no, warg_d, warg_town, warg_ol, warg_od, vals, gLen, gAbs, gMax2, gMin2, gInt, gTup, gList, wipeW, if_true, if_false, Bool.false_eq_true, Bool.not_true, Bool.not_false, reduceCtorEq, iSeq, List.length_map, hbP, c1, te, d1, hbL, c2]
      have ih := least_loopA S n k (L.filter fun y => !(y == x)) (acc ++ [x]) (by omega) (by omega) (hn.sublist List.filter_sublist) (by
        rw [List.length_append, List.length_singleton]; omega)
      have l1 : lstF P (k + 1) L = x :: lstF P k (L.filter fun y => !(y == x)) := by
        show (match L.find? (fun x => !prdN P L x) with | some x => x :: lstF P k (L.filter fun y => !(y == x)) | none => []) = _
        rw [hx]
      rw [l1]
      have e2 : acc ++ x :: lstF P k (L.filter fun y => !(y == x)) = (acc ++ [x]) ++ lstF P k (L.filter fun y => !(y == x)) := by simp
      rw [e2]
      unfold l_least_order_1
      simp -implicitDefEqProofs only [eVar_ap, dVar_ap, eC_ap, dOf_ap, eFrz_ap, eBin_ap, bTest_ap, bTru_ap, bAnd_ap, bOr_ap, bNot_ap, eIf_ap, eB_ap, eAnd_ap, eOr_ap, aNil_ap, aCons_ap, sNil_ap, sCons_ap, eTup_ap, eLst_ap, eCall_ap, eApp_ap, oNone_ap, oSome_ap, eSl_ap, sNil'_ap, sSeq_ap, sBrk_ap, sRet_ap, sRetN_ap, sRetO_ap, sDrop_ap, sIf_ap, sSet_ap, sApp_ap, sTown_ap, sExt_ap, sIns_ap, sSetIx_ap, sAsg_ap, sPar_ap, iOf_ap, iVal_ap, iRng1_ap, iRng2_ap, sFor_ap, eComp_ap, bYes_ap, frzAt_ap, eUn_ap, eNotD_ap, eOrD_ap, eChain_ap, eListRg1_ap, eIsa_ap, eMt_ap, iEnumV_ap, iEnumF_ap, iZipV_ap, iZipF_ap, eTLen_ap, iRng3D_ap, sEnd_ap, eSs_ap, sPar3_ap, xPop_ap, xTup1_ap, xCat_ap, sSetX_ap, sAppX_ap, sParO_ap, sForEI_ap, sForK_ap, eRep_ap, eDicK_ap, eDicT_ap, sPut_ap, eAlt_ap, sTry_ap, eGetD_ap, eLockI_ap, iKeyF_ap, runB_ap, gOne_ap, gMany_ap, dI_ap, yesC_ap, dCmp_int, setD, kill_nx, kill_rt, kill_bk, Option.bind_some, Option.map_some, Option.bind_none, Option.map_none, List.getElem?_cons_zero, List.getElem?_cons_succ, List.set_cons_zero, List.set_cons_succ, List.cons_append, List.nil_append, List.append_nil, List.replicate, List.length_cons, List.length_nil, Nat.reduceAdd, Nat.reduceSub, Nat.zero_add, wdat_no, wdat_d, wdat_town, wdat_ol, wdat_od, wfrz_no, wfrz_d, wfrz_town, wfrz_ol, wfrz_od, wval_no, wval_d, wval_town, wval_ol, wval_od, warg_no, warg_d, warg_town, warg_ol, warg_od, vals, gLen, gAbs, gMax2, gMin2, gInt, gTup, gList, wipeW, if_true, if_false, Bool.false_eq_true, Bool.not_true, Bool.not_false, reduceCtorEq, t, iSeq, lp]
      exact ih
theorem hF_stabA {P : List NN} (S : Rk P) : ∀ (k x : Nat), S.c x < k → hF P (k + 1) x = hF P k x
  | 0, x, h => by omega
  | k + 1, x, h => by
    show maxN _ = maxN _
    congr 1
    refine List.map_congr_left fun f hf => ?_
    rw [hF_stabA S k f (by have := S.lt _ _ (ahd_mem.mp hf); omega)]
theorem hgt_eqA {P : List NN} (S : Rk P) (x : Nat) : hgt P x = maxN ((ahd P x).map fun f => hgt P f + 1) := by
  have := hF_stabA S 100 x (by have := S.le x; omega)
  unfold hgt
  rw [← this]
  rfl
theorem levels_loopA {P : List NN} (S : Rk P) (m : W) (n : Nat) : ∀ (R L : List Nat), (L ++ R).Nodup → (L ++ R).length ≤ 10 → (∀ p ∈ P, p.1 ∈ L ++ R) → R.Pairwise (fun a b => (b, a) ∉ P) →
    loopF (gOne 3) l_levels_1 (R.map iN) [.d (prsN P), m, .od (encH P L), .no, .no, .no] n = some (.nx [.d (prsN P), m, .od (encH P (L ++ R)), .no, .no, .no] n)
  | [], L, _, _, _, _ => by rw [List.append_nil]; rfl
  | x :: R, L, hn, hl, hp, hw => by
    have e : L ++ x :: R = (L ++ [x]) ++ R := by simp
    have hx : x ∉ L := fun h => by
      rw [List.nodup_append] at hn
      exact hn.2.2 _ h x (by simp) rfl
    have hin : ∀ f, (f, x) ∈ P → f ∈ L := fun f hf => by
      rcases List.mem_append.mp (hp _ hf) with q | q
      · exact q
      · rcases List.mem_cons.mp q with q | q
        · have q : f = x := q
          subst q; exact absurd hf (S.irr _)
        · exact absurd hf ((List.pairwise_cons.mp hw).1 f q)
    have hbP : P.length ≤ big := le_big (by have := S.few; omega)
    have c1 := comp_filA (g := gMany [4, 5]) (own := [4, 5]) (tst := bTest (eBin dEq (dVar 5) (dVar 3))) (elt := eBin dAdd (dOf (eBin dIxD (dVar 2) (dVar 4))) (dOf (eC (.int 1)))) (ρ := [.d (prsN P), m, .od (encH P L), .d (.int (x : Int)), .no, .no]) (n := n) prN (fun p => .int ((hgt P p.1 + 1 : Nat) : Int)) (fun p => p.2 == x) P fun p hpP => by
      have q1 := eqI p.2 x
      refine ⟨[.d (prsN P), m, .od (encH P L), .d (.int (x : Int)), .d (.int (p.1 : Int)), .d (.int (p.2 : Int))], by simp -implicitDefEqProofs only [eVar_ap, dVar_ap, eC_ap, dOf_ap, eFrz_ap, eBin_ap, bTest_ap, bTru_ap, bAnd_ap, bOr_ap, bNot_ap, eIf_ap, eB_ap, eAnd_ap, eOr_ap, aNil_ap, aCons_ap, sNil_ap, sCons_ap, eTup_ap, eLst_ap, eCall_ap, eApp_ap, oNone_ap, oSome_ap, eSl_ap, sNil'_ap, sSeq_ap, sBrk_ap, sRet_ap, sRetN_ap, sRetO_ap, sDrop_ap, sIf_ap, sSet_ap, sApp_ap, sTown_ap, sExt_ap, sIns_ap, sSetIx_ap, sAsg_ap, sPar_ap, iOf_ap, iVal_ap, iRng1_ap, iRng2_ap, sFor_ap, eComp_ap, bYes_ap, frzAt_ap, eUn_ap, eNotD_ap, eOrD_ap, eChain_ap, eListRg1_ap, eIsa_ap, eMt_ap, iEnumV_ap, iEnumF_ap, iZipV_ap, iZipF_ap, eTLen_ap, iRng3D_ap, sEnd_ap, eSs_ap, sPar3_ap, xPop_ap, xTup1_ap, xCat_ap, sSetX_ap, sAppX_ap, sParO_ap, sForEI_ap, sForK_ap, eRep_ap, eDicK_ap, eDicT_ap, sPut_ap, eAlt_ap, sTry_ap, eGetD_ap, eLockI_ap, iKeyF_ap, runB_ap, gOne_ap, gMany_ap, dI_ap, yesC_ap, dCmp_int, setD, kill_nx, kill_rt, kill_bk, Option.bind_some, Option.map_some, Option.bind_none, Option.map_none, List.getElem?_cons_zero, List.getElem?_cons_succ, List.set_cons_zero, List.set_cons_succ, List.cons_append, List.nil_append, List.append_nil, List.replicate, List.length_cons, List.length_nil, Nat.reduceAdd, Nat.reduceSub, Nat.zero_add, wdat_no, wdat_d, wdat_town, wdat_ol, wdat_od, wfrz_no, wfrz_d, wfrz_town, wfrz_ol, wfrz_od, wval_no, wval_d, wval_town, wval_ol, wval_od, warg_no, warg_d, warg_town, warg_ol, warg_od, vals, gLen, gAbs, gMax2, gMin2, gInt, gTup, gList, wipeW, if_true, if_false, Bool.false_eq_true, Bool.not_true, Bool.not_false, reduceCtorEq, prN], by simp -implicitDefEqProofs only [eVar_ap, dVar_ap, eC_ap, dOf_ap, eFrz_ap, eBin_ap, bTest_ap, bTru_ap, bAnd_ap, bOr_ap, bNot_ap, eIf_ap, eB_ap, eAnd_ap, eOr_ap, aNil_ap, aCons_ap, sNil_ap, sCons_ap, eTup_ap, eLst_ap, eCall_ap, eApp_ap, oNone_ap, oSome_ap, eSl_ap, sNil'_ap, sSeq_ap, sBrk_ap, sRet_ap, sRetN_ap, sRetO_ap, sDrop_ap, sIf_ap, sSet_ap, sApp_ap, sTown_ap, sExt_ap, sIns_ap, sSetIx_ap, sAsg_ap, sPar_ap, iOf_ap, iVal_ap, iRng1_ap, iRng2_ap, sFor_ap, eComp_ap, bYes_ap, frzAt_ap, eUn_ap, eNotD_ap, eOrD_ap, eChain_ap, eListRg1_ap, eIsa_ap, eMt_ap, iEnumV_ap, iEnumF_ap, iZipV_ap, iZipF_ap, eTLen_ap, iRng3D_ap, sEnd_ap, eSs_ap, sPar3_ap, xPop_ap, xTup1_ap, xCat_ap, sSetX_ap, sAppX_ap, sParO_ap, sForEI_ap, sForK_ap, eRep_ap, eDicK_ap, eDicT_ap, sPut_ap, eAlt_ap, sTry_ap, eGetD_ap, eLockI_ap, iKeyF_ap, runB_ap, gOne_ap, gMany_ap, dI_ap, yesC_ap, dCmp_int, setD, kill_nx, kill_rt, kill_bk, Option.bind_some, Option.map_some, Option.bind_none, Option.map_none, List.getElem?_cons_zero, List.getElem?_cons_succ, List.set_cons_zero, List.set_cons_succ, List.cons_append, List.nil_append, List.append_nil, List.replicate, List.length_cons, List.length_nil, Nat.reduceAdd, Nat.reduceSub, Nat.zero_add, wdat_no, wdat_d, wdat_town, wdat_ol, wdat_od, wfrz_no, wfrz_d, wfrz_town, wfrz_ol, wfrz_od, wval_no, wval_d, wval_town, wval_ol, wval_od, warg_no, warg_d, warg_town, warg_ol, warg_od, vals, gLen, gAbs, gMax2, gMin2, gInt, gTup, gList, wipeW, if_true, if_false, Bool.false_eq_true, Bool.not_true, Bool.not_false, reduceCtorEq, q1], fun c => ?_⟩
      have c : p.2 = x := by simpa using c
      subst c
      have ix := ixD_enc (P := P) (hin p.1 hpP)
      have a1 : dAdd (.int ((hgt P p.1 : Nat) : Int)) (.int 1) = some (.d (.int ((hgt P p.1 + 1 : Nat) : Int))) := by rw [dAdd_int]; rfl
      simp -implicitDefEqProofs only [eVar_ap, dVar_ap, eC_ap, dOf_ap, eFrz_ap, eBin_ap, bTest_ap, bTru_ap, bAnd_ap, bOr_ap, bNot_ap, eIf_ap, eB_ap, eAnd_ap, eOr_ap, aNil_ap, aCons_ap, sNil_ap, sCons_ap, eTup_ap, eLst_ap, eCall_ap, eApp_ap, oNone_ap, oSome_ap, eSl_ap, sNil'_ap, sSeq_ap, sBrk_ap, sRet_ap, sRetN_ap, sRetO_ap, sDrop_ap, sIf_ap, sSet_ap, sApp_ap, sTown_ap, sExt_ap, sIns_ap, sSetIx_ap, sAsg_ap, sPar_ap, iOf_ap, iVal_ap, iRng1_ap, iRng2_ap, sFor_ap, eComp_ap, bYes_ap, frzAt_ap, eUn_ap, eNotD_ap, eOrD_ap, eChain_ap, eListRg1_ap, eIsa_ap, eMt_ap, iEnumV_ap, iEnumF_ap, iZipV_ap, iZipF_ap, eTLen_ap, iRng3D_ap, sEnd_ap, eSs_ap, sPar3_ap, xPop_ap, xTup1_ap, xCat_ap, sSetX_ap, sAppX_ap, sParO_ap, sForEI_ap, sForK_ap, eRep_ap, eDicK_ap, eDicT_ap, sPut_ap, eAlt_ap, sTry_ap, eGetD_ap, eLockI_ap, iKeyF_ap, runB_ap, gOne_ap, gMany_ap, dI_ap, yesC_ap, dCmp_int, setD, kill_nx, kill_rt, kill_bk, Option.bind_some, Option.map_some, Option.bind_none, Option.map_none, List.getElem?_cons_zero, List.getElem?_cons_succ, List.set_cons_zero, List.set_cons_succ, List.cons_append, List.nil_append, List.append_nil, List.replicate, List.length_cons, List.length_nil, Nat.reduceAdd, Nat.reduceSub, Nat.zero_add, wdat_no, wdat_d, wdat_town, wdat_ol, wdat_od, wfrz_no, wfrz_d, wfrz_town, wfrz_ol, wfrz_od, wval_no, wval_d, wval_town, wval_ol, wval_od, warg_no, warg_d, warg_town, warg_ol, warg_od, vals, gLen, gAbs, gMax2, gMin2, gInt, gTup, gList, wipeW, if_true, if_false, Bool.false_eq_true, Bool.not_true, Bool.not_false, reduceCtorEq, ix, a1]
    have e2 : (P.filter fun p => p.2 == x).map (fun p => PyData.int ((hgt P p.1 + 1 : Nat) : Int)) = (((ahd P x).map fun f => hgt P f + 1).map fun k : Nat => (k : Int)).map .int := by
      unfold ahd
      rw [List.map_map, List.map_map, List.map_map]; rfl
    rw [e2] at c1
    have al : (ahd P x).length ≤ 60 := Nat.le_trans (cnt_le P x) S.few
    have d1 := dAdd_lst [.int 0] ((((ahd P x).map fun f => hgt P f + 1).map fun k : Nat => (k : Int)).map .int) (le_big (by simp; omega))
    have e3 : [PyData.int 0] ++ (((ahd P x).map fun f => hgt P f + 1).map fun k : Nat => (k : Int)).map .int = (0 :: ((ahd P x).map fun f => hgt P f + 1).map fun k : Nat => (k : Int)).map .int := rfl
    rw [e3] at d1
    have g : gMax1 [.list ((0 :: ((ahd P x).map fun f => hgt P f + 1).map fun k : Nat => (k : Int)).map .int)] = some (.d (.int ((hgt P x : Nat) : Int))) := by
      have : gMaxL [.list ((0 :: ((ahd P x).map fun f => hgt P f + 1).map fun k : Nat => (k : Int)).map .int)] = some (.d (.int ((hgt P x : Nat) : Int))) := by
        show (intsOf ((0 :: ((ahd P x).map fun f => hgt P f + 1).map fun k : Nat => (k : Int)).map .int)).bind _ = _
        rw [intsOf_map, Option.bind_some]
        show some (W.d (.int (topI 0 _))) = _
        rw [top_nat, ← hgt_eqA S]
      unfold gMax1
      rw [this]; rfl
    have pt := putD_encH (P := P) hx (by rw [List.length_append] at hl; omega)
    rw [e] at hn hl hp ⊢
    have ih := levels_loopA S m n R (L ++ [x]) hn hl hp (List.pairwise_cons.mp hw).2
    rw [List.map_cons, loopF_cons]
    unfold l_levels_1
    simp -implicitDefEqProofs only [eVar_ap, dVar_ap, eC_ap, dOf_ap, eFrz_ap, eBin_ap, bTest_ap, bTru_ap, bAnd_ap, bOr_ap, bNot_ap, eIf_ap, eB_ap, eAnd_ap, eOr_ap, aNil_ap, aCons_ap, sNil_ap, sCons_ap, eTup_ap, eLst_ap, eCall_ap, eApp_ap, oNone_ap, oSome_ap, eSl_ap, sNil'_ap, sSeq_ap, sBrk_ap, sRet_ap, sRetN_ap, sRetO_ap, sDrop_ap, sIf_ap, sSet_ap, sApp_ap, sTown_ap, sExt_ap, sIns_ap, sSetIx_ap, sAsg_ap, sPar_ap, iOf_ap, iVal_ap, iRng1_ap, iRng2_ap, sFor_ap, eComp_ap, bYes_ap, frzAt_ap, eUn_ap, eNotD_ap, eOrD_ap, eChain_ap, eListRg1_ap, eIsa_ap, eMt_ap, iEnumV_ap, iEnumF_ap, iZipV_ap, iZipF_ap, eTLen_ap, iRng3D_ap, sEnd_ap, eSs_ap, sPar3_ap, xPop_ap, xTup1_ap, xCat_ap, sSetX_ap, sAppX_ap, sParO_ap, sForEI_ap, sForK_ap, eRep_ap, eDicK_ap, eDicT_ap, sPut_ap, eAlt_ap, sTry_ap, eGetD_ap, eLockI_ap, iKeyF_ap, runB_ap, gOne_ap, gMany_ap, dI_ap, yesC_ap, dCmp_int, setD, kill_nx, kill_rt, kill_bk, Option.bind_some, Option.map_some, Option.bind_none, Option.map_none, List.getElem?_cons_zero, List.getElem?_cons_succ, List.set_cons_zero, List.set_cons_succ, List.cons_append, List.nil_append, List.append_nil, List.replicate, List.length_cons, List.length_nil, Nat.reduceAdd, Nat.reduceSub, Nat.zero_add, wdat_no, wdat_d, wdat_town, wdat_ol, wdat_od, wfrz_no, wfrz_d, wfrz_town, wfrz_ol, wfrz_od, wval_no, wval_d, wval_town, wval_ol, wval_od, warg_no, warg_d, warg_town, warg_ol, warg_od, vals, gLen, gAbs, gMax2, gMin2, gInt, gTup, gList, wipeW, if_true, if_false, Bool.false_eq_true, Bool.not_true, Bool.not_false, reduceCtorEq, iN, iSeq, List.length_map, hbP, c1, d1, g, pt]
    exact ih
theorem tcl_in {P : List NN} (h : Pr P) {p : NN} (hp : p ∈ P) : p ∈ tcL P := (tcL_mem h (a := p.1) (b := p.2)).mpr (.base hp)
def rkOf {P : List NN} (h : Pr P) (hn : ∀ a, ¬ TC P a a) : Rk P := ⟨fun x => cnt (tcL P) x, fun f x q => cnt_lt (tcL_so h hn) (tcl_in h q), fun x => by
  have nd := ahd_nodup (tcL_so h hn).srt x
  have := nodup6 nd fun y hy => ((tcL_pr h).lt _ (ahd_mem.mp hy)).1
  unfold cnt; omega, Nat.le_trans h.few (by decide)⟩
/-! .. refused where there is a ring -/
theorem need_yes {P : List NN} (hP : Pr P) (hs : P.Pairwise nlt) {m : Nat} (hm : ∀ p ∈ P, p.1 < m) (e : allR P m = []) (n : Nat) : x_need_none [.d (prsN P)] n = some (.inl (.d .none, n)) ∧ m_need_none [.d (prsN P)] n = some (.d .none, n) := by
  have r := ring_ok hP hs hm n
  rw [e] at r
  have r : m_ring [.d (prsN P)] n = some (.d .none, n) := r
  have nn : dNotN .none .none = some (.d (.bool false)) := rfl
  constructor
  · unfold x_need_none runX bx_need_none
    simp -implicitDefEqProofs only [eVar_ap, dVar_ap, eC_ap, dOf_ap, eFrz_ap, eBin_ap, bTest_ap, bTru_ap, bAnd_ap, bOr_ap, bNot_ap, eIf_ap, eB_ap, eAnd_ap, eOr_ap, aNil_ap, aCons_ap, sNil_ap, sCons_ap, eTup_ap, eLst_ap, eCall_ap, eApp_ap, oNone_ap, oSome_ap, eSl_ap, sNil'_ap, sSeq_ap, sBrk_ap, sRet_ap, sRetN_ap, sRetO_ap, sDrop_ap, sIf_ap, sSet_ap, sApp_ap, sTown_ap, sExt_ap, sIns_ap, sSetIx_ap, sAsg_ap, sPar_ap, iOf_ap, iVal_ap, iRng1_ap, iRng2_ap, sFor_ap, eComp_ap, bYes_ap, frzAt_ap, eUn_ap, eNotD_ap, eOrD_ap, eChain_ap, eListRg1_ap, eIsa_ap, eMt_ap, iEnumV_ap, iEnumF_ap, iZipV_ap, iZipF_ap, eTLen_ap, iRng3D_ap, sEnd_ap, eSs_ap, sPar3_ap, xPop_ap, xTup1_ap, xCat_ap, sSetX_ap, sAppX_ap, sParO_ap, sForEI_ap, sForK_ap, eRep_ap, eDicK_ap, eDicT_ap, sPut_ap, eAlt_ap, sTry_ap, eGetD_ap, eLockI_ap, iKeyF_ap, runB_ap, gOne_ap, gMany_ap, dI_ap, yesC_ap, dCmp_int, setD, kill_nx, kill_rt, kill_bk, Option.bind_some, Option.map_some, Option.bind_none, Option.map_none, List.getElem?_cons_zero, List.getElem?_cons_succ, List.set_cons_zero, List.set_cons_succ, List.cons_append, List.nil_append, List.append_nil, List.replicate, List.length_cons, List.length_nil, Nat.reduceAdd, Nat.reduceSub, Nat.zero_add, wdat_no, wdat_d, wdat_town, wdat_ol, wdat_od, wfrz_no, wfrz_d, wfrz_town, wfrz_ol, wfrz_od, wval_no, wval_d, wval_town, wval_ol, wval_od, warg_no, warg_d, warg_town, warg_ol, warg_od, vals, gLen, gAbs, gMax2, gMin2, gInt, gTup, gList, wipeW, if_true, if_false, Bool.false_eq_true, Bool.not_true, Bool.not_false, reduceCtorEq, sEndX, sIfX, lft, r, nn]
  · unfold m_need_none b_need_none
    simp -implicitDefEqProofs only [eVar_ap, dVar_ap, eC_ap, dOf_ap, eFrz_ap, eBin_ap, bTest_ap, bTru_ap, bAnd_ap, bOr_ap, bNot_ap, eIf_ap, eB_ap, eAnd_ap, eOr_ap, aNil_ap, aCons_ap, sNil_ap, sCons_ap, eTup_ap, eLst_ap, eCall_ap, eApp_ap, oNone_ap, oSome_ap, eSl_ap, sNil'_ap, sSeq_ap, sBrk_ap, sRet_ap, sRetN_ap, sRetO_ap, sDrop_ap, sIf_ap, sSet_ap, sApp_ap, sTown_ap, sExt_ap, sIns_ap, sSetIx_ap, sAsg_ap, sPar_ap, iOf_ap, iVal_ap, iRng1_ap, iRng2_ap, sFor_ap, eComp_ap, bYes_ap, frzAt_ap, eUn_ap, eNotD_ap, eOrD_ap, eChain_ap, eListRg1_ap, eIsa_ap, eMt_ap, iEnumV_ap, iEnumF_ap, iZipV_ap, iZipF_ap, eTLen_ap, iRng3D_ap, sEnd_ap, eSs_ap, sPar3_ap, xPop_ap, xTup1_ap, xCat_ap, sSetX_ap, sAppX_ap, sParO_ap, sForEI_ap, sForK_ap, eRep_ap, eDicK_ap, eDicT_ap, sPut_ap, eAlt_ap, sTry_ap, eGetD_ap, eLockI_ap, iKeyF_ap, runB_ap, gOne_ap, gMany_ap, dI_ap, yesC_ap, dCmp_int, setD, kill_nx, kill_rt, kill_bk, Option.bind_some, Option.map_some, Option.bind_none, Option.map_none, List.getElem?_cons_zero, List.getElem?_cons_succ, List.set_cons_zero, List.set_cons_succ, List.cons_append, List.nil_append, List.append_nil, List.replicate, List.length_cons, List.length_nil, Nat.reduceAdd, Nat.reduceSub, Nat.zero_add, wdat_no, wdat_d, wdat_town, wdat_ol, wdat_od, wfrz_no, wfrz_d, wfrz_town, wfrz_ol, wfrz_od, wval_no, wval_d, wval_town, wval_ol, wval_od, warg_no, warg_d, warg_town, warg_ol, warg_od, vals, gLen, gAbs, gMax2, gMin2, gInt, gTup, gList, wipeW, if_true, if_false, Bool.false_eq_true, Bool.not_true, Bool.not_false, reduceCtorEq, r, nn]
theorem need_no {P : List NN} (hP : Pr P) (hs : P.Pairwise nlt) {m : Nat} (hm : ∀ p ∈ P, p.1 < m) (e : allR P m ≠ []) (n : Nat) : x_need_none [.d (prsN P)] n = some (.inr (0, n)) := by
  have r := ring_ok hP hs hm n
  cases c : allR P m with
  | nil => exact absurd c e
  | cons w L =>
    rw [c] at r
    have r : m_ring [.d (prsN P)] n = some (.d (wyD w), n) := r
    have nn : dNotN (wyD w) .none = some (.d (.bool true)) := rfl
    unfold x_need_none runX bx_need_none
    simp -implicitDefEqProofs only [eVar_ap, dVar_ap, eC_ap, dOf_ap, eFrz_ap, eBin_ap, bTest_ap, bTru_ap, bAnd_ap, bOr_ap, bNot_ap, eIf_ap, eB_ap, eAnd_ap, eOr_ap, aNil_ap, aCons_ap, sNil_ap, sCons_ap, eTup_ap, eLst_ap, eCall_ap, eApp_ap, oNone_ap, oSome_ap, eSl_ap, sNil'_ap, sSeq_ap, sBrk_ap, sRet_ap, sRetN_ap, sRetO_ap, sDrop_ap, sIf_ap, sSet_ap, sApp_ap, sTown_ap, sExt_ap, sIns_ap, sSetIx_ap, sAsg_ap, sPar_ap, iOf_ap, iVal_ap, iRng1_ap, iRng2_ap, sFor_ap, eComp_ap, bYes_ap, frzAt_ap, eUn_ap, eNotD_ap, eOrD_ap, eChain_ap, eListRg1_ap, eIsa_ap, eMt_ap, iEnumV_ap, iEnumF_ap, iZipV_ap, iZipF_ap, eTLen_ap, iRng3D_ap, sEnd_ap, eSs_ap, sPar3_ap, xPop_ap, xTup1_ap, xCat_ap, sSetX_ap, sAppX_ap, sParO_ap, sForEI_ap, sForK_ap, eRep_ap, eDicK_ap, eDicT_ap, sPut_ap, eAlt_ap, sTry_ap, eGetD_ap, eLockI_ap, iKeyF_ap, runB_ap, gOne_ap, gMany_ap, dI_ap, yesC_ap, dCmp_int, setD, kill_nx, kill_rt, kill_bk, Option.bind_some, Option.map_some, Option.bind_none, Option.map_none, List.getElem?_cons_zero, List.getElem?_cons_succ, List.set_cons_zero, List.set_cons_succ, List.cons_append, List.nil_append, List.append_nil, List.replicate, List.length_cons, List.length_nil, Nat.reduceAdd, Nat.reduceSub, Nat.zero_add, wdat_no, wdat_d, wdat_town, wdat_ol, wdat_od, wfrz_no, wfrz_d, wfrz_town, wfrz_ol, wfrz_od, wval_no, wval_d, wval_town, wval_ol, wval_od, warg_no, warg_d, warg_town, warg_ol, warg_od, vals, gLen, gAbs, gMax2, gMin2, gInt, gTup, gList, wipeW, if_true, if_false, Bool.false_eq_true, Bool.not_true, Bool.not_false, reduceCtorEq, sEndX, sIfX, sRz, r, nn]
theorem free_any {P : List NN} (hP : Pr P) (m : Nat) (h6 : m ≤ 6) (n : Nat) : m_free_pairs [.d (prsN P), .d (.int (m : Int))] n = some (.d (prsN ((List.range m).flatMap (frL (tcL P) m))), n) := by
  have c := closed_any hP n
  have lp := free_out (tcL P) (by have := (tcL_pr hP).few; omega) m h6 n (List.range m) [] (fun i hi => List.mem_range.mp hi) (by rw [List.length_range]; simp; omega)
  rw [List.nil_append, List.map_nil] at lp
  have r1 := rng1_ok (j := (m : Int)) (by omega) (by omega)
  rw [Int.toNat_natCast, rgN] at r1
  unfold m_free_pairs b_free_pairs
  simp -implicitDefEqProofs only [eVar_ap, dVar_ap, eC_ap, dOf_ap, eFrz_ap, eBin_ap, bTest_ap, bTru_ap, bAnd_ap, bOr_ap, bNot_ap, eIf_ap, eB_ap, eAnd_ap, eOr_ap, aNil_ap, aCons_ap, sNil_ap, sCons_ap, eTup_ap, eLst_ap, eCall_ap, eApp_ap, oNone_ap, oSome_ap, eSl_ap, sNil'_ap, sSeq_ap, sBrk_ap, sRet_ap, sRetN_ap, sRetO_ap, sDrop_ap, sIf_ap, sSet_ap, sApp_ap, sTown_ap, sExt_ap, sIns_ap, sSetIx_ap, sAsg_ap, sPar_ap, iOf_ap, iVal_ap, iRng1_ap, iRng2_ap, sFor_ap, eComp_ap, bYes_ap, frzAt_ap, eUn_ap, eNotD_ap, eOrD_ap, eChain_ap, eListRg1_ap, eIsa_ap, eMt_ap, iEnumV_ap, iEnumF_ap, iZipV_ap, iZipF_ap, eTLen_ap, iRng3D_ap, sEnd_ap, eSs_ap, sPar3_ap, xPop_ap, xTup1_ap, xCat_ap, sSetX_ap, sAppX_ap, sParO_ap, sForEI_ap, sForK_ap, eRep_ap, eDicK_ap, eDicT_ap, sPut_ap, eAlt_ap, sTry_ap, eGetD_ap, eLockI_ap, iKeyF_ap, runB_ap, gOne_ap, gMany_ap, dI_ap, yesC_ap, dCmp_int, setD, kill_nx, kill_rt, kill_bk, Option.bind_some, Option.map_some, Option.bind_none, Option.map_none, List.getElem?_cons_zero, List.getElem?_cons_succ, List.set_cons_zero, List.set_cons_succ, List.cons_append, List.nil_append, List.append_nil, List.replicate, List.length_cons, List.length_nil, Nat.reduceAdd, Nat.reduceSub, Nat.zero_add, wdat_no, wdat_d, wdat_town, wdat_ol, wdat_od, wfrz_no, wfrz_d, wfrz_town, wfrz_ol, wfrz_od, wval_no, wval_d, wval_town, wval_ol, wval_od, warg_no, warg_d, warg_town, warg_ol, warg_od, vals, gLen, gAbs, gMax2, gMin2, gInt, gTup, gList, wipeW, if_true, if_false, Bool.false_eq_true, Bool.not_true, Bool.not_false, reduceCtorEq, c, r1, lp]
def brL (P : List NN) : List NN := (tcL P).filter (brB (tcL P))
structure Ac (P : List NN) (m : Nat) : Prop where
  pr : Pr P
  srt : P.Pairwise nlt
  six : m ≤ 6
  lt : ∀ p ∈ P, p.1 < m ∧ p.2 < m
  no : ∀ a, ¬ TC P a a
theorem Ac.nil {P : List NN} {m : Nat} (A : Ac P m) : allR P m = [] := (no_ring A.six A.lt).mpr A.no
/-- the four deeds, where there is no ring -/
theorem deeds_yes {P : List NN} {m : Nat} (A : Ac P m) (n : Nat) :
    (x_orders [.d (prsN P), .d (.int (m : Int))] n = some (.inl (.d (.tuple ((ordF P 10 (List.range m)).map wyD)), n)) ∧ m_orders [.d (prsN P), .d (.int (m : Int))] n = some (.d (.tuple ((ordF P 10 (List.range m)).map wyD)), n)) ∧
    (x_least_order [.d (prsN P), .d (.int (m : Int))] n = some (.inl (.d (wyD (lstF P 100000 (List.range m))), n)) ∧ m_least_order [.d (prsN P), .d (.int (m : Int))] n = some (.d (wyD (lstF P 100000 (List.range m))), n)) ∧
    (x_bare [.d (prsN P)] n = some (.inl (.d (prsN (brL P)), n)) ∧ m_bare [.d (prsN P)] n = some (.d (prsN (brL P)), n)) ∧
    (x_levels [.d (prsN P), .d (.int (m : Int))] n = some (.inl (.d (.tuple ((List.range m).map fun x => iN (hgt P x))), n)) ∧ m_levels [.d (prsN P), .d (.int (m : Int))] n = some (.d (.tuple ((List.range m).map fun x => iN (hgt P x))), n)) := by
  obtain ⟨nx, nm⟩ := need_yes A.pr A.srt (fun p hp => (A.lt p hp).1) A.nil n
  have six := A.six
  let S := rkOf A.pr A.no
  have h1 : (0 : Int) ≤ (m : Int) ∧ (m : Int) ≤ big := ⟨by omega, by have : big = 16777216 := rfl; omega⟩
  have of := orders_from_ok S.few n 10 (List.range m) (by rw [List.length_range]; omega) (by rw [List.length_range]; omega)
  have of : m_orders_from [.d (prsN P), .d (nlD (List.range m))] n = _ := of
  have lp := least_loopA S n 100000 (List.range m) [] (by rw [List.length_range]; omega) (by rw [List.length_range]; omega) (range_nodup m) (by rw [List.length_range]; simp; omega)
  rw [List.nil_append] at lp
  have lp : loopW (bTru (dVar 3)) l_least_order_1 100000 [.d (prsN P), .no, .d (.tuple []), .d (nlD (List.range m)), .no, .no, .no, .no] n = _ := lp
  have cl := closed_any A.pr n
  have bl := bare_loop (tcL P) (by have := (tcL_pr A.pr).few; omega) n (tcL P) [] (by have := (tcL_pr A.pr).few; simp; omega)
  rw [List.nil_append, List.map_nil] at bl
  have bl : loopF (gMany [3, 4]) l_bare_1 ((tcL P).map prN) [.no, .d (prsN (tcL P)), .ol [], .no, .no, .no] n = some (.nx [.no, .d (prsN (tcL P)), .ol ((brL P).map prN), .no, .no, .no] n) := bl
  have hbT : (tcL P).length ≤ big := le_big (by have := (tcL_pr A.pr).few; omega)
  have lo : m_least_order [.d (prsN P), .d (.int (m : Int))] n = some (.d (wyD (lstF P 100000 (List.range m))), n) := by
    unfold m_least_order b_least_order
    simp -implicitDefEqProofs only [eVar_ap, dVar_ap, eC_ap, dOf_ap, eFrz_ap, eBin_ap, bTest_ap, bTru_ap, bAnd_ap, bOr_ap, bNot_ap, eIf_ap, eB_ap, eAnd_ap, eOr_ap, aNil_ap, aCons_ap, sNil_ap, sCons_ap, eTup_ap, eLst_ap, eCall_ap, eApp_ap, oNone_ap, oSome_ap, eSl_ap, sNil'_ap, sSeq_ap, sBrk_ap, sRet_ap, sRetN_ap, sRetO_ap, sDrop_ap, sIf_ap, sSet_ap, sApp_ap, sTown_ap, sExt_ap, sIns_ap, sSetIx_ap, sAsg_ap, sPar_ap, iOf_ap, iVal_ap, iRng1_ap, iRng2_ap, sFor_ap, eComp_ap, bYes_ap, frzAt_ap, eUn_ap, eNotD_ap, eOrD_ap, eChain_ap, eListRg1_ap, eIsa_ap, eMt_ap, iEnumV_ap, iEnumF_ap, iZipV_ap, iZipF_ap, eTLen_ap, iRng3D_ap, sEnd_ap, eSs_ap, sPar3_ap, xPop_ap, xTup1_ap, xCat_ap, sSetX_ap, sAppX_ap, sParO_ap, sForEI_ap, sForK_ap, eRep_ap, eDicK_ap, eDicT_ap, sPut_ap, eAlt_ap, sTry_ap, eGetD_ap, eLockI_ap, iKeyF_ap, runB_ap, gOne_ap, gMany_ap, dI_ap, yesC_ap, dCmp_int, setD, kill_nx, kill_rt, kill_bk, Option.bind_some, Option.map_some, Option.bind_none, Option.map_none, List.getElem?_cons_zero, List.getElem?_cons_succ, List.set_cons_zero, List.set_cons_succ, List.cons_append, List.nil_append, List.append_nil, List.replicate, List.length_cons, List.length_nil, Nat.reduceAdd, Nat.reduceSub, Nat.zero_add, wdat_no, wdat_d, wdat_town, wdat_ol, wdat_od, wfrz_no, wfrz_d, wfrz_town, wfrz_ol, wfrz_od, wval_no, wval_d, wval_town, wval_ol, wval_od, warg_no, warg_d, warg_town, warg_ol, warg_od, vals, gLen, gAbs, gMax2, gMin2, gInt, gTup, gList, wipeW, if_true, if_false, Bool.false_eq_true, Bool.not_true, Bool.not_false, reduceCtorEq, nm, h1, and_self, Int.toNat_natCast, rgN, lp]
  obtain ⟨g1, g2⟩ := lstF_extA S 100000 (List.range m) (by rw [List.length_range]; omega) (range_nodup m)
  have lv := levels_loopA S (.d (.int (m : Int))) n (lstF P 100000 (List.range m)) [] (by rw [List.nil_append]; exact g1.nodup_iff.mpr (range_nodup m)) (by rw [List.nil_append, g1.length_eq, List.length_range]; omega)
    (fun p h => by rw [List.nil_append]; exact g1.mem_iff.mpr (List.mem_range.mpr (A.lt p h).1)) g2
  rw [List.nil_append] at lv
  have lv : loopF (gOne 3) l_levels_1 ((lstF P 100000 (List.range m)).map iN) [.d (prsN P), .d (.int (m : Int)), .od [], .no, .no, .no] n = _ := lv
  have r1 := rng1_ok (j := (m : Int)) (by omega) (by omega)
  rw [Int.toNat_natCast, rgN] at r1
  have c1 := comp_mapA (g := gOne 3) (own := [3]) (elt := eBin dIxD (dVar 2) (dVar 3)) (ρ := [.no, .d (.int (m : Int)), .od (encH P (lstF P 100000 (List.range m))), .no, .no, .no]) (n := n) iN (fun x => iN (hgt P x)) (List.range m) fun x hx => ⟨_, rfl, by
    have ix := ixD_enc (P := P) (g1.mem_iff.mpr hx)
    simp -implicitDefEqProofs only [eVar_ap, dVar_ap, eC_ap, dOf_ap, eFrz_ap, eBin_ap, bTest_ap, bTru_ap, bAnd_ap, bOr_ap, bNot_ap, eIf_ap, eB_ap, eAnd_ap, eOr_ap, aNil_ap, aCons_ap, sNil_ap, sCons_ap, eTup_ap, eLst_ap, eCall_ap, eApp_ap, oNone_ap, oSome_ap, eSl_ap, sNil'_ap, sSeq_ap, sBrk_ap, sRet_ap, sRetN_ap, sRetO_ap, sDrop_ap, sIf_ap, sSet_ap, sApp_ap, sTown_ap, sExt_ap, sIns_ap, sSetIx_ap, sAsg_ap, sPar_ap, iOf_ap, iVal_ap, iRng1_ap, iRng2_ap, sFor_ap, eComp_ap, bYes_ap, frzAt_ap, eUn_ap, eNotD_ap, eOrD_ap, eChain_ap, eListRg1_ap, eIsa_ap, eMt_ap, iEnumV_ap, iEnumF_ap, iZipV_ap, iZipF_ap, eTLen_ap, iRng3D_ap, sEnd_ap, eSs_ap, sPar3_ap, xPop_ap, xTup1_ap, xCat_ap, sSetX_ap, sAppX_ap, sParO_ap, sForEI_ap, sForK_ap, eRep_ap, eDicK_ap, eDicT_ap, sPut_ap, eAlt_ap, sTry_ap, eGetD_ap, eLockI_ap, iKeyF_ap, runB_ap, gOne_ap, gMany_ap, dI_ap, yesC_ap, dCmp_int, setD, kill_nx, kill_rt, kill_bk, Option.bind_some, Option.map_some, Option.bind_none, Option.map_none, List.getElem?_cons_zero, List.getElem?_cons_succ, List.set_cons_zero, List.set_cons_succ, List.cons_append, List.nil_append, List.append_nil, List.replicate, List.length_cons, List.length_nil, Nat.reduceAdd, Nat.reduceSub, Nat.zero_add, wdat_no, wdat_d, wdat_town, wdat_ol, wdat_od, wfrz_no, wfrz_d, wfrz_town, wfrz_ol, wfrz_od, wval_no, wval_d, wval_town, wval_ol, wval_od, warg_no, warg_d, warg_town, warg_ol, warg_od, vals, gLen, gAbs, gMax2, gMin2, gInt, gTup, gList, wipeW, if_true, if_false, Bool.false_eq_true, Bool.not_true, Bool.not_false, reduceCtorEq, iN, ix]⟩
  have hb : m ≤ big := le_big (by omega)
  refine ⟨⟨?_, ?_⟩, ⟨?_, lo⟩, ⟨?_, ?_⟩, ?_, ?_⟩
  · unfold x_orders runX bx_orders
    simp -implicitDefEqProofs only [eVar_ap, dVar_ap, eC_ap, dOf_ap, eFrz_ap, eBin_ap, bTest_ap, bTru_ap, bAnd_ap, bOr_ap, bNot_ap, eIf_ap, eB_ap, eAnd_ap, eOr_ap, aNil_ap, aCons_ap, sNil_ap, sCons_ap, eTup_ap, eLst_ap, eCall_ap, eApp_ap, oNone_ap, oSome_ap, eSl_ap, sNil'_ap, sSeq_ap, sBrk_ap, sRet_ap, sRetN_ap, sRetO_ap, sDrop_ap, sIf_ap, sSet_ap, sApp_ap, sTown_ap, sExt_ap, sIns_ap, sSetIx_ap, sAsg_ap, sPar_ap, iOf_ap, iVal_ap, iRng1_ap, iRng2_ap, sFor_ap, eComp_ap, bYes_ap, frzAt_ap, eUn_ap, eNotD_ap, eOrD_ap, eChain_ap, eListRg1_ap, eIsa_ap, eMt_ap, iEnumV_ap, iEnumF_ap, iZipV_ap, iZipF_ap, eTLen_ap, iRng3D_ap, sEnd_ap, eSs_ap, sPar3_ap, xPop_ap, xTup1_ap, xCat_ap, sSetX_ap, sAppX_ap, sParO_ap, sForEI_ap, sForK_ap, eRep_ap, eDicK_ap, eDicT_ap, sPut_ap, eAlt_ap, sTry_ap, eGetD_ap, eLockI_ap, iKeyF_ap, runB_ap, gOne_ap, gMany_ap, dI_ap, yesC_ap, dCmp_int, setD, kill_nx, kill_rt, kill_bk, Option.bind_some, Option.map_some, Option.bind_none, Option.map_none, List.getElem?_cons_zero, List.getElem?_cons_succ, List.set_cons_zero, List.set_cons_succ, List.cons_append, List.nil_append, List.append_nil, List.replicate, List.length_cons, List.length_nil, Nat.reduceAdd, Nat.reduceSub, Nat.zero_add, wdat_no, wdat_d, wdat_town, wdat_ol, wdat_od, wfrz_no, wfrz_d, wfrz_town, wfrz_ol, wfrz_od, wval_no, wval_d, wval_town, wval_ol, wval_od, warg_no, warg_d, warg_town, warg_ol, warg_od, vals, gLen, gAbs, gMax2, gMin2, gInt, gTup, gList, wipeW, if_true, if_false, Bool.false_eq_true, Bool.not_true, Bool.not_false, reduceCtorEq, sSeqX, sDropX, xCall, lft, nx, h1, and_self, Int.toNat_natCast, rgN, of]
  · unfold m_orders b_orders
    simp -implicitDefEqProofs only [eVar_ap, dVar_ap, eC_ap, dOf_ap, eFrz_ap, eBin_ap, bTest_ap, bTru_ap, bAnd_ap, bOr_ap, bNot_ap, eIf_ap, eB_ap, eAnd_ap, eOr_ap, aNil_ap, aCons_ap, sNil_ap, sCons_ap, eTup_ap, eLst_ap, eCall_ap, eApp_ap, oNone_ap, oSome_ap, eSl_ap, sNil'_ap, sSeq_ap, sBrk_ap, sRet_ap, sRetN_ap, sRetO_ap, sDrop_ap, sIf_ap, sSet_ap, sApp_ap, sTown_ap, sExt_ap, sIns_ap, sSetIx_ap, sAsg_ap, sPar_ap, iOf_ap, iVal_ap, iRng1_ap, iRng2_ap, sFor_ap, eComp_ap, bYes_ap, frzAt_ap, eUn_ap, eNotD_ap, eOrD_ap, eChain_ap, eListRg1_ap, eIsa_ap, eMt_ap, iEnumV_ap, iEnumF_ap, iZipV_ap, iZipF_ap, eTLen_ap, iRng3D_ap, sEnd_ap, eSs_ap, sPar3_ap, xPop_ap, xTup1_ap, xCat_ap, sSetX_ap, sAppX_ap, sParO_ap, sForEI_ap, sForK_ap, eRep_ap, eDicK_ap, eDicT_ap, sPut_ap, eAlt_ap, sTry_ap, eGetD_ap, eLockI_ap, iKeyF_ap, runB_ap, gOne_ap, gMany_ap, dI_ap, yesC_ap, dCmp_int, setD, kill_nx, kill_rt, kill_bk, Option.bind_some, Option.map_some, Option.bind_none, Option.map_none, List.getElem?_cons_zero, List.getElem?_cons_succ, List.set_cons_zero, List.set_cons_succ, List.cons_append, List.nil_append, List.append_nil, List.replicate, List.length_cons, List.length_nil, Nat.reduceAdd, Nat.reduceSub, Nat.zero_add, wdat_no, wdat_d, wdat_town, wdat_ol, wdat_od, wfrz_no, wfrz_d, wfrz_town, wfrz_ol, wfrz_od, wval_no, wval_d, wval_town, wval_ol, wval_od, warg_no, warg_d, warg_town, warg_ol, warg_od, vals, gLen, gAbs, gMax2, gMin2, gInt, gTup, gList, wipeW, if_true, if_false, Bool.false_eq_true, Bool.not_true, Bool.not_false, reduceCtorEq, nm, h1, and_self, Int.toNat_natCast, rgN, of]
  · unfold x_least_order runX bx_least_order
    simp -implicitDefEqProofs only [eVar_ap, dVar_ap, eC_ap, dOf_ap, eFrz_ap, eBin_ap, bTest_ap, bTru_ap, bAnd_ap, bOr_ap, bNot_ap, eIf_ap, eB_ap, eAnd_ap, eOr_ap, aNil_ap, aCons_ap, sNil_ap, sCons_ap, eTup_ap, eLst_ap, eCall_ap, eApp_ap, oNone_ap, oSome_ap, eSl_ap, sNil'_ap, sSeq_ap, sBrk_ap, sRet_ap, sRetN_ap, sRetO_ap, sDrop_ap, sIf_ap, sSet_ap, sApp_ap, sTown_ap, sExt_ap, sIns_ap, sSetIx_ap, sAsg_ap, sPar_ap, iOf_ap, iVal_ap, iRng1_ap, iRng2_ap, sFor_ap, eComp_ap, bYes_ap, frzAt_ap, eUn_ap, eNotD_ap, eOrD_ap, eChain_ap, eListRg1_ap, eIsa_ap, eMt_ap, iEnumV_ap, iEnumF_ap, iZipV_ap, iZipF_ap, eTLen_ap, iRng3D_ap, sEnd_ap, eSs_ap, sPar3_ap, xPop_ap, xTup1_ap, xCat_ap, sSetX_ap, sAppX_ap, sParO_ap, sForEI_ap, sForK_ap, eRep_ap, eDicK_ap, eDicT_ap, sPut_ap, eAlt_ap, sTry_ap, eGetD_ap, eLockI_ap, iKeyF_ap, runB_ap, gOne_ap, gMany_ap, dI_ap, yesC_ap, dCmp_int, setD, kill_nx, kill_rt, kill_bk, Option.bind_some, Option.map_some, Option.bind_none, Option.map_none, List.getElem?_cons_zero, List.getElem?_cons_succ, List.set_cons_zero, List.set_cons_succ, List.cons_append, List.nil_append, List.append_nil, List.replicate, List.length_cons, List.length_nil, Nat.reduceAdd, Nat.reduceSub, Nat.zero_add, wdat_no, wdat_d, wdat_town, wdat_ol, wdat_od, wfrz_no, wfrz_d, wfrz_town, wfrz_ol, wfrz_od, wval_no, wval_d, wval_town, wval_ol, wval_od, warg_no, warg_d, warg_town, warg_ol, warg_od, vals, gLen, gAbs, gMax2, gMin2, gInt, gTup, gList, wipeW, if_true, if_false, Bool.false_eq_true, Bool.not_true, Bool.not_false, reduceCtorEq, sSeqX, sDropX, xCall, lft, nx, h1, and_self, Int.toNat_natCast, rgN, lp]
  · unfold x_bare runX bx_bare
    simp -implicitDefEqProofs only [eVar_ap, dVar_ap, eC_ap, dOf_ap, eFrz_ap, eBin_ap, bTest_ap, bTru_ap, bAnd_ap, bOr_ap, bNot_ap, eIf_ap, eB_ap, eAnd_ap, eOr_ap, aNil_ap, aCons_ap, sNil_ap, sCons_ap, eTup_ap, eLst_ap, eCall_ap, eApp_ap, oNone_ap, oSome_ap, eSl_ap, sNil'_ap, sSeq_ap, sBrk_ap, sRet_ap, sRetN_ap, sRetO_ap, sDrop_ap, sIf_ap, sSet_ap, sApp_ap, sTown_ap, sExt_ap, sIns_ap, sSetIx_ap, sAsg_ap, sPar_ap, iOf_ap, iVal_ap, iRng1_ap, iRng2_ap, sFor_ap, eComp_ap, bYes_ap, frzAt_ap, eUn_ap, eNotD_ap, eOrD_ap, eChain_ap, eListRg1_ap, eIsa_ap, eMt_ap, iEnumV_ap, iEnumF_ap, iZipV_ap, iZipF_ap, eTLen_ap, iRng3D_ap, sEnd_ap, eSs_ap, sPar3_ap, xPop_ap, xTup1_ap, xCat_ap, sSetX_ap, sAppX_ap, sParO_ap, sForEI_ap, sForK_ap, eRep_ap, eDicK_ap, eDicT_ap, sPut_ap, eAlt_ap, sTry_ap, eGetD_ap, eLockI_ap, iKeyF_ap, runB_ap, gOne_ap, gMany_ap, dI_ap, yesC_ap, dCmp_int, setD, kill_nx, kill_rt, kill_bk, Option.bind_some, Option.map_some, Option.bind_none, Option.map_none, List.getElem?_cons_zero, List.getElem?_cons_succ, List.set_cons_zero, List.set_cons_succ, List.cons_append, List.nil_append, List.append_nil, List.replicate, List.length_cons, List.length_nil, Nat.reduceAdd, Nat.reduceSub, Nat.zero_add, wdat_no, wdat_d, wdat_town, wdat_ol, wdat_od, wfrz_no, wfrz_d, wfrz_town, wfrz_ol, wfrz_od, wval_no, wval_d, wval_town, wval_ol, wval_od, warg_no, warg_d, warg_town, warg_ol, warg_od, vals, gLen, gAbs, gMax2, gMin2, gInt, gTup, gList, wipeW, if_true, if_false, Bool.false_eq_true, Bool.not_true, Bool.not_false, reduceCtorEq, sSeqX, sDropX, xCall, lft, nx, cl, iSeq, List.length_map, hbT, bl]
  · unfold m_bare b_bare
    simp -implicitDefEqProofs only [eVar_ap, dVar_ap, eC_ap, dOf_ap, eFrz_ap, eBin_ap, bTest_ap, bTru_ap, bAnd_ap, bOr_ap, bNot_ap, eIf_ap, eB_ap, eAnd_ap, eOr_ap, aNil_ap, aCons_ap, sNil_ap, sCons_ap, eTup_ap, eLst_ap, eCall_ap, eApp_ap, oNone_ap, oSome_ap, eSl_ap, sNil'_ap, sSeq_ap, sBrk_ap, sRet_ap, sRetN_ap, sRetO_ap, sDrop_ap, sIf_ap, sSet_ap, sApp_ap, sTown_ap, sExt_ap, sIns_ap, sSetIx_ap, sAsg_ap, sPar_ap, iOf_ap, iVal_ap, iRng1_ap, iRng2_ap, sFor_ap, eComp_ap, bYes_ap, frzAt_ap, eUn_ap, eNotD_ap, eOrD_ap, eChain_ap, eListRg1_ap, eIsa_ap, eMt_ap, iEnumV_ap, iEnumF_ap, iZipV_ap, iZipF_ap, eTLen_ap, iRng3D_ap, sEnd_ap, eSs_ap, sPar3_ap, xPop_ap, xTup1_ap, xCat_ap, sSetX_ap, sAppX_ap, sParO_ap, sForEI_ap, sForK_ap, eRep_ap, eDicK_ap, eDicT_ap, sPut_ap, eAlt_ap, sTry_ap, eGetD_ap, eLockI_ap, iKeyF_ap, runB_ap, gOne_ap, gMany_ap, dI_ap, yesC_ap, dCmp_int, setD, kill_nx, kill_rt, kill_bk, Option.bind_some, Option.map_some, Option.bind_none, Option.map_none, List.getElem?_cons_zero, List.getElem?_cons_succ, List.set_cons_zero, List.set_cons_succ, List.cons_append, List.nil_append, List.append_nil, List.replicate, List.length_cons, List.length_nil, Nat.reduceAdd, Nat.reduceSub, Nat.zero_add, wdat_no, wdat_d, wdat_town, wdat_ol, wdat_od, wfrz_no, wfrz_d, wfrz_town, wfrz_ol, wfrz_od, wval_no, wval_d, wval_town, wval_ol, wval_od, warg_no, warg_d, warg_town, warg_ol, warg_od, vals, gLen, gAbs, gMax2, gMin2, gInt, gTup, gList, wipeW, if_true, if_false, Bool.false_eq_true, Bool.not_true, Bool.not_false, reduceCtorEq, nm, cl, iSeq, List.length_map, hbT, bl]
  · unfold x_levels runX bx_levels
    simp -implicitDefEqProofs only [eVar_ap, dVar_ap, eC_ap, dOf_ap, eFrz_ap, eBin_ap, bTest_ap, bTru_ap, bAnd_ap, bOr_ap, bNot_ap, eIf_ap, eB_ap, eAnd_ap, eOr_ap, aNil_ap, aCons_ap, sNil_ap, sCons_ap, eTup_ap, eLst_ap, eCall_ap, eApp_ap, oNone_ap, oSome_ap, eSl_ap, sNil'_ap, sSeq_ap, sBrk_ap, sRet_ap, sRetN_ap, sRetO_ap, sDrop_ap, sIf_ap, sSet_ap, sApp_ap, sTown_ap, sExt_ap, sIns_ap, sSetIx_ap, sAsg_ap, sPar_ap, iOf_ap, iVal_ap, iRng1_ap, iRng2_ap, sFor_ap, eComp_ap, bYes_ap, frzAt_ap, eUn_ap, eNotD_ap, eOrD_ap, eChain_ap, eListRg1_ap, eIsa_ap, eMt_ap, iEnumV_ap, iEnumF_ap, iZipV_ap, iZipF_ap, eTLen_ap, iRng3D_ap, sEnd_ap, eSs_ap, sPar3_ap, xPop_ap, xTup1_ap, xCat_ap, sSetX_ap, sAppX_ap, sParO_ap, sForEI_ap, sForK_ap, eRep_ap, eDicK_ap, eDicT_ap, sPut_ap, eAlt_ap, sTry_ap, eGetD_ap, eLockI_ap, iKeyF_ap, runB_ap, gOne_ap, gMany_ap, dI_ap, yesC_ap, dCmp_int, setD, kill_nx, kill_rt, kill_bk, Option.bind_some, Option.map_some, Option.bind_none, Option.map_none, List.getElem?_cons_zero, List.getElem?_cons_succ, List.set_cons_zero, List.set_cons_succ, List.cons_append, List.nil_append, List.append_nil, List.replicate, List.length_cons, List.length_nil, Nat.reduceAdd, Nat.reduceSub, Nat.zero_add, wdat_no, wdat_d, wdat_town, wdat_ol, wdat_od, wfrz_no, wfrz_d, wfrz_town, wfrz_ol, wfrz_od, wval_no, wval_d, wval_town, wval_ol, wval_od, warg_no, warg_d, warg_town, warg_ol, warg_od, vals, gLen, gAbs, gMax2, gMin2, gInt, gTup, gList, wipeW, if_true, if_false, Bool.false_eq_true, Bool.not_true, Bool.not_false, reduceCtorEq, sSeqX, sDropX, xCall, lft, nx, lo, iSeq, lv, r1, List.length_map, List.length_range, hb, c1]
  · unfold m_levels b_levels
    simp -implicitDefEqProofs only [eVar_ap, dVar_ap, eC_ap, dOf_ap, eFrz_ap, eBin_ap, bTest_ap, bTru_ap, bAnd_ap, bOr_ap, bNot_ap, eIf_ap, eB_ap, eAnd_ap, eOr_ap, aNil_ap, aCons_ap, sNil_ap, sCons_ap, eTup_ap, eLst_ap, eCall_ap, eApp_ap, oNone_ap, oSome_ap, eSl_ap, sNil'_ap, sSeq_ap, sBrk_ap, sRet_ap, sRetN_ap, sRetO_ap, sDrop_ap, sIf_ap, sSet_ap, sApp_ap, sTown_ap, sExt_ap, sIns_ap, sSetIx_ap, sAsg_ap, sPar_ap, iOf_ap, iVal_ap, iRng1_ap, iRng2_ap, sFor_ap, eComp_ap, bYes_ap, frzAt_ap, eUn_ap, eNotD_ap, eOrD_ap, eChain_ap, eListRg1_ap, eIsa_ap, eMt_ap, iEnumV_ap, iEnumF_ap, iZipV_ap, iZipF_ap, eTLen_ap, iRng3D_ap, sEnd_ap, eSs_ap, sPar3_ap, xPop_ap, xTup1_ap, xCat_ap, sSetX_ap, sAppX_ap, sParO_ap, sForEI_ap, sForK_ap, eRep_ap, eDicK_ap, eDicT_ap, sPut_ap, eAlt_ap, sTry_ap, eGetD_ap, eLockI_ap, iKeyF_ap, runB_ap, gOne_ap, gMany_ap, dI_ap, yesC_ap, dCmp_int, setD, kill_nx, kill_rt, kill_bk, Option.bind_some, Option.map_some, Option.bind_none, Option.map_none, List.getElem?_cons_zero, List.getElem?_cons_succ, List.set_cons_zero, List.set_cons_succ, List.cons_append, List.nil_append, List.append_nil, List.replicate, List.length_cons, List.length_nil, Nat.reduceAdd, Nat.reduceSub, Nat.zero_add, wdat_no, wdat_d, wdat_town, wdat_ol, wdat_od, wfrz_no, wfrz_d, wfrz_town, wfrz_ol, wfrz_od, wval_no, wval_d, wval_town, wval_ol, wval_od, warg_no, warg_d, warg_town, warg_ol, warg_od, vals, gLen, gAbs, gMax2, gMin2, gInt, gTup, gList, wipeW, if_true, if_false, Bool.false_eq_true, Bool.not_true, Bool.not_false, reduceCtorEq, nm, lo, iSeq, lv, r1, List.length_map, List.length_range, hb, c1]
theorem deeds_no {P : List NN} (hP : Pr P) (hs : P.Pairwise nlt) {m : Nat} (hm : ∀ p ∈ P, p.1 < m) (e : allR P m ≠ []) (n : Nat) :
    x_orders [.d (prsN P), .d (.int (m : Int))] n = some (.inr (0, n)) ∧ x_least_order [.d (prsN P), .d (.int (m : Int))] n = some (.inr (0, n)) ∧ x_bare [.d (prsN P)] n = some (.inr (0, n)) ∧ x_levels [.d (prsN P), .d (.int (m : Int))] n = some (.inr (0, n)) := by
  have nx := need_no hP hs hm e n
  refine ⟨?_, ?_, ?_, ?_⟩
  · unfold x_orders runX bx_orders
    simp -implicitDefEqProofs only [eVar_ap, dVar_ap, eC_ap, dOf_ap, eFrz_ap, eBin_ap, bTest_ap, bTru_ap, bAnd_ap, bOr_ap, bNot_ap, eIf_ap, eB_ap, eAnd_ap, eOr_ap, aNil_ap, aCons_ap, sNil_ap, sCons_ap, eTup_ap, eLst_ap, eCall_ap, eApp_ap, oNone_ap, oSome_ap, eSl_ap, sNil'_ap, sSeq_ap, sBrk_ap, sRet_ap, sRetN_ap, sRetO_ap, sDrop_ap, sIf_ap, sSet_ap, sApp_ap, sTown_ap, sExt_ap, sIns_ap, sSetIx_ap, sAsg_ap, sPar_ap, iOf_ap, iVal_ap, iRng1_ap, iRng2_ap, sFor_ap, eComp_ap, bYes_ap, frzAt_ap, eUn_ap, eNotD_ap, eOrD_ap, eChain_ap, eListRg1_ap, eIsa_ap, eMt_ap, iEnumV_ap, iEnumF_ap, iZipV_ap, iZipF_ap, eTLen_ap, iRng3D_ap, sEnd_ap, eSs_ap, sPar3_ap, xPop_ap, xTup1_ap, xCat_ap, sSetX_ap, sAppX_ap, sParO_ap, sForEI_ap, sForK_ap, eRep_ap, eDicK_ap, eDicT_ap, sPut_ap, eAlt_ap, sTry_ap, eGetD_ap, eLockI_ap, iKeyF_ap, runB_ap, gOne_ap, gMany_ap, dI_ap, yesC_ap, dCmp_int, setD, kill_nx, kill_rt, kill_bk, Option.bind_some, Option.map_some, Option.bind_none, Option.map_none, List.getElem?_cons_zero, List.getElem?_cons_succ, List.set_cons_zero, List.set_cons_succ, List.cons_append, List.nil_append, List.append_nil, List.replicate, List.length_cons, List.length_nil, Nat.reduceAdd, Nat.reduceSub, Nat.zero_add, wdat_no, wdat_d, wdat_town, wdat_ol, wdat_od, wfrz_no, wfrz_d, wfrz_town, wfrz_ol, wfrz_od, wval_no, wval_d, wval_town, wval_ol, wval_od, warg_no, warg_d, warg_town, warg_ol, warg_od, vals, gLen, gAbs, gMax2, gMin2, gInt, gTup, gList, wipeW, if_true, if_false, Bool.false_eq_true, Bool.not_true, Bool.not_false, reduceCtorEq, sSeqX, sDropX, xCall, lft, nx]
  · unfold x_least_order runX bx_least_order
    simp -implicitDefEqProofs only [eVar_ap, dVar_ap, eC_ap, dOf_ap, eFrz_ap, eBin_ap, bTest_ap, bTru_ap, bAnd_ap, bOr_ap, bNot_ap, eIf_ap, eB_ap, eAnd_ap, eOr_ap, aNil_ap, aCons_ap, sNil_ap, sCons_ap, eTup_ap, eLst_ap, eCall_ap, eApp_ap, oNone_ap, oSome_ap, eSl_ap, sNil'_ap, sSeq_ap, sBrk_ap, sRet_ap, sRetN_ap, sRetO_ap, sDrop_ap, sIf_ap, sSet_ap, sApp_ap, sTown_ap, sExt_ap, sIns_ap, sSetIx_ap, sAsg_ap, sPar_ap, iOf_ap, iVal_ap, iRng1_ap, iRng2_ap, sFor_ap, eComp_ap, bYes_ap, frzAt_ap, eUn_ap, eNotD_ap, eOrD_ap, eChain_ap, eListRg1_ap, eIsa_ap, eMt_ap, iEnumV_ap, iEnumF_ap, iZipV_ap, iZipF_ap, eTLen_ap, iRng3D_ap, sEnd_ap, eSs_ap, sPar3_ap, xPop_ap, xTup1_ap, xCat_ap, sSetX_ap, sAppX_ap, sParO_ap, sForEI_ap, sForK_ap, eRep_ap, eDicK_ap, eDicT_ap, sPut_ap, eAlt_ap, sTry_ap, eGetD_ap, eLockI_ap, iKeyF_ap, runB_ap, gOne_ap, gMany_ap, dI_ap, yesC_ap, dCmp_int, setD, kill_nx, kill_rt, kill_bk, Option.bind_some, Option.map_some, Option.bind_none, Option.map_none, List.getElem?_cons_zero, List.getElem?_cons_succ, List.set_cons_zero, List.set_cons_succ, List.cons_append, List.nil_append, List.append_nil, List.replicate, List.length_cons, List.length_nil, Nat.reduceAdd, Nat.reduceSub, Nat.zero_add, wdat_no, wdat_d, wdat_town, wdat_ol, wdat_od, wfrz_no, wfrz_d, wfrz_town, wfrz_ol, wfrz_od, wval_no, wval_d, wval_town, wval_ol, wval_od, warg_no, warg_d, warg_town, warg_ol, warg_od, vals, gLen, gAbs, gMax2, gMin2, gInt, gTup, gList, wipeW, if_true, if_false, Bool.false_eq_true, Bool.not_true, Bool.not_false, reduceCtorEq, sSeqX, sDropX, xCall, lft, nx]
  · unfold x_bare runX bx_bare
    simp -implicitDefEqProofs only [eVar_ap, dVar_ap, eC_ap, dOf_ap, eFrz_ap, eBin_ap, bTest_ap, bTru_ap, bAnd_ap, bOr_ap, bNot_ap, eIf_ap, eB_ap, eAnd_ap, eOr_ap, aNil_ap, aCons_ap, sNil_ap, sCons_ap, eTup_ap, eLst_ap, eCall_ap, eApp_ap, oNone_ap, oSome_ap, eSl_ap, sNil'_ap, sSeq_ap, sBrk_ap, sRet_ap, sRetN_ap, sRetO_ap, sDrop_ap, sIf_ap, sSet_ap, sApp_ap, sTown_ap, sExt_ap, sIns_ap, sSetIx_ap, sAsg_ap, sPar_ap, iOf_ap, iVal_ap, iRng1_ap, iRng2_ap, sFor_ap, eComp_ap, bYes_ap, frzAt_ap, eUn_ap, eNotD_ap, eOrD_ap, eChain_ap, eListRg1_ap, eIsa_ap, eMt_ap, iEnumV_ap, iEnumF_ap, iZipV_ap, iZipF_ap, eTLen_ap, iRng3D_ap, sEnd_ap, eSs_ap, sPar3_ap, xPop_ap, xTup1_ap, xCat_ap, sSetX_ap, sAppX_ap, sParO_ap, sForEI_ap, sForK_ap, eRep_ap, eDicK_ap, eDicT_ap, sPut_ap, eAlt_ap, sTry_ap, eGetD_ap, eLockI_ap, iKeyF_ap, runB_ap, gOne_ap, gMany_ap, dI_ap, yesC_ap, dCmp_int, setD, kill_nx, kill_rt, kill_bk, Option.bind_some, Option.map_some, Option.bind_none, Option.map_none, List.getElem?_cons_zero, List.getElem?_cons_succ, List.set_cons_zero, List.set_cons_succ, List.cons_append, List.nil_append, List.append_nil, List.replicate, List.length_cons, List.length_nil, Nat.reduceAdd, Nat.reduceSub, Nat.zero_add, wdat_no, wdat_d, wdat_town, wdat_ol, wdat_od, wfrz_no, wfrz_d, wfrz_town, wfrz_ol, wfrz_od, wval_no, wval_d, wval_town, wval_ol, wval_od, warg_no, warg_d, warg_town, warg_ol, warg_od, vals, gLen, gAbs, gMax2, gMin2, gInt, gTup, gList, wipeW, if_true, if_false, Bool.false_eq_true, Bool.not_true, Bool.not_false, reduceCtorEq, sSeqX, sDropX, xCall, lft, nx]
  · unfold x_levels runX bx_levels
    simp -implicitDefEqProofs only [eVar_ap, dVar_ap, eC_ap, dOf_ap, eFrz_ap, eBin_ap, bTest_ap, bTru_ap, bAnd_ap, bOr_ap, bNot_ap, eIf_ap, eB_ap, eAnd_ap, eOr_ap, aNil_ap, aCons_ap, sNil_ap, sCons_ap, eTup_ap, eLst_ap, eCall_ap, eApp_ap, oNone_ap, oSome_ap, eSl_ap, sNil'_ap, sSeq_ap, sBrk_ap, sRet_ap, sRetN_ap, sRetO_ap, sDrop_ap, sIf_ap, sSet_ap, sApp_ap, sTown_ap, sExt_ap, sIns_ap, sSetIx_ap, sAsg_ap, sPar_ap, iOf_ap, iVal_ap, iRng1_ap, iRng2_ap, sFor_ap, eComp_ap, bYes_ap, frzAt_ap, eUn_ap, eNotD_ap, eOrD_ap, eChain_ap, eListRg1_ap, eIsa_ap, eMt_ap, iEnumV_ap, iEnumF_ap, iZipV_ap, iZipF_ap, eTLen_ap, iRng3D_ap, sEnd_ap, eSs_ap, sPar3_ap, xPop_ap, xTup1_ap, xCat_ap, sSetX_ap, sAppX_ap, sParO_ap, sForEI_ap, sForK_ap, eRep_ap, eDicK_ap, eDicT_ap, sPut_ap, eAlt_ap, sTry_ap, eGetD_ap, eLockI_ap, iKeyF_ap, runB_ap, gOne_ap, gMany_ap, dI_ap, yesC_ap, dCmp_int, setD, kill_nx, kill_rt, kill_bk, Option.bind_some, Option.map_some, Option.bind_none, Option.map_none, List.getElem?_cons_zero, List.getElem?_cons_succ, List.set_cons_zero, List.set_cons_succ, List.cons_append, List.nil_append, List.append_nil, List.replicate, List.length_cons, List.length_nil, Nat.reduceAdd, Nat.reduceSub, Nat.zero_add, wdat_no, wdat_d, wdat_town, wdat_ol, wdat_od, wfrz_no, wfrz_d, wfrz_town, wfrz_ol, wfrz_od, wval_no, wval_d, wval_town, wval_ol, wval_od, warg_no, warg_d, warg_town, warg_ol, warg_od, vals, gLen, gAbs, gMax2, gMin2, gInt, gTup, gList, wipeW, if_true, if_false, Bool.false_eq_true, Bool.not_true, Bool.not_false, reduceCtorEq, sSeqX, sDropX, xCall, lft, nx]
end L2.Lv.Sh
set_option maxHeartbeats 1000000
namespace L2.Lv.Sh
open PySem PySem.Spec PyProof.Rows L2 L2.Lv
/-! the first of all orders -/
theorem ord_head {P : List NN} (S : Rk P) : ∀ (k k' : Nat) (L : List Nat), L.length < k → L.length < k' → L.Nodup → (ordF P k L).head? = some (lstF P k' L)
  | 0, _, _, h, _, _ => by omega
  | _, 0, _, _, h, _ => by omega
  | k + 1, k' + 1, L, h, h', hn => by
    by_cases e : L = []
    · subst e
      rfl
    · have key : ∀ (M : List Nat), (∀ x ∈ M, x ∈ L) → (M.findSome? fun x => (if prdN P L x then [] else (ordF P k (L.filter fun y => !(y == x))).map (x :: ·)).head?) = (M.find? fun x => !prdN P L x).map fun x => x :: lstF P k' (L.filter fun y => !(y == x)) := by
        intro M
        induction M with
        | nil => intro _; rfl
        | cons x M ih =>
          intro hM
          have ih := ih fun y hy => hM y (List.mem_cons_of_mem _ hy)
          rw [List.findSome?_cons, List.find?_cons]
          cases c : prdN P L x with
          | true => exact ih
          | false =>
            have fl := filter_lt (hM x (by simp))
            have := ord_head S k k' (L.filter fun y => !(y == x)) (by omega) (by omega) (hn.sublist List.filter_sublist)
            simp only [Bool.false_eq_true, if_false, List.head?_map, this, Option.map_some, Bool.not_false]
      unfold ordF lstF
      rw [if_neg e, List.head?_flatMap, key L fun x h => h]
      cases q : L.find? fun x => !prdN P L x with
      | some x => rfl
      | none =>
        obtain ⟨x, hx, hp⟩ := min_exA S e
        have := List.find?_eq_none.mp q x hx
        simp [hp] at this
/-! orders by hand -/
/-! heights by hand -/
/-! bare pairs -/
theorem brB_iff {T : List NN} {a b : Nat} : brB T (a, b) = true ↔ ∀ y, (a, y) ∈ T → (y, b) ∉ T := by
  unfold brB
  rw [Bool.not_eq_true', List.any_eq_false]
  constructor
  · intro h y h1 h2
    exact h y (behN_mem.mpr h1) (by simpa using h2)
  · intro h y hy c
    exact h y (behN_mem.mp hy) (by simpa using c)
theorem brL_sub {P : List NN} {p : NN} (h : p ∈ brL P) : p ∈ tcL P := (List.mem_filter.mp h).1
theorem brL_pr {P : List NN} (h : Pr P) : Pr (brL P) := ⟨fun p hp => (tcL_pr h).lt p (brL_sub hp), (tcL_pr h).nd.sublist List.filter_sublist⟩
theorem brL_tc {P : List NN} (h : Pr P) (hn : ∀ a, ¬ TC P a a) {a b : Nat} : TC (brL P) a b ↔ (a, b) ∈ tcL P := by
  have S := tcL_so h hn
  constructor
  · intro t
    induction t with
    | base q => exact brL_sub q
    | step _ q ih => exact S.tr _ _ _ ih (brL_sub q)
  · have key : ∀ (d a b : Nat), cnt (tcL P) b - cnt (tcL P) a < d → (a, b) ∈ tcL P → TC (brL P) a b := by
      intro d
      induction d with
      | zero => intro a b hd; omega
      | succ d ih =>
        intro a b hd hab
        by_cases c : brB (tcL P) (a, b) = true
        · exact .base (List.mem_filter.mpr ⟨hab, c⟩)
        · rw [brB_iff] at c
          obtain ⟨y, hy⟩ := Classical.not_forall.mp c
          obtain ⟨h1, h2⟩ := Classical.not_imp.mp hy
          have h2 := Classical.not_not.mp h2
          have l1 := cnt_lt S h1
          have l2 := cnt_lt S h2
          exact (ih a y (by omega) h1).trans (ih y b (by omega) h2)
    exact key _ a b (Nat.lt_succ_self _)
theorem brL_closed {P : List NN} (h : Pr P) (hn : ∀ a, ¬ TC P a a) : tcL (brL P) = tcL P := by
  have e := tcL_eq (P := brL P) (A := tcL P) (brL_pr h) (tcL_pr h).nd fun a b => (brL_tc h hn).symm
  rw [← e]
  exact srtP_of (List.Perm.refl _) tcL_pw
theorem brL_need {P : List NN} (h : Pr P) (hn : ∀ a, ¬ TC P a a) {a b : Nat} (hab : (a, b) ∈ brL P) : ¬ TC ((brL P).filter fun q => !(q == (a, b))) a b := by
  intro t
  have up : ∀ {x y : Nat}, TC ((brL P).filter fun q => !(q == (a, b))) x y → (x, y) ∈ tcL P := fun q => (brL_tc h hn).mp (q.mono fun p hp => (List.mem_filter.mp hp).1)
  have bb := brB_iff.mp (List.mem_filter.mp hab).2
  cases t with
  | base q =>
    have := (List.mem_filter.mp q).2
    simp at this
  | step q1 q2 => exact bb _ (up q1) (brL_sub (List.mem_filter.mp q2).1)
/-! a free pair stands either way -/
theorem idx_int : ∀ (w : List Nat) (a : Nat), (w.map fun k : Nat => (k : Int)).idxOf (a : Int) = w.idxOf a
  | [], _ => rfl
  | x :: w, a => by
    rw [List.map_cons, List.idxOf_cons, List.idxOf_cons, idx_int w a]
    congr 1
    rw [Bool.eq_iff_iff, beq_iff_eq, beq_iff_eq]
    omega
theorem free_way {P : List NN} {m : Nat} (A : Ac P m) {a b : Nat} (ha : a < m) (hb : b < m) (ne : a ≠ b) (h : (b, a) ∉ tcL P) : ∃ w ∈ ordF P 10 (List.range m), w.idxOf a < w.idxOf b := by
  have S := tcL_so A.pr A.no
  have six := A.six
  obtain ⟨g1, g2⟩ := lstF_extA (rkOf A.pr A.no) 10 (List.range m) (by rw [List.length_range]; omega) (range_nodup m)
  generalize lstF P 10 (List.range m) = w0 at g1 g2
  let U : Nat → Bool := fun x => x == b || decide ((b, x) ∈ tcL P)
  have hU : ∀ x, U x = true ↔ x = b ∨ (b, x) ∈ tcL P := fun x => by simp [U]
  have up : ∀ x y, U x = true → (x, y) ∈ P → U y = true := fun x y hx hxy => by
    rw [hU] at hx ⊢
    have q := tcl_in A.pr hxy
    rcases hx with rfl | hx
    · exact .inr q
    · exact .inr (S.tr _ _ _ hx q)
  have aU : U a = false := by
    rw [Bool.eq_false_iff]
    intro c
    rcases (hU a).mp c with c | c
    · exact ne c
    · exact h c
  have bU : U b = true := (hU b).mpr (.inl rfl)
  have pm : (w0.filter (fun x => !U x) ++ w0.filter U).Perm w0 := by
    have := List.filter_append_perm (fun x => !U x) w0
    simp only [Bool.not_not] at this
    exact this
  refine ⟨w0.filter (fun x => !U x) ++ w0.filter U, ordF_has (rkOf A.pr A.no).irr 10 _ _ (by rw [List.length_range]; omega) (range_nodup m) (pm.trans g1) ?_, ?_⟩
  · rw [List.pairwise_append]
    refine ⟨g2.sublist List.filter_sublist, g2.sublist List.filter_sublist, fun x hx y hy c => ?_⟩
    have h1 := (List.mem_filter.mp hx).2
    have h2 := up y x (List.mem_filter.mp hy).2 c
    rw [h2] at h1
    cases h1
  · have ma : a ∈ w0.filter fun x => !U x := List.mem_filter.mpr ⟨g1.mem_iff.mpr (List.mem_range.mpr ha), by rw [aU]; rfl⟩
    have mb : b ∉ w0.filter fun x => !U x := fun q => by
      have := (List.mem_filter.mp q).2
      rw [bU] at this
      cases this
    rw [List.idxOf_append, List.idxOf_append, if_pos ma, if_neg mb]
    have := List.idxOf_lt_length_of_mem ma
    omega
end L2.Lv.Sh
set_option maxHeartbeats 1000000
namespace L2.Lv.Sh
open PySem PySem.Spec PyProof.Rows L2 L2.Lv
/-! tuples put in order, each once -/
/-! dicts by tuples of ints -/
theorem key_ti (a b : List Int) : (intsOf (a.map .int) = some b) ↔ a = b := by rw [intsOf_map]; simp
/-! the form of a row -/
/-! all things, by hand -/
/-! the form, by hand -/
theorem srtOk_tI (ks : List (List Int)) (h : ∀ k ∈ ks, k ≠ []) : srtOk (ks.map tI) = true := by
  unfold srtOk
  simp only [Bool.and_eq_true, List.all_eq_true, Bool.or_eq_true]
  refine ⟨⟨fun x hx y hy => ?_, .inl fun x hx => ?_⟩, fun x hx => ?_⟩
  · obtain ⟨a, _, rfl⟩ := List.mem_map.mp hx
    obtain ⟨b, _, rfl⟩ := List.mem_map.mp hy
    show PySem.W.alikeAll _ _ = true
    exact alike_tI a b
  · obtain ⟨a, ha, rfl⟩ := List.mem_map.mp hx
    cases a with
    | nil => exact absurd rfl (h [] ha)
    | cons _ _ => rfl
  · obtain ⟨a, _, rfl⟩ := List.mem_map.mp hx
    exact decide_eq_true (depth_tI a)
/-! alike -/
end L2.Lv.Sh
set_option maxHeartbeats 1000000
namespace L2.Lv.Sh
open PySem PySem.Spec PyProof.Rows L2 L2.Lv
/-! rising places -/
/-! all choices, by hand -/
end L2.Lv.Sh
set_option maxHeartbeats 1000000
namespace L2.Lv.Sh
open PySem PySem.Spec PyProof.Rows L2 L2.Lv
/-! keys chosen, keys left out -/
/-! short rows -/
/-! the fewest keys -/
/-! rows drawn, keys near one another -/
end L2.Lv.Sh
set_option maxHeartbeats 1000000
namespace L2.Lv.Sh
open PySem PySem.Spec PyProof.Rows L2 L2.Lv
/-! forms and words -/
/-! how many pairs -/
/-! counts by a dict -/
end L2.Lv.Sh
set_option maxHeartbeats 1000000
namespace L2.Lv.Sh
open PySem PySem.Spec PyProof.Rows L2 L2.Lv
/-! the dict of counts -/
end L2.Lv.Sh
set_option maxHeartbeats 1000000
namespace L2.Lv.Sh
open PySem PySem.Spec PyProof.Rows L2 L2.Lv
/-! pairs that a key decides -/
/-! keys that are silent, or needless -/
/-! the same, pair by pair -/
end L2.Lv.Sh
set_option maxHeartbeats 1000000
namespace L2.Lv.Sh
open PySem PySem.Spec PyProof.Rows L2 L2.Lv
/-! what is short has no needless key -/
end L2.Lv.Sh
set_option maxHeartbeats 1000000
namespace L2.Lv.Sh
open PySem PySem.Spec PyProof.Rows L2 L2.Lv
/-! keys said again -/
/-! a silent key is needless -/
/-! the fewest -/
/-! choices, first by first -/
/-! tuples of places -/
end L2.Lv.Sh
set_option maxHeartbeats 1000000
namespace L2.Lv.Sh
open PySem PySem.Spec PyProof.Rows L2 L2.Lv
/-! pairs drawn, rising mostly -/
theorem draw2_nat (ns : List Int) (n : Nat) (hn : n < big) (k : Nat) (hk : 0 < k) : ∃ r : Nat, r < k ∧ m__law_draw_v2 [Sc ns, .town, .d (.int (k : Int))] n = some (.d (.int (r : Int)), n + 1) := by
  obtain ⟨r, h0, h1, e⟩ := draw2_ok ns n hn (k : Int) (by omega)
  refine ⟨r.toNat, by omega, ?_⟩
  have : ((r.toNat : Nat) : Int) = r := by omega
  rw [this]; exact e
def Eq (ns : List Int) (m : Nat) (got : List NN) : List W := [Sc ns, .town, .d (.int (m : Int)), .od (markT :: encZ got), .no, .no, .no, .no]
theorem got2_loop (ns : List Int) (m : Nat) (hm : 0 < m) : ∀ (xs : List PyData) (P : List NN) (n : Nat), Gp m P → P.length + xs.length ≤ 8 → n + 3 * xs.length ≤ big →
    ∃ P' n', loopF (gOne 4) l__law_pairs_v2_1 xs (Eq ns m P) n = some (.nx (Eq ns m P') n') ∧ Gp m P' ∧ P'.length ≤ 8 ∧ n ≤ n' ∧ n' ≤ n + 3 * xs.length
  | [], P, n, hP, hl, _ => ⟨P, n, rfl, hP, by simpa using hl, Nat.le_refl _, by simp⟩
  | x :: xs, P, n, hP, hl, hn => by
    rw [List.length_cons] at hl hn
    obtain ⟨a, ha, e1⟩ := draw2_nat ns n (by omega) m hm
    obtain ⟨b, hb, e2⟩ := draw2_nat ns (n + 1) (by omega) m hm
    have q1 := neI a b
    rw [loopF_cons]
    unfold l__law_pairs_v2_1
    by_cases ne : a = b
    · rw [beq_iff_eq.mpr ne] at q1
      obtain ⟨P', n', h1, h2, h3, h4, h5⟩ := got2_loop ns m hm xs P (n + 2) hP (by omega) (by omega)
      refine ⟨P', n', ?_, h2, h3, by omega, by rw [List.length_cons]; omega⟩
      unfold Eq at h1 ⊢
      simp -implicitDefEqProofs only [eVar_ap, dVar_ap, eC_ap, dOf_ap, eFrz_ap, eBin_ap, bTest_ap, bTru_ap, bAnd_ap, bOr_ap, bNot_ap, eIf_ap, eB_ap, eAnd_ap, eOr_ap, aNil_ap, aCons_ap, sNil_ap, sCons_ap, eTup_ap, eLst_ap, eCall_ap, eApp_ap, oNone_ap, oSome_ap, eSl_ap, sNil'_ap, sSeq_ap, sBrk_ap, sRet_ap, sRetN_ap, sRetO_ap, sDrop_ap, sIf_ap, sSet_ap, sApp_ap, sTown_ap, sExt_ap, sIns_ap, sSetIx_ap, sAsg_ap, sPar_ap, iOf_ap, iVal_ap, iRng1_ap, iRng2_ap, sFor_ap, eComp_ap, bYes_ap, frzAt_ap, eUn_ap, eNotD_ap, eOrD_ap, eChain_ap, eListRg1_ap, eIsa_ap, eMt_ap, iEnumV_ap, iEnumF_ap, iZipV_ap, iZipF_ap, eTLen_ap, iRng3D_ap, sEnd_ap, eSs_ap, sPar3_ap, xPop_ap, xTup1_ap, xCat_ap, sSetX_ap, sAppX_ap, sParO_ap, sForEI_ap, sForK_ap, eRep_ap, eDicK_ap, eDicT_ap, sPut_ap, eAlt_ap, sTry_ap, eGetD_ap, eLockI_ap, iKeyF_ap, runB_ap, gOne_ap, gMany_ap, dI_ap, yesC_ap, dCmp_int, setD, kill_nx, kill_rt, kill_bk, Option.bind_some, Option.map_some, Option.bind_none, Option.map_none, List.getElem?_cons_zero, List.getElem?_cons_succ, List.set_cons_zero, List.set_cons_succ, List.cons_append, List.nil_append, List.append_nil, List.replicate, List.length_cons, List.length_nil, Nat.reduceAdd, Nat.reduceSub, Nat.zero_add, wdat_no, wdat_d, wdat_town, wdat_ol, wdat_od, wfrz_no, wfrz_d, wfrz_town, wfrz_ol, wfrz_od, wval_no, wval_d, wval_town, wval_ol, wval_od, warg_no, warg_d, warg_town, warg_ol, warg_od, vals, gLen, gAbs, gMax2, gMin2, gInt, gTup, gList, wipeW, if_true, if_false, Bool.false_eq_true, Bool.not_true, Bool.not_false, reduceCtorEq, e1, e2, q1, Bool.not_true]
      exact h1
    · rw [beq_eq_false_iff_ne.mpr ne] at q1
      obtain ⟨z, hz, e3⟩ := draw2_nat ns (n + 2) (by omega) 8 (by decide)
      have key : ∀ c d : Nat, c < m → d < m → c ≠ d → ∃ P' n', loopF (gOne 4) l__law_pairs_v2_1 xs (Eq ns m (addP P (c, d))) (n + 3) = some (.nx (Eq ns m P') n') ∧ Gp m P' ∧ P'.length ≤ 8 ∧ n + 3 ≤ n' ∧ n' ≤ n + 3 + 3 * xs.length := fun c d hc hd hne =>
        got2_loop ns m hm xs (addP P (c, d)) (n + 3) (hP.add ⟨hc, hd⟩ hne) (by have := (addP_len P (c, d)).2; omega) (by omega)
      have pg : ∀ c d : Nat, putD (markT :: encZ P) (.tuple [.int (c : Int), .int (d : Int)]) (.int 0) = some (markT :: encZ (addP P (c, d))) := fun c d => putD_encZ P (c, d) (by unfold big; omega)
      have mi : (if (b : Int) < (a : Int) then (b : Int) else (a : Int)) = ((min a b : Nat) : Int) := by split <;> omega
      have ma : (if (b : Int) > (a : Int) then (b : Int) else (a : Int)) = ((max a b : Nat) : Int) := by split <;> omega
      have e3 : m__law_draw_v2 [Sc ns, .town, .d (.int 8)] (n + 1 + 1) = some (.d (.int (z : Int)), n + 1 + 1 + 1) := e3
      by_cases c : z = 0
      · subst c
        have t0 : dTru (.int ((0 : Nat) : Int)) = some false := rfl
        obtain ⟨P', n', h1, h2, h3, h4, h5⟩ := key (max a b) (min a b) (by omega) (by omega) (by omega)
        have p1 := pg (max a b) (min a b)
        refine ⟨P', n', ?_, h2, h3, by omega, by rw [List.length_cons]; omega⟩
        unfold Eq at h1 ⊢
        simp -implicitDefEqProofs only [eVar_ap, dVar_ap, eC_ap, dOf_ap, eFrz_ap, eBin_ap, bTest_ap, bTru_ap, bAnd_ap, bOr_ap, bNot_ap, eIf_ap, eB_ap, eAnd_ap, eOr_ap, aNil_ap, aCons_ap, sNil_ap, sCons_ap, eTup_ap, eLst_ap, eCall_ap, eApp_ap, oNone_ap, oSome_ap, eSl_ap, sNil'_ap, sSeq_ap, sBrk_ap, sRet_ap, sRetN_ap, sRetO_ap, sDrop_ap, sIf_ap, sSet_ap, sApp_ap, sTown_ap, sExt_ap, sIns_ap, sSetIx_ap, sAsg_ap, sPar_ap, iOf_ap, iVal_ap, iRng1_ap, iRng2_ap, sFor_ap, eComp_ap, bYes_ap, frzAt_ap, eUn_ap, eNotD_ap, eOrD_ap, eChain_ap, eListRg1_ap, eIsa_ap, eMt_ap, iEnumV_ap, iEnumF_ap, iZipV_ap, iZipF_ap, eTLen_ap, iRng3D_ap, sEnd_ap, eSs_ap, sPar3_ap, xPop_ap, xTup1_ap, xCat_ap, sSetX_ap, sAppX_ap, sParO_ap, sForEI_ap, sForK_ap, eRep_ap, eDicK_ap, eDicT_ap, sPut_ap, eAlt_ap, sTry_ap, eGetD_ap, eLockI_ap, iKeyF_ap, runB_ap, gOne_ap, gMany_ap, dI_ap, yesC_ap, dCmp_int, setD, kill_nx, kill_rt, kill_bk, Option.bind_some, Option.map_some, Option.bind_none, Option.map_none, List.getElem?_cons_zero, List.getElem?_cons_succ, List.set_cons_zero, List.set_cons_succ, List.cons_append, List.nil_append, List.append_nil, List.replicate, List.length_cons, List.length_nil, Nat.reduceAdd, Nat.reduceSub, Nat.zero_add, wdat_no, wdat_d, wdat_town, wdat_ol, wdat_od, wfrz_no, wfrz_d, wfrz_town, wfrz_ol, wfrz_od, wval_no, wval_d, wval_town, wval_ol, wval_od, warg_no, warg_d, warg_town, warg_ol, warg_od, vals, gLen, gAbs, gMax2, gMin2, gInt, gTup, gList, wipeW, if_true, if_false, Bool.false_eq_true, Bool.not_true, Bool.not_false, reduceCtorEq, e1, e2, q1, Bool.not_false, gMin2, gMax2, mi, ma, e3, t0, p1]
        exact h1
      · have t0 : dTru (.int (z : Int)) = some true := by simp [dTru, c]
        obtain ⟨P', n', h1, h2, h3, h4, h5⟩ := key (min a b) (max a b) (by omega) (by omega) (by omega)
        have p1 := pg (min a b) (max a b)
        refine ⟨P', n', ?_, h2, h3, by omega, by rw [List.length_cons]; omega⟩
        unfold Eq at h1 ⊢
        simp -implicitDefEqProofs only [eVar_ap, dVar_ap, eC_ap, dOf_ap, eFrz_ap, eBin_ap, bTest_ap, bTru_ap, bAnd_ap, bOr_ap, bNot_ap, eIf_ap, eB_ap, eAnd_ap, eOr_ap, aNil_ap, aCons_ap, sNil_ap, sCons_ap, eTup_ap, eLst_ap, eCall_ap, eApp_ap, oNone_ap, oSome_ap, eSl_ap, sNil'_ap, sSeq_ap, sBrk_ap, sRet_ap, sRetN_ap, sRetO_ap, sDrop_ap, sIf_ap, sSet_ap, sApp_ap, sTown_ap, sExt_ap, sIns_ap, sSetIx_ap, sAsg_ap, sPar_ap, iOf_ap, iVal_ap, iRng1_ap, iRng2_ap, sFor_ap, eComp_ap, bYes_ap, frzAt_ap, eUn_ap, eNotD_ap, eOrD_ap, eChain_ap, eListRg1_ap, eIsa_ap, eMt_ap, iEnumV_ap, iEnumF_ap, iZipV_ap, iZipF_ap, eTLen_ap, iRng3D_ap, sEnd_ap, eSs_ap, sPar3_ap, xPop_ap, xTup1_ap, xCat_ap, sSetX_ap, sAppX_ap, sParO_ap, sForEI_ap, sForK_ap, eRep_ap, eDicK_ap, eDicT_ap, sPut_ap, eAlt_ap, sTry_ap, eGetD_ap, eLockI_ap, iKeyF_ap, runB_ap, gOne_ap, gMany_ap, dI_ap, yesC_ap, dCmp_int, setD, kill_nx, kill_rt, kill_bk, Option.bind_some, Option.map_some, Option.bind_none, Option.map_none, List.getElem?_cons_zero, List.getElem?_cons_succ, List.set_cons_zero, List.set_cons_succ, List.cons_append, List.nil_append, List.append_nil, List.replicate, List.length_cons, List.length_nil, Nat.reduceAdd, Nat.reduceSub, Nat.zero_add, wdat_no, wdat_d, wdat_town, wdat_ol, wdat_od, wfrz_no, wfrz_d, wfrz_town, wfrz_ol, wfrz_od, wval_no, wval_d, wval_town, wval_ol, wval_od, warg_no, warg_d, warg_town, warg_ol, warg_od, vals, gLen, gAbs, gMax2, gMin2, gInt, gTup, gList, wipeW, if_true, if_false, Bool.false_eq_true, Bool.not_true, Bool.not_false, reduceCtorEq, e1, e2, q1, Bool.not_false, gMin2, gMax2, mi, ma, e3, t0, p1]
        exact h1
theorem pairs2_ok (ns : List Int) (m : Nat) (hm : 0 < m) (h6 : m ≤ 6) (n : Nat) (hn : n + 30 ≤ big) : ∃ P n', Dp m P ∧ m__law_pairs_v2 [Sc ns, .town, .d (.int (m : Int))] n = some (.d (prsN P), n') ∧ n ≤ n' ∧ n' ≤ n + 25 := by
  obtain ⟨k, hk, e1⟩ := draw2_nat ns n (by omega) 8 (by decide)
  have e1 : m__law_draw_v2 [Sc ns, .town, .d (.int 8)] n = some (.d (.int (k : Int)), n + 1) := e1
  obtain ⟨P, n', e2, hP, hl, h1, h2⟩ := got2_loop ns m hm ((List.range k).map iN) [] (n + 1) ⟨fun _ h => (by cases h), fun _ h => (by cases h), List.nodup_nil⟩ (by simp; omega) (by simp; omega)
  have e2 : loopF (gOne 4) l__law_pairs_v2_1 ((List.range k).map iN) [Sc ns, .town, .d (.int (m : Int)), .od [markT], .no, .no, .no, .no] (n + 1) = some (.nx (Eq ns m P) n') := e2
  have rg := rng1_ok (j := (k : Int)) (by omega) (by omega)
  rw [Int.toNat_natCast, rgN] at rg
  have s := sortD_encZ P
  have pm := srtP_perm P
  simp only [List.length_map, List.length_range] at h2
  refine ⟨srtP P, n', ⟨hm, h6, by rw [pm.length_eq]; exact hl, fun p hp => hP.lt p (pm.mem_iff.mp hp), fun p hp => hP.ne p (pm.mem_iff.mp hp), ?_⟩, ?_, by omega, by omega⟩
  · have nd : (srtP P).Nodup := pm.nodup_iff.mpr hP.nd
    exact (srtP_pw P).imp₂ (fun a b x y => by
      have y : a ≠ b := y
      have : ¬ (a.1 = b.1 ∧ a.2 = b.2) := fun q => y (Prod.ext q.1 q.2)
      unfold nle at x; unfold nlt; omega) nd
  · unfold Eq at e2
    unfold m__law_pairs_v2 b__law_pairs_v2
    simp -implicitDefEqProofs only [eVar_ap, dVar_ap, eC_ap, dOf_ap, eFrz_ap, eBin_ap, bTest_ap, bTru_ap, bAnd_ap, bOr_ap, bNot_ap, eIf_ap, eB_ap, eAnd_ap, eOr_ap, aNil_ap, aCons_ap, sNil_ap, sCons_ap, eTup_ap, eLst_ap, eCall_ap, eApp_ap, oNone_ap, oSome_ap, eSl_ap, sNil'_ap, sSeq_ap, sBrk_ap, sRet_ap, sRetN_ap, sRetO_ap, sDrop_ap, sIf_ap, sSet_ap, sApp_ap, sTown_ap, sExt_ap, sIns_ap, sSetIx_ap, sAsg_ap, sPar_ap, iOf_ap, iVal_ap, iRng1_ap, iRng2_ap, sFor_ap, eComp_ap, bYes_ap, frzAt_ap, eUn_ap, eNotD_ap, eOrD_ap, eChain_ap, eListRg1_ap, eIsa_ap, eMt_ap, iEnumV_ap, iEnumF_ap, iZipV_ap, iZipF_ap, eTLen_ap, iRng3D_ap, sEnd_ap, eSs_ap, sPar3_ap, xPop_ap, xTup1_ap, xCat_ap, sSetX_ap, sAppX_ap, sParO_ap, sForEI_ap, sForK_ap, eRep_ap, eDicK_ap, eDicT_ap, sPut_ap, eAlt_ap, sTry_ap, eGetD_ap, eLockI_ap, iKeyF_ap, runB_ap, gOne_ap, gMany_ap, dI_ap, yesC_ap, dCmp_int, setD, kill_nx, kill_rt, kill_bk, Option.bind_some, Option.map_some, Option.bind_none, Option.map_none, List.getElem?_cons_zero, List.getElem?_cons_succ, List.set_cons_zero, List.set_cons_succ, List.cons_append, List.nil_append, List.append_nil, List.replicate, List.length_cons, List.length_nil, Nat.reduceAdd, Nat.reduceSub, Nat.zero_add, wdat_no, wdat_d, wdat_town, wdat_ol, wdat_od, wfrz_no, wfrz_d, wfrz_town, wfrz_ol, wfrz_od, wval_no, wval_d, wval_town, wval_ol, wval_od, warg_no, warg_d, warg_town, warg_ol, warg_od, vals, gLen, gAbs, gMax2, gMin2, gInt, gTup, gList, wipeW, if_true, if_false, Bool.false_eq_true, Bool.not_true, Bool.not_false, reduceCtorEq, e1, rg, e2, s, gTup]
/-! sorted(dict(..)) of what is sorted -/
theorem putT_new {ns : List Int} {y : PyData} : ∀ {acc : List (List Int × PyData)}, ns ∉ acc.map (·.1) → putT (acc.map fun p => (tI p.1, p.2)) ns y = (acc ++ [(ns, y)]).map fun p => (tI p.1, p.2)
  | [], _ => rfl
  | p :: acc, h => by
    rw [List.map_cons, List.mem_cons, not_or] at h
    have ih := putT_new (y := y) h.2
    rw [List.map_cons, List.cons_append, List.map_cons, ← ih]
    conv => lhs; unfold putT
    show (if intsOf (p.1.map .int) = some ns then _ else _) = _
    rw [if_neg (fun e => h.1 ((key_ti p.1 ns).mp e).symm)]
theorem foldT_new : ∀ (ps acc : List (List Int × PyData)), ((acc ++ ps).map (·.1)).Nodup → foldT ps (acc.map fun p => (tI p.1, p.2)) = (acc ++ ps).map fun p => (tI p.1, p.2)
  | [], acc, _ => by simp [foldT]
  | p :: ps, acc, h => by
    have hn : p.1 ∉ acc.map (·.1) := by
      rw [List.map_append, List.nodup_append] at h
      intro hm
      exact h.2.2 _ hm p.1 (by simp) rfl
    have ih := foldT_new ps (acc ++ [p]) (by rw [List.append_assoc]; exact h)
    rw [List.append_assoc] at ih
    unfold foldT at ih ⊢
    rw [List.foldl_cons, putT_new hn]
    exact ih
theorem pairsT_tI (ks : List (List Int)) : pairsT (ks.map fun k => .tuple [tI k, .int 0]) = some (ks.map fun k => (k, PyData.int 0)) := by
  induction ks with
  | nil => rfl
  | cons k ks ih =>
    rw [List.map_cons]
    show (intsOf (k.map .int)).bind _ = _
    rw [intsOf_map, Option.bind_some, ih]
    rfl
theorem dict_same (ks : List (List Int)) (hne : ks ≠ []) (hk : ∀ k ∈ ks, k ≠ []) (hs : ks.Pairwise (· < ·)) (hl : ks.length ≤ 50000) :
    (gDictT [.list (ks.map fun k => .tuple [tI k, .int 0])] = some (.od (markT :: ks.map fun k => (tI k, PyData.int 0)))) ∧ gSortedD [.dict (markT :: ks.map fun k => (tI k, PyData.int 0))] = some (.ol (ks.map tI)) := by
  have nd : ks.Nodup := hs.imp fun {a b} q e => by subst e; exact List.lt_irrefl _ q
  constructor
  · have f := foldT_new (ks.map fun k => (k, PyData.int 0)) [] (by
      rw [List.nil_append, List.map_map]
      have : ks.map ((fun x : List Int × PyData => x.1) ∘ fun k => (k, PyData.int 0)) = ks := List.map_id ks
      rw [this]; exact nd)
    rw [List.nil_append, List.map_map] at f
    have hn : (ks.map fun k => PyData.tuple [tI k, .int 0]) ≠ [] := by simpa using hne
    simp only [gDictT]
    rw [if_neg hn, pairsT_tI, Option.bind_some, if_pos (by rw [List.length_map]; omega)]
    exact congrArg (fun z => some (W.od (markT :: z))) f
  · have k1 : (ks.map fun k => (tI k, PyData.int 0)).map (·.1) = ks.map tI := by rw [List.map_map]; rfl
    have so : sortI ks = ks := List.Perm.eq_of_pairwise (le := fun a b : List Int => ¬ b < a) (fun a b _ _ h1 h2 => List.le_antisymm (List.not_lt.mp h1) (List.not_lt.mp h2)) (sortI_pw _) (hs.imp fun q c => List.lt_irrefl _ (List.lt_trans q c)) (sortI_perm _)
    show (if (isMk markT && srtOk ((ks.map fun k => (tI k, PyData.int 0)).map (·.1))) = true then some (W.ol (srt ((ks.map fun k => (tI k, PyData.int 0)).map (·.1)))) else none) = _
    rw [k1, srtOk_tI ks hk, srt_tI, so]
    rfl
end L2.Lv.Sh
set_option maxHeartbeats 1000000
namespace L2.Lv.Sh
open PySem PySem.Spec PyProof.Rows L2 L2.Lv
/-! orders: each keeps the pairs, they rise -/
def zI (w : List Nat) : List Int := w.map fun (k : Nat) => (k : Int)
theorem wy_tI (w : List Nat) : wyD w = tI (zI w) := by
  unfold tI zI
  show PyData.tuple _ = _
  rw [List.map_map]; rfl
theorem ordF_pw {P : List NN} : ∀ (k : Nat) (L : List Nat), L.Pairwise (· < ·) → (ordF P k L).Pairwise fun a b => zI a < zI b
  | 0, _, _ => List.Pairwise.nil
  | k + 1, L, h => by
    unfold ordF
    split
    · exact List.pairwise_singleton _ _
    · rw [List.pairwise_flatMap]
      refine ⟨fun x hx => ?_, h.imp fun {x y} hxy a ha b hb => ?_⟩
      · split
        · exact List.Pairwise.nil
        · rw [List.pairwise_map]
          refine (ordF_pw k _ (h.sublist List.filter_sublist)).imp fun {a b} q => ?_
          show (x : Int) :: zI a < (x : Int) :: zI b
          rw [List.cons_lt_cons_iff]
          exact .inr ⟨rfl, q⟩
      · split at ha
        · cases ha
        · split at hb
          · cases hb
          · obtain ⟨a', _, rfl⟩ := List.mem_map.mp ha
            obtain ⟨b', _, rfl⟩ := List.mem_map.mp hb
            show (x : Int) :: zI a' < (y : Int) :: zI b'
            rw [List.cons_lt_cons_iff]
            exact .inl (by omega)
theorem ordF_is {P : List NN} : ∀ (k : Nat) (L w : List Nat), L.Nodup → w ∈ ordF P k L → w.Perm L ∧ w.Pairwise fun a b => (b, a) ∉ P
  | 0, _, _, _, h => by cases h
  | k + 1, L, w, hn, h => by
    unfold ordF at h
    split at h
    · rename_i e
      subst e
      rw [List.mem_singleton.mp h]
      exact ⟨List.Perm.nil, List.Pairwise.nil⟩
    · obtain ⟨x, hx, h⟩ := List.mem_flatMap.mp h
      split at h
      · cases h
      · rename_i np
        obtain ⟨w', h', rfl⟩ := List.mem_map.mp h
        obtain ⟨i1, i2⟩ := ordF_is k _ w' (hn.sublist List.filter_sublist) h'
        have pf : (x :: L.filter fun y => !(y == x)).Perm L := by
          refine (List.perm_ext_iff_of_nodup ?_ hn).mpr fun z => ?_
          · refine List.nodup_cons.mpr ⟨fun c => ?_, hn.sublist List.filter_sublist⟩
            have := (List.mem_filter.mp c).2
            simp at this
          · rw [List.mem_cons, List.mem_filter]
            constructor
            · rintro (rfl | h)
              · exact hx
              · exact h.1
            · intro hz
              by_cases c : z = x
              · exact .inl c
              · exact .inr ⟨hz, by simpa using c⟩
        refine ⟨(i1.cons x).trans pf, List.pairwise_cons.mpr ⟨fun y hy => ?_, i2⟩⟩
        intro c
        have hy2 : y ∈ L := (List.mem_filter.mp (i1.mem_iff.mp hy)).1
        exact np (prdN_iff.mpr ⟨y, hy2, c⟩)
theorem lin_idx {P : List NN} {w : List Nat} (h : w.Pairwise fun a b => (b, a) ∉ P) {x y : Nat} (hx : x ∈ w) (hy : y ∈ w) (hp : (x, y) ∈ P) (hne : x ≠ y) : w.idxOf x < w.idxOf y := by
  have ix := List.idxOf_lt_length_of_mem hx
  have iy := List.idxOf_lt_length_of_mem hy
  rcases Nat.lt_trichotomy (w.idxOf x) (w.idxOf y) with q | q | q
  · exact q
  · refine absurd ?_ hne
    have e1 := List.getElem_idxOf ix
    have e2 := List.getElem_idxOf iy
    rw [← e1, ← e2]
    exact getElem_congr_idx q
  · have := List.pairwise_iff_getElem.mp h _ _ iy ix q
    rw [List.getElem_idxOf, List.getElem_idxOf] at this
    exact absurd hp this
theorem lin_tc {P : List NN} {w : List Nat} (h : w.Pairwise fun a b => (b, a) ∉ P) (hin : ∀ p ∈ P, p.1 ∈ w ∧ p.2 ∈ w) (irr : ∀ a, (a, a) ∉ P) {x y : Nat} (t : TC P x y) : w.idxOf x < w.idxOf y := by
  induction t with
  | @base b q => exact lin_idx h (hin (x, b) q).1 (hin (x, b) q).2 q fun e => irr x (by rw [← e] at q; exact q)
  | @step b c _ q ih => exact Nat.lt_trans ih (lin_idx h (hin (b, c) q).1 (hin (b, c) q).2 q fun e => irr b (by rw [← e] at q; exact q))
theorem lin_sub {P Q : List NN} {w : List Nat} (hn : w.Nodup) (h : w.Pairwise fun a b => (b, a) ∉ P) (hin : ∀ p ∈ P, p.1 ∈ w ∧ p.2 ∈ w) (irr : ∀ a, (a, a) ∉ P) (s : ∀ a b, (a, b) ∈ Q → TC P a b) : w.Pairwise fun a b => (b, a) ∉ Q := by
  rw [List.pairwise_iff_getElem]
  intro i j hi hj hij c
  have := lin_tc h hin irr (s _ _ c)
  rw [hn.idxOf_getElem j hj, hn.idxOf_getElem i hi] at this
  omega
theorem Ac.br {P : List NN} {m : Nat} (A : Ac P m) : Ac (brL P) m := by
  have tlt : ∀ p ∈ tcL P, p.1 < m ∧ p.2 < m := fun p hp => by
    have key : ∀ {a b : Nat}, TC P a b → a < m ∧ b < m := fun t => by
      induction t with
      | base q => exact A.lt _ q
      | step _ q ih => exact ⟨ih.1, (A.lt _ q).2⟩
    exact key ((tcL_mem A.pr (a := p.1) (b := p.2)).mp hp)
  refine ⟨brL_pr A.pr, ?_, A.six, fun p hp => tlt p (brL_sub hp), fun a t => ?_⟩
  · have nd : (brL P).Nodup := (brL_pr A.pr).nd
    have pw : (brL P).Pairwise nle := (tcL_pw (P := P)).sublist List.filter_sublist
    exact pw.imp₂ (fun a b x y => by
      have y : a ≠ b := y
      have : ¬ (a.1 = b.1 ∧ a.2 = b.2) := fun q => y (Prod.ext q.1 q.2)
      unfold nle at x; unfold nlt; omega) nd
  · exact A.no a ((tcL_mem A.pr).mp ((brL_tc A.pr A.no).mp t))
theorem ord_br {P : List NN} {m : Nat} (A : Ac P m) : ordF (brL P) 10 (List.range m) = ordF P 10 (List.range m) := by
  have six := A.six
  have irr : ∀ a, (a, a) ∉ P := fun a q => A.no a (.base q)
  have irr2 : ∀ a, (a, a) ∉ brL P := fun a q => A.br.no a (.base q)
  have nd := range_nodup m
  have s1 : ∀ a b, (a, b) ∈ brL P → TC P a b := fun a b q => (tcL_mem A.pr).mp (brL_sub q)
  have s2 : ∀ a b, (a, b) ∈ P → TC (brL P) a b := fun a b q => (brL_tc A.pr A.no).mpr (tcl_in A.pr q)
  have asm : ∀ {a b : List Nat}, zI a < zI b → ¬ zI b < zI a := fun x y => List.lt_irrefl _ (List.lt_trans x y)
  have pw1 := ordF_pw (P := brL P) 10 (List.range m) List.pairwise_lt_range
  have pw2 := ordF_pw (P := P) 10 (List.range m) List.pairwise_lt_range
  have ndp : ∀ {L : List (List Nat)}, L.Pairwise (fun a b => zI a < zI b) → L.Nodup := fun h => h.imp fun {a b} q e => by subst e; exact List.lt_irrefl _ q
  have mem : ∀ w, w ∈ ordF (brL P) 10 (List.range m) ↔ w ∈ ordF P 10 (List.range m) := fun w => by
    have inn : ∀ {Q : List NN}, (∀ p ∈ Q, p.1 < m ∧ p.2 < m) → w.Perm (List.range m) → ∀ p ∈ Q, p.1 ∈ w ∧ p.2 ∈ w := fun hq hp p hm =>
      ⟨hp.mem_iff.mpr (List.mem_range.mpr (hq p hm).1), hp.mem_iff.mpr (List.mem_range.mpr (hq p hm).2)⟩
    constructor
    · intro h
      obtain ⟨h1, h2⟩ := ordF_is 10 _ w nd h
      exact ordF_has irr 10 w _ (by rw [List.length_range]; omega) nd h1 (lin_sub (h1.nodup_iff.mpr nd) h2 (inn A.br.lt h1) irr2 s2)
    · intro h
      obtain ⟨h1, h2⟩ := ordF_is 10 _ w nd h
      exact ordF_has irr2 10 w _ (by rw [List.length_range]; omega) nd h1 (lin_sub (h1.nodup_iff.mpr nd) h2 (inn A.lt h1) irr s1)
  exact List.Perm.eq_of_pairwise (le := fun a b => zI a < zI b) (fun a b _ _ h1 h2 => absurd h2 (asm h1)) pw1 pw2 ((List.perm_ext_iff_of_nodup (ndp pw1) (ndp pw2)).mpr mem)
/-! free ones and those that follow are all -/
def allP (m : Nat) : List NN := (List.range m).flatMap fun i => (List.range' (i + 1) (m - (i + 1))).map fun j => (i, j)
theorem allP_len : ∀ m : Fin 7, (allP m.1).length = tri m.1 ∧ (allP m.1).Nodup := by decide +kernel
theorem allP_mem {m : Nat} {p : NN} : p ∈ allP m ↔ p.1 < p.2 ∧ p.2 < m := by
  unfold allP
  rw [List.mem_flatMap]
  constructor
  · rintro ⟨i, hi, h⟩
    obtain ⟨j, hj, rfl⟩ := List.mem_map.mp h
    rw [List.mem_range'_1] at hj
    have := List.mem_range.mp hi
    exact ⟨by show i < j; omega, by show j < m; omega⟩
  · rintro ⟨h1, h2⟩
    exact ⟨p.1, List.mem_range.mpr (by omega), List.mem_map.mpr ⟨p.2, List.mem_range'_1.mpr (by omega), rfl⟩⟩
theorem free_mem {T : List NN} {m : Nat} {p : NN} : p ∈ (List.range m).flatMap (frL T m) ↔ p.1 < p.2 ∧ p.2 < m ∧ (p.1, p.2) ∉ T ∧ (p.2, p.1) ∉ T := by
  rw [List.mem_flatMap]
  unfold frL frq
  constructor
  · rintro ⟨i, hi, h⟩
    obtain ⟨j, hj, rfl⟩ := List.mem_map.mp h
    obtain ⟨h1, h2⟩ := List.mem_filter.mp hj
    rw [List.mem_range'_1] at h1
    simp only [Bool.and_eq_true, Bool.not_eq_true', decide_eq_false_iff_not] at h2
    exact ⟨by show i < j; omega, by show j < m; have := List.mem_range.mp hi; omega, h2.1, h2.2⟩
  · rintro ⟨h1, h2, h3, h4⟩
    refine ⟨p.1, List.mem_range.mpr (by omega), List.mem_map.mpr ⟨p.2, List.mem_filter.mpr ⟨List.mem_range'_1.mpr (by omega), ?_⟩, rfl⟩⟩
    simp only [Bool.and_eq_true, Bool.not_eq_true', decide_eq_false_iff_not]
    exact ⟨h3, h4⟩
theorem free_sub (T : List NN) (m : Nat) : ((List.range m).flatMap (frL T m)).Sublist (allP m) := by
  have key : ∀ L : List Nat, (L.flatMap (frL T m)).Sublist (L.flatMap fun i => (List.range' (i + 1) (m - (i + 1))).map fun j => (i, j)) := by
    intro L
    induction L with
    | nil => exact List.Sublist.refl _
    | cons i L ih =>
      rw [List.flatMap_cons, List.flatMap_cons]
      exact List.Sublist.append (List.filter_sublist.map _) ih
  exact key _
theorem count_all {P : List NN} {m : Nat} (A : Ac P m) : ((List.range m).flatMap (frL (tcL P) m)).length + (tcL P).length = tri m := by
  have six := A.six
  obtain ⟨a1, a2⟩ := allP_len ⟨m, by omega⟩
  simp only at a1 a2
  have T := tcL_pr A.pr
  have tlt : ∀ p ∈ tcL P, p.1 < m ∧ p.2 < m := fun p hp => by
    have key : ∀ {a b : Nat}, TC P a b → a < m ∧ b < m := fun t => by
      induction t with
      | base q => exact A.lt _ q
      | step _ q ih => exact ⟨ih.1, (A.lt _ q).2⟩
    exact key ((tcL_mem A.pr (a := p.1) (b := p.2)).mp hp)
  have irr : ∀ a, (a, a) ∉ tcL P := fun a q => A.no a ((tcL_mem A.pr).mp q)
  have asy : ∀ a b, (a, b) ∈ tcL P → (b, a) ∉ tcL P := fun a b q r => A.no a (((tcL_mem A.pr).mp q).trans ((tcL_mem A.pr).mp r))
  let f : NN → NN := fun p => (min p.1 p.2, max p.1 p.2)
  have nf : ((tcL P).map f).Nodup := by
    refine List.pairwise_map.mpr (List.Pairwise.imp_of_mem (fun {p q} hp hq hne e => ?_) T.nd)
    have e1 : min p.1 p.2 = min q.1 q.2 := congrArg Prod.fst e
    have e2 : max p.1 p.2 = max q.1 q.2 := congrArg Prod.snd e
    have n1 : p.1 ≠ p.2 := fun c => irr p.1 (by have : p = (p.1, p.1) := Prod.ext rfl c.symm; rw [← this]; exact hp)
    have n2 : q.1 ≠ q.2 := fun c => irr q.1 (by have : q = (q.1, q.1) := Prod.ext rfl c.symm; rw [← this]; exact hq)
    by_cases c : p.1 = q.1
    · exact hne (Prod.ext c (by omega))
    · have : q = (p.2, p.1) := Prod.ext (by show q.1 = p.2; omega) (by show q.2 = p.1; omega)
      exact asy p.1 p.2 hp (this ▸ hq)
  have ns := (free_sub (tcL P) m)
  have nF : ((List.range m).flatMap (frL (tcL P) m)).Nodup := a2.sublist ns
  have nG : (((List.range m).flatMap (frL (tcL P) m)) ++ (tcL P).map f).Nodup := by
    refine List.nodup_append.mpr ⟨nF, nf, fun a ha b hb e => ?_⟩
    subst e
    obtain ⟨h1, h2, h3, h4⟩ := free_mem.mp ha
    obtain ⟨p, hp, rfl⟩ := List.mem_map.mp hb
    by_cases c : p.1 < p.2
    · exact h3 (by show (min p.1 p.2, max p.1 p.2) ∈ tcL P; rw [Nat.min_eq_left (by omega), Nat.max_eq_right (by omega)]; exact hp)
    · exact h4 (by show (max p.1 p.2, min p.1 p.2) ∈ tcL P; rw [Nat.min_eq_right (by omega), Nat.max_eq_left (by omega)]; exact hp)
  have pm : (((List.range m).flatMap (frL (tcL P) m)) ++ (tcL P).map f).Perm (allP m) := (List.perm_ext_iff_of_nodup nG a2).mpr fun z => by
    rw [List.mem_append, allP_mem]
    constructor
    · rintro (h | h)
      · exact ⟨(free_mem.mp h).1, (free_mem.mp h).2.1⟩
      · obtain ⟨p, hp, rfl⟩ := List.mem_map.mp h
        obtain ⟨l1, l2⟩ := tlt p hp
        have n1 : p.1 ≠ p.2 := fun c => irr p.1 (by have : p = (p.1, p.1) := Prod.ext rfl c.symm; rw [← this]; exact hp)
        exact ⟨by show min p.1 p.2 < max p.1 p.2; omega, by show max p.1 p.2 < m; omega⟩
    · rintro ⟨h1, h2⟩
      by_cases c1 : (z.1, z.2) ∈ tcL P
      · exact .inr (List.mem_map.mpr ⟨z, c1, Prod.ext (by show min z.1 z.2 = z.1; omega) (by show max z.1 z.2 = z.2; omega)⟩)
      · by_cases c2 : (z.2, z.1) ∈ tcL P
        · exact .inr (List.mem_map.mpr ⟨(z.2, z.1), c2, Prod.ext (by show min z.2 z.1 = z.1; omega) (by show max z.2 z.1 = z.2; omega)⟩)
        · exact .inl (free_mem.mpr ⟨h1, h2, c1, c2⟩)
  have := pm.length_eq
  rw [List.length_append, List.length_map, a1] at this
  exact this
end L2.Lv.Sh
namespace L2.Lv.K36
open PySem PySem.Spec PyProof.Rows L2 L2.Lv L2.Lv.Sh
def topS (i : Nat) : Stmt := PySem.Challenge.pw_keyorders_k36_whole_pairs_that_follow.main.body.getD i (.Pass ⟨0, 0, 0, 0⟩)
structure Facts (K : PySem.W.Frag) (mg : Str → Option Value) where
  d_behind : DF K mg "behind" (topS 4) ["pairs", "one"]
  d_closed : DF K mg "closed" (topS 5) ["pairs"]
  d_ring_from : DF K mg "ring_from" (topS 6) ["pairs", "way"]
  d_ring : DF K mg "ring" (topS 7) ["pairs"]
  d__law_draw : DF K mg "_law_draw" (topS 16) ["_law_script", "_law_town", "_law_many"]
  d__law_pairs : DF K mg "_law_pairs" (topS 22) ["_law_script", "_law_town", "_law_many"]
  d__law_closed_holds : DF K mg "_law_closed_holds" (topS 23) ["_law_pairs_here"]
  d__law_ring_holds : DF K mg "_law_ring_holds" (topS 24) ["_law_pairs_here"]
  d_need_none : DF K mg "need_none" (topS 8) ["pairs"]
  d_bare : DF K mg "bare" (topS 9) ["pairs"]
  d_orders_from : DF K mg "orders_from" (topS 10) ["pairs", "left"]
  d_orders : DF K mg "orders" (topS 11) ["pairs", "many"]
  d_least_order : DF K mg "least_order" (topS 12) ["pairs", "many"]
  d_levels : DF K mg "levels" (topS 13) ["pairs", "many"]
  d__law_refused : DF K mg "_law_refused" (topS 25) ["_law_pairs_here", "_law_many"]
  d_free_pairs : DF K mg "free_pairs" (topS 14) ["pairs", "many"]
  d__law_orders_hold : DF K mg "_law_orders_hold" (topS 26) ["_law_pairs_here", "_law_many"]
  d_law : DF K mg "law" (topS 27) ["_law_script"]
  z_all : mg "all" = none
  z_any : mg "any" = none
  z_dict : mg "dict" = none
  z_enumerate : mg "enumerate" = none
  z_len : mg "len" = none
  z_list : mg "list" = none
  z_max : mg "max" = none
  z_min : mg "min" = none
  z_range : mg "range" = none
  z_set : mg "set" = none
  z_sorted : mg "sorted" = none
  z_tuple : mg "tuple" = none
  z_zip : mg "zip" = none
  c_Ring : Addr
  g_Ring : mg "Ring" = some (.ref c_Ring)
  x_Ring : PySem.W.excIn K c_Ring [.type "ValueError", .type "Exception", .type "BaseException", .type "object"] "ValueError.__new__" = true
  k_Ring : PySem.W.keepIn K (.ref c_Ring) = true
  b_Ring : PySem.W.subIn K (.ref c_Ring) (.type "BaseException") = some true
  t_Ring : PySem.W.typeIn K (.ref c_Ring) = some (.type "type")
  e_Ring : PySem.W.exmOne K (.ref c_Ring) (.ref c_Ring) = some true
section
variable {P : Program} {w : World} {K : PySem.W.Frag} {mg : Str → Option Value} {base : Heap}
/-! ### behind -/
abbrev st_behind : Stmt := topS 4
abbrev N_behind : List Str := ["pairs", "one", "first", "later"]
theorem sc_behind : FnScope N_behind ["pairs", "one"] (defScope st_behind) := ⟨rfl, rfl, rfl, by decide +kernel, rfl, by decide +kernel, by decide +kernel⟩
theorem ok_behind (T : Facts K mg)  : FnOk P w K mg base CX0 1 T.d_behind.f T.d_behind.fd ["pairs", "one"] (spOf K 2 m_behind) :=
  fn_val (N := N_behind) T.d_behind.F sc_behind fun cdv A outer s H E hr => (by exact (ss_one (by exact (ss_ret (by exact (ev_callB (cv_sorted (hu100 hr)) (by rfl) T.z_sorted bt_sorted (by exact (ed_cons (by exact (eb_of (by exact (ev_lc (own:=[("first",2),("later",3)]) (by rfl) sc_behind.nd (by exact (ej_seq (by exact (eb_var (pv 0))))) (blkOk_by (N := N_behind) (sc := defScope st_behind) (by decide +kernel)) (fun _ _ _ _ _ => (by exact (eg_many (by rfl) (egs_cons (pg_name (i := 2) sc_behind.nd (by rfl) (by first | exact .inl rfl | exact .inr rfl)) (egs_cons (pg_name (i := 3) sc_behind.nd (by rfl) (by first | exact .inl rfl | exact .inr rfl)) egs_nil))))) (fun _ _ _ _ _ => (ets_one (by exact (et_cmp (ov_eq (hu64 hr)) (by exact (eb_var (pv 2))) (by exact (eb_var (pv 1))) (nomark _))))) (fun _ _ _ _ _ => (by exact (ev_var (pv 3)))))))) (by exact ed_nil)))))))))
/-! ### closed -/
abbrev st_closed : Stmt := topS 5
abbrev N_closed : List Str := ["pairs", "found", "pair", "many", "one", "other", "third"]
theorem sc_closed : FnScope N_closed ["pairs"] (defScope st_closed) := ⟨rfl, rfl, rfl, by decide +kernel, rfl, by decide +kernel, by decide +kernel⟩
theorem ok_closed (T : Facts K mg) (G_behind : FnOk P w K mg base CX0 1 T.d_behind.f T.d_behind.fd ["pairs", "one"] (spOf K 2 m_behind)) : FnOk P w K mg base CX0 2 T.d_closed.f T.d_closed.fd ["pairs"] (spOf K 1 m_closed) :=
  fn_val (N := N_closed) T.d_closed.F sc_closed fun cdv A outer s H E hr => (by exact (ss_cons (by exact (ss_set (i := 1) sc_closed.nd (by rfl) (by first | exact .inl rfl | exact .inr rfl) ev_dicT))
    (by exact (ss_cons (by exact (ss_for PassesOwn.never (by rfl) (by exact (ei_seq (by exact (ev_var (pv 0))))) (by exact (eg_one (pg_name (i := 2) sc_closed.nd (by rfl) (by first | exact .inl rfl | exact .inr rfl))))
    (by exact (ss_one (by exact (ss_end [2] (by exact (ss_put (hu1 hr) (pv 1) (by exact (eb_var (pv 2))) (by exact ev_bl) (fun _ => (by rfl))))))))))
    (by exact (ss_cons (by exact (ss_set (i := 3) sc_closed.nd (by rfl) (by first | exact .inl rfl | exact .inr rfl) (by exact (ev_neg (by exact (eb_of (by exact ev_int)))))))
    (by exact (ss_cons (by exact (ss_end [0, 3] (by exact (ss_while 100000 PassesOwn.never (by exact (et_cmp (ov_ne (hu64 hr)) (by exact (eb_var (pv 3))) (by exact (eb_of (by exact (ev_callB cv_lenD (by rfl) T.z_len bt_len (by exact (ed_cons (by exact (eb_var (pv 1))) (by exact ed_nil))))))) (nomark _))) (by exact (ss_cons (by exact (ss_set (i := 3) sc_closed.nd (by rfl) (by first | exact .inl rfl | exact .inr rfl) (by exact (ev_callB cv_lenD (by rfl) T.z_len bt_len (by exact (ed_cons (by exact (eb_var (pv 1))) (by exact ed_nil)))))))
    (by exact (ss_one (by exact (ss_for PassesOwn.never (by rfl) (by exact (ei_seq (by exact (ev_callTy (cv_listD (by rfl)) (by rfl) T.z_list bt_list (by exact (ed_cons (by exact (eb_var (pv 1))) (by exact ed_nil))))))) (by exact (eg_many (by rfl) (egs_cons (pg_name (i := 4) sc_closed.nd (by rfl) (by first | exact .inl rfl | exact .inr rfl)) (egs_cons (pg_name (i := 5) sc_closed.nd (by rfl) (by first | exact .inl rfl | exact .inr rfl)) egs_nil))))
    (by exact (ss_one (by exact (ss_end [4] (by exact (ss_forK [5] PassesOwn.never (by rfl) (by exact (ei_seq (by exact (ev_callD T.d_behind G_behind hr (by decide) (by rfl) (by exact (ea_cons (by exact (ev_var (pv 0))) (by exact (ea_cons (by exact (ev_var (pv 5))) (by exact ea_nil))))))))) (by exact (eg_one (pg_name (i := 6) sc_closed.nd (by rfl) (by first | exact .inl rfl | exact .inr rfl))))
    (by exact (ss_one (by exact (ss_end [6] (by exact (ss_put (hu1 hr) (pv 1) (by exact (eb_of (by exact (ev_tup (by exact (ea_cons (by exact (ev_var (pv 4))) (by exact (ea_cons (by exact (ev_var (pv 6))) (by exact ea_nil))))))))) (by exact ev_bl) (fun _ => (by rfl))))))))))))))))))))))))
    (by exact (ss_one (by exact (ss_ret (by exact (ev_callTy cv_tup (by rfl) T.z_tuple bt_tuple (by exact (ed_cons (by exact (eb_of (by exact (ev_callB (cv_sortedD (by rfl) (hu100 hr)) (by rfl) T.z_sorted bt_sorted (by exact (ed_cons (by exact (eb_var (pv 1))) (by exact ed_nil))))))) (by exact ed_nil)))))))))))))))))
/-! ### ring_from -/
abbrev st_ring_from : Stmt := topS 6
abbrev N_ring_from : List Str := ["pairs", "way", "one", "found"]
theorem sc_ring_from : FnScope N_ring_from ["pairs", "way"] (defScope st_ring_from) := ⟨rfl, rfl, rfl, by decide +kernel, rfl, by decide +kernel, by decide +kernel⟩
theorem ok_ring_from_ (T : Facts K mg) (G_behind : FnOk P w K mg base CX0 1 T.d_behind.f T.d_behind.fd ["pairs", "one"] (spOf K 2 m_behind)) : ∀ k, FnOk P w K mg base CX0 (k + 1) T.d_ring_from.f T.d_ring_from.fd ["pairs", "way"] (spOf K 2 (m_ring_from_ k))
  | 0 => fn_none
  | k + 1 => by
    have G := ok_ring_from_ T G_behind k
    have h0 : k + 1 ≤ k + 1 := Nat.le_refl _
    show FnOk P w K mg base CX0 (k + 1 + 1) _ _ _ _
    exact fn_val (N := N_ring_from) T.d_ring_from.F sc_ring_from fun cdv A outer s H E hr => ((by exact (ss_cons (by exact (ss_end [0, 1] (by exact (ss_for PassesOwn.never (by rfl) (by exact (ei_seq (by exact (ev_callD T.d_behind G_behind hr (by omega) (by rfl) (by exact (ea_cons (by exact (ev_var (pv 0))) (by exact (ea_cons (by exact (ev_ix ixv (by exact (eb_var (pv 1))) (by exact (eb_of (by exact (ev_neg (by exact (eb_of (by exact ev_int))))))) (fun _ _ => by rfl))) (by exact ea_nil))))))))) (by exact (eg_one (pg_name (i := 2) sc_ring_from.nd (by rfl) (by first | exact .inl rfl | exact .inr rfl))))
    (by exact (ss_cons (by exact (ss_if (by exact (et_cmp (ov_eq (hu64 hr)) (by exact (eb_var (pv 2))) (by exact (eb_of (by exact (ev_ix ixv (by exact (eb_var (pv 1))) (by exact (eb_of (by exact ev_int))) (fun _ _ => by rfl))))) (nomark _)))
    (by exact (ss_one (by exact (ss_ret (by exact (ev_var (pv 1)))))))
    (by exact ss_nil)))
    (by exact (ss_one (by exact (ss_end [2] (by exact (ss_if (by exact (et_w (ew_and (by exact (et_cmp (ov_gt (hu0 hr)) (by exact (eb_var (pv 2))) (by exact (eb_of (by exact (ev_ix ixv (by exact (eb_var (pv 1))) (by exact (eb_of (by exact ev_int))) (fun _ _ => by rfl))))) (nomark _))) (ew_and1 (by exact (et_cmp (ov_notIn (hu65 hr)) (by exact (eb_var (pv 2))) (by exact (eb_var (pv 1))) (by with_unfolding_all rfl)))))))
    (by exact (ss_cons (by exact (ss_end [2] (by exact (ss_set (i := 3) sc_ring_from.nd (by rfl) (by first | exact .inl rfl | exact .inr rfl) (ev_frz (by exact (ev_callD T.d_ring_from G hr h0 (by rfl) (by exact (ea_cons (by exact (ev_var (pv 0))) (by exact (ea_cons (by exact (ev_bin ov_add (by exact (eb_var (pv 1))) (by exact (eb_of (by exact (ev_tup (by exact (ea_cons (by exact (ev_var (pv 2))) (by exact ea_nil))))))))) (by exact ea_nil))))))))))))
    (by exact (ss_one (by exact (ss_end [3] (by exact (ss_if (by exact (et_cmp (ov_notN) (by exact (eb_var (pv 3))) (by exact (eb_of (by exact ev_non))) (nomark _)))
    (by exact (ss_one (by exact (ss_ret (by exact (ev_var (pv 3)))))))
    (by exact ss_nil)))))))))
    (by exact ss_nil)))))))))))))
    (by exact (ss_one (by exact (ss_ret (by exact ev_non))))))))
theorem ok_ring_from (T : Facts K mg) (G_behind : FnOk P w K mg base CX0 1 T.d_behind.f T.d_behind.fd ["pairs", "one"] (spOf K 2 m_behind)) : FnOk P w K mg base CX0 11 T.d_ring_from.f T.d_ring_from.fd ["pairs", "way"] (spOf K 2 m_ring_from) := ok_ring_from_ T G_behind 10
/-! ### ring -/
abbrev st_ring : Stmt := topS 7
abbrev N_ring : List Str := ["pairs", "one", "first", "later", "found"]
theorem sc_ring : FnScope N_ring ["pairs"] (defScope st_ring) := ⟨rfl, rfl, rfl, by decide +kernel, rfl, by decide +kernel, by decide +kernel⟩
theorem ok_ring (T : Facts K mg) (G_ring_from : FnOk P w K mg base CX0 11 T.d_ring_from.f T.d_ring_from.fd ["pairs", "way"] (spOf K 2 m_ring_from)) : FnOk P w K mg base CX0 12 T.d_ring.f T.d_ring.fd ["pairs"] (spOf K 1 m_ring) :=
  fn_val (N := N_ring) T.d_ring.F sc_ring fun cdv A outer s H E hr => (by exact (ss_cons (by exact (ss_end [0] (by exact (ss_for PassesOwn.never (by rfl) (by exact (ei_seq (by exact (ev_sortSet (by rfl) (by rfl) T.z_sorted (by rfl) T.z_set (by exact (ed_cons (by exact (eb_of (by exact (ev_lc (own:=[("first",2),("later",3)]) (by rfl) sc_ring.nd (by exact (ej_seq (by exact (eb_var (pv 0))))) (blkOk_by (N := N_ring) (sc := defScope st_ring) (by decide +kernel)) (fun _ _ _ _ _ => (by exact (eg_many (by rfl) (egs_cons (pg_name (i := 2) sc_ring.nd (by rfl) (by first | exact .inl rfl | exact .inr rfl)) (egs_cons (pg_name (i := 3) sc_ring.nd (by rfl) (by first | exact .inl rfl | exact .inr rfl)) egs_nil))))) (fun _ _ _ _ _ => ets_nil) (fun _ _ _ _ _ => (by exact (ev_var (pv 2)))))))) (by exact ed_nil))) bt_sorted)))) (by exact (eg_one (pg_name (i := 1) sc_ring.nd (by rfl) (by first | exact .inl rfl | exact .inr rfl))))
    (by exact (ss_cons (by exact (ss_end [1] (by exact (ss_set (i := 4) sc_ring.nd (by rfl) (by first | exact .inl rfl | exact .inr rfl) (ev_frz (by exact (ev_callD T.d_ring_from G_ring_from hr (by decide) (by rfl) (by exact (ea_cons (by exact (ev_var (pv 0))) (by exact (ea_cons (by exact (ev_tup (by exact (ea_cons (by exact (ev_var (pv 1))) (by exact ea_nil))))) (by exact ea_nil))))))))))))
    (by exact (ss_one (by exact (ss_end [4] (by exact (ss_if (by exact (et_cmp (ov_notN) (by exact (eb_var (pv 4))) (by exact (eb_of (by exact ev_non))) (nomark _)))
    (by exact (ss_one (by exact (ss_ret (by exact (ev_var (pv 4)))))))
    (by exact ss_nil)))))))))))))
    (by exact (ss_one (by exact (ss_ret (by exact ev_non)))))))
/-! ### _law_draw -/
abbrev st__law_draw : Stmt := topS 16
abbrev N__law_draw : List Str := ["_law_script", "_law_town", "_law_many", "_law_k", "_law_cell", "_law_number", "_law_more"]
theorem sc__law_draw : FnScope N__law_draw ["_law_script", "_law_town", "_law_many"] (defScope st__law_draw) := ⟨rfl, rfl, rfl, by decide +kernel, rfl, by decide +kernel, by decide +kernel⟩
theorem ok__law_draw (T : Facts K mg)  : FnOk P w K mg base CX0 1 T.d__law_draw.f T.d__law_draw.fd ["_law_script", "_law_town", "_law_many"] (spOf K 3 m__law_draw_v2) :=
  fn_val (N := N__law_draw) T.d__law_draw.F sc__law_draw fun cdv A outer s H E hr => (by exact (ss_cons (by exact (ss_town (pv 1)))
    (by exact (ss_cons (by exact (ss_end [1] (by exact (ss_set (i := 3) sc__law_draw.nd (by rfl) (by first | exact .inl rfl | exact .inr rfl) (by exact (ev_tlen (by rfl) T.z_len (pv 1)))))))
    (by exact (ss_cons (by exact (ss_set (i := 4) sc__law_draw.nd (by rfl) (by first | exact .inl rfl | exact .inr rfl) (by exact ev_int)))
    (by exact (ss_cons (by exact (ss_end [0] (by exact (ss_if (by exact (et_tru (by exact (eb_var (pv 0))) (fun _ => (by rfl))))
    (by exact (ss_one (by exact (ss_end [0] (by exact (ss_set (i := 4) sc__law_draw.nd (by rfl) (by first | exact .inl rfl | exact .inr rfl) (by exact (ev_ix ixv (by exact (eb_var (pv 0))) (by exact (eb_of (by exact (ev_bin ov_mod (by exact (eb_var (pv 3))) (by exact (eb_of (by exact (ev_callB cv_len (by rfl) T.z_len bt_len (by exact (ed_cons (by exact (eb_var (pv 0))) (by exact ed_nil))))))))))) (fun _ _ => by rfl)))))))))
    (by exact ss_nil)))))
    (by exact (ss_cons (by exact (ss_end [3, 4] (by exact (ss_set (i := 5) sc__law_draw.nd (by rfl) (by first | exact .inl rfl | exact .inr rfl) (by exact (ev_bin ov_mod (by exact (eb_of (by exact (ev_bin ov_add (by exact (eb_var (pv 4))) (by exact (eb_of (by exact (ev_bin ov_mul (by exact (eb_of (by exact ev_int))) (by exact (eb_var (pv 3))))))))))) (by exact (eb_of (by exact ev_int)))))))))
    (by exact (ss_cons (by exact (ss_set (i := 5) sc__law_draw.nd (by rfl) (by first | exact .inl rfl | exact .inr rfl) (by exact (ev_bin ov_mod (by exact (eb_of (by exact (ev_bin ov_mul (by exact (eb_of (by exact (ev_bin ov_mod (by exact (eb_of (by exact (ev_bin ov_mul (by exact (eb_var (pv 5))) (by exact (eb_var (pv 5))))))) (by exact (eb_of (by exact ev_int))))))) (by exact (eb_of (by exact ev_int))))))) (by exact (eb_of (by exact ev_int)))))))
    (by exact (ss_cons (by exact (ss_set (i := 6) sc__law_draw.nd (by rfl) (by first | exact .inl rfl | exact .inr rfl) (by exact (ev_bin ov_mod (by exact (eb_of (by exact (ev_bin ov_mul (by exact (eb_of (by exact (ev_bin ov_mod (by exact (eb_of (by exact (ev_bin ov_mul (by exact (eb_var (pv 5))) (by exact (eb_var (pv 5))))))) (by exact (eb_of (by exact ev_int))))))) (by exact (eb_of (by exact ev_int))))))) (by exact (eb_of (by exact ev_int)))))))
    (by exact (ss_one (by exact (ss_ret (by exact (ev_bin ov_mod (by exact (eb_of (by exact (ev_bin ov_add (by exact (eb_of (by exact (ev_bin ov_mul (by exact (eb_of (by exact (ev_bin ov_div (by exact (eb_var (pv 5))) (by exact (eb_of (by exact ev_int))))))) (by exact (eb_of (by exact ev_int))))))) (by exact (eb_of (by exact (ev_bin ov_div (by exact (eb_var (pv 6))) (by exact (eb_of (by exact ev_int))))))))))) (by exact (eb_var (pv 2)))))))))))))))))))))))
/-! ### _law_pairs -/
abbrev st__law_pairs : Stmt := topS 22
abbrev N__law_pairs : List Str := ["_law_script", "_law_town", "_law_many", "_law_got", "_law_turn", "_law_one", "_law_other", "_law_pair"]
theorem sc__law_pairs : FnScope N__law_pairs ["_law_script", "_law_town", "_law_many"] (defScope st__law_pairs) := ⟨rfl, rfl, rfl, by decide +kernel, rfl, by decide +kernel, by decide +kernel⟩
theorem ok__law_pairs (T : Facts K mg) (G__law_draw : FnOk P w K mg base CX0 1 T.d__law_draw.f T.d__law_draw.fd ["_law_script", "_law_town", "_law_many"] (spOf K 3 m__law_draw_v2)) : FnOk P w K mg base CX0 2 T.d__law_pairs.f T.d__law_pairs.fd ["_law_script", "_law_town", "_law_many"] (spOf K 3 m__law_pairs_v2) :=
  fn_val (N := N__law_pairs) T.d__law_pairs.F sc__law_pairs fun cdv A outer s H E hr => (by exact (ss_cons (by exact (ss_set (i := 3) sc__law_pairs.nd (by rfl) (by first | exact .inl rfl | exact .inr rfl) ev_dicT))
    (by exact (ss_cons (by exact (ss_end [0, 1, 2] (by exact (ss_for PassesOwn.never (by rfl) (by exact (ei_range1 (by rfl) T.z_range (by exact (eb_of (by exact (ev_callD T.d__law_draw G__law_draw hr (by decide) (by rfl) (by exact (ea_cons (by exact (ev_var (pv 0))) (by exact (ea_cons (by exact (ev_var (pv 1))) (by exact (ea_cons (by exact ev_int) (by exact ea_nil))))))))))))) (by exact (eg_one (pg_name (i := 4) sc__law_pairs.nd (by rfl) (by first | exact .inl rfl | exact .inr rfl))))
    (by exact (ss_cons (by exact (ss_end [4] (by exact (ss_par (i := 5) (j := 6) (by rfl) sc__law_pairs.nd (by rfl) (by rfl) (by decide) (by rfl) (by rfl) (by exact (ea_cons (by exact (ev_callD T.d__law_draw G__law_draw hr (by decide) (by rfl) (by exact (ea_cons (by exact (ev_var (pv 0))) (by exact (ea_cons (by exact (ev_var (pv 1))) (by exact (ea_cons (by exact (ev_var (pv 2))) (by exact ea_nil))))))))) (by exact (ea_cons (by exact (ev_callD T.d__law_draw G__law_draw hr (by decide) (by rfl) (by exact (ea_cons (by exact (ev_var (pv 0))) (by exact (ea_cons (by exact (ev_var (pv 1))) (by exact (ea_cons (by exact (ev_var (pv 2))) (by exact ea_nil))))))))) (by exact ea_nil))))) (by rfl)))))
    (by exact (ss_one (by exact (ss_end [5, 6] (by exact (ss_if (by exact (et_cmp (ov_ne (hu64 hr)) (by exact (eb_var (pv 5))) (by exact (eb_var (pv 6))) (nomark _)))
    (by exact (ss_cons (by exact (ss_set (i := 7) sc__law_pairs.nd (by rfl) (by first | exact .inl rfl | exact .inr rfl) (by exact (ev_tup (by exact (ea_cons (by exact (ev_callB (cv_min2 (by rfl)) (by rfl) T.z_min bt_min (by exact (ed_cons (by exact (eb_var (pv 5))) (by exact (ed_cons (by exact (eb_var (pv 6))) (by exact ed_nil))))))) (by exact (ea_cons (by exact (ev_callB (cv_max2 (by rfl)) (by rfl) T.z_max bt_max (by exact (ed_cons (by exact (eb_var (pv 5))) (by exact (ed_cons (by exact (eb_var (pv 6))) (by exact ed_nil))))))) (by exact ea_nil)))))))))
    (by exact (ss_one (by exact (ss_end [5, 6, 7] (by exact (ss_put (hu1 hr) (pv 3) (by exact (eb_of (by exact (ev_ife (by exact (et_tru (by exact (eb_of (by exact (ev_callD T.d__law_draw G__law_draw hr (by decide) (by rfl) (by exact (ea_cons (by exact (ev_var (pv 0))) (by exact (ea_cons (by exact (ev_var (pv 1))) (by exact (ea_cons (by exact ev_int) (by exact ea_nil))))))))))) (fun _ => (by rfl)))) (by exact (ev_var (pv 7))) (by exact (ev_tup (by exact (ea_cons (by exact (ev_callB (cv_max2 (by rfl)) (by rfl) T.z_max bt_max (by exact (ed_cons (by exact (eb_var (pv 5))) (by exact (ed_cons (by exact (eb_var (pv 6))) (by exact ed_nil))))))) (by exact (ea_cons (by exact (ev_callB (cv_min2 (by rfl)) (by rfl) T.z_min bt_min (by exact (ed_cons (by exact (eb_var (pv 5))) (by exact (ed_cons (by exact (eb_var (pv 6))) (by exact ed_nil))))))) (by exact ea_nil))))))))))) (by exact ev_int) (fun _ => (by rfl))))))))))
    (by exact ss_nil)))))))))))))
    (by exact (ss_one (by exact (ss_ret (by exact (ev_callTy cv_tup (by rfl) T.z_tuple bt_tuple (by exact (ed_cons (by exact (eb_of (by exact (ev_callB (cv_sortedD (by rfl) (hu100 hr)) (by rfl) T.z_sorted bt_sorted (by exact (ed_cons (by exact (eb_var (pv 3))) (by exact ed_nil))))))) (by exact ed_nil)))))))))))))
/-! ### _law_closed_holds -/
abbrev st__law_closed_holds : Stmt := topS 23
abbrev N__law_closed_holds : List Str := ["_law_pairs_here", "_law_every", "_law_pair", "_law_one", "_law_other", "_law_near", "_law_first", "_law_last"]
theorem sc__law_closed_holds : FnScope N__law_closed_holds ["_law_pairs_here"] (defScope st__law_closed_holds) := ⟨rfl, rfl, rfl, by decide +kernel, rfl, by decide +kernel, by decide +kernel⟩
theorem ok__law_closed_holds (T : Facts K mg) (G_closed : FnOk P w K mg base CX0 2 T.d_closed.f T.d_closed.fd ["pairs"] (spOf K 1 m_closed)) : FnOk P w K mg base CX0 3 T.d__law_closed_holds.f T.d__law_closed_holds.fd ["_law_pairs_here"] (spOf K 1 m__law_closed_holds) :=
  fn_val (N := N__law_closed_holds) T.d__law_closed_holds.F sc__law_closed_holds fun cdv A outer s H E hr => (by exact (ss_cons (by exact (ss_set (i := 1) sc__law_closed_holds.nd (by rfl) (by first | exact .inl rfl | exact .inr rfl) (ev_frz (by exact (ev_callD T.d_closed G_closed hr (by decide) (by rfl) (by exact (ea_cons (by exact (ev_var (pv 0))) (by exact ea_nil))))))))
    (by exact (ss_cons (by exact (ss_if (by exact (et_w (ew_or (by exact (et_cmp (ov_ne (hu64 hr)) (by exact (eb_of (by exact (ev_callTy cv_list (by rfl) T.z_list bt_list (by exact (ed_cons (by exact (eb_var (pv 1))) (by exact ed_nil))))))) (by exact (eb_of (by exact (ev_alt (ev_sortDict (by rfl) (by rfl) T.z_sorted (by rfl) T.z_dict (by exact (ed_cons (by exact (eb_of (by exact (ev_lc (own:=[("_law_pair",2)]) (by rfl) sc__law_closed_holds.nd (by exact (ej_seq (by exact (eb_var (pv 1))))) (blkOk_by (N := N__law_closed_holds) (sc := defScope st__law_closed_holds) (by decide +kernel)) (fun _ _ _ _ _ => (by exact (eg_one (pg_name (i := 2) sc__law_closed_holds.nd (by rfl) (by first | exact .inl rfl | exact .inr rfl))))) (fun _ _ _ _ _ => ets_nil) (fun _ _ _ _ _ => (by exact (ev_tup (by exact (ea_cons (by exact (ev_var (pv 2))) (by exact (ea_cons (by exact ev_int) (by exact ea_nil)))))))))))) (by exact ed_nil))) bt_sorted bt_dict) (ev_callB (cv_sortedD (by rfl) (hu100 hr)) (by rfl) T.z_sorted bt_sorted (by exact (ed_cons (by exact (eb_of (by exact (ev_callTy (cv_dictT (by rfl) (hu2 hr)) (by rfl) T.z_dict bt_dict (by exact (ed_cons (by exact (eb_of (by exact (ev_lc (own:=[("_law_pair",2)]) (by rfl) sc__law_closed_holds.nd (by exact (ej_seq (by exact (eb_var (pv 1))))) (blkOk_by (N := N__law_closed_holds) (sc := defScope st__law_closed_holds) (by decide +kernel)) (fun _ _ _ _ _ => (by exact (eg_one (pg_name (i := 2) sc__law_closed_holds.nd (by rfl) (by first | exact .inl rfl | exact .inr rfl))))) (fun _ _ _ _ _ => ets_nil) (fun _ _ _ _ _ => (by exact (ev_tup (by exact (ea_cons (by exact (ev_var (pv 2))) (by exact (ea_cons (by exact ev_int) (by exact ea_nil)))))))))))) (by exact ed_nil))))))) (by exact ed_nil)))))))) (nomark _))) (ew_or1 (by exact (et_not (by exact (et_tru (by exact (eb_of (by exact (ev_callB (cv_all (by rfl)) (by rfl) T.z_all bt_all (by exact (ed_cons (by exact (eb_of (by exact (ev_lc (own:=[("_law_pair",2)]) (by rfl) sc__law_closed_holds.nd (by exact (ej_seq (by exact (eb_var (pv 0))))) (blkOk_by (N := N__law_closed_holds) (sc := defScope st__law_closed_holds) (by decide +kernel)) (fun _ _ _ _ _ => (by exact (eg_one (pg_name (i := 2) sc__law_closed_holds.nd (by rfl) (by first | exact .inl rfl | exact .inr rfl))))) (fun _ _ _ _ _ => ets_nil) (fun _ _ _ _ _ => (by exact (ev_cmp (ov_in (hu65 hr)) (by exact (eb_var (pv 2))) (by exact (eb_var (pv 1))) (by with_unfolding_all rfl)))))))) (by exact ed_nil))))))) (fun _ => (by rfl))))))))))
    (by exact (ss_one (by exact (ss_ret (by exact ev_bl)))))
    (by exact ss_nil)))
    (by exact (ss_cons (by exact (ss_end [0, 1] (by exact (ss_for PassesOwn.never (by rfl) (by exact (ei_seq (by exact (ev_var (pv 1))))) (by exact (eg_many (by rfl) (egs_cons (pg_name (i := 3) sc__law_closed_holds.nd (by rfl) (by first | exact .inl rfl | exact .inr rfl)) (egs_cons (pg_name (i := 4) sc__law_closed_holds.nd (by rfl) (by first | exact .inl rfl | exact .inr rfl)) egs_nil))))
    (by exact (ss_cons (by exact (ss_setLcF (i := 5) (own:=[("_law_first",6),("_law_last",7)]) (by rfl) sc__law_closed_holds.nd (by rfl) (by rfl) (by rfl) (by exact (ej_seq (by exact (eb_var (pv 1))))) (blkOk_by (N := N__law_closed_holds) (sc := defScope st__law_closed_holds) (by decide +kernel)) (fun _ _ _ _ _ => (by exact (eg_many (by rfl) (egs_cons (pg_name (i := 6) sc__law_closed_holds.nd (by rfl) (by first | exact .inl rfl | exact .inr rfl)) (egs_cons (pg_name (i := 7) sc__law_closed_holds.nd (by rfl) (by first | exact .inl rfl | exact .inr rfl)) egs_nil))))) (fun _ _ _ _ _ => (ets_one (by exact (et_cmp (ov_eq (hu64 hr)) (by exact (eb_var (pv 6))) (by exact (eb_var (pv 3))) (nomark _))))) (fun _ _ _ _ _ => (by exact (ev_var (pv 7))))))
    (by exact (ss_cons (by exact (ss_end [5] (by exact (ss_if (by exact (et_w (ew_and (by exact (et_cmp (ov_notIn (hu65 hr)) (by exact (eb_of (by exact (ev_tup (by exact (ea_cons (by exact (ev_var (pv 3))) (by exact (ea_cons (by exact (ev_var (pv 4))) (by exact ea_nil))))))))) (by exact (eb_var (pv 0))) (by with_unfolding_all rfl))) (ew_and1 (by exact (et_not (by exact (et_tru (by exact (eb_of (by exact (ev_callB (cv_anyX (by rfl)) (by rfl) T.z_any bt_any (by exact (ed_cons (by exact (eb_of (by exact (ev_lc (own:=[("_law_last",7)]) (by rfl) sc__law_closed_holds.nd (by exact (ej_seq (by exact (eb_var (pv 5))))) (blkOk_by (N := N__law_closed_holds) (sc := defScope st__law_closed_holds) (by decide +kernel)) (fun _ _ _ _ _ => (by exact (eg_one (pg_name (i := 7) sc__law_closed_holds.nd (by rfl) (by first | exact .inl rfl | exact .inr rfl))))) (fun _ _ _ _ _ => ets_nil) (fun _ _ _ _ _ => (by exact (ev_cmp (ov_in (hu65 hr)) (by exact (eb_of (by exact (ev_tup (by exact (ea_cons (by exact (ev_var (pv 7))) (by exact (ea_cons (by exact (ev_var (pv 4))) (by exact ea_nil))))))))) (by exact (eb_var (pv 0))) (by with_unfolding_all rfl)))))))) (by exact ed_nil))))))) (fun _ => (by rfl))))))))))
    (by exact (ss_one (by exact (ss_ret (by exact ev_bl)))))
    (by exact ss_nil)))))
    (by exact (ss_one (by exact (ss_end [3, 4] (by exact (ss_for PassesOwn.never (by rfl) (by exact (ei_seq (by exact (ev_var (pv 1))))) (by exact (eg_many (by rfl) (egs_cons (pg_name (i := 6) sc__law_closed_holds.nd (by rfl) (by first | exact .inl rfl | exact .inr rfl)) (egs_cons (pg_name (i := 7) sc__law_closed_holds.nd (by rfl) (by first | exact .inl rfl | exact .inr rfl)) egs_nil))))
    (by exact (ss_one (by exact (ss_end [6, 7] (by exact (ss_if (by exact (et_w (ew_and (by exact (et_cmp (ov_eq (hu64 hr)) (by exact (eb_var (pv 6))) (by exact (eb_var (pv 4))) (nomark _))) (ew_and1 (by exact (et_cmp (ov_notIn (hu65 hr)) (by exact (eb_of (by exact (ev_tup (by exact (ea_cons (by exact (ev_var (pv 3))) (by exact (ea_cons (by exact (ev_var (pv 7))) (by exact ea_nil))))))))) (by exact (eb_var (pv 1))) (by with_unfolding_all rfl)))))))
    (by exact (ss_one (by exact (ss_ret (by exact ev_bl)))))
    (by exact ss_nil)))))))))))))))))))))
    (by exact (ss_one (by exact (ss_ret (by exact ev_bl)))))))))))
/-! ### _law_ring_holds -/
abbrev st__law_ring_holds : Stmt := topS 24
abbrev N__law_ring_holds : List Str := ["_law_pairs_here", "_law_some", "_law_every", "_law_one", "_law_other"]
theorem sc__law_ring_holds : FnScope N__law_ring_holds ["_law_pairs_here"] (defScope st__law_ring_holds) := ⟨rfl, rfl, rfl, by decide +kernel, rfl, by decide +kernel, by decide +kernel⟩
theorem ok__law_ring_holds (T : Facts K mg) (G_closed : FnOk P w K mg base CX0 2 T.d_closed.f T.d_closed.fd ["pairs"] (spOf K 1 m_closed)) (G_ring : FnOk P w K mg base CX0 12 T.d_ring.f T.d_ring.fd ["pairs"] (spOf K 1 m_ring)) : FnOk P w K mg base CX0 13 T.d__law_ring_holds.f T.d__law_ring_holds.fd ["_law_pairs_here"] (spOf K 1 m__law_ring_holds) :=
  fn_val (N := N__law_ring_holds) T.d__law_ring_holds.F sc__law_ring_holds fun cdv A outer s H E hr => (by exact (ss_cons (by exact (ss_par (i := 1) (j := 2) (by rfl) sc__law_ring_holds.nd (by rfl) (by rfl) (by decide) (by rfl) (by rfl) (by exact (ea_cons (by exact (ev_callD T.d_ring G_ring hr (by decide) (by rfl) (by exact (ea_cons (by exact (ev_var (pv 0))) (by exact ea_nil))))) (by exact (ea_cons (by exact (ev_callD T.d_closed G_closed hr (by decide) (by rfl) (by exact (ea_cons (by exact (ev_var (pv 0))) (by exact ea_nil))))) (by exact ea_nil))))) (by rfl)))
    (by exact (ss_cons (by exact (ss_end [2] (by exact (ss_if (by exact (et_cmp (ov_ne (hu64 hr)) (by exact (eb_of (by exact (ev_cmp (ov_isN) (by exact (eb_var (pv 1))) (by exact (eb_of (by exact ev_non))) (nomark _))))) (by exact (eb_of (by exact (ev_notD (by exact (eb_of (by exact (ev_lc (own:=[("_law_one",3),("_law_other",4)]) (by rfl) sc__law_ring_holds.nd (by exact (ej_seq (by exact (eb_var (pv 2))))) (blkOk_by (N := N__law_ring_holds) (sc := defScope st__law_ring_holds) (by decide +kernel)) (fun _ _ _ _ _ => (by exact (eg_many (by rfl) (egs_cons (pg_name (i := 3) sc__law_ring_holds.nd (by rfl) (by first | exact .inl rfl | exact .inr rfl)) (egs_cons (pg_name (i := 4) sc__law_ring_holds.nd (by rfl) (by first | exact .inl rfl | exact .inr rfl)) egs_nil))))) (fun _ _ _ _ _ => (ets_one (by exact (et_cmp (ov_eq (hu64 hr)) (by exact (eb_var (pv 3))) (by exact (eb_var (pv 4))) (nomark _))))) (fun _ _ _ _ _ => (by exact (ev_var (pv 3)))))))))))) (nomark _)))
    (by exact (ss_one (by exact (ss_ret (by exact ev_bl)))))
    (by exact ss_nil)))))
    (by exact (ss_cons (by exact (ss_if (by exact (et_cmp (ov_isN) (by exact (eb_var (pv 1))) (by exact (eb_of (by exact ev_non))) (nomark _)))
    (by exact (ss_one (by exact (ss_ret (by exact ev_bl)))))
    (by exact ss_nil)))
    (by exact (ss_cons (by exact (ss_if (by exact (et_w (ew_or (by exact (et_cmp (ov_ne (hu64 hr)) (by exact (eb_of (by exact (ev_callB (cv_minT (by rfl) (hu65 hr)) (by rfl) T.z_min bt_min (by exact (ed_cons (by exact (eb_var (pv 1))) (by exact ed_nil))))))) (by exact (eb_of (by exact (ev_ix ixv (by exact (eb_var (pv 1))) (by exact (eb_of (by exact ev_int))) (fun _ _ => by rfl))))) (nomark _))) (ew_or1 (by exact (et_cmp (ov_ne (hu64 hr)) (by exact (eb_of (by exact (ev_lenDict (by rfl) (by rfl) T.z_len (by rfl) T.z_dict (by exact (ed_cons (by exact (eb_of (by exact (ev_lc (own:=[("_law_one",3)]) (by rfl) sc__law_ring_holds.nd (by exact (ej_seq (by exact (eb_var (pv 1))))) (blkOk_by (N := N__law_ring_holds) (sc := defScope st__law_ring_holds) (by decide +kernel)) (fun _ _ _ _ _ => (by exact (eg_one (pg_name (i := 3) sc__law_ring_holds.nd (by rfl) (by first | exact .inl rfl | exact .inr rfl))))) (fun _ _ _ _ _ => ets_nil) (fun _ _ _ _ _ => (by exact (ev_tup (by exact (ea_cons (by exact (ev_var (pv 3))) (by exact (ea_cons (by exact ev_int) (by exact ea_nil)))))))))))) (by exact ed_nil))) bt_len bt_dict)))) (by exact (eb_of (by exact (ev_callB cv_len (by rfl) T.z_len bt_len (by exact (ed_cons (by exact (eb_var (pv 1))) (by exact ed_nil))))))) (nomark _)))))))
    (by exact (ss_one (by exact (ss_ret (by exact ev_bl)))))
    (by exact ss_nil)))
    (by exact (ss_one (by exact (ss_ret (by exact (ev_callB (cv_all (by rfl)) (by rfl) T.z_all bt_all (by exact (ed_cons (by exact (eb_of (by exact (ev_lc (own:=[("_law_one",3),("_law_other",4)]) (by rfl) sc__law_ring_holds.nd (by exact (ej_zip (by rfl) T.z_zip (by exact (eb_var (pv 1))) (by exact (eb_of (by exact (ev_bin ov_add (by exact (eb_of (by exact (ev_slice slv (by exact (eb_var (pv 1))) (by exact (eo_some (by exact (eb_of (by exact ev_int))))) (by exact eo_none))))) (by exact (eb_of (by exact (ev_slice slv (by exact (eb_var (pv 1))) (by exact eo_none) (by exact (eo_some (by exact (eb_of (by exact ev_int))))))))))))))) (blkOk_by (N := N__law_ring_holds) (sc := defScope st__law_ring_holds) (by decide +kernel)) (fun _ _ _ _ _ => (by exact (eg_many (by rfl) (egs_cons (pg_name (i := 3) sc__law_ring_holds.nd (by rfl) (by first | exact .inl rfl | exact .inr rfl)) (egs_cons (pg_name (i := 4) sc__law_ring_holds.nd (by rfl) (by first | exact .inl rfl | exact .inr rfl)) egs_nil))))) (fun _ _ _ _ _ => ets_nil) (fun _ _ _ _ _ => (by exact (ev_cmp (ov_in (hu65 hr)) (by exact (eb_of (by exact (ev_tup (by exact (ea_cons (by exact (ev_var (pv 3))) (by exact (ea_cons (by exact (ev_var (pv 4))) (by exact ea_nil))))))))) (by exact (eb_var (pv 0))) (by with_unfolding_all rfl)))))))) (by exact ed_nil)))))))))))))))))
/-! ### need_none -/
abbrev st_need_none : Stmt := topS 8
abbrev N_need_none : List Str := ["pairs"]
theorem sc_need_none : FnScope N_need_none ["pairs"] (defScope st_need_none) := ⟨rfl, rfl, rfl, by decide +kernel, rfl, by decide +kernel, by decide +kernel⟩
theorem ok_need_none (T : Facts K mg) (G_ring : FnOk P w K mg base CX0 12 T.d_ring.f T.d_ring.fd ["pairs"] (spOf K 1 m_ring)) : FnOk P w K mg base CX0 13 T.d_need_none.f T.d_need_none.fd ["pairs"] (spOf K 1 m_need_none) :=
  fn_val (N := N_need_none) T.d_need_none.F sc_need_none fun cdv A outer s H E hr => (by exact (ss_one (by exact (ss_end [0] (by exact (ss_if (by exact (et_cmp (ov_notN) (by exact (eb_of (by exact (ev_callD T.d_ring G_ring hr (by decide) (by rfl) (by exact (ea_cons (by exact (ev_var (pv 0))) (by exact ea_nil))))))) (by exact (eb_of (by exact ev_non))) (nomark _)))
    (by exact (ss_one (by exact ss_never)))
    (by exact ss_nil)))))))
theorem okx_need_none (T : Facts K mg) (G_ring : FnOk P w K mg base CX0 12 T.d_ring.f T.d_ring.fd ["pairs"] (spOf K 1 m_ring)) : FnOk P w K mg base (L2.CX P w) 13 T.d_need_none.f T.d_need_none.fd ["pairs"] (spX K (fun _ => T.c_Ring) 1 x_need_none) :=
  fn_valx (N := N_need_none) T.d_need_none.F sc_need_none fun cdv A outer s H E hr => (by exact (sx_one (by exact (sx_end [0] (by exact (sx_if (by exact (et_cmp (ov_notN) (by exact (eb_of (by exact (ev_callD T.d_ring G_ring hr (by decide) (by rfl) (by exact (ea_cons (by exact (ev_var (pv 0))) (by exact ea_nil))))))) (by exact (eb_of (by exact ev_non))) (nomark _)))
    (by exact (sx_one (by exact (sx_raise (c := 0) rfl (takes_of rfl rfl rfl rfl) (pmk_own0 PySem.F.excBase_ValueError T.x_Ring T.g_Ring T.k_Ring (raises_own T.b_Ring T.t_Ring) (by exact rfl))))))
    (by exact (sxs_lift (by exact ss_nil)))))))))
/-! ### bare -/
abbrev st_bare : Stmt := topS 9
abbrev N_bare : List Str := ["pairs", "every", "found", "one", "other", "third"]
theorem sc_bare : FnScope N_bare ["pairs"] (defScope st_bare) := ⟨rfl, rfl, rfl, by decide +kernel, rfl, by decide +kernel, by decide +kernel⟩
theorem ok_bare (T : Facts K mg) (G_behind : FnOk P w K mg base CX0 1 T.d_behind.f T.d_behind.fd ["pairs", "one"] (spOf K 2 m_behind)) (G_closed : FnOk P w K mg base CX0 2 T.d_closed.f T.d_closed.fd ["pairs"] (spOf K 1 m_closed)) (G_need_none : FnOk P w K mg base CX0 13 T.d_need_none.f T.d_need_none.fd ["pairs"] (spOf K 1 m_need_none)) : FnOk P w K mg base CX0 14 T.d_bare.f T.d_bare.fd ["pairs"] (spOf K 1 m_bare) :=
  fn_val (N := N_bare) T.d_bare.F sc_bare fun cdv A outer s H E hr => (by exact (ss_cons (by exact (ss_expr (by exact (ev_callD T.d_need_none G_need_none hr (by decide) (by rfl) (by exact (ea_cons (by exact (ev_var (pv 0))) (by exact ea_nil)))))))
    (by exact (ss_cons (by exact (ss_end [0] (by exact (ss_set (i := 1) sc_bare.nd (by rfl) (by first | exact .inl rfl | exact .inr rfl) (ev_frz (by exact (ev_callD T.d_closed G_closed hr (by decide) (by rfl) (by exact (ea_cons (by exact (ev_var (pv 0))) (by exact ea_nil))))))))))
    (by exact (ss_cons (by exact (ss_set (i := 2) sc_bare.nd (by rfl) (by first | exact .inl rfl | exact .inr rfl) (by exact (ev_lst (by exact ea_nil)))))
    (by exact (ss_cons (by exact (ss_end [1] (by exact (ss_for PassesOwn.never (by rfl) (by exact (ei_seq (by exact (ev_var (pv 1))))) (by exact (eg_many (by rfl) (egs_cons (pg_name (i := 3) sc_bare.nd (by rfl) (by first | exact .inl rfl | exact .inr rfl)) (egs_cons (pg_name (i := 4) sc_bare.nd (by rfl) (by first | exact .inl rfl | exact .inr rfl)) egs_nil))))
    (by exact (ss_one (by exact (ss_end [3, 4] (by exact (ss_if (by exact (et_not (by exact (et_tru (by exact (eb_of (by exact (ev_lc (own:=[("third",5)]) (by rfl) sc_bare.nd (by exact (ej_seq (by exact (eb_of (by exact (ev_callD T.d_behind G_behind hr (by decide) (by rfl) (by exact (ea_cons (by exact (ev_var (pv 1))) (by exact (ea_cons (by exact (ev_var (pv 3))) (by exact ea_nil))))))))))) (blkOk_by (N := N_bare) (sc := defScope st_bare) (by decide +kernel)) (fun _ _ _ _ _ => (by exact (eg_one (pg_name (i := 5) sc_bare.nd (by rfl) (by first | exact .inl rfl | exact .inr rfl))))) (fun _ _ _ _ _ => (ets_one (by exact (et_cmp (ov_in (hu65 hr)) (by exact (eb_of (by exact (ev_tup (by exact (ea_cons (by exact (ev_var (pv 5))) (by exact (ea_cons (by exact (ev_var (pv 4))) (by exact ea_nil))))))))) (by exact (eb_var (pv 1))) (by with_unfolding_all rfl))))) (fun _ _ _ _ _ => (by exact (ev_var (pv 5)))))))) (fun _ => (by rfl))))))
    (by exact (ss_one (by exact (ss_end [3, 4] (by exact (ss_append (pv 2) (by exact (ev_tup (by exact (ea_cons (by exact (ev_var (pv 3))) (by exact (ea_cons (by exact (ev_var (pv 4))) (by exact ea_nil)))))))))))))
    (by exact ss_nil)))))))))))
    (by exact (ss_one (by exact (ss_ret (by exact (ev_callTy cv_tup (by rfl) T.z_tuple bt_tuple (by exact (ed_cons (by exact (eb_var (pv 2))) (by exact ed_nil)))))))))))))))))
theorem okx_bare (T : Facts K mg) (G_behind : FnOk P w K mg base CX0 1 T.d_behind.f T.d_behind.fd ["pairs", "one"] (spOf K 2 m_behind)) (G_closed : FnOk P w K mg base CX0 2 T.d_closed.f T.d_closed.fd ["pairs"] (spOf K 1 m_closed)) (G_need_none : FnOk P w K mg base CX0 13 T.d_need_none.f T.d_need_none.fd ["pairs"] (spOf K 1 m_need_none)) (GX_need_none : FnOk P w K mg base (L2.CX P w) 13 T.d_need_none.f T.d_need_none.fd ["pairs"] (spX K (fun _ => T.c_Ring) 1 x_need_none)) : FnOk P w K mg base (L2.CX P w) 14 T.d_bare.f T.d_bare.fd ["pairs"] (spX K (fun _ => T.c_Ring) 1 x_bare) :=
  fn_valx (N := N_bare) T.d_bare.F sc_bare fun cdv A outer s H E hr => (by exact (sx_cons (by exact (sx_expr (by exact (ex_call (takes_of rfl rfl rfl rfl) T.d_need_none GX_need_none hr (by decide) (by rfl) (by exact (ea_cons (by exact (ev_var (pv 0))) (by exact ea_nil)))))))
    (by exact (sxs_nox (by exact (ss_cons (by exact (ss_end [0] (by exact (ss_set (i := 1) sc_bare.nd (by rfl) (by first | exact .inl rfl | exact .inr rfl) (ev_frz (by exact (ev_callD T.d_closed G_closed hr (by decide) (by rfl) (by exact (ea_cons (by exact (ev_var (pv 0))) (by exact ea_nil))))))))))
    (by exact (ss_cons (by exact (ss_set (i := 2) sc_bare.nd (by rfl) (by first | exact .inl rfl | exact .inr rfl) (by exact (ev_lst (by exact ea_nil)))))
    (by exact (ss_cons (by exact (ss_end [1] (by exact (ss_for PassesOwn.never (by rfl) (by exact (ei_seq (by exact (ev_var (pv 1))))) (by exact (eg_many (by rfl) (egs_cons (pg_name (i := 3) sc_bare.nd (by rfl) (by first | exact .inl rfl | exact .inr rfl)) (egs_cons (pg_name (i := 4) sc_bare.nd (by rfl) (by first | exact .inl rfl | exact .inr rfl)) egs_nil))))
    (by exact (ss_one (by exact (ss_end [3, 4] (by exact (ss_if (by exact (et_not (by exact (et_tru (by exact (eb_of (by exact (ev_lc (own:=[("third",5)]) (by rfl) sc_bare.nd (by exact (ej_seq (by exact (eb_of (by exact (ev_callD T.d_behind G_behind hr (by decide) (by rfl) (by exact (ea_cons (by exact (ev_var (pv 1))) (by exact (ea_cons (by exact (ev_var (pv 3))) (by exact ea_nil))))))))))) (blkOk_by (N := N_bare) (sc := defScope st_bare) (by decide +kernel)) (fun _ _ _ _ _ => (by exact (eg_one (pg_name (i := 5) sc_bare.nd (by rfl) (by first | exact .inl rfl | exact .inr rfl))))) (fun _ _ _ _ _ => (ets_one (by exact (et_cmp (ov_in (hu65 hr)) (by exact (eb_of (by exact (ev_tup (by exact (ea_cons (by exact (ev_var (pv 5))) (by exact (ea_cons (by exact (ev_var (pv 4))) (by exact ea_nil))))))))) (by exact (eb_var (pv 1))) (by with_unfolding_all rfl))))) (fun _ _ _ _ _ => (by exact (ev_var (pv 5)))))))) (fun _ => (by rfl))))))
    (by exact (ss_one (by exact (ss_end [3, 4] (by exact (ss_append (pv 2) (by exact (ev_tup (by exact (ea_cons (by exact (ev_var (pv 3))) (by exact (ea_cons (by exact (ev_var (pv 4))) (by exact ea_nil)))))))))))))
    (by exact ss_nil)))))))))))
    (by exact (ss_one (by exact (ss_ret (by exact (ev_callTy cv_tup (by rfl) T.z_tuple bt_tuple (by exact (ed_cons (by exact (eb_var (pv 2))) (by exact ed_nil)))))))))))))))))))
/-! ### orders_from -/
abbrev st_orders_from : Stmt := topS 10
abbrev N_orders_from : List Str := ["pairs", "left", "found", "one", "first", "later", "rest", "other"]
theorem sc_orders_from : FnScope N_orders_from ["pairs", "left"] (defScope st_orders_from) := ⟨rfl, rfl, rfl, by decide +kernel, rfl, by decide +kernel, by decide +kernel⟩
theorem ok_orders_from_ (T : Facts K mg)  : ∀ k, FnOk P w K mg base CX0 (k + 0) T.d_orders_from.f T.d_orders_from.fd ["pairs", "left"] (spOf K 2 (m_orders_from_ k))
  | 0 => fn_none
  | k + 1 => by
    have G := ok_orders_from_ T  k
    have h0 : k + 0 ≤ k + 0 := Nat.le_refl _
    show FnOk P w K mg base CX0 (k + 0 + 1) _ _ _ _
    exact fn_val (N := N_orders_from) T.d_orders_from.F sc_orders_from fun cdv A outer s H E hr => ((by exact (ss_cons (by exact (ss_if (by exact (et_not (by exact (et_tru (by exact (eb_var (pv 1))) (fun _ => (by rfl))))))
    (by exact (ss_one (by exact (ss_ret (by exact (ev_lst (by exact (ea_cons (by exact (ev_tup (by exact ea_nil))) (by exact ea_nil)))))))))
    (by exact ss_nil)))
    (by exact (ss_cons (by exact (ss_set (i := 2) sc_orders_from.nd (by rfl) (by first | exact .inl rfl | exact .inr rfl) (by exact (ev_lst (by exact ea_nil)))))
    (by exact (ss_cons (by exact (ss_end [0, 1] (by exact (ss_for PassesOwn.never (by rfl) (by exact (ei_seq (by exact (ev_var (pv 1))))) (by exact (eg_one (pg_name (i := 3) sc_orders_from.nd (by rfl) (by first | exact .inl rfl | exact .inr rfl))))
    (by exact (ss_one (by exact (ss_end [3] (by exact (ss_if (by exact (et_not (by exact (et_tru (by exact (eb_of (by exact (ev_lc (own:=[("first",4),("later",5)]) (by rfl) sc_orders_from.nd (by exact (ej_seq (by exact (eb_var (pv 0))))) (blkOk_by (N := N_orders_from) (sc := defScope st_orders_from) (by decide +kernel)) (fun _ _ _ _ _ => (by exact (eg_many (by rfl) (egs_cons (pg_name (i := 4) sc_orders_from.nd (by rfl) (by first | exact .inl rfl | exact .inr rfl)) (egs_cons (pg_name (i := 5) sc_orders_from.nd (by rfl) (by first | exact .inl rfl | exact .inr rfl)) egs_nil))))) (fun _ _ _ _ _ => (ets_one (by exact (et_w (ew_and (by exact (et_cmp (ov_eq (hu64 hr)) (by exact (eb_var (pv 5))) (by exact (eb_var (pv 3))) (nomark _))) (ew_and1 (by exact (et_cmp (ov_in (hu65 hr)) (by exact (eb_var (pv 4))) (by exact (eb_var (pv 1))) (by with_unfolding_all rfl))))))))) (fun _ _ _ _ _ => (by exact (ev_var (pv 4)))))))) (fun _ => (by rfl))))))
    (by exact (ss_one (by exact (ss_end [3] (by exact (ss_extend (pv 2) (by exact (ev_lc (own:=[("rest",6)]) (by rfl) sc_orders_from.nd (by exact (ej_seq (by exact (eb_of (by exact (ev_callD T.d_orders_from G hr h0 (by rfl) (by exact (ea_cons (by exact (ev_var (pv 0))) (by exact (ea_cons (by exact (ev_lc (own:=[("other",7)]) (by rfl) sc_orders_from.nd (by exact (ej_seq (by exact (eb_var (pv 1))))) (blkOk_by (N := N_orders_from) (sc := defScope st_orders_from) (by decide +kernel)) (fun _ _ _ _ _ => (by exact (eg_one (pg_name (i := 7) sc_orders_from.nd (by rfl) (by first | exact .inl rfl | exact .inr rfl))))) (fun _ _ _ _ _ => (ets_one (by exact (et_cmp (ov_ne (hu64 hr)) (by exact (eb_var (pv 7))) (by exact (eb_var (pv 3))) (nomark _))))) (fun _ _ _ _ _ => (by exact (ev_var (pv 7)))))) (by exact ea_nil))))))))))) (blkOk_by (N := N_orders_from) (sc := defScope st_orders_from) (by decide +kernel)) (fun _ _ _ _ _ => (by exact (eg_one (pg_name (i := 6) sc_orders_from.nd (by rfl) (by first | exact .inl rfl | exact .inr rfl))))) (fun _ _ _ _ _ => ets_nil) (fun _ _ _ _ _ => (by exact (ev_bin ov_add (by exact (eb_of (by exact (ev_tup (by exact (ea_cons (by exact (ev_var (pv 3))) (by exact ea_nil))))))) (by exact (eb_var (pv 6))))))))))))))
    (by exact ss_nil)))))))))))
    (by exact (ss_one (by exact (ss_retO (pv 2))))))))))))
theorem ok_orders_from (T : Facts K mg)  : FnOk P w K mg base CX0 10 T.d_orders_from.f T.d_orders_from.fd ["pairs", "left"] (spOf K 2 m_orders_from) := ok_orders_from_ T  10
/-! ### orders -/
abbrev st_orders : Stmt := topS 11
abbrev N_orders : List Str := ["pairs", "many"]
theorem sc_orders : FnScope N_orders ["pairs", "many"] (defScope st_orders) := ⟨rfl, rfl, rfl, by decide +kernel, rfl, by decide +kernel, by decide +kernel⟩
theorem ok_orders (T : Facts K mg) (G_need_none : FnOk P w K mg base CX0 13 T.d_need_none.f T.d_need_none.fd ["pairs"] (spOf K 1 m_need_none)) (G_orders_from : FnOk P w K mg base CX0 10 T.d_orders_from.f T.d_orders_from.fd ["pairs", "left"] (spOf K 2 m_orders_from)) : FnOk P w K mg base CX0 14 T.d_orders.f T.d_orders.fd ["pairs", "many"] (spOf K 2 m_orders) :=
  fn_val (N := N_orders) T.d_orders.F sc_orders fun cdv A outer s H E hr => (by exact (ss_cons (by exact (ss_expr (by exact (ev_callD T.d_need_none G_need_none hr (by decide) (by rfl) (by exact (ea_cons (by exact (ev_var (pv 0))) (by exact ea_nil)))))))
    (by exact (ss_one (by exact (ss_ret (by exact (ev_callTy cv_tup (by rfl) T.z_tuple bt_tuple (by exact (ed_cons (by exact (eb_of (by exact (ev_callD T.d_orders_from G_orders_from hr (by decide) (by rfl) (by exact (ea_cons (by exact (ev_var (pv 0))) (by exact (ea_cons (by exact (ev_listRg1 (by rfl) (by rfl) T.z_list (by rfl) T.z_range (by exact (eb_var (pv 1))))) (by exact ea_nil))))))))) (by exact ed_nil)))))))))))
theorem okx_orders (T : Facts K mg) (G_need_none : FnOk P w K mg base CX0 13 T.d_need_none.f T.d_need_none.fd ["pairs"] (spOf K 1 m_need_none)) (G_orders_from : FnOk P w K mg base CX0 10 T.d_orders_from.f T.d_orders_from.fd ["pairs", "left"] (spOf K 2 m_orders_from)) (GX_need_none : FnOk P w K mg base (L2.CX P w) 13 T.d_need_none.f T.d_need_none.fd ["pairs"] (spX K (fun _ => T.c_Ring) 1 x_need_none)) : FnOk P w K mg base (L2.CX P w) 14 T.d_orders.f T.d_orders.fd ["pairs", "many"] (spX K (fun _ => T.c_Ring) 2 x_orders) :=
  fn_valx (N := N_orders) T.d_orders.F sc_orders fun cdv A outer s H E hr => (by exact (sx_cons (by exact (sx_expr (by exact (ex_call (takes_of rfl rfl rfl rfl) T.d_need_none GX_need_none hr (by decide) (by rfl) (by exact (ea_cons (by exact (ev_var (pv 0))) (by exact ea_nil)))))))
    (by exact (sxs_nox (by exact (ss_one (by exact (ss_ret (by exact (ev_callTy cv_tup (by rfl) T.z_tuple bt_tuple (by exact (ed_cons (by exact (eb_of (by exact (ev_callD T.d_orders_from G_orders_from hr (by decide) (by rfl) (by exact (ea_cons (by exact (ev_var (pv 0))) (by exact (ea_cons (by exact (ev_listRg1 (by rfl) (by rfl) T.z_list (by rfl) T.z_range (by exact (eb_var (pv 1))))) (by exact ea_nil))))))))) (by exact ed_nil)))))))))))))
/-! ### least_order -/
abbrev st_least_order : Stmt := topS 12
abbrev N_least_order : List Str := ["pairs", "many", "found", "left", "one", "first", "later", "other"]
theorem sc_least_order : FnScope N_least_order ["pairs", "many"] (defScope st_least_order) := ⟨rfl, rfl, rfl, by decide +kernel, rfl, by decide +kernel, by decide +kernel⟩
theorem ok_least_order (T : Facts K mg) (G_need_none : FnOk P w K mg base CX0 13 T.d_need_none.f T.d_need_none.fd ["pairs"] (spOf K 1 m_need_none)) : FnOk P w K mg base CX0 14 T.d_least_order.f T.d_least_order.fd ["pairs", "many"] (spOf K 2 m_least_order) :=
  fn_val (N := N_least_order) T.d_least_order.F sc_least_order fun cdv A outer s H E hr => (by exact (ss_cons (by exact (ss_expr (by exact (ev_callD T.d_need_none G_need_none hr (by decide) (by rfl) (by exact (ea_cons (by exact (ev_var (pv 0))) (by exact ea_nil)))))))
    (by exact (ss_cons (by exact (ss_set (i := 2) sc_least_order.nd (by rfl) (by first | exact .inl rfl | exact .inr rfl) (by exact (ev_tup (by exact ea_nil)))))
    (by exact (ss_cons (by exact (ss_end [1] (by exact (ss_set (i := 3) sc_least_order.nd (by rfl) (by first | exact .inl rfl | exact .inr rfl) (ev_frz (by exact (ev_listRg1 (by rfl) (by rfl) T.z_list (by rfl) T.z_range (by exact (eb_var (pv 1))))))))))
    (by exact (ss_cons (by exact (ss_end [0, 3] (by exact (ss_while 100000 PassesOwn.never (by exact (et_tru (by exact (eb_var (pv 3))) (fun _ => (by rfl)))) (by exact (ss_one (by exact (ss_for PassesOwn.never (by rfl) (by exact (ei_seq (by exact (ev_var (pv 3))))) (by exact (eg_one (pg_name (i := 4) sc_least_order.nd (by rfl) (by first | exact .inl rfl | exact .inr rfl))))
    (by exact (ss_one (by exact (ss_end [4] (by exact (ss_if (by exact (et_not (by exact (et_tru (by exact (eb_of (by exact (ev_lc (own:=[("first",5),("later",6)]) (by rfl) sc_least_order.nd (by exact (ej_seq (by exact (eb_var (pv 0))))) (blkOk_by (N := N_least_order) (sc := defScope st_least_order) (by decide +kernel)) (fun _ _ _ _ _ => (by exact (eg_many (by rfl) (egs_cons (pg_name (i := 5) sc_least_order.nd (by rfl) (by first | exact .inl rfl | exact .inr rfl)) (egs_cons (pg_name (i := 6) sc_least_order.nd (by rfl) (by first | exact .inl rfl | exact .inr rfl)) egs_nil))))) (fun _ _ _ _ _ => (ets_one (by exact (et_w (ew_and (by exact (et_cmp (ov_eq (hu64 hr)) (by exact (eb_var (pv 6))) (by exact (eb_var (pv 4))) (nomark _))) (ew_and1 (by exact (et_cmp (ov_in (hu65 hr)) (by exact (eb_var (pv 5))) (by exact (eb_var (pv 3))) (by with_unfolding_all rfl))))))))) (fun _ _ _ _ _ => (by exact (ev_var (pv 5)))))))) (fun _ => (by rfl))))))
    (by exact (ss_cons (by exact (ss_set (i := 2) sc_least_order.nd (by rfl) (by first | exact .inl rfl | exact .inr rfl) (ev_frz (by exact (ev_bin ov_add (by exact (eb_var (pv 2))) (by exact (eb_of (by exact (ev_tup (by exact (ea_cons (by exact (ev_var (pv 4))) (by exact ea_nil))))))))))))
    (by exact (ss_cons (by exact (ss_end [4] (by exact (ss_set (i := 3) sc_least_order.nd (by rfl) (by first | exact .inl rfl | exact .inr rfl) (ev_frz (by exact (ev_lc (own:=[("other",7)]) (by rfl) sc_least_order.nd (by exact (ej_seq (by exact (eb_var (pv 3))))) (blkOk_by (N := N_least_order) (sc := defScope st_least_order) (by decide +kernel)) (fun _ _ _ _ _ => (by exact (eg_one (pg_name (i := 7) sc_least_order.nd (by rfl) (by first | exact .inl rfl | exact .inr rfl))))) (fun _ _ _ _ _ => (ets_one (by exact (et_cmp (ov_ne (hu64 hr)) (by exact (eb_var (pv 7))) (by exact (eb_var (pv 4))) (nomark _))))) (fun _ _ _ _ _ => (by exact (ev_var (pv 7)))))))))))
    (by exact (ss_one (by exact ss_break)))))))
    (by exact ss_nil)))))))))))))))
    (by exact (ss_one (by exact (ss_ret (by exact (ev_var (pv 2)))))))))))))))
theorem okx_least_order (T : Facts K mg) (G_need_none : FnOk P w K mg base CX0 13 T.d_need_none.f T.d_need_none.fd ["pairs"] (spOf K 1 m_need_none)) (GX_need_none : FnOk P w K mg base (L2.CX P w) 13 T.d_need_none.f T.d_need_none.fd ["pairs"] (spX K (fun _ => T.c_Ring) 1 x_need_none)) : FnOk P w K mg base (L2.CX P w) 14 T.d_least_order.f T.d_least_order.fd ["pairs", "many"] (spX K (fun _ => T.c_Ring) 2 x_least_order) :=
  fn_valx (N := N_least_order) T.d_least_order.F sc_least_order fun cdv A outer s H E hr => (by exact (sx_cons (by exact (sx_expr (by exact (ex_call (takes_of rfl rfl rfl rfl) T.d_need_none GX_need_none hr (by decide) (by rfl) (by exact (ea_cons (by exact (ev_var (pv 0))) (by exact ea_nil)))))))
    (by exact (sxs_nox (by exact (ss_cons (by exact (ss_set (i := 2) sc_least_order.nd (by rfl) (by first | exact .inl rfl | exact .inr rfl) (by exact (ev_tup (by exact ea_nil)))))
    (by exact (ss_cons (by exact (ss_end [1] (by exact (ss_set (i := 3) sc_least_order.nd (by rfl) (by first | exact .inl rfl | exact .inr rfl) (ev_frz (by exact (ev_listRg1 (by rfl) (by rfl) T.z_list (by rfl) T.z_range (by exact (eb_var (pv 1))))))))))
    (by exact (ss_cons (by exact (ss_end [0, 3] (by exact (ss_while 100000 PassesOwn.never (by exact (et_tru (by exact (eb_var (pv 3))) (fun _ => (by rfl)))) (by exact (ss_one (by exact (ss_for PassesOwn.never (by rfl) (by exact (ei_seq (by exact (ev_var (pv 3))))) (by exact (eg_one (pg_name (i := 4) sc_least_order.nd (by rfl) (by first | exact .inl rfl | exact .inr rfl))))
    (by exact (ss_one (by exact (ss_end [4] (by exact (ss_if (by exact (et_not (by exact (et_tru (by exact (eb_of (by exact (ev_lc (own:=[("first",5),("later",6)]) (by rfl) sc_least_order.nd (by exact (ej_seq (by exact (eb_var (pv 0))))) (blkOk_by (N := N_least_order) (sc := defScope st_least_order) (by decide +kernel)) (fun _ _ _ _ _ => (by exact (eg_many (by rfl) (egs_cons (pg_name (i := 5) sc_least_order.nd (by rfl) (by first | exact .inl rfl | exact .inr rfl)) (egs_cons (pg_name (i := 6) sc_least_order.nd (by rfl) (by first | exact .inl rfl | exact .inr rfl)) egs_nil))))) (fun _ _ _ _ _ => (ets_one (by exact (et_w (ew_and (by exact (et_cmp (ov_eq (hu64 hr)) (by exact (eb_var (pv 6))) (by exact (eb_var (pv 4))) (nomark _))) (ew_and1 (by exact (et_cmp (ov_in (hu65 hr)) (by exact (eb_var (pv 5))) (by exact (eb_var (pv 3))) (by with_unfolding_all rfl))))))))) (fun _ _ _ _ _ => (by exact (ev_var (pv 5)))))))) (fun _ => (by rfl))))))
    (by exact (ss_cons (by exact (ss_set (i := 2) sc_least_order.nd (by rfl) (by first | exact .inl rfl | exact .inr rfl) (ev_frz (by exact (ev_bin ov_add (by exact (eb_var (pv 2))) (by exact (eb_of (by exact (ev_tup (by exact (ea_cons (by exact (ev_var (pv 4))) (by exact ea_nil))))))))))))
    (by exact (ss_cons (by exact (ss_end [4] (by exact (ss_set (i := 3) sc_least_order.nd (by rfl) (by first | exact .inl rfl | exact .inr rfl) (ev_frz (by exact (ev_lc (own:=[("other",7)]) (by rfl) sc_least_order.nd (by exact (ej_seq (by exact (eb_var (pv 3))))) (blkOk_by (N := N_least_order) (sc := defScope st_least_order) (by decide +kernel)) (fun _ _ _ _ _ => (by exact (eg_one (pg_name (i := 7) sc_least_order.nd (by rfl) (by first | exact .inl rfl | exact .inr rfl))))) (fun _ _ _ _ _ => (ets_one (by exact (et_cmp (ov_ne (hu64 hr)) (by exact (eb_var (pv 7))) (by exact (eb_var (pv 4))) (nomark _))))) (fun _ _ _ _ _ => (by exact (ev_var (pv 7)))))))))))
    (by exact (ss_one (by exact ss_break)))))))
    (by exact ss_nil)))))))))))))))
    (by exact (ss_one (by exact (ss_ret (by exact (ev_var (pv 2)))))))))))))))))
/-! ### levels -/
abbrev st_levels : Stmt := topS 13
abbrev N_levels : List Str := ["pairs", "many", "found", "one", "first", "later"]
theorem sc_levels : FnScope N_levels ["pairs", "many"] (defScope st_levels) := ⟨rfl, rfl, rfl, by decide +kernel, rfl, by decide +kernel, by decide +kernel⟩
theorem ok_levels (T : Facts K mg) (G_need_none : FnOk P w K mg base CX0 13 T.d_need_none.f T.d_need_none.fd ["pairs"] (spOf K 1 m_need_none)) (G_least_order : FnOk P w K mg base CX0 14 T.d_least_order.f T.d_least_order.fd ["pairs", "many"] (spOf K 2 m_least_order)) : FnOk P w K mg base CX0 15 T.d_levels.f T.d_levels.fd ["pairs", "many"] (spOf K 2 m_levels) :=
  fn_val (N := N_levels) T.d_levels.F sc_levels fun cdv A outer s H E hr => (by exact (ss_cons (by exact (ss_expr (by exact (ev_callD T.d_need_none G_need_none hr (by decide) (by rfl) (by exact (ea_cons (by exact (ev_var (pv 0))) (by exact ea_nil)))))))
    (by exact (ss_cons (by exact (ss_set (i := 2) sc_levels.nd (by rfl) (by first | exact .inl rfl | exact .inr rfl) ev_dicK))
    (by exact (ss_cons (by exact (ss_end [0] (by exact (ss_for PassesOwn.never (by rfl) (by exact (ei_seq (by exact (ev_callD T.d_least_order G_least_order hr (by decide) (by rfl) (by exact (ea_cons (by exact (ev_var (pv 0))) (by exact (ea_cons (by exact (ev_var (pv 1))) (by exact ea_nil))))))))) (by exact (eg_one (pg_name (i := 3) sc_levels.nd (by rfl) (by first | exact .inl rfl | exact .inr rfl))))
    (by exact (ss_one (by exact (ss_end [3] (by exact (ss_put (hu1 hr) (pv 2) (by exact (eb_var (pv 3))) (by exact (ev_callB (cv_max1 (by rfl) (hu65 hr)) (by rfl) T.z_max bt_max (by exact (ed_cons (by exact (eb_of (by exact (ev_bin ov_add (by exact (eb_of (by exact (ev_lst (by exact (ea_cons (by exact ev_int) (by exact ea_nil))))))) (by exact (eb_of (by exact (ev_lc (own:=[("first",4),("later",5)]) (by rfl) sc_levels.nd (by exact (ej_seq (by exact (eb_var (pv 0))))) (blkOk_by (N := N_levels) (sc := defScope st_levels) (by decide +kernel)) (fun _ _ _ _ _ => (by exact (eg_many (by rfl) (egs_cons (pg_name (i := 4) sc_levels.nd (by rfl) (by first | exact .inl rfl | exact .inr rfl)) (egs_cons (pg_name (i := 5) sc_levels.nd (by rfl) (by first | exact .inl rfl | exact .inr rfl)) egs_nil))))) (fun _ _ _ _ _ => (ets_one (by exact (et_cmp (ov_eq (hu64 hr)) (by exact (eb_var (pv 5))) (by exact (eb_var (pv 3))) (nomark _))))) (fun _ _ _ _ _ => (by exact (ev_bin ov_add (by exact (eb_of (by exact (ev_ixD (hu1 hr) (by exact (eb_var (pv 2))) (by exact (eb_var (pv 4))) (fun _ _ => by rfl))))) (by exact (eb_of (by exact ev_int)))))))))))))) (by exact ed_nil))))) (fun _ => (by rfl))))))))))))
    (by exact (ss_one (by exact (ss_ret (by exact (ev_callTy cv_tup (by rfl) T.z_tuple bt_tuple (by exact (ed_cons (by exact (eb_of (by exact (ev_lc (own:=[("one",3)]) (by rfl) sc_levels.nd (by exact (ej_of (ei_range1 (by rfl) T.z_range (by exact (eb_var (pv 1)))))) (blkOk_by (N := N_levels) (sc := defScope st_levels) (by decide +kernel)) (fun _ _ _ _ _ => (by exact (eg_one (pg_name (i := 3) sc_levels.nd (by rfl) (by first | exact .inl rfl | exact .inr rfl))))) (fun _ _ _ _ _ => ets_nil) (fun _ _ _ _ _ => (by exact (ev_ixD (hu1 hr) (by exact (eb_var (pv 2))) (by exact (eb_var (pv 3))) (fun _ _ => by rfl)))))))) (by exact ed_nil)))))))))))))))
theorem okx_levels (T : Facts K mg) (G_need_none : FnOk P w K mg base CX0 13 T.d_need_none.f T.d_need_none.fd ["pairs"] (spOf K 1 m_need_none)) (G_least_order : FnOk P w K mg base CX0 14 T.d_least_order.f T.d_least_order.fd ["pairs", "many"] (spOf K 2 m_least_order)) (GX_need_none : FnOk P w K mg base (L2.CX P w) 13 T.d_need_none.f T.d_need_none.fd ["pairs"] (spX K (fun _ => T.c_Ring) 1 x_need_none)) : FnOk P w K mg base (L2.CX P w) 15 T.d_levels.f T.d_levels.fd ["pairs", "many"] (spX K (fun _ => T.c_Ring) 2 x_levels) :=
  fn_valx (N := N_levels) T.d_levels.F sc_levels fun cdv A outer s H E hr => (by exact (sx_cons (by exact (sx_expr (by exact (ex_call (takes_of rfl rfl rfl rfl) T.d_need_none GX_need_none hr (by decide) (by rfl) (by exact (ea_cons (by exact (ev_var (pv 0))) (by exact ea_nil)))))))
    (by exact (sxs_nox (by exact (ss_cons (by exact (ss_set (i := 2) sc_levels.nd (by rfl) (by first | exact .inl rfl | exact .inr rfl) ev_dicK))
    (by exact (ss_cons (by exact (ss_end [0] (by exact (ss_for PassesOwn.never (by rfl) (by exact (ei_seq (by exact (ev_callD T.d_least_order G_least_order hr (by decide) (by rfl) (by exact (ea_cons (by exact (ev_var (pv 0))) (by exact (ea_cons (by exact (ev_var (pv 1))) (by exact ea_nil))))))))) (by exact (eg_one (pg_name (i := 3) sc_levels.nd (by rfl) (by first | exact .inl rfl | exact .inr rfl))))
    (by exact (ss_one (by exact (ss_end [3] (by exact (ss_put (hu1 hr) (pv 2) (by exact (eb_var (pv 3))) (by exact (ev_callB (cv_max1 (by rfl) (hu65 hr)) (by rfl) T.z_max bt_max (by exact (ed_cons (by exact (eb_of (by exact (ev_bin ov_add (by exact (eb_of (by exact (ev_lst (by exact (ea_cons (by exact ev_int) (by exact ea_nil))))))) (by exact (eb_of (by exact (ev_lc (own:=[("first",4),("later",5)]) (by rfl) sc_levels.nd (by exact (ej_seq (by exact (eb_var (pv 0))))) (blkOk_by (N := N_levels) (sc := defScope st_levels) (by decide +kernel)) (fun _ _ _ _ _ => (by exact (eg_many (by rfl) (egs_cons (pg_name (i := 4) sc_levels.nd (by rfl) (by first | exact .inl rfl | exact .inr rfl)) (egs_cons (pg_name (i := 5) sc_levels.nd (by rfl) (by first | exact .inl rfl | exact .inr rfl)) egs_nil))))) (fun _ _ _ _ _ => (ets_one (by exact (et_cmp (ov_eq (hu64 hr)) (by exact (eb_var (pv 5))) (by exact (eb_var (pv 3))) (nomark _))))) (fun _ _ _ _ _ => (by exact (ev_bin ov_add (by exact (eb_of (by exact (ev_ixD (hu1 hr) (by exact (eb_var (pv 2))) (by exact (eb_var (pv 4))) (fun _ _ => by rfl))))) (by exact (eb_of (by exact ev_int)))))))))))))) (by exact ed_nil))))) (fun _ => (by rfl))))))))))))
    (by exact (ss_one (by exact (ss_ret (by exact (ev_callTy cv_tup (by rfl) T.z_tuple bt_tuple (by exact (ed_cons (by exact (eb_of (by exact (ev_lc (own:=[("one",3)]) (by rfl) sc_levels.nd (by exact (ej_of (ei_range1 (by rfl) T.z_range (by exact (eb_var (pv 1)))))) (blkOk_by (N := N_levels) (sc := defScope st_levels) (by decide +kernel)) (fun _ _ _ _ _ => (by exact (eg_one (pg_name (i := 3) sc_levels.nd (by rfl) (by first | exact .inl rfl | exact .inr rfl))))) (fun _ _ _ _ _ => ets_nil) (fun _ _ _ _ _ => (by exact (ev_ixD (hu1 hr) (by exact (eb_var (pv 2))) (by exact (eb_var (pv 3))) (fun _ _ => by rfl)))))))) (by exact ed_nil)))))))))))))))))
/-! ### _law_refused -/
abbrev st__law_refused : Stmt := topS 25
abbrev N__law_refused : List Str := ["_law_pairs_here", "_law_many", "_law_got", "_law_word"]
theorem sc__law_refused : FnScope N__law_refused ["_law_pairs_here", "_law_many"] (defScope st__law_refused) := ⟨rfl, rfl, rfl, by decide +kernel, rfl, by decide +kernel, by decide +kernel⟩
theorem ok__law_refused (T : Facts K mg) (G_bare : FnOk P w K mg base CX0 14 T.d_bare.f T.d_bare.fd ["pairs"] (spOf K 1 m_bare)) (G_orders : FnOk P w K mg base CX0 14 T.d_orders.f T.d_orders.fd ["pairs", "many"] (spOf K 2 m_orders)) (G_least_order : FnOk P w K mg base CX0 14 T.d_least_order.f T.d_least_order.fd ["pairs", "many"] (spOf K 2 m_least_order)) (G_levels : FnOk P w K mg base CX0 15 T.d_levels.f T.d_levels.fd ["pairs", "many"] (spOf K 2 m_levels)) (GX_bare : FnOk P w K mg base (L2.CX P w) 14 T.d_bare.f T.d_bare.fd ["pairs"] (spX K (fun _ => T.c_Ring) 1 x_bare)) (GX_orders : FnOk P w K mg base (L2.CX P w) 14 T.d_orders.f T.d_orders.fd ["pairs", "many"] (spX K (fun _ => T.c_Ring) 2 x_orders)) (GX_least_order : FnOk P w K mg base (L2.CX P w) 14 T.d_least_order.f T.d_least_order.fd ["pairs", "many"] (spX K (fun _ => T.c_Ring) 2 x_least_order)) (GX_levels : FnOk P w K mg base (L2.CX P w) 15 T.d_levels.f T.d_levels.fd ["pairs", "many"] (spX K (fun _ => T.c_Ring) 2 x_levels)) : FnOk P w K mg base CX0 16 T.d__law_refused.f T.d__law_refused.fd ["_law_pairs_here", "_law_many"] (spOf K 2 m__law_refused) :=
  fn_val (N := N__law_refused) T.d__law_refused.F sc__law_refused fun cdv A outer s H E hr => (by exact (ss_cons (by exact (ss_set (i := 2) sc__law_refused.nd (by rfl) (by first | exact .inl rfl | exact .inr rfl) (by exact ev_int)))
    (by exact (ss_cons (by exact (ss_end [0, 1] (by exact (ss_for PassesOwn.never (by rfl) (by exact (ei_seq (by exact (ev_tup (by exact (ea_cons (by exact ev_str) (by exact (ea_cons (by exact ev_str) (by exact (ea_cons (by exact ev_str) (by exact (ea_cons (by exact ev_str) (by exact ea_nil))))))))))))) (by exact (eg_one (pg_name (i := 3) sc__law_refused.nd (by rfl) (by first | exact .inl rfl | exact .inr rfl))))
    (by exact (ss_one (by exact (by exact (ss_try (cls := fun _ => T.c_Ring) (fun _ => T.e_Ring) rfl rfl ⟨rfl, by decide, .inl T.g_Ring⟩ (fun V pn xe tk => (by exact (sx_one (by exact (sx_if (by exact (et_cmp (ov_eq (hu64 hr)) (by exact (eb_var (pv 3))) (by exact (eb_of (by exact ev_str))) (nomark _)))
    (by exact (sx_one (by exact (sx_end [3] (by exact (sx_expr (by exact (ex_call tk T.d_bare GX_bare hr (by decide) (by rfl) (by exact (ea_cons (by exact (ev_var (pv 0))) (by exact ea_nil)))))))))))
    (by exact (sx_one (by exact (sx_if (by exact (et_cmp (ov_eq (hu64 hr)) (by exact (eb_var (pv 3))) (by exact (eb_of (by exact ev_str))) (nomark _)))
    (by exact (sx_one (by exact (sx_end [3] (by exact (sx_expr (by exact (ex_call tk T.d_orders GX_orders hr (by decide) (by rfl) (by exact (ea_cons (by exact (ev_var (pv 0))) (by exact (ea_cons (by exact (ev_var (pv 1))) (by exact ea_nil)))))))))))))
    (by exact (sx_one (by exact (sx_if (by exact (et_cmp (ov_eq (hu64 hr)) (by exact (eb_var (pv 3))) (by exact (eb_of (by exact ev_str))) (nomark _)))
    (by exact (sx_one (by exact (sx_end [3] (by exact (sx_expr (by exact (ex_call tk T.d_least_order GX_least_order hr (by decide) (by rfl) (by exact (ea_cons (by exact (ev_var (pv 0))) (by exact (ea_cons (by exact (ev_var (pv 1))) (by exact ea_nil)))))))))))))
    (by exact (sx_one (by exact (sx_end [3] (by exact (sx_expr (by exact (ex_call tk T.d_levels GX_levels hr (by decide) (by rfl) (by exact (ea_cons (by exact (ev_var (pv 0))) (by exact (ea_cons (by exact (ev_var (pv 1))) (by exact ea_nil))))))))))))))))))))))))))
    (fun a oe pn => (by exact (ss_one (by exact (ss_end [3] (by exact (ss_set (i := 2) sc__law_refused.nd (by rfl) (by first | exact .inl rfl | exact .inr rfl) (ev_frz (by exact (ev_bin ov_add (by exact (eb_var (pv 2))) (by exact (eb_of (by exact ev_int))))))))))))))))))))))
    (by exact (ss_one (by exact (ss_ret (by exact (ev_var (pv 2)))))))))))
/-! ### free_pairs -/
abbrev st_free_pairs : Stmt := topS 14
abbrev N_free_pairs : List Str := ["pairs", "many", "every", "found", "one", "other"]
theorem sc_free_pairs : FnScope N_free_pairs ["pairs", "many"] (defScope st_free_pairs) := ⟨rfl, rfl, rfl, by decide +kernel, rfl, by decide +kernel, by decide +kernel⟩
theorem ok_free_pairs (T : Facts K mg) (G_closed : FnOk P w K mg base CX0 2 T.d_closed.f T.d_closed.fd ["pairs"] (spOf K 1 m_closed)) : FnOk P w K mg base CX0 3 T.d_free_pairs.f T.d_free_pairs.fd ["pairs", "many"] (spOf K 2 m_free_pairs) :=
  fn_val (N := N_free_pairs) T.d_free_pairs.F sc_free_pairs fun cdv A outer s H E hr => (by exact (ss_cons (by exact (ss_end [0] (by exact (ss_set (i := 2) sc_free_pairs.nd (by rfl) (by first | exact .inl rfl | exact .inr rfl) (ev_frz (by exact (ev_callD T.d_closed G_closed hr (by decide) (by rfl) (by exact (ea_cons (by exact (ev_var (pv 0))) (by exact ea_nil))))))))))
    (by exact (ss_cons (by exact (ss_set (i := 3) sc_free_pairs.nd (by rfl) (by first | exact .inl rfl | exact .inr rfl) (by exact (ev_lst (by exact ea_nil)))))
    (by exact (ss_cons (by exact (ss_end [1, 2] (by exact (ss_for PassesOwn.never (by rfl) (by exact (ei_range1 (by rfl) T.z_range (by exact (eb_var (pv 1))))) (by exact (eg_one (pg_name (i := 4) sc_free_pairs.nd (by rfl) (by first | exact .inl rfl | exact .inr rfl))))
    (by exact (ss_one (by exact (ss_end [4] (by exact (ss_for PassesOwn.never (by rfl) (by exact (ei_range2 (by rfl) T.z_range (by exact (eb_of (by exact (ev_bin ov_add (by exact (eb_var (pv 4))) (by exact (eb_of (by exact ev_int))))))) (by exact (eb_var (pv 1))))) (by exact (eg_one (pg_name (i := 5) sc_free_pairs.nd (by rfl) (by first | exact .inl rfl | exact .inr rfl))))
    (by exact (ss_one (by exact (ss_end [5] (by exact (ss_if (by exact (et_w (ew_and (by exact (et_cmp (ov_notIn (hu65 hr)) (by exact (eb_of (by exact (ev_tup (by exact (ea_cons (by exact (ev_var (pv 4))) (by exact (ea_cons (by exact (ev_var (pv 5))) (by exact ea_nil))))))))) (by exact (eb_var (pv 2))) (by with_unfolding_all rfl))) (ew_and1 (by exact (et_cmp (ov_notIn (hu65 hr)) (by exact (eb_of (by exact (ev_tup (by exact (ea_cons (by exact (ev_var (pv 5))) (by exact (ea_cons (by exact (ev_var (pv 4))) (by exact ea_nil))))))))) (by exact (eb_var (pv 2))) (by with_unfolding_all rfl)))))))
    (by exact (ss_one (by exact (ss_end [5] (by exact (ss_append (pv 3) (by exact (ev_tup (by exact (ea_cons (by exact (ev_var (pv 4))) (by exact (ea_cons (by exact (ev_var (pv 5))) (by exact ea_nil)))))))))))))
    (by exact ss_nil)))))))))))))))))
    (by exact (ss_one (by exact (ss_ret (by exact (ev_callTy cv_tup (by rfl) T.z_tuple bt_tuple (by exact (ed_cons (by exact (eb_var (pv 3))) (by exact ed_nil)))))))))))))))
/-! ### _law_orders_hold -/
abbrev st__law_orders_hold : Stmt := topS 26
abbrev N__law_orders_hold : List Str := ["_law_pairs_here", "_law_many", "_law_some", "_law_few", "_law_high", "_law_one", "_law_wrong", "_law_first", "_law_last", "_law_pair", "_law_at", "_law_number", "_law_other", "_law_order"]
theorem sc__law_orders_hold : FnScope N__law_orders_hold ["_law_pairs_here", "_law_many"] (defScope st__law_orders_hold) := ⟨rfl, rfl, rfl, by decide +kernel, rfl, by decide +kernel, by decide +kernel⟩
theorem ok__law_orders_hold (T : Facts K mg) (G_closed : FnOk P w K mg base CX0 2 T.d_closed.f T.d_closed.fd ["pairs"] (spOf K 1 m_closed)) (G_bare : FnOk P w K mg base CX0 14 T.d_bare.f T.d_bare.fd ["pairs"] (spOf K 1 m_bare)) (G_orders : FnOk P w K mg base CX0 14 T.d_orders.f T.d_orders.fd ["pairs", "many"] (spOf K 2 m_orders)) (G_least_order : FnOk P w K mg base CX0 14 T.d_least_order.f T.d_least_order.fd ["pairs", "many"] (spOf K 2 m_least_order)) (G_levels : FnOk P w K mg base CX0 15 T.d_levels.f T.d_levels.fd ["pairs", "many"] (spOf K 2 m_levels)) (G_free_pairs : FnOk P w K mg base CX0 3 T.d_free_pairs.f T.d_free_pairs.fd ["pairs", "many"] (spOf K 2 m_free_pairs)) : FnOk P w K mg base CX0 16 T.d__law_orders_hold.f T.d__law_orders_hold.fd ["_law_pairs_here", "_law_many"] (spOf K 2 m__law_orders_hold) :=
  fn_val (N := N__law_orders_hold) T.d__law_orders_hold.F sc__law_orders_hold fun cdv A outer s H E hr => (by exact (ss_cons (by exact (ss_asg (by exact (ev_tup (by exact (ea_cons (by exact (ev_callD T.d_orders G_orders hr (by decide) (by rfl) (by exact (ea_cons (by exact (ev_var (pv 0))) (by exact (ea_cons (by exact (ev_var (pv 1))) (by exact ea_nil))))))) (by exact (ea_cons (by exact (ev_callD T.d_bare G_bare hr (by decide) (by rfl) (by exact (ea_cons (by exact (ev_var (pv 0))) (by exact ea_nil))))) (by exact (ea_cons (by exact (ev_callD T.d_levels G_levels hr (by decide) (by rfl) (by exact (ea_cons (by exact (ev_var (pv 0))) (by exact (ea_cons (by exact (ev_var (pv 1))) (by exact ea_nil))))))) (by exact ea_nil))))))))) (by exact (eg_many (by rfl) (egs_cons (pg_name (i := 2) sc__law_orders_hold.nd (by rfl) (by first | exact .inl rfl | exact .inr rfl)) (egs_cons (pg_name (i := 3) sc__law_orders_hold.nd (by rfl) (by first | exact .inl rfl | exact .inr rfl)) (egs_cons (pg_name (i := 4) sc__law_orders_hold.nd (by rfl) (by first | exact .inl rfl | exact .inr rfl)) egs_nil)))))))
    (by exact (ss_cons (by exact (ss_if (by exact (et_w (ew_or (by exact (et_cmp (ov_ne (hu64 hr)) (by exact (eb_of (by exact (ev_callTy cv_list (by rfl) T.z_list bt_list (by exact (ed_cons (by exact (eb_var (pv 2))) (by exact ed_nil))))))) (by exact (eb_of (by exact (ev_alt (ev_sortDict (by rfl) (by rfl) T.z_sorted (by rfl) T.z_dict (by exact (ed_cons (by exact (eb_of (by exact (ev_lc (own:=[("_law_one",5)]) (by rfl) sc__law_orders_hold.nd (by exact (ej_seq (by exact (eb_var (pv 2))))) (blkOk_by (N := N__law_orders_hold) (sc := defScope st__law_orders_hold) (by decide +kernel)) (fun _ _ _ _ _ => (by exact (eg_one (pg_name (i := 5) sc__law_orders_hold.nd (by rfl) (by first | exact .inl rfl | exact .inr rfl))))) (fun _ _ _ _ _ => ets_nil) (fun _ _ _ _ _ => (by exact (ev_tup (by exact (ea_cons (by exact (ev_var (pv 5))) (by exact (ea_cons (by exact ev_int) (by exact ea_nil)))))))))))) (by exact ed_nil))) bt_sorted bt_dict) (ev_callB (cv_sortedD (by rfl) (hu100 hr)) (by rfl) T.z_sorted bt_sorted (by exact (ed_cons (by exact (eb_of (by exact (ev_callTy (cv_dictT (by rfl) (hu2 hr)) (by rfl) T.z_dict bt_dict (by exact (ed_cons (by exact (eb_of (by exact (ev_lc (own:=[("_law_one",5)]) (by rfl) sc__law_orders_hold.nd (by exact (ej_seq (by exact (eb_var (pv 2))))) (blkOk_by (N := N__law_orders_hold) (sc := defScope st__law_orders_hold) (by decide +kernel)) (fun _ _ _ _ _ => (by exact (eg_one (pg_name (i := 5) sc__law_orders_hold.nd (by rfl) (by first | exact .inl rfl | exact .inr rfl))))) (fun _ _ _ _ _ => ets_nil) (fun _ _ _ _ _ => (by exact (ev_tup (by exact (ea_cons (by exact (ev_var (pv 5))) (by exact (ea_cons (by exact ev_int) (by exact ea_nil)))))))))))) (by exact ed_nil))))))) (by exact ed_nil)))))))) (nomark _))) (ew_or1 (by exact (et_cmp (ov_ne (hu64 hr)) (by exact (eb_of (by exact (ev_ix ixv (by exact (eb_var (pv 2))) (by exact (eb_of (by exact ev_int))) (fun _ _ => by rfl))))) (by exact (eb_of (by exact (ev_callD T.d_least_order G_least_order hr (by decide) (by rfl) (by exact (ea_cons (by exact (ev_var (pv 0))) (by exact (ea_cons (by exact (ev_var (pv 1))) (by exact ea_nil))))))))) (nomark _)))))))
    (by exact (ss_one (by exact (ss_ret (by exact ev_bl)))))
    (by exact ss_nil)))
    (by exact (ss_cons (by exact (ss_for PassesOwn.never (by rfl) (by exact (ei_seq (by exact (ev_var (pv 2))))) (by exact (eg_one (pg_name (i := 5) sc__law_orders_hold.nd (by rfl) (by first | exact .inl rfl | exact .inr rfl))))
    (by exact (ss_cons (by exact (ss_setLcF (i := 6) (own:=[("_law_first",7),("_law_last",8)]) (by rfl) sc__law_orders_hold.nd (by rfl) (by rfl) (by rfl) (by exact (ej_seq (by exact (eb_var (pv 0))))) (blkOk_by (N := N__law_orders_hold) (sc := defScope st__law_orders_hold) (by decide +kernel)) (fun _ _ _ _ _ => (by exact (eg_many (by rfl) (egs_cons (pg_name (i := 7) sc__law_orders_hold.nd (by rfl) (by first | exact .inl rfl | exact .inr rfl)) (egs_cons (pg_name (i := 8) sc__law_orders_hold.nd (by rfl) (by first | exact .inl rfl | exact .inr rfl)) egs_nil))))) (fun _ _ _ _ _ => (ets_one (by exact (et_cmp (ov_gt (hu0 hr)) (by exact (eb_of (by exact (ev_tm PySem.F.slot_tuple_index PySem.F.type_tuple_index mv_tindex (by exact (eb_var (pv 5))) (by exact (ed_cons (by exact (eb_var (pv 7))) (by exact ed_nil))))))) (by exact (eb_of (by exact (ev_tm PySem.F.slot_tuple_index PySem.F.type_tuple_index mv_tindex (by exact (eb_var (pv 5))) (by exact (ed_cons (by exact (eb_var (pv 8))) (by exact ed_nil))))))) (nomark _))))) (fun _ _ _ _ _ => (by exact (ev_var (pv 7))))))
    (by exact (ss_one (by exact (ss_end [5, 6] (by exact (ss_if (by exact (et_w (ew_or (by exact (et_cmp (ov_ne (hu64 hr)) (by exact (eb_of (by exact (ev_callB (cv_sorted (hu100 hr)) (by rfl) T.z_sorted bt_sorted (by exact (ed_cons (by exact (eb_var (pv 5))) (by exact ed_nil))))))) (by exact (eb_of (by exact (ev_listRg1 (by rfl) (by rfl) T.z_list (by rfl) T.z_range (by exact (eb_var (pv 1))))))) (nomark _))) (ew_or1 (by exact (et_cmp (ov_ne (hu64 hr)) (by exact (eb_var (pv 6))) (by exact (eb_of (by exact (ev_lst (by exact ea_nil))))) (nomark _)))))))
    (by exact (ss_one (by exact (ss_ret (by exact ev_bl)))))
    (by exact ss_nil)))))))))))
    (by exact (ss_cons (by exact (ss_if (by exact (et_w (ew_or (by exact (et_cmp (ov_ne (hu64 hr)) (by exact (eb_of (by exact (ev_callD T.d_closed G_closed hr (by decide) (by rfl) (by exact (ea_cons (by exact (ev_var (pv 3))) (by exact ea_nil))))))) (by exact (eb_of (by exact (ev_callD T.d_closed G_closed hr (by decide) (by rfl) (by exact (ea_cons (by exact (ev_var (pv 0))) (by exact ea_nil))))))) (nomark _))) (ew_or (by exact (et_cmp (ov_ne (hu64 hr)) (by exact (eb_of (by exact (ev_callD T.d_orders G_orders hr (by decide) (by rfl) (by exact (ea_cons (by exact (ev_var (pv 3))) (by exact (ea_cons (by exact (ev_var (pv 1))) (by exact ea_nil))))))))) (by exact (eb_var (pv 2))) (nomark _))) (ew_or1 (by exact (et_not (by exact (et_tru (by exact (eb_of (by exact (ev_callB (cv_all (by rfl)) (by rfl) T.z_all bt_all (by exact (ed_cons (by exact (eb_of (by exact (ev_lc (own:=[("_law_pair",9)]) (by rfl) sc__law_orders_hold.nd (by exact (ej_seq (by exact (eb_var (pv 3))))) (blkOk_by (N := N__law_orders_hold) (sc := defScope st__law_orders_hold) (by decide +kernel)) (fun _ _ _ _ _ => (by exact (eg_one (pg_name (i := 9) sc__law_orders_hold.nd (by rfl) (by first | exact .inl rfl | exact .inr rfl))))) (fun _ _ _ _ _ => ets_nil) (fun _ _ _ _ _ => (by exact (ev_cmp (ov_in (hu65 hr)) (by exact (eb_var (pv 9))) (by exact (eb_of (by exact (ev_callD T.d_closed G_closed hr (by decide) (by rfl) (by exact (ea_cons (by exact (ev_var (pv 0))) (by exact ea_nil))))))) (by with_unfolding_all rfl)))))))) (by exact ed_nil))))))) (fun _ => (by rfl)))))))))))
    (by exact (ss_one (by exact (ss_ret (by exact ev_bl)))))
    (by exact ss_nil)))
    (by exact (ss_cons (by exact (ss_end [3] (by exact (ss_for PassesOwn.never (by rfl) (by exact (ei_enum (by rfl) T.z_enumerate (by exact (ev_var (pv 3))))) (by exact (eg_many (by rfl) (egs_cons (pg_name (i := 10) sc__law_orders_hold.nd (by rfl) (by first | exact .inl rfl | exact .inr rfl)) (egs_cons (pg_name (i := 9) sc__law_orders_hold.nd (by rfl) (by first | exact .inl rfl | exact .inr rfl)) egs_nil))))
    (by exact (ss_one (by exact (ss_end [9, 10] (by exact (ss_if (by exact (et_cmp (ov_in (hu65 hr)) (by exact (eb_var (pv 9))) (by exact (eb_of (by exact (ev_callD T.d_closed G_closed hr (by decide) (by rfl) (by exact (ea_cons (by exact (ev_bin ov_add (by exact (eb_of (by exact (ev_slice slv (by exact (eb_var (pv 3))) (by exact eo_none) (by exact (eo_some (by exact (eb_var (pv 10))))))))) (by exact (eb_of (by exact (ev_slice slv (by exact (eb_var (pv 3))) (by exact (eo_some (by exact (eb_of (by exact (ev_bin ov_add (by exact (eb_var (pv 10))) (by exact (eb_of (by exact ev_int))))))))) (by exact eo_none))))))) (by exact ea_nil))))))) (by with_unfolding_all rfl)))
    (by exact (ss_one (by exact (ss_ret (by exact ev_bl)))))
    (by exact ss_nil)))))))))))
    (by exact (ss_cons (by exact (ss_end [4] (by exact (ss_for PassesOwn.never (by rfl) (by exact (ei_range1 (by rfl) T.z_range (by exact (eb_var (pv 1))))) (by exact (eg_one (pg_name (i := 11) sc__law_orders_hold.nd (by rfl) (by first | exact .inl rfl | exact .inr rfl))))
    (by exact (ss_one (by exact (ss_end [11] (by exact (ss_if (by exact (et_cmp (ov_ne (hu64 hr)) (by exact (eb_of (by exact (ev_ix ixv (by exact (eb_var (pv 4))) (by exact (eb_var (pv 11))) (fun _ _ => by rfl))))) (by exact (eb_of (by exact (ev_callB (cv_max1 (by rfl) (hu65 hr)) (by rfl) T.z_max bt_max (by exact (ed_cons (by exact (eb_of (by exact (ev_bin ov_add (by exact (eb_of (by exact (ev_lst (by exact (ea_cons (by exact ev_int) (by exact ea_nil))))))) (by exact (eb_of (by exact (ev_lc (own:=[("_law_first",7),("_law_last",8)]) (by rfl) sc__law_orders_hold.nd (by exact (ej_seq (by exact (eb_var (pv 0))))) (blkOk_by (N := N__law_orders_hold) (sc := defScope st__law_orders_hold) (by decide +kernel)) (fun _ _ _ _ _ => (by exact (eg_many (by rfl) (egs_cons (pg_name (i := 7) sc__law_orders_hold.nd (by rfl) (by first | exact .inl rfl | exact .inr rfl)) (egs_cons (pg_name (i := 8) sc__law_orders_hold.nd (by rfl) (by first | exact .inl rfl | exact .inr rfl)) egs_nil))))) (fun _ _ _ _ _ => (ets_one (by exact (et_cmp (ov_eq (hu64 hr)) (by exact (eb_var (pv 8))) (by exact (eb_var (pv 11))) (nomark _))))) (fun _ _ _ _ _ => (by exact (ev_bin ov_add (by exact (eb_of (by exact (ev_ix ixv (by exact (eb_var (pv 4))) (by exact (eb_var (pv 7))) (fun _ _ => by rfl))))) (by exact (eb_of (by exact ev_int)))))))))))))) (by exact ed_nil))))))) (nomark _)))
    (by exact (ss_one (by exact (ss_ret (by exact ev_bl)))))
    (by exact ss_nil)))))))))))
    (by exact (ss_cons (by exact (ss_end [2] (by exact (ss_for PassesOwn.never (by rfl) (by exact (ei_seq (by exact (ev_callD T.d_free_pairs G_free_pairs hr (by decide) (by rfl) (by exact (ea_cons (by exact (ev_var (pv 0))) (by exact (ea_cons (by exact (ev_var (pv 1))) (by exact ea_nil))))))))) (by exact (eg_many (by rfl) (egs_cons (pg_name (i := 5) sc__law_orders_hold.nd (by rfl) (by first | exact .inl rfl | exact .inr rfl)) (egs_cons (pg_name (i := 12) sc__law_orders_hold.nd (by rfl) (by first | exact .inl rfl | exact .inr rfl)) egs_nil))))
    (by exact (ss_one (by exact (ss_end [5, 12] (by exact (ss_if (by exact (et_cmp (ov_ne (hu64 hr)) (by exact (eb_of (by exact (ev_lenDictB (by rfl) (by rfl) T.z_len (by rfl) T.z_dict (by exact (ed_cons (by exact (eb_of (by exact (ev_lc (own:=[("_law_order",13)]) (by rfl) sc__law_orders_hold.nd (by exact (ej_seq (by exact (eb_var (pv 2))))) (blkOk_by (N := N__law_orders_hold) (sc := defScope st__law_orders_hold) (by decide +kernel)) (fun _ _ _ _ _ => (by exact (eg_one (pg_name (i := 13) sc__law_orders_hold.nd (by rfl) (by first | exact .inl rfl | exact .inr rfl))))) (fun _ _ _ _ _ => ets_nil) (fun _ _ _ _ _ => (by exact (ev_tup (by exact (ea_cons (by exact (ev_cmp (ov_lt (hu0 hr)) (by exact (eb_of (by exact (ev_tm PySem.F.slot_tuple_index PySem.F.type_tuple_index mv_tindex (by exact (eb_var (pv 13))) (by exact (ed_cons (by exact (eb_var (pv 5))) (by exact ed_nil))))))) (by exact (eb_of (by exact (ev_tm PySem.F.slot_tuple_index PySem.F.type_tuple_index mv_tindex (by exact (eb_var (pv 13))) (by exact (ed_cons (by exact (eb_var (pv 12))) (by exact ed_nil))))))) (nomark _))) (by exact (ea_cons (by exact ev_int) (by exact ea_nil)))))))))))) (by exact ed_nil))) bt_len bt_dict)))) (by exact (eb_of (by exact ev_int))) (nomark _)))
    (by exact (ss_one (by exact (ss_ret (by exact ev_bl)))))
    (by exact ss_nil)))))))))))
    (by exact (ss_one (by exact (ss_ret (by exact (ev_cmp (ov_eq (hu64 hr)) (by exact (eb_of (by exact (ev_bin ov_add (by exact (eb_of (by exact (ev_callB cv_len (by rfl) T.z_len bt_len (by exact (ed_cons (by exact (eb_of (by exact (ev_callD T.d_free_pairs G_free_pairs hr (by decide) (by rfl) (by exact (ea_cons (by exact (ev_var (pv 0))) (by exact (ea_cons (by exact (ev_var (pv 1))) (by exact ea_nil))))))))) (by exact ed_nil))))))) (by exact (eb_of (by exact (ev_callB cv_len (by rfl) T.z_len bt_len (by exact (ed_cons (by exact (eb_of (by exact (ev_callD T.d_closed G_closed hr (by decide) (by rfl) (by exact (ea_cons (by exact (ev_var (pv 0))) (by exact ea_nil))))))) (by exact ed_nil))))))))))) (by exact (eb_of (by exact (ev_bin ov_div (by exact (eb_of (by exact (ev_bin ov_mul (by exact (eb_var (pv 1))) (by exact (eb_of (by exact (ev_bin ov_sub (by exact (eb_var (pv 1))) (by exact (eb_of (by exact ev_int))))))))))) (by exact (eb_of (by exact ev_int))))))) (nomark _)))))))))))))))))))))
/-! ### law -/
abbrev st_law : Stmt := topS 27
abbrev N_law : List Str := ["_law_script", "_law_town", "_law_k", "_law_many", "_law_pairs_here"]
theorem sc_law : FnScope N_law ["_law_script"] (defScope st_law) := ⟨rfl, rfl, rfl, by decide +kernel, rfl, by decide +kernel, by decide +kernel⟩
-- l_law_1: head 0:_law_script 1:_law_town of 5
def l_law_1 : Fs :=
    (sSeq (sEnd [2] (sSet 3 (eFrz (eBin dAdd (dOf (eC (.int 2))) (dOf (eCall m__law_draw_v2 (aCons (eVar 0) (aCons (eVar 1) (aCons (eC (.int 4)) aNil)))))))))
    (sSeq (sSet 4 (eFrz (eCall m__law_pairs_v2 (aCons (eVar 0) (aCons (eVar 1) (aCons (eVar 3) aNil))))))
    (sSeq (sIf (bOr (bNot (bTru (dOf (eCall m__law_closed_holds (aCons (eVar 4) aNil))))) (bOr (bNot (bTru (dOf (eCall m__law_ring_holds (aCons (eVar 4) aNil))))) (bTest (eBin dNe (dOf (eCall m_closed (aCons (eCall m_closed (aCons (eVar 4) aNil)) aNil))) (dOf (eCall m_closed (aCons (eVar 4) aNil)))))))
    (sRet (eC (.bool false)))
    sNil')
    (sSeq (sIf (bTest (eBin dNe (dOf (eCall m__law_refused (aCons (eVar 4) (aCons (eVar 3) aNil)))) (dOf (eIf (bTest (eBin dNotN (dOf (eCall m_ring (aCons (eVar 4) aNil))) (dOf (eC .none)))) (eC (.int 4)) (eC (.int 0))))))
    (sRet (eC (.bool false)))
    sNil')
    (sEnd [3, 4] (sIf (bAnd (bTest (eBin dIsN (dOf (eCall m_ring (aCons (eVar 4) aNil))) (dOf (eC .none)))) (bNot (bTru (dOf (eCall m__law_orders_hold (aCons (eVar 4) (aCons (eVar 3) aNil)))))))
    (sRet (eC (.bool false)))
    sNil'))))))
def b_law : Fs :=
    (sSeq (sEnd [0, 1] (sFor (iRng1 (dOf (eC (.int 6)))) (gOne 2)
    l_law_1))
    (sRet (eC (.bool true))))
theorem ok_law (T : Facts K mg) (G_closed : FnOk P w K mg base CX0 2 T.d_closed.f T.d_closed.fd ["pairs"] (spOf K 1 m_closed)) (G_ring : FnOk P w K mg base CX0 12 T.d_ring.f T.d_ring.fd ["pairs"] (spOf K 1 m_ring)) (G__law_draw : FnOk P w K mg base CX0 1 T.d__law_draw.f T.d__law_draw.fd ["_law_script", "_law_town", "_law_many"] (spOf K 3 m__law_draw_v2)) (G__law_pairs : FnOk P w K mg base CX0 2 T.d__law_pairs.f T.d__law_pairs.fd ["_law_script", "_law_town", "_law_many"] (spOf K 3 m__law_pairs_v2)) (G__law_closed_holds : FnOk P w K mg base CX0 3 T.d__law_closed_holds.f T.d__law_closed_holds.fd ["_law_pairs_here"] (spOf K 1 m__law_closed_holds)) (G__law_ring_holds : FnOk P w K mg base CX0 13 T.d__law_ring_holds.f T.d__law_ring_holds.fd ["_law_pairs_here"] (spOf K 1 m__law_ring_holds)) (G__law_refused : FnOk P w K mg base CX0 16 T.d__law_refused.f T.d__law_refused.fd ["_law_pairs_here", "_law_many"] (spOf K 2 m__law_refused)) (G__law_orders_hold : FnOk P w K mg base CX0 16 T.d__law_orders_hold.f T.d__law_orders_hold.fd ["_law_pairs_here", "_law_many"] (spOf K 2 m__law_orders_hold)) (m : Nat) (hm : ∀ ns : List Int, ns.length ≤ m → ∃ n', b_law (.d (.list (ns.map .int)) :: .town :: List.replicate 3 .no) 0 = some (.rt (.d (.bool true)) n')) : FnOk P w K mg base CX0 17 T.d_law.f T.d_law.fd ["_law_script"] (spLaw K m) :=
  fn_law (N := N_law) T.d_law.F sc_law rfl rfl (by first | exact .inl rfl | exact .inr rfl) (fun cdv A outer s H E hr => (by exact (ss_cons (by exact (ss_end [0, 1] (by exact (ss_for PassesOwn.never (by rfl) (by exact (ei_range1 (by rfl) T.z_range (by exact (eb_of (by exact ev_int))))) (by exact (eg_one (pg_name (i := 2) sc_law.nd (by rfl) (by first | exact .inl rfl | exact .inr rfl))))
    (by exact (ss_cons (by exact (ss_end [2] (by exact (ss_set (i := 3) sc_law.nd (by rfl) (by first | exact .inl rfl | exact .inr rfl) (ev_frz (by exact (ev_bin ov_add (by exact (eb_of (by exact ev_int))) (by exact (eb_of (by exact (ev_callD T.d__law_draw G__law_draw hr (by decide) (by rfl) (by exact (ea_cons (by exact (ev_var (pv 0))) (by exact (ea_cons (by exact (ev_var (pv 1))) (by exact (ea_cons (by exact ev_int) (by exact ea_nil))))))))))))))))))
    (by exact (ss_cons (by exact (ss_set (i := 4) sc_law.nd (by rfl) (by first | exact .inl rfl | exact .inr rfl) (ev_frz (by exact (ev_callD T.d__law_pairs G__law_pairs hr (by decide) (by rfl) (by exact (ea_cons (by exact (ev_var (pv 0))) (by exact (ea_cons (by exact (ev_var (pv 1))) (by exact (ea_cons (by exact (ev_var (pv 3))) (by exact ea_nil))))))))))))
    (by exact (ss_cons (by exact (ss_if (by exact (et_w (ew_or (by exact (et_not (by exact (et_tru (by exact (eb_of (by exact (ev_callD T.d__law_closed_holds G__law_closed_holds hr (by decide) (by rfl) (by exact (ea_cons (by exact (ev_var (pv 4))) (by exact ea_nil))))))) (fun _ => (by rfl)))))) (ew_or (by exact (et_not (by exact (et_tru (by exact (eb_of (by exact (ev_callD T.d__law_ring_holds G__law_ring_holds hr (by decide) (by rfl) (by exact (ea_cons (by exact (ev_var (pv 4))) (by exact ea_nil))))))) (fun _ => (by rfl)))))) (ew_or1 (by exact (et_cmp (ov_ne (hu64 hr)) (by exact (eb_of (by exact (ev_callD T.d_closed G_closed hr (by decide) (by rfl) (by exact (ea_cons (by exact (ev_callD T.d_closed G_closed hr (by decide) (by rfl) (by exact (ea_cons (by exact (ev_var (pv 4))) (by exact ea_nil))))) (by exact ea_nil))))))) (by exact (eb_of (by exact (ev_callD T.d_closed G_closed hr (by decide) (by rfl) (by exact (ea_cons (by exact (ev_var (pv 4))) (by exact ea_nil))))))) (nomark _))))))))
    (by exact (ss_one (by exact (ss_ret (by exact ev_bl)))))
    (by exact ss_nil)))
    (by exact (ss_cons (by exact (ss_if (by exact (et_cmp (ov_ne (hu64 hr)) (by exact (eb_of (by exact (ev_callD T.d__law_refused G__law_refused hr (by decide) (by rfl) (by exact (ea_cons (by exact (ev_var (pv 4))) (by exact (ea_cons (by exact (ev_var (pv 3))) (by exact ea_nil))))))))) (by exact (eb_of (by exact (ev_ife (by exact (et_cmp (ov_notN) (by exact (eb_of (by exact (ev_callD T.d_ring G_ring hr (by decide) (by rfl) (by exact (ea_cons (by exact (ev_var (pv 4))) (by exact ea_nil))))))) (by exact (eb_of (by exact ev_non))) (nomark _))) (by exact ev_int) (by exact ev_int))))) (nomark _)))
    (by exact (ss_one (by exact (ss_ret (by exact ev_bl)))))
    (by exact ss_nil)))
    (by exact (ss_one (by exact (ss_end [3, 4] (by exact (ss_if (by exact (et_w (ew_and (by exact (et_cmp (ov_isN) (by exact (eb_of (by exact (ev_callD T.d_ring G_ring hr (by decide) (by rfl) (by exact (ea_cons (by exact (ev_var (pv 4))) (by exact ea_nil))))))) (by exact (eb_of (by exact ev_non))) (nomark _))) (ew_and1 (by exact (et_not (by exact (et_tru (by exact (eb_of (by exact (ev_callD T.d__law_orders_hold G__law_orders_hold hr (by decide) (by rfl) (by exact (ea_cons (by exact (ev_var (pv 4))) (by exact (ea_cons (by exact (ev_var (pv 3))) (by exact ea_nil))))))))) (fun _ => (by rfl))))))))))
    (by exact (ss_one (by exact (ss_ret (by exact ev_bl)))))
    (by exact ss_nil)))))))))))))))))))
    (by exact (ss_one (by exact (ss_ret (by exact ev_bl)))))))) hm
theorem ok_all (T : Facts K mg) (m : Nat) (hm : ∀ ns : List Int, ns.length ≤ m → ∃ n', b_law (.d (.list (ns.map .int)) :: .town :: List.replicate 3 .no) 0 = some (.rt (.d (.bool true)) n')) : FnOk P w K mg base CX0 17 T.d_law.f T.d_law.fd ["_law_script"] (spLaw K m) := by
  have G_behind := ok_behind (P := P) (w := w) (base := base) T
  have G_closed := ok_closed (P := P) (w := w) (base := base) T G_behind
  have G_ring_from := ok_ring_from (P := P) (w := w) (base := base) T G_behind
  have G_ring := ok_ring (P := P) (w := w) (base := base) T G_ring_from
  have G__law_draw := ok__law_draw (P := P) (w := w) (base := base) T
  have G__law_pairs := ok__law_pairs (P := P) (w := w) (base := base) T G__law_draw
  have G__law_closed_holds := ok__law_closed_holds (P := P) (w := w) (base := base) T G_closed
  have G__law_ring_holds := ok__law_ring_holds (P := P) (w := w) (base := base) T G_closed G_ring
  have G_need_none := ok_need_none (P := P) (w := w) (base := base) T G_ring
  have GX_need_none := okx_need_none (P := P) (w := w) (base := base) T G_ring
  have G_bare := ok_bare (P := P) (w := w) (base := base) T G_behind G_closed G_need_none
  have GX_bare := okx_bare (P := P) (w := w) (base := base) T G_behind G_closed G_need_none GX_need_none
  have G_orders_from := ok_orders_from (P := P) (w := w) (base := base) T
  have G_orders := ok_orders (P := P) (w := w) (base := base) T G_need_none G_orders_from
  have GX_orders := okx_orders (P := P) (w := w) (base := base) T G_need_none G_orders_from GX_need_none
  have G_least_order := ok_least_order (P := P) (w := w) (base := base) T G_need_none
  have GX_least_order := okx_least_order (P := P) (w := w) (base := base) T G_need_none GX_need_none
  have G_levels := ok_levels (P := P) (w := w) (base := base) T G_need_none G_least_order
  have GX_levels := okx_levels (P := P) (w := w) (base := base) T G_need_none G_least_order GX_need_none
  have G__law_refused := ok__law_refused (P := P) (w := w) (base := base) T G_bare G_orders G_least_order G_levels GX_bare GX_orders GX_least_order GX_levels
  have G_free_pairs := ok_free_pairs (P := P) (w := w) (base := base) T G_closed
  have G__law_orders_hold := ok__law_orders_hold (P := P) (w := w) (base := base) T G_closed G_bare G_orders G_least_order G_levels G_free_pairs
  exact ok_law T G_closed G_ring G__law_draw G__law_pairs G__law_closed_holds G__law_ring_holds G__law_refused G__law_orders_hold m hm
end
theorem all_mk {l : PySem.W.OpenLaw} {w : World} {K : PySem.W.Frag} {h : Heap} {mg : Str → Option Value} {fa : Addr} (X : K.In h) (G : h.Ns mainGlobals mg) (hfa : mg "law" = some (.ref fa)) (m : Nat) (hm : ∀ ns : List Int, ns.length ≤ m → ∃ n', b_law (.d (.list (ns.map .int)) :: .town :: List.replicate 3 .no) 0 = some (.rt (.d (.bool true)) n'))
    {f0 : Addr} {od0 an0 : Option Addr} {sl0 : Array (Option Value)} {oc0 kV0 dc0 pm0 cd0 ct0 : Value}
    {f1 : Addr} {od1 an1 : Option Addr} {sl1 : Array (Option Value)} {oc1 kV1 dc1 pm1 cd1 ct1 : Value}
    {f2 : Addr} {od2 an2 : Option Addr} {sl2 : Array (Option Value)} {oc2 kV2 dc2 pm2 cd2 ct2 : Value}
    {f3 : Addr} {od3 an3 : Option Addr} {sl3 : Array (Option Value)} {oc3 kV3 dc3 pm3 cd3 ct3 : Value}
    {f4 : Addr} {od4 an4 : Option Addr} {sl4 : Array (Option Value)} {oc4 kV4 dc4 pm4 cd4 ct4 : Value}
    {f5 : Addr} {od5 an5 : Option Addr} {sl5 : Array (Option Value)} {oc5 kV5 dc5 pm5 cd5 ct5 : Value}
    {f6 : Addr} {od6 an6 : Option Addr} {sl6 : Array (Option Value)} {oc6 kV6 dc6 pm6 cd6 ct6 : Value}
    {f7 : Addr} {od7 an7 : Option Addr} {sl7 : Array (Option Value)} {oc7 kV7 dc7 pm7 cd7 ct7 : Value}
    {f8 : Addr} {od8 an8 : Option Addr} {sl8 : Array (Option Value)} {oc8 kV8 dc8 pm8 cd8 ct8 : Value}
    {f9 : Addr} {od9 an9 : Option Addr} {sl9 : Array (Option Value)} {oc9 kV9 dc9 pm9 cd9 ct9 : Value}
    {f10 : Addr} {od10 an10 : Option Addr} {sl10 : Array (Option Value)} {oc10 kV10 dc10 pm10 cd10 ct10 : Value}
    {f11 : Addr} {od11 an11 : Option Addr} {sl11 : Array (Option Value)} {oc11 kV11 dc11 pm11 cd11 ct11 : Value}
    {f12 : Addr} {od12 an12 : Option Addr} {sl12 : Array (Option Value)} {oc12 kV12 dc12 pm12 cd12 ct12 : Value}
    {f13 : Addr} {od13 an13 : Option Addr} {sl13 : Array (Option Value)} {oc13 kV13 dc13 pm13 cd13 ct13 : Value}
    {f14 : Addr} {od14 an14 : Option Addr} {sl14 : Array (Option Value)} {oc14 kV14 dc14 pm14 cd14 ct14 : Value}
    {f15 : Addr} {od15 an15 : Option Addr} {sl15 : Array (Option Value)} {oc15 kV15 dc15 pm15 cd15 ct15 : Value}
    {f16 : Addr} {od16 an16 : Option Addr} {sl16 : Array (Option Value)} {oc16 kV16 dc16 pm16 cd16 ct16 : Value}
    {f17 : Addr} {od17 an17 : Option Addr} {sl17 : Array (Option Value)} {oc17 kV17 dc17 pm17 cd17 ct17 : Value}
    {C0 : Addr}
    (a0 : PySem.W.nsIn K mainGlobals "behind" = some (some (.ref f0))) (l0 : K.lookup f0 = some ⟨oc0, od0, .func (PySem.W.fnOf "behind" "behind" (defArgs (topS 4)) (defBody (topS 4)) (defScope (topS 4)) .none kV0 dc0 pm0 an0 cd0 ct0), sl0⟩) (c0 : PySem.W.codeIn K cd0 "behind" = true) (k0 : PySem.W.keepIn K (.ref f0) = true)
    (a1 : PySem.W.nsIn K mainGlobals "closed" = some (some (.ref f1))) (l1 : K.lookup f1 = some ⟨oc1, od1, .func (PySem.W.fnOf "closed" "closed" (defArgs (topS 5)) (defBody (topS 5)) (defScope (topS 5)) .none kV1 dc1 pm1 an1 cd1 ct1), sl1⟩) (c1 : PySem.W.codeIn K cd1 "closed" = true) (k1 : PySem.W.keepIn K (.ref f1) = true)
    (a2 : PySem.W.nsIn K mainGlobals "ring_from" = some (some (.ref f2))) (l2 : K.lookup f2 = some ⟨oc2, od2, .func (PySem.W.fnOf "ring_from" "ring_from" (defArgs (topS 6)) (defBody (topS 6)) (defScope (topS 6)) .none kV2 dc2 pm2 an2 cd2 ct2), sl2⟩) (c2 : PySem.W.codeIn K cd2 "ring_from" = true) (k2 : PySem.W.keepIn K (.ref f2) = true)
    (a3 : PySem.W.nsIn K mainGlobals "ring" = some (some (.ref f3))) (l3 : K.lookup f3 = some ⟨oc3, od3, .func (PySem.W.fnOf "ring" "ring" (defArgs (topS 7)) (defBody (topS 7)) (defScope (topS 7)) .none kV3 dc3 pm3 an3 cd3 ct3), sl3⟩) (c3 : PySem.W.codeIn K cd3 "ring" = true) (k3 : PySem.W.keepIn K (.ref f3) = true)
    (a4 : PySem.W.nsIn K mainGlobals "_law_draw" = some (some (.ref f4))) (l4 : K.lookup f4 = some ⟨oc4, od4, .func (PySem.W.fnOf "_law_draw" "_law_draw" (defArgs (topS 16)) (defBody (topS 16)) (defScope (topS 16)) .none kV4 dc4 pm4 an4 cd4 ct4), sl4⟩) (c4 : PySem.W.codeIn K cd4 "_law_draw" = true) (k4 : PySem.W.keepIn K (.ref f4) = true)
    (a5 : PySem.W.nsIn K mainGlobals "_law_pairs" = some (some (.ref f5))) (l5 : K.lookup f5 = some ⟨oc5, od5, .func (PySem.W.fnOf "_law_pairs" "_law_pairs" (defArgs (topS 22)) (defBody (topS 22)) (defScope (topS 22)) .none kV5 dc5 pm5 an5 cd5 ct5), sl5⟩) (c5 : PySem.W.codeIn K cd5 "_law_pairs" = true) (k5 : PySem.W.keepIn K (.ref f5) = true)
    (a6 : PySem.W.nsIn K mainGlobals "_law_closed_holds" = some (some (.ref f6))) (l6 : K.lookup f6 = some ⟨oc6, od6, .func (PySem.W.fnOf "_law_closed_holds" "_law_closed_holds" (defArgs (topS 23)) (defBody (topS 23)) (defScope (topS 23)) .none kV6 dc6 pm6 an6 cd6 ct6), sl6⟩) (c6 : PySem.W.codeIn K cd6 "_law_closed_holds" = true) (k6 : PySem.W.keepIn K (.ref f6) = true)
    (a7 : PySem.W.nsIn K mainGlobals "_law_ring_holds" = some (some (.ref f7))) (l7 : K.lookup f7 = some ⟨oc7, od7, .func (PySem.W.fnOf "_law_ring_holds" "_law_ring_holds" (defArgs (topS 24)) (defBody (topS 24)) (defScope (topS 24)) .none kV7 dc7 pm7 an7 cd7 ct7), sl7⟩) (c7 : PySem.W.codeIn K cd7 "_law_ring_holds" = true) (k7 : PySem.W.keepIn K (.ref f7) = true)
    (a8 : PySem.W.nsIn K mainGlobals "need_none" = some (some (.ref f8))) (l8 : K.lookup f8 = some ⟨oc8, od8, .func (PySem.W.fnOf "need_none" "need_none" (defArgs (topS 8)) (defBody (topS 8)) (defScope (topS 8)) .none kV8 dc8 pm8 an8 cd8 ct8), sl8⟩) (c8 : PySem.W.codeIn K cd8 "need_none" = true) (k8 : PySem.W.keepIn K (.ref f8) = true)
    (a9 : PySem.W.nsIn K mainGlobals "bare" = some (some (.ref f9))) (l9 : K.lookup f9 = some ⟨oc9, od9, .func (PySem.W.fnOf "bare" "bare" (defArgs (topS 9)) (defBody (topS 9)) (defScope (topS 9)) .none kV9 dc9 pm9 an9 cd9 ct9), sl9⟩) (c9 : PySem.W.codeIn K cd9 "bare" = true) (k9 : PySem.W.keepIn K (.ref f9) = true)
    (a10 : PySem.W.nsIn K mainGlobals "orders_from" = some (some (.ref f10))) (l10 : K.lookup f10 = some ⟨oc10, od10, .func (PySem.W.fnOf "orders_from" "orders_from" (defArgs (topS 10)) (defBody (topS 10)) (defScope (topS 10)) .none kV10 dc10 pm10 an10 cd10 ct10), sl10⟩) (c10 : PySem.W.codeIn K cd10 "orders_from" = true) (k10 : PySem.W.keepIn K (.ref f10) = true)
    (a11 : PySem.W.nsIn K mainGlobals "orders" = some (some (.ref f11))) (l11 : K.lookup f11 = some ⟨oc11, od11, .func (PySem.W.fnOf "orders" "orders" (defArgs (topS 11)) (defBody (topS 11)) (defScope (topS 11)) .none kV11 dc11 pm11 an11 cd11 ct11), sl11⟩) (c11 : PySem.W.codeIn K cd11 "orders" = true) (k11 : PySem.W.keepIn K (.ref f11) = true)
    (a12 : PySem.W.nsIn K mainGlobals "least_order" = some (some (.ref f12))) (l12 : K.lookup f12 = some ⟨oc12, od12, .func (PySem.W.fnOf "least_order" "least_order" (defArgs (topS 12)) (defBody (topS 12)) (defScope (topS 12)) .none kV12 dc12 pm12 an12 cd12 ct12), sl12⟩) (c12 : PySem.W.codeIn K cd12 "least_order" = true) (k12 : PySem.W.keepIn K (.ref f12) = true)
    (a13 : PySem.W.nsIn K mainGlobals "levels" = some (some (.ref f13))) (l13 : K.lookup f13 = some ⟨oc13, od13, .func (PySem.W.fnOf "levels" "levels" (defArgs (topS 13)) (defBody (topS 13)) (defScope (topS 13)) .none kV13 dc13 pm13 an13 cd13 ct13), sl13⟩) (c13 : PySem.W.codeIn K cd13 "levels" = true) (k13 : PySem.W.keepIn K (.ref f13) = true)
    (a14 : PySem.W.nsIn K mainGlobals "_law_refused" = some (some (.ref f14))) (l14 : K.lookup f14 = some ⟨oc14, od14, .func (PySem.W.fnOf "_law_refused" "_law_refused" (defArgs (topS 25)) (defBody (topS 25)) (defScope (topS 25)) .none kV14 dc14 pm14 an14 cd14 ct14), sl14⟩) (c14 : PySem.W.codeIn K cd14 "_law_refused" = true) (k14 : PySem.W.keepIn K (.ref f14) = true)
    (a15 : PySem.W.nsIn K mainGlobals "free_pairs" = some (some (.ref f15))) (l15 : K.lookup f15 = some ⟨oc15, od15, .func (PySem.W.fnOf "free_pairs" "free_pairs" (defArgs (topS 14)) (defBody (topS 14)) (defScope (topS 14)) .none kV15 dc15 pm15 an15 cd15 ct15), sl15⟩) (c15 : PySem.W.codeIn K cd15 "free_pairs" = true) (k15 : PySem.W.keepIn K (.ref f15) = true)
    (a16 : PySem.W.nsIn K mainGlobals "_law_orders_hold" = some (some (.ref f16))) (l16 : K.lookup f16 = some ⟨oc16, od16, .func (PySem.W.fnOf "_law_orders_hold" "_law_orders_hold" (defArgs (topS 26)) (defBody (topS 26)) (defScope (topS 26)) .none kV16 dc16 pm16 an16 cd16 ct16), sl16⟩) (c16 : PySem.W.codeIn K cd16 "_law_orders_hold" = true) (k16 : PySem.W.keepIn K (.ref f16) = true)
    (a17 : PySem.W.nsIn K mainGlobals "law" = some (some (.ref f17))) (l17 : K.lookup f17 = some ⟨oc17, od17, .func (PySem.W.fnOf "law" "law" (defArgs (topS 27)) (defBody (topS 27)) (defScope (topS 27)) .none kV17 dc17 pm17 an17 cd17 ct17), sl17⟩) (c17 : PySem.W.codeIn K cd17 "law" = true) (k17 : PySem.W.keepIn K (.ref f17) = true)
    (z0 : PySem.W.nsIn K mainGlobals "all" = some none)
    (z1 : PySem.W.nsIn K mainGlobals "any" = some none)
    (z2 : PySem.W.nsIn K mainGlobals "dict" = some none)
    (z3 : PySem.W.nsIn K mainGlobals "enumerate" = some none)
    (z4 : PySem.W.nsIn K mainGlobals "len" = some none)
    (z5 : PySem.W.nsIn K mainGlobals "list" = some none)
    (z6 : PySem.W.nsIn K mainGlobals "max" = some none)
    (z7 : PySem.W.nsIn K mainGlobals "min" = some none)
    (z8 : PySem.W.nsIn K mainGlobals "range" = some none)
    (z9 : PySem.W.nsIn K mainGlobals "set" = some none)
    (z10 : PySem.W.nsIn K mainGlobals "sorted" = some none)
    (z11 : PySem.W.nsIn K mainGlobals "tuple" = some none)
    (z12 : PySem.W.nsIn K mainGlobals "zip" = some none)
    (ea0 : PySem.W.nsIn K mainGlobals "Ring" = some (some (.ref C0))) (ex0 : PySem.W.excIn K C0 [.type "ValueError", .type "Exception", .type "BaseException", .type "object"] "ValueError.__new__" = true) (ek0 : PySem.W.keepIn K (.ref C0) = true) (eb0 : PySem.W.subIn K (.ref C0) (.type "BaseException") = some true) (et0 : PySem.W.typeIn K (.ref C0) = some (.type "type")) (ei0 : PySem.W.isClsIn K C0 = true) (es0 : PySem.W.subIn K (.ref C0) (.ref C0) = some true) :
    ∃ fd : FuncData, (∀ (s : Shared) (v : Value), BindsTo s fd ⟨[v], []⟩ [("_law_script", v)]) ∧ ∀ base : Heap, K.In base → base.Ns mainGlobals mg → FnOk l.prog w K mg base CX0 17 fa fd ["_law_script"] (spLaw K m) := by
  have e := hfa.symm.trans (PySem.W.mg_of X G a17)
  cases e
  let T : Facts K mg := ⟨⟨_, _, fun_mk (st := topS 4) l0 c0 k0, Fun.binds (st := topS 4) (x := "behind") (qual := "behind") (fun_mk l0 c0 k0) (fun _ _ _ _ _ _ us hl => match us, hl with | [_, _], _ => (by rfl)), PySem.W.mg_of X G a0⟩,
    ⟨_, _, fun_mk (st := topS 5) l1 c1 k1, Fun.binds (st := topS 5) (x := "closed") (qual := "closed") (fun_mk l1 c1 k1) (fun _ _ _ _ _ _ us hl => match us, hl with | [_], _ => (by rfl)), PySem.W.mg_of X G a1⟩,
    ⟨_, _, fun_mk (st := topS 6) l2 c2 k2, Fun.binds (st := topS 6) (x := "ring_from") (qual := "ring_from") (fun_mk l2 c2 k2) (fun _ _ _ _ _ _ us hl => match us, hl with | [_, _], _ => (by rfl)), PySem.W.mg_of X G a2⟩,
    ⟨_, _, fun_mk (st := topS 7) l3 c3 k3, Fun.binds (st := topS 7) (x := "ring") (qual := "ring") (fun_mk l3 c3 k3) (fun _ _ _ _ _ _ us hl => match us, hl with | [_], _ => (by rfl)), PySem.W.mg_of X G a3⟩,
    ⟨_, _, fun_mk (st := topS 16) l4 c4 k4, Fun.binds (st := topS 16) (x := "_law_draw") (qual := "_law_draw") (fun_mk l4 c4 k4) (fun _ _ _ _ _ _ us hl => match us, hl with | [_, _, _], _ => (by rfl)), PySem.W.mg_of X G a4⟩,
    ⟨_, _, fun_mk (st := topS 22) l5 c5 k5, Fun.binds (st := topS 22) (x := "_law_pairs") (qual := "_law_pairs") (fun_mk l5 c5 k5) (fun _ _ _ _ _ _ us hl => match us, hl with | [_, _, _], _ => (by rfl)), PySem.W.mg_of X G a5⟩,
    ⟨_, _, fun_mk (st := topS 23) l6 c6 k6, Fun.binds (st := topS 23) (x := "_law_closed_holds") (qual := "_law_closed_holds") (fun_mk l6 c6 k6) (fun _ _ _ _ _ _ us hl => match us, hl with | [_], _ => (by rfl)), PySem.W.mg_of X G a6⟩,
    ⟨_, _, fun_mk (st := topS 24) l7 c7 k7, Fun.binds (st := topS 24) (x := "_law_ring_holds") (qual := "_law_ring_holds") (fun_mk l7 c7 k7) (fun _ _ _ _ _ _ us hl => match us, hl with | [_], _ => (by rfl)), PySem.W.mg_of X G a7⟩,
    ⟨_, _, fun_mk (st := topS 8) l8 c8 k8, Fun.binds (st := topS 8) (x := "need_none") (qual := "need_none") (fun_mk l8 c8 k8) (fun _ _ _ _ _ _ us hl => match us, hl with | [_], _ => (by rfl)), PySem.W.mg_of X G a8⟩,
    ⟨_, _, fun_mk (st := topS 9) l9 c9 k9, Fun.binds (st := topS 9) (x := "bare") (qual := "bare") (fun_mk l9 c9 k9) (fun _ _ _ _ _ _ us hl => match us, hl with | [_], _ => (by rfl)), PySem.W.mg_of X G a9⟩,
    ⟨_, _, fun_mk (st := topS 10) l10 c10 k10, Fun.binds (st := topS 10) (x := "orders_from") (qual := "orders_from") (fun_mk l10 c10 k10) (fun _ _ _ _ _ _ us hl => match us, hl with | [_, _], _ => (by rfl)), PySem.W.mg_of X G a10⟩,
    ⟨_, _, fun_mk (st := topS 11) l11 c11 k11, Fun.binds (st := topS 11) (x := "orders") (qual := "orders") (fun_mk l11 c11 k11) (fun _ _ _ _ _ _ us hl => match us, hl with | [_, _], _ => (by rfl)), PySem.W.mg_of X G a11⟩,
    ⟨_, _, fun_mk (st := topS 12) l12 c12 k12, Fun.binds (st := topS 12) (x := "least_order") (qual := "least_order") (fun_mk l12 c12 k12) (fun _ _ _ _ _ _ us hl => match us, hl with | [_, _], _ => (by rfl)), PySem.W.mg_of X G a12⟩,
    ⟨_, _, fun_mk (st := topS 13) l13 c13 k13, Fun.binds (st := topS 13) (x := "levels") (qual := "levels") (fun_mk l13 c13 k13) (fun _ _ _ _ _ _ us hl => match us, hl with | [_, _], _ => (by rfl)), PySem.W.mg_of X G a13⟩,
    ⟨_, _, fun_mk (st := topS 25) l14 c14 k14, Fun.binds (st := topS 25) (x := "_law_refused") (qual := "_law_refused") (fun_mk l14 c14 k14) (fun _ _ _ _ _ _ us hl => match us, hl with | [_, _], _ => (by rfl)), PySem.W.mg_of X G a14⟩,
    ⟨_, _, fun_mk (st := topS 14) l15 c15 k15, Fun.binds (st := topS 14) (x := "free_pairs") (qual := "free_pairs") (fun_mk l15 c15 k15) (fun _ _ _ _ _ _ us hl => match us, hl with | [_, _], _ => (by rfl)), PySem.W.mg_of X G a15⟩,
    ⟨_, _, fun_mk (st := topS 26) l16 c16 k16, Fun.binds (st := topS 26) (x := "_law_orders_hold") (qual := "_law_orders_hold") (fun_mk l16 c16 k16) (fun _ _ _ _ _ _ us hl => match us, hl with | [_, _], _ => (by rfl)), PySem.W.mg_of X G a16⟩,
    ⟨_, _, fun_mk (st := topS 27) l17 c17 k17, Fun.binds (st := topS 27) (x := "law") (qual := "law") (fun_mk l17 c17 k17) (fun _ _ _ _ _ _ us hl => match us, hl with | [_], _ => (by rfl)), PySem.W.mg_of X G a17⟩,
    PySem.W.mg_none_of X G z0,
    PySem.W.mg_none_of X G z1,
    PySem.W.mg_none_of X G z2,
    PySem.W.mg_none_of X G z3,
    PySem.W.mg_none_of X G z4,
    PySem.W.mg_none_of X G z5,
    PySem.W.mg_none_of X G z6,
    PySem.W.mg_none_of X G z7,
    PySem.W.mg_none_of X G z8,
    PySem.W.mg_none_of X G z9,
    PySem.W.mg_none_of X G z10,
    PySem.W.mg_none_of X G z11,
    PySem.W.mg_none_of X G z12,
    C0, PySem.W.mg_of X G ea0, ex0, ek0, eb0, et0, exm_own eb0 ei0 et0 es0⟩
  exact ⟨PySem.W.fnOf "law" "law" (defArgs (topS 27)) (defBody (topS 27)) (defScope (topS 27)) .none kV17 dc17 pm17 an17 cd17 ct17, fun s v => .of_eq rfl, fun base _ _ => ok_all T m hm⟩
end L2.Lv.K36
set_option maxHeartbeats 400000
namespace L2.Lv.K36
open PySem PySem.Spec PyProof.Rows L2 L2.Lv L2.Lv.Sh
theorem runB_rt {m : Nat} {g : Fs} {ws : List W} {n n' : Nat} {w : W} (h : g (ws ++ List.replicate (m - ws.length) .no) n = some (.rt w n')) : runB m g ws n = some (w, n') := by
  rw [runB_ap, h]
  rfl
theorem tc_last {P : List NN} {a b : Nat} (t : TC P a b) : (a, b) ∈ P ∨ ∃ c, TC P a c ∧ (c, b) ∈ P := by
  cases t with
  | base q => exact .inl q
  | step t q => exact .inr ⟨_, t, q⟩
theorem sorted_prs (P : List NN) (hs : P.Pairwise nlt) (hl : P.length ≤ 1000) (ρ : List W) (n : Nat) (F : Fe)
    (h : F ρ n = some (.ol (P.map fun p => .tuple [prN p, .int 0]), n)) :
    eAlt (eApp gSortDict (sCons (dOf F) sNil)) (eApp gSortedD (sCons (dOf (eApp gDictT (sCons (dOf F) sNil))) sNil)) ρ n = some (.ol (P.map prN), n) := by
  cases P with
  | nil =>
    rw [eAlt_ap]
    have : eApp gSortDict (sCons (dOf F) sNil) ρ n = some (.ol [], n) := by
      have g : gSortDict [.list []] = some (.ol []) := rfl
      simp -implicitDefEqProofs only [eVar_ap, dVar_ap, eC_ap, dOf_ap, eFrz_ap, eBin_ap, bTest_ap, bTru_ap, bAnd_ap, bOr_ap, bNot_ap, eIf_ap, eB_ap, eAnd_ap, eOr_ap, aNil_ap, aCons_ap, sNil_ap, sCons_ap, eTup_ap, eLst_ap, eCall_ap, eApp_ap, oNone_ap, oSome_ap, eSl_ap, sNil'_ap, sSeq_ap, sBrk_ap, sRet_ap, sRetN_ap, sRetO_ap, sDrop_ap, sIf_ap, sSet_ap, sApp_ap, sTown_ap, sExt_ap, sIns_ap, sSetIx_ap, sAsg_ap, sPar_ap, iOf_ap, iVal_ap, iRng1_ap, iRng2_ap, sFor_ap, eComp_ap, bYes_ap, frzAt_ap, eUn_ap, eNotD_ap, eOrD_ap, eChain_ap, eListRg1_ap, eIsa_ap, eMt_ap, iEnumV_ap, iEnumF_ap, iZipV_ap, iZipF_ap, eTLen_ap, iRng3D_ap, sEnd_ap, eSs_ap, sPar3_ap, xPop_ap, xTup1_ap, xCat_ap, sSetX_ap, sAppX_ap, sParO_ap, sForEI_ap, sForK_ap, eRep_ap, eDicK_ap, eDicT_ap, sPut_ap, eAlt_ap, sTry_ap, eGetD_ap, eLockI_ap, iKeyF_ap, runB_ap, gOne_ap, gMany_ap, dI_ap, yesC_ap, dCmp_int, setD, kill_nx, kill_rt, kill_bk, Option.bind_some, Option.map_some, Option.bind_none, Option.map_none, List.getElem?_cons_zero, List.getElem?_cons_succ, List.set_cons_zero, List.set_cons_succ, List.cons_append, List.nil_append, List.append_nil, List.replicate, List.length_cons, List.length_nil, Nat.reduceAdd, Nat.reduceSub, Nat.zero_add, wdat_no, wdat_d, wdat_town, wdat_ol, wdat_od, wfrz_no, wfrz_d, wfrz_town, wfrz_ol, wfrz_od, wval_no, wval_d, wval_town, wval_ol, wval_od, warg_no, warg_d, warg_town, warg_ol, warg_od, vals, gLen, gAbs, gMax2, gMin2, gInt, gTup, gList, wipeW, if_true, if_false, Bool.false_eq_true, Bool.not_true, Bool.not_false, reduceCtorEq, h, List.map_nil, g]
    rw [this]; rfl
  | cons p P =>
    have em : ((p :: P).map fun p => PyData.tuple [prN p, .int 0]) = ((p :: P).map fun p : NN => [(p.1 : Int), (p.2 : Int)]).map fun k => PyData.tuple [tI k, .int 0] := by rw [List.map_map]; rfl
    have e2 : ((p :: P).map fun p : NN => [(p.1 : Int), (p.2 : Int)]).map tI = (p :: P).map prN := by rw [List.map_map]; rfl
    obtain ⟨d1, d2⟩ := dict_same ((p :: P).map fun p : NN => [(p.1 : Int), (p.2 : Int)]) (by simp) (fun k hk => by obtain ⟨q, _, rfl⟩ := List.mem_map.mp hk; simp) (by
      rw [List.pairwise_map]
      refine hs.imp fun {a b} q => ?_
      unfold nlt at q
      rw [List.cons_lt_cons_iff, List.cons_lt_cons_iff]
      rcases q with q | q
      · exact .inl (by omega)
      · exact .inr ⟨by omega, .inl (by omega)⟩) (by rw [List.length_map]; omega)
    have g0 : gSortDict [.list ((p :: P).map fun p => PyData.tuple [prN p, .int 0])] = none := rfl
    rw [← em] at d1
    rw [e2] at d2
    have r1 : eApp gSortDict (sCons (dOf F) sNil) ρ n = none := by
      simp -implicitDefEqProofs only [eVar_ap, dVar_ap, eC_ap, dOf_ap, eFrz_ap, eBin_ap, bTest_ap, bTru_ap, bAnd_ap, bOr_ap, bNot_ap, eIf_ap, eB_ap, eAnd_ap, eOr_ap, aNil_ap, aCons_ap, sNil_ap, sCons_ap, eTup_ap, eLst_ap, eCall_ap, eApp_ap, oNone_ap, oSome_ap, eSl_ap, sNil'_ap, sSeq_ap, sBrk_ap, sRet_ap, sRetN_ap, sRetO_ap, sDrop_ap, sIf_ap, sSet_ap, sApp_ap, sTown_ap, sExt_ap, sIns_ap, sSetIx_ap, sAsg_ap, sPar_ap, iOf_ap, iVal_ap, iRng1_ap, iRng2_ap, sFor_ap, eComp_ap, bYes_ap, frzAt_ap, eUn_ap, eNotD_ap, eOrD_ap, eChain_ap, eListRg1_ap, eIsa_ap, eMt_ap, iEnumV_ap, iEnumF_ap, iZipV_ap, iZipF_ap, eTLen_ap, iRng3D_ap, sEnd_ap, eSs_ap, sPar3_ap, xPop_ap, xTup1_ap, xCat_ap, sSetX_ap, sAppX_ap, sParO_ap, sForEI_ap, sForK_ap, eRep_ap, eDicK_ap, eDicT_ap, sPut_ap, eAlt_ap, sTry_ap, eGetD_ap, eLockI_ap, iKeyF_ap, runB_ap, gOne_ap, gMany_ap, dI_ap, yesC_ap, dCmp_int, setD, kill_nx, kill_rt, kill_bk, Option.bind_some, Option.map_some, Option.bind_none, Option.map_none, List.getElem?_cons_zero, List.getElem?_cons_succ, List.set_cons_zero, List.set_cons_succ, List.cons_append, List.nil_append, List.append_nil, List.replicate, List.length_cons, List.length_nil, Nat.reduceAdd, Nat.reduceSub, Nat.zero_add, wdat_no, wdat_d, wdat_town, wdat_ol, wdat_od, wfrz_no, wfrz_d, wfrz_town, wfrz_ol, wfrz_od, wval_no, wval_d, wval_town, wval_ol, wval_od, warg_no, warg_d, warg_town, warg_ol, warg_od, vals, gLen, gAbs, gMax2, gMin2, gInt, gTup, gList, wipeW, if_true, if_false, Bool.false_eq_true, Bool.not_true, Bool.not_false, reduceCtorEq, h, g0]
    have r2 : eApp gSortedD (sCons (dOf (eApp gDictT (sCons (dOf F) sNil))) sNil) ρ n = some (.ol ((p :: P).map prN), n) := by
      simp -implicitDefEqProofs only [eVar_ap, dVar_ap, eC_ap, dOf_ap, eFrz_ap, eBin_ap, bTest_ap, bTru_ap, bAnd_ap, bOr_ap, bNot_ap, eIf_ap, eB_ap, eAnd_ap, eOr_ap, aNil_ap, aCons_ap, sNil_ap, sCons_ap, eTup_ap, eLst_ap, eCall_ap, eApp_ap, oNone_ap, oSome_ap, eSl_ap, sNil'_ap, sSeq_ap, sBrk_ap, sRet_ap, sRetN_ap, sRetO_ap, sDrop_ap, sIf_ap, sSet_ap, sApp_ap, sTown_ap, sExt_ap, sIns_ap, sSetIx_ap, sAsg_ap, sPar_ap, iOf_ap, iVal_ap, iRng1_ap, iRng2_ap, sFor_ap, eComp_ap, bYes_ap, frzAt_ap, eUn_ap, eNotD_ap, eOrD_ap, eChain_ap, eListRg1_ap, eIsa_ap, eMt_ap, iEnumV_ap, iEnumF_ap, iZipV_ap, iZipF_ap, eTLen_ap, iRng3D_ap, sEnd_ap, eSs_ap, sPar3_ap, xPop_ap, xTup1_ap, xCat_ap, sSetX_ap, sAppX_ap, sParO_ap, sForEI_ap, sForK_ap, eRep_ap, eDicK_ap, eDicT_ap, sPut_ap, eAlt_ap, sTry_ap, eGetD_ap, eLockI_ap, iKeyF_ap, runB_ap, gOne_ap, gMany_ap, dI_ap, yesC_ap, dCmp_int, setD, kill_nx, kill_rt, kill_bk, Option.bind_some, Option.map_some, Option.bind_none, Option.map_none, List.getElem?_cons_zero, List.getElem?_cons_succ, List.set_cons_zero, List.set_cons_succ, List.cons_append, List.nil_append, List.append_nil, List.replicate, List.length_cons, List.length_nil, Nat.reduceAdd, Nat.reduceSub, Nat.zero_add, wdat_no, wdat_d, wdat_town, wdat_ol, wdat_od, wfrz_no, wfrz_d, wfrz_town, wfrz_ol, wfrz_od, wval_no, wval_d, wval_town, wval_ol, wval_od, warg_no, warg_d, warg_town, warg_ol, warg_od, vals, gLen, gAbs, gMax2, gMin2, gInt, gTup, gList, wipeW, if_true, if_false, Bool.false_eq_true, Bool.not_true, Bool.not_false, reduceCtorEq, h, d1, d2]
    rw [eAlt_ap, r1, r2]; rfl
theorem dNe_prs (P : List NN) : dNe (.list (P.map prN)) (.list (P.map prN)) = some (.d (.bool false)) := dNe_ls (k := 2) (fun x hx => by
  obtain ⟨p, _, rfl⟩ := List.mem_map.mp hx
  exact pr_nc p) (by decide)
theorem tcL_srt {P : List NN} (hP : Pr P) : (tcL P).Pairwise nlt := by
  have nd : (tcL P).Nodup := (tcL_pr hP).nd
  exact (tcL_pw (P := P)).imp₂ (fun a b x y => by
    have y : a ≠ b := y
    have : ¬ (a.1 = b.1 ∧ a.2 = b.2) := fun q => y (Prod.ext q.1 q.2)
    unfold nle at x; unfold nlt; omega) nd
theorem closed_holds {P : List NN} (hP : Pr P) (n : Nat) : m__law_closed_holds [.d (prsN P)] n = some (.d (.bool true), n) := by
  have cl := closed_any hP n
  have tp := tcL_pr hP
  have tl := tp.few
  have pl := hP.few
  have hb : (tcL P).length ≤ big := le_big (by omega)
  have hbP : P.length ≤ big := le_big (by omega)
  have c1 := comp_mapA (g := gOne 2) (own := [2]) (elt := eTup (aCons (eVar 2) (aCons (eC (.int 0)) aNil))) (ρ := [.d (prsN P), .d (prsN (tcL P)), .no, .no, .no, .no, .no, .no]) (n := n) prN (fun p => .tuple [prN p, .int 0]) (tcL P) fun p _ => ⟨_, rfl, by simp -implicitDefEqProofs only [eVar_ap, dVar_ap, eC_ap, dOf_ap, eFrz_ap, eBin_ap, bTest_ap, bTru_ap, bAnd_ap, bOr_ap, bNot_ap, eIf_ap, eB_ap, eAnd_ap, eOr_ap, aNil_ap, aCons_ap, sNil_ap, sCons_ap, eTup_ap, eLst_ap, eCall_ap, eApp_ap, oNone_ap, oSome_ap, eSl_ap, sNil'_ap, sSeq_ap, sBrk_ap, sRet_ap, sRetN_ap, sRetO_ap, sDrop_ap, sIf_ap, sSet_ap, sApp_ap, sTown_ap, sExt_ap, sIns_ap, sSetIx_ap, sAsg_ap, sPar_ap, iOf_ap, iVal_ap, iRng1_ap, iRng2_ap, sFor_ap, eComp_ap, bYes_ap, frzAt_ap, eUn_ap, eNotD_ap, eOrD_ap, eChain_ap, eListRg1_ap, eIsa_ap, eMt_ap, iEnumV_ap, iEnumF_ap, iZipV_ap, iZipF_ap, eTLen_ap, iRng3D_ap, sEnd_ap, eSs_ap, sPar3_ap, xPop_ap, xTup1_ap, xCat_ap, sSetX_ap, sAppX_ap, sParO_ap, sForEI_ap, sForK_ap, eRep_ap, eDicK_ap, eDicT_ap, sPut_ap, eAlt_ap, sTry_ap, eGetD_ap, eLockI_ap, iKeyF_ap, runB_ap, gOne_ap, gMany_ap, dI_ap, yesC_ap, dCmp_int, setD, kill_nx, kill_rt, kill_bk, Option.bind_some, Option.map_some, Option.bind_none, Option.map_none, List.getElem?_cons_zero, List.getElem?_cons_succ, List.set_cons_zero, List.set_cons_succ, List.cons_append, List.nil_append, List.append_nil, List.replicate, List.length_cons, List.length_nil, Nat.reduceAdd, Nat.reduceSub, Nat.zero_add, wdat_no, wdat_d, wdat_town, wdat_ol, wdat_od, wfrz_no, wfrz_d, wfrz_town, wfrz_ol, wfrz_od, wval_no, wval_d, wval_town, wval_ol, wval_od, warg_no, warg_d, warg_town, warg_ol, warg_od, vals, gLen, gAbs, gMax2, gMin2, gInt, gTup, gList, wipeW, if_true, if_false, Bool.false_eq_true, Bool.not_true, Bool.not_false, reduceCtorEq]⟩
  have cF : eComp (iOf (dVar 1)) (gOne 2) [2] bYes (eTup (aCons (eVar 2) (aCons (eC (.int 0)) aNil))) [.d (prsN P), .d (prsN (tcL P)), .no, .no, .no, .no, .no, .no] n = some (.ol ((tcL P).map fun p => .tuple [prN p, .int 0]), n) := by
    simp -implicitDefEqProofs only [eVar_ap, dVar_ap, eC_ap, dOf_ap, eFrz_ap, eBin_ap, bTest_ap, bTru_ap, bAnd_ap, bOr_ap, bNot_ap, eIf_ap, eB_ap, eAnd_ap, eOr_ap, aNil_ap, aCons_ap, sNil_ap, sCons_ap, eTup_ap, eLst_ap, eCall_ap, eApp_ap, oNone_ap, oSome_ap, eSl_ap, sNil'_ap, sSeq_ap, sBrk_ap, sRet_ap, sRetN_ap, sRetO_ap, sDrop_ap, sIf_ap, sSet_ap, sApp_ap, sTown_ap, sExt_ap, sIns_ap, sSetIx_ap, sAsg_ap, sPar_ap, iOf_ap, iVal_ap, iRng1_ap, iRng2_ap, sFor_ap, eComp_ap, bYes_ap, frzAt_ap, eUn_ap, eNotD_ap, eOrD_ap, eChain_ap, eListRg1_ap, eIsa_ap, eMt_ap, iEnumV_ap, iEnumF_ap, iZipV_ap, iZipF_ap, eTLen_ap, iRng3D_ap, sEnd_ap, eSs_ap, sPar3_ap, xPop_ap, xTup1_ap, xCat_ap, sSetX_ap, sAppX_ap, sParO_ap, sForEI_ap, sForK_ap, eRep_ap, eDicK_ap, eDicT_ap, sPut_ap, eAlt_ap, sTry_ap, eGetD_ap, eLockI_ap, iKeyF_ap, runB_ap, gOne_ap, gMany_ap, dI_ap, yesC_ap, dCmp_int, setD, kill_nx, kill_rt, kill_bk, Option.bind_some, Option.map_some, Option.bind_none, Option.map_none, List.getElem?_cons_zero, List.getElem?_cons_succ, List.set_cons_zero, List.set_cons_succ, List.cons_append, List.nil_append, List.append_nil, List.replicate, List.length_cons, List.length_nil, Nat.reduceAdd, Nat.reduceSub, Nat.zero_add, wdat_no, wdat_d, wdat_town, wdat_ol, wdat_od, wfrz_no, wfrz_d, wfrz_town, wfrz_ol, wfrz_od, wval_no, wval_d, wval_town, wval_ol, wval_od, warg_no, warg_d, warg_town, warg_ol, warg_od, vals, gLen, gAbs, gMax2, gMin2, gInt, gTup, gList, wipeW, if_true, if_false, Bool.false_eq_true, Bool.not_true, Bool.not_false, reduceCtorEq, iSeq, List.length_map, hb, c1]
  have so := sorted_prs (tcL P) (tcL_srt hP) (by omega) _ n _ cF
  have c2 := comp_mapA (g := gOne 2) (own := [2]) (elt := eBin dIn (dVar 2) (dVar 1)) (ρ := [.d (prsN P), .d (prsN (tcL P)), .no, .no, .no, .no, .no, .no]) (n := n) prN (fun _ => .bool true) P fun p hp => by
    have i := (in_pr p.1 p.2 (tcL P) (by omega)).1
    rw [decide_eq_true (show (p.1, p.2) ∈ tcL P from tcl_in hP hp)] at i
    have i : dIn (prN p) (prsN (tcL P)) = some (.d (.bool true)) := i
    exact ⟨_, rfl, by simp -implicitDefEqProofs only [eVar_ap, dVar_ap, eC_ap, dOf_ap, eFrz_ap, eBin_ap, bTest_ap, bTru_ap, bAnd_ap, bOr_ap, bNot_ap, eIf_ap, eB_ap, eAnd_ap, eOr_ap, aNil_ap, aCons_ap, sNil_ap, sCons_ap, eTup_ap, eLst_ap, eCall_ap, eApp_ap, oNone_ap, oSome_ap, eSl_ap, sNil'_ap, sSeq_ap, sBrk_ap, sRet_ap, sRetN_ap, sRetO_ap, sDrop_ap, sIf_ap, sSet_ap, sApp_ap, sTown_ap, sExt_ap, sIns_ap, sSetIx_ap, sAsg_ap, sPar_ap, iOf_ap, iVal_ap, iRng1_ap, iRng2_ap, sFor_ap, eComp_ap, bYes_ap, frzAt_ap, eUn_ap, eNotD_ap, eOrD_ap, eChain_ap, eListRg1_ap, eIsa_ap, eMt_ap, iEnumV_ap, iEnumF_ap, iZipV_ap, iZipF_ap, eTLen_ap, iRng3D_ap, sEnd_ap, eSs_ap, sPar3_ap, xPop_ap, xTup1_ap, xCat_ap, sSetX_ap, sAppX_ap, sParO_ap, sForEI_ap, sForK_ap, eRep_ap, eDicK_ap, eDicT_ap, sPut_ap, eAlt_ap, sTry_ap, eGetD_ap, eLockI_ap, iKeyF_ap, runB_ap, gOne_ap, gMany_ap, dI_ap, yesC_ap, dCmp_int, setD, kill_nx, kill_rt, kill_bk, Option.bind_some, Option.map_some, Option.bind_none, Option.map_none, List.getElem?_cons_zero, List.getElem?_cons_succ, List.set_cons_zero, List.set_cons_succ, List.cons_append, List.nil_append, List.append_nil, List.replicate, List.length_cons, List.length_nil, Nat.reduceAdd, Nat.reduceSub, Nat.zero_add, wdat_no, wdat_d, wdat_town, wdat_ol, wdat_od, wfrz_no, wfrz_d, wfrz_town, wfrz_ol, wfrz_od, wval_no, wval_d, wval_town, wval_ol, wval_od, warg_no, warg_d, warg_town, warg_ol, warg_od, vals, gLen, gAbs, gMax2, gMin2, gInt, gTup, gList, wipeW, if_true, if_false, Bool.false_eq_true, Bool.not_true, Bool.not_false, reduceCtorEq, i]⟩
  have g2 : gAll [.list (P.map fun _ => .bool true)] = some (.d (.bool true)) := by
    rw [gAll_map (fun _ : NN => true) P]
    simp
  have ne := dNe_prs (tcL P)
  have lp := loopF_same (g := gMany [3, 4]) (body := l__law_closed_holds_1) (ρ := [.d (prsN P), .d (prsN (tcL P)), .no, .no, .no, .no, .no, .no]) (n := n) prN (tcL P) fun p hp => by
    have t := (tcL_mem hP (a := p.1) (b := p.2)).mp hp
    refine ⟨[.d (prsN P), .d (prsN (tcL P)), .no, .d (.int (p.1 : Int)), .d (.int (p.2 : Int)), .no, .no, .no], rfl, ?_⟩
    have f1 := comp_filA (g := gMany [6, 7]) (own := [6, 7]) (tst := bTest (eBin dEq (dVar 6) (dVar 3))) (elt := eVar 7) (ρ := [.d (prsN P), .d (prsN (tcL P)), .no, .d (.int (p.1 : Int)), .d (.int (p.2 : Int)), .no, .no, .no]) (n := n) prN (fun q => iN q.2) (fun q => q.1 == p.1) (tcL P) fun q _ => ⟨[.d (prsN P), .d (prsN (tcL P)), .no, .d (.int (p.1 : Int)), .d (.int (p.2 : Int)), .no, .d (.int (q.1 : Int)), .d (.int (q.2 : Int))], rfl, by
      have e := eqI q.1 p.1
      simp -implicitDefEqProofs only [eVar_ap, dVar_ap, eC_ap, dOf_ap, eFrz_ap, eBin_ap, bTest_ap, bTru_ap, bAnd_ap, bOr_ap, bNot_ap, eIf_ap, eB_ap, eAnd_ap, eOr_ap, aNil_ap, aCons_ap, sNil_ap, sCons_ap, eTup_ap, eLst_ap, eCall_ap, eApp_ap, oNone_ap, oSome_ap, eSl_ap, sNil'_ap, sSeq_ap, sBrk_ap, sRet_ap, sRetN_ap, sRetO_ap, sDrop_ap, sIf_ap, sSet_ap, sApp_ap, sTown_ap, sExt_ap, sIns_ap, sSetIx_ap, sAsg_ap, sPar_ap, iOf_ap, iVal_ap, iRng1_ap, iRng2_ap, sFor_ap, eComp_ap, bYes_ap, frzAt_ap, eUn_ap, eNotD_ap, eOrD_ap, eChain_ap, eListRg1_ap, eIsa_ap, eMt_ap, iEnumV_ap, iEnumF_ap, iZipV_ap, iZipF_ap, eTLen_ap, iRng3D_ap, sEnd_ap, eSs_ap, sPar3_ap, xPop_ap, xTup1_ap, xCat_ap, sSetX_ap, sAppX_ap, sParO_ap, sForEI_ap, sForK_ap, eRep_ap, eDicK_ap, eDicT_ap, sPut_ap, eAlt_ap, sTry_ap, eGetD_ap, eLockI_ap, iKeyF_ap, runB_ap, gOne_ap, gMany_ap, dI_ap, yesC_ap, dCmp_int, setD, kill_nx, kill_rt, kill_bk, Option.bind_some, Option.map_some, Option.bind_none, Option.map_none, List.getElem?_cons_zero, List.getElem?_cons_succ, List.set_cons_zero, List.set_cons_succ, List.cons_append, List.nil_append, List.append_nil, List.replicate, List.length_cons, List.length_nil, Nat.reduceAdd, Nat.reduceSub, Nat.zero_add, wdat_no, wdat_d, wdat_town, wdat_ol, wdat_od, wfrz_no, wfrz_d, wfrz_town, wfrz_ol, wfrz_od, wval_no, wval_d, wval_town, wval_ol, wval_od, warg_no, warg_d, warg_town, warg_ol, warg_od, vals, gLen, gAbs, gMax2, gMin2, gInt, gTup, gList, wipeW, if_true, if_false, Bool.false_eq_true, Bool.not_true, Bool.not_false, reduceCtorEq, e], fun _ => by simp -implicitDefEqProofs only [eVar_ap, dVar_ap, eC_ap, dOf_ap, eFrz_ap, eBin_ap, bTest_ap, bTru_ap, bAnd_ap, bOr_ap, bNot_ap, eIf_ap, eB_ap, eAnd_ap, eOr_ap, aNil_ap, aCons_ap, sNil_ap, sCons_ap, eTup_ap, eLst_ap, eCall_ap, eApp_ap, oNone_ap, oSome_ap, eSl_ap, sNil'_ap, sSeq_ap, sBrk_ap, sRet_ap, sRetN_ap, sRetO_ap, sDrop_ap, sIf_ap, sSet_ap, sApp_ap, sTown_ap, sExt_ap, sIns_ap, sSetIx_ap, sAsg_ap, sPar_ap, iOf_ap, iVal_ap, iRng1_ap, iRng2_ap, sFor_ap, eComp_ap, bYes_ap, frzAt_ap, eUn_ap, eNotD_ap, eOrD_ap, eChain_ap, eListRg1_ap, eIsa_ap, eMt_ap, iEnumV_ap, iEnumF_ap, iZipV_ap, iZipF_ap, eTLen_ap, iRng3D_ap, sEnd_ap, eSs_ap, sPar3_ap, xPop_ap, xTup1_ap, xCat_ap, sSetX_ap, sAppX_ap, sParO_ap, sForEI_ap, sForK_ap, eRep_ap, eDicK_ap, eDicT_ap, sPut_ap, eAlt_ap, sTry_ap, eGetD_ap, eLockI_ap, iKeyF_ap, runB_ap, gOne_ap, gMany_ap, dI_ap, yesC_ap, dCmp_int, setD, kill_nx, kill_rt, kill_bk, Option.bind_some, Option.map_some, Option.bind_none, Option.map_none, List.getElem?_cons_zero, List.getElem?_cons_succ, List.set_cons_zero, List.set_cons_succ, List.cons_append, List.nil_append, List.append_nil, List.replicate, List.length_cons, List.length_nil, Nat.reduceAdd, Nat.reduceSub, Nat.zero_add, wdat_no, wdat_d, wdat_town, wdat_ol, wdat_od, wfrz_no, wfrz_d, wfrz_town, wfrz_ol, wfrz_od, wval_no, wval_d, wval_town, wval_ol, wval_od, warg_no, warg_d, warg_town, warg_ol, warg_od, vals, gLen, gAbs, gMax2, gMin2, gInt, gTup, gList, wipeW, if_true, if_false, Bool.false_eq_true, Bool.not_true, Bool.not_false, reduceCtorEq]; rfl⟩
    have en : ((tcL P).filter fun q => q.1 == p.1).map (fun q => iN q.2) = (sc (tcL P) p.1).map iN := by unfold sc; rw [List.map_map]; rfl
    rw [en] at f1
    have sl : (sc (tcL P) p.1).length ≤ 36 := by
      have := sc_len (tcL P) p.1
      omega
    have hbS : (sc (tcL P) p.1).length ≤ big := le_big (by omega)
    have i0 := (in_pr p.1 p.2 P (by omega)).2
    unfold l__law_closed_holds_1
    refine (sSeq_nx (ρ' := [.d (prsN P), .d (prsN (tcL P)), .no, .d (.int (p.1 : Int)), .d (.int (p.2 : Int)), .d (.list ((sc (tcL P) p.1).map iN)), .no, .no]) (n' := n) (by simp -implicitDefEqProofs only [eVar_ap, dVar_ap, eC_ap, dOf_ap, eFrz_ap, eBin_ap, bTest_ap, bTru_ap, bAnd_ap, bOr_ap, bNot_ap, eIf_ap, eB_ap, eAnd_ap, eOr_ap, aNil_ap, aCons_ap, sNil_ap, sCons_ap, eTup_ap, eLst_ap, eCall_ap, eApp_ap, oNone_ap, oSome_ap, eSl_ap, sNil'_ap, sSeq_ap, sBrk_ap, sRet_ap, sRetN_ap, sRetO_ap, sDrop_ap, sIf_ap, sSet_ap, sApp_ap, sTown_ap, sExt_ap, sIns_ap, sSetIx_ap, sAsg_ap, sPar_ap, iOf_ap, iVal_ap, iRng1_ap, iRng2_ap, sFor_ap, eComp_ap, bYes_ap, frzAt_ap, eUn_ap, eNotD_ap, eOrD_ap, eChain_ap, eListRg1_ap, eIsa_ap, eMt_ap, iEnumV_ap, iEnumF_ap, iZipV_ap, iZipF_ap, eTLen_ap, iRng3D_ap, sEnd_ap, eSs_ap, sPar3_ap, xPop_ap, xTup1_ap, xCat_ap, sSetX_ap, sAppX_ap, sParO_ap, sForEI_ap, sForK_ap, eRep_ap, eDicK_ap, eDicT_ap, sPut_ap, eAlt_ap, sTry_ap, eGetD_ap, eLockI_ap, iKeyF_ap, runB_ap, gOne_ap, gMany_ap, dI_ap, yesC_ap, dCmp_int, setD, kill_nx, kill_rt, kill_bk, Option.bind_some, Option.map_some, Option.bind_none, Option.map_none, List.getElem?_cons_zero, List.getElem?_cons_succ, List.set_cons_zero, List.set_cons_succ, List.cons_append, List.nil_append, List.append_nil, List.replicate, List.length_cons, List.length_nil, Nat.reduceAdd, Nat.reduceSub, Nat.zero_add, wdat_no, wdat_d, wdat_town, wdat_ol, wdat_od, wfrz_no, wfrz_d, wfrz_town, wfrz_ol, wfrz_od, wval_no, wval_d, wval_town, wval_ol, wval_od, warg_no, warg_d, warg_town, warg_ol, warg_od, vals, gLen, gAbs, gMax2, gMin2, gInt, gTup, gList, wipeW, if_true, if_false, Bool.false_eq_true, Bool.not_true, Bool.not_false, reduceCtorEq, iSeq, List.length_map, hb, f1])).trans ?_
    refine (sSeq_nx (ρ' := [.d (prsN P), .d (prsN (tcL P)), .no, .d (.int (p.1 : Int)), .d (.int (p.2 : Int)), .no, .no, .no]) (n' := n) ?_).trans ?_
    · by_cases c : (p.1, p.2) ∈ P
      · rw [decide_eq_true c, Bool.not_true] at i0
        simp -implicitDefEqProofs only [eVar_ap, dVar_ap, eC_ap, dOf_ap, eFrz_ap, eBin_ap, bTest_ap, bTru_ap, bAnd_ap, bOr_ap, bNot_ap, eIf_ap, eB_ap, eAnd_ap, eOr_ap, aNil_ap, aCons_ap, sNil_ap, sCons_ap, eTup_ap, eLst_ap, eCall_ap, eApp_ap, oNone_ap, oSome_ap, eSl_ap, sNil'_ap, sSeq_ap, sBrk_ap, sRet_ap, sRetN_ap, sRetO_ap, sDrop_ap, sIf_ap, sSet_ap, sApp_ap, sTown_ap, sExt_ap, sIns_ap, sSetIx_ap, sAsg_ap, sPar_ap, iOf_ap, iVal_ap, iRng1_ap, iRng2_ap, sFor_ap, eComp_ap, bYes_ap, frzAt_ap, eUn_ap, eNotD_ap, eOrD_ap, eChain_ap, eListRg1_ap, eIsa_ap, eMt_ap, iEnumV_ap, iEnumF_ap, iZipV_ap, iZipF_ap, eTLen_ap, iRng3D_ap, sEnd_ap, eSs_ap, sPar3_ap, xPop_ap, xTup1_ap, xCat_ap, sSetX_ap, sAppX_ap, sParO_ap, sForEI_ap, sForK_ap, eRep_ap, eDicK_ap, eDicT_ap, sPut_ap, eAlt_ap, sTry_ap, eGetD_ap, eLockI_ap, iKeyF_ap, runB_ap, gOne_ap, gMany_ap, dI_ap, yesC_ap, dCmp_int, setD, kill_nx, kill_rt, kill_bk, Option.bind_some, Option.map_some, Option.bind_none, Option.map_none, List.getElem?_cons_zero, List.getElem?_cons_succ, List.set_cons_zero, List.set_cons_succ, List.cons_append, List.nil_append, List.append_nil, List.replicate, List.length_cons, List.length_nil, Nat.reduceAdd, Nat.reduceSub, Nat.zero_add, wdat_no, wdat_d, wdat_town, wdat_ol, wdat_od, wfrz_no, wfrz_d, wfrz_town, wfrz_ol, wfrz_od, wval_no, wval_d, wval_town, wval_ol, wval_od, warg_no, warg_d, warg_town, warg_ol, warg_od, vals, gLen, gAbs, gMax2, gMin2, gInt, gTup, gList, wipeW, if_true, if_false, Bool.false_eq_true, Bool.not_true, Bool.not_false, reduceCtorEq, i0]
      · rw [decide_eq_false c, Bool.not_false] at i0
        have c3 := comp_mapA (g := gOne 7) (own := [7]) (elt := eBin dIn (dOf (eTup (aCons (eVar 7) (aCons (eVar 4) aNil)))) (dVar 0)) (ρ := [.d (prsN P), .d (prsN (tcL P)), .no, .d (.int (p.1 : Int)), .d (.int (p.2 : Int)), .d (.list ((sc (tcL P) p.1).map iN)), .no, .no]) (n := n) iN (fun c => .bool (decide ((c, p.2) ∈ P))) (sc (tcL P) p.1) fun c _ => by
          have i := (in_pr c p.2 P (by omega)).1
          exact ⟨[.d (prsN P), .d (prsN (tcL P)), .no, .d (.int (p.1 : Int)), .d (.int (p.2 : Int)), .d (.list ((sc (tcL P) p.1).map iN)), .no, .d (.int (c : Int))], rfl, by simp -implicitDefEqProofs only [eVar_ap, dVar_ap, eC_ap, dOf_ap, eFrz_ap, eBin_ap, bTest_ap, bTru_ap, bAnd_ap, bOr_ap, bNot_ap, eIf_ap, eB_ap, eAnd_ap, eOr_ap, aNil_ap, aCons_ap, sNil_ap, sCons_ap, eTup_ap, eLst_ap, eCall_ap, eApp_ap, oNone_ap, oSome_ap, eSl_ap, sNil'_ap, sSeq_ap, sBrk_ap, sRet_ap, sRetN_ap, sRetO_ap, sDrop_ap, sIf_ap, sSet_ap, sApp_ap, sTown_ap, sExt_ap, sIns_ap, sSetIx_ap, sAsg_ap, sPar_ap, iOf_ap, iVal_ap, iRng1_ap, iRng2_ap, sFor_ap, eComp_ap, bYes_ap, frzAt_ap, eUn_ap, eNotD_ap, eOrD_ap, eChain_ap, eListRg1_ap, eIsa_ap, eMt_ap, iEnumV_ap, iEnumF_ap, iZipV_ap, iZipF_ap, eTLen_ap, iRng3D_ap, sEnd_ap, eSs_ap, sPar3_ap, xPop_ap, xTup1_ap, xCat_ap, sSetX_ap, sAppX_ap, sParO_ap, sForEI_ap, sForK_ap, eRep_ap, eDicK_ap, eDicT_ap, sPut_ap, eAlt_ap, sTry_ap, eGetD_ap, eLockI_ap, iKeyF_ap, runB_ap, gOne_ap, gMany_ap, dI_ap, yesC_ap, dCmp_int, setD, kill_nx, kill_rt, kill_bk, Option.bind_some, Option.map_some, Option.bind_none, Option.map_none, List.getElem?_cons_zero, List.getElem?_cons_succ, List.set_cons_zero, List.set_cons_succ, List.cons_append, List.nil_append, List.append_nil, List.replicate, List.length_cons, List.length_nil, Nat.reduceAdd, Nat.reduceSub, Nat.zero_add, wdat_no, wdat_d, wdat_town, wdat_ol, wdat_od, wfrz_no, wfrz_d, wfrz_town, wfrz_ol, wfrz_od, wval_no, wval_d, wval_town, wval_ol, wval_od, warg_no, warg_d, warg_town, warg_ol, warg_od, vals, gLen, gAbs, gMax2, gMin2, gInt, gTup, gList, wipeW, if_true, if_false, Bool.false_eq_true, Bool.not_true, Bool.not_false, reduceCtorEq, i]⟩
        have g3 := gAny_map (fun c => decide ((c, p.2) ∈ P)) (sc (tcL P) p.1)
        have yes : (sc (tcL P) p.1).any (fun c => decide ((c, p.2) ∈ P)) = true := by
          rcases tc_last t with q | ⟨x, x1, x2⟩
          · exact absurd q c
          · exact List.any_eq_true.mpr ⟨x, sc_mem.mpr ((tcL_mem hP).mpr x1), decide_eq_true x2⟩
        rw [yes] at g3
        simp -implicitDefEqProofs only [eVar_ap, dVar_ap, eC_ap, dOf_ap, eFrz_ap, eBin_ap, bTest_ap, bTru_ap, bAnd_ap, bOr_ap, bNot_ap, eIf_ap, eB_ap, eAnd_ap, eOr_ap, aNil_ap, aCons_ap, sNil_ap, sCons_ap, eTup_ap, eLst_ap, eCall_ap, eApp_ap, oNone_ap, oSome_ap, eSl_ap, sNil'_ap, sSeq_ap, sBrk_ap, sRet_ap, sRetN_ap, sRetO_ap, sDrop_ap, sIf_ap, sSet_ap, sApp_ap, sTown_ap, sExt_ap, sIns_ap, sSetIx_ap, sAsg_ap, sPar_ap, iOf_ap, iVal_ap, iRng1_ap, iRng2_ap, sFor_ap, eComp_ap, bYes_ap, frzAt_ap, eUn_ap, eNotD_ap, eOrD_ap, eChain_ap, eListRg1_ap, eIsa_ap, eMt_ap, iEnumV_ap, iEnumF_ap, iZipV_ap, iZipF_ap, eTLen_ap, iRng3D_ap, sEnd_ap, eSs_ap, sPar3_ap, xPop_ap, xTup1_ap, xCat_ap, sSetX_ap, sAppX_ap, sParO_ap, sForEI_ap, sForK_ap, eRep_ap, eDicK_ap, eDicT_ap, sPut_ap, eAlt_ap, sTry_ap, eGetD_ap, eLockI_ap, iKeyF_ap, runB_ap, gOne_ap, gMany_ap, dI_ap, yesC_ap, dCmp_int, setD, kill_nx, kill_rt, kill_bk, Option.bind_some, Option.map_some, Option.bind_none, Option.map_none, List.getElem?_cons_zero, List.getElem?_cons_succ, List.set_cons_zero, List.set_cons_succ, List.cons_append, List.nil_append, List.append_nil, List.replicate, List.length_cons, List.length_nil, Nat.reduceAdd, Nat.reduceSub, Nat.zero_add, wdat_no, wdat_d, wdat_town, wdat_ol, wdat_od, wfrz_no, wfrz_d, wfrz_town, wfrz_ol, wfrz_od, wval_no, wval_d, wval_town, wval_ol, wval_od, warg_no, warg_d, warg_town, warg_ol, warg_od, vals, gLen, gAbs, gMax2, gMin2, gInt, gTup, gList, wipeW, if_true, if_false, Bool.false_eq_true, Bool.not_true, Bool.not_false, reduceCtorEq, i0, iSeq, List.length_map, hbS, c3, g3, dTru_bool, Bool.not_true]
    · have l2 := loopF_same (g := gMany [6, 7]) (body := l__law_closed_holds_2) (ρ := [.d (prsN P), .d (prsN (tcL P)), .no, .d (.int (p.1 : Int)), .d (.int (p.2 : Int)), .no, .no, .no]) (n := n) prN (tcL P) fun q hq => by
        have e := eqI q.1 p.2
        refine ⟨[.d (prsN P), .d (prsN (tcL P)), .no, .d (.int (p.1 : Int)), .d (.int (p.2 : Int)), .no, .d (.int (q.1 : Int)), .d (.int (q.2 : Int))], rfl, ?_⟩
        unfold l__law_closed_holds_2
        by_cases c : q.1 = p.2
        · rw [beq_iff_eq.mpr c] at e
          have i := (in_pr p.1 q.2 (tcL P) (by omega)).2
          have q2 : TC P p.2 q.2 := c ▸ (tcL_mem hP (a := q.1) (b := q.2)).mp hq
          rw [decide_eq_true ((tcL_mem hP).mpr (t.trans q2)), Bool.not_true] at i
          simp -implicitDefEqProofs only [eVar_ap, dVar_ap, eC_ap, dOf_ap, eFrz_ap, eBin_ap, bTest_ap, bTru_ap, bAnd_ap, bOr_ap, bNot_ap, eIf_ap, eB_ap, eAnd_ap, eOr_ap, aNil_ap, aCons_ap, sNil_ap, sCons_ap, eTup_ap, eLst_ap, eCall_ap, eApp_ap, oNone_ap, oSome_ap, eSl_ap, sNil'_ap, sSeq_ap, sBrk_ap, sRet_ap, sRetN_ap, sRetO_ap, sDrop_ap, sIf_ap, sSet_ap, sApp_ap, sTown_ap, sExt_ap, sIns_ap, sSetIx_ap, sAsg_ap, sPar_ap, iOf_ap, iVal_ap, iRng1_ap, iRng2_ap, sFor_ap, eComp_ap, bYes_ap, frzAt_ap, eUn_ap, eNotD_ap, eOrD_ap, eChain_ap, eListRg1_ap, eIsa_ap, eMt_ap, iEnumV_ap, iEnumF_ap, iZipV_ap, iZipF_ap, eTLen_ap, iRng3D_ap, sEnd_ap, eSs_ap, sPar3_ap, xPop_ap, xTup1_ap, xCat_ap, sSetX_ap, sAppX_ap, sParO_ap, sForEI_ap, sForK_ap, eRep_ap, eDicK_ap, eDicT_ap, sPut_ap, eAlt_ap, sTry_ap, eGetD_ap, eLockI_ap, iKeyF_ap, runB_ap, gOne_ap, gMany_ap, dI_ap, yesC_ap, dCmp_int, setD, kill_nx, kill_rt, kill_bk, Option.bind_some, Option.map_some, Option.bind_none, Option.map_none, List.getElem?_cons_zero, List.getElem?_cons_succ, List.set_cons_zero, List.set_cons_succ, List.cons_append, List.nil_append, List.append_nil, List.replicate, List.length_cons, List.length_nil, Nat.reduceAdd, Nat.reduceSub, Nat.zero_add, wdat_no, wdat_d, wdat_town, wdat_ol, wdat_od, wfrz_no, wfrz_d, wfrz_town, wfrz_ol, wfrz_od, wval_no, wval_d, wval_town, wval_ol, wval_od, warg_no, warg_d, warg_town, warg_ol, warg_od, vals, gLen, gAbs, gMax2, gMin2, gInt, gTup, gList, wipeW, if_true, if_false, Bool.false_eq_true, Bool.not_true, Bool.not_false, reduceCtorEq, e, i]
        · rw [beq_eq_false_iff_ne.mpr c] at e
          simp -implicitDefEqProofs only [eVar_ap, dVar_ap, eC_ap, dOf_ap, eFrz_ap, eBin_ap, bTest_ap, bTru_ap, bAnd_ap, bOr_ap, bNot_ap, eIf_ap, eB_ap, eAnd_ap, eOr_ap, aNil_ap, aCons_ap, sNil_ap, sCons_ap, eTup_ap, eLst_ap, eCall_ap, eApp_ap, oNone_ap, oSome_ap, eSl_ap, sNil'_ap, sSeq_ap, sBrk_ap, sRet_ap, sRetN_ap, sRetO_ap, sDrop_ap, sIf_ap, sSet_ap, sApp_ap, sTown_ap, sExt_ap, sIns_ap, sSetIx_ap, sAsg_ap, sPar_ap, iOf_ap, iVal_ap, iRng1_ap, iRng2_ap, sFor_ap, eComp_ap, bYes_ap, frzAt_ap, eUn_ap, eNotD_ap, eOrD_ap, eChain_ap, eListRg1_ap, eIsa_ap, eMt_ap, iEnumV_ap, iEnumF_ap, iZipV_ap, iZipF_ap, eTLen_ap, iRng3D_ap, sEnd_ap, eSs_ap, sPar3_ap, xPop_ap, xTup1_ap, xCat_ap, sSetX_ap, sAppX_ap, sParO_ap, sForEI_ap, sForK_ap, eRep_ap, eDicK_ap, eDicT_ap, sPut_ap, eAlt_ap, sTry_ap, eGetD_ap, eLockI_ap, iKeyF_ap, runB_ap, gOne_ap, gMany_ap, dI_ap, yesC_ap, dCmp_int, setD, kill_nx, kill_rt, kill_bk, Option.bind_some, Option.map_some, Option.bind_none, Option.map_none, List.getElem?_cons_zero, List.getElem?_cons_succ, List.set_cons_zero, List.set_cons_succ, List.cons_append, List.nil_append, List.append_nil, List.replicate, List.length_cons, List.length_nil, Nat.reduceAdd, Nat.reduceSub, Nat.zero_add, wdat_no, wdat_d, wdat_town, wdat_ol, wdat_od, wfrz_no, wfrz_d, wfrz_town, wfrz_ol, wfrz_od, wval_no, wval_d, wval_town, wval_ol, wval_od, warg_no, warg_d, warg_town, warg_ol, warg_od, vals, gLen, gAbs, gMax2, gMin2, gInt, gTup, gList, wipeW, if_true, if_false, Bool.false_eq_true, Bool.not_true, Bool.not_false, reduceCtorEq, e]
      simp -implicitDefEqProofs only [eVar_ap, dVar_ap, eC_ap, dOf_ap, eFrz_ap, eBin_ap, bTest_ap, bTru_ap, bAnd_ap, bOr_ap, bNot_ap, eIf_ap, eB_ap, eAnd_ap, eOr_ap, aNil_ap, aCons_ap, sNil_ap, sCons_ap, eTup_ap, eLst_ap, eCall_ap, eApp_ap, oNone_ap, oSome_ap, eSl_ap, sNil'_ap, sSeq_ap, sBrk_ap, sRet_ap, sRetN_ap, sRetO_ap, sDrop_ap, sIf_ap, sSet_ap, sApp_ap, sTown_ap, sExt_ap, sIns_ap, sSetIx_ap, sAsg_ap, sPar_ap, iOf_ap, iVal_ap, iRng1_ap, iRng2_ap, sFor_ap, eComp_ap, bYes_ap, frzAt_ap, eUn_ap, eNotD_ap, eOrD_ap, eChain_ap, eListRg1_ap, eIsa_ap, eMt_ap, iEnumV_ap, iEnumF_ap, iZipV_ap, iZipF_ap, eTLen_ap, iRng3D_ap, sEnd_ap, eSs_ap, sPar3_ap, xPop_ap, xTup1_ap, xCat_ap, sSetX_ap, sAppX_ap, sParO_ap, sForEI_ap, sForK_ap, eRep_ap, eDicK_ap, eDicT_ap, sPut_ap, eAlt_ap, sTry_ap, eGetD_ap, eLockI_ap, iKeyF_ap, runB_ap, gOne_ap, gMany_ap, dI_ap, yesC_ap, dCmp_int, setD, kill_nx, kill_rt, kill_bk, Option.bind_some, Option.map_some, Option.bind_none, Option.map_none, List.getElem?_cons_zero, List.getElem?_cons_succ, List.set_cons_zero, List.set_cons_succ, List.cons_append, List.nil_append, List.append_nil, List.replicate, List.length_cons, List.length_nil, Nat.reduceAdd, Nat.reduceSub, Nat.zero_add, wdat_no, wdat_d, wdat_town, wdat_ol, wdat_od, wfrz_no, wfrz_d, wfrz_town, wfrz_ol, wfrz_od, wval_no, wval_d, wval_town, wval_ol, wval_od, warg_no, warg_d, warg_town, warg_ol, warg_od, vals, gLen, gAbs, gMax2, gMin2, gInt, gTup, gList, wipeW, if_true, if_false, Bool.false_eq_true, Bool.not_true, Bool.not_false, reduceCtorEq, iSeq, List.length_map, hb, l2]
  unfold m__law_closed_holds b__law_closed_holds
  refine runB_rt (n' := n) ?_
  refine (sSeq_nx (ρ' := [.d (prsN P), .d (prsN (tcL P)), .no, .no, .no, .no, .no, .no]) (n' := n) (by simp -implicitDefEqProofs only [eVar_ap, dVar_ap, eC_ap, dOf_ap, eFrz_ap, eBin_ap, bTest_ap, bTru_ap, bAnd_ap, bOr_ap, bNot_ap, eIf_ap, eB_ap, eAnd_ap, eOr_ap, aNil_ap, aCons_ap, sNil_ap, sCons_ap, eTup_ap, eLst_ap, eCall_ap, eApp_ap, oNone_ap, oSome_ap, eSl_ap, sNil'_ap, sSeq_ap, sBrk_ap, sRet_ap, sRetN_ap, sRetO_ap, sDrop_ap, sIf_ap, sSet_ap, sApp_ap, sTown_ap, sExt_ap, sIns_ap, sSetIx_ap, sAsg_ap, sPar_ap, iOf_ap, iVal_ap, iRng1_ap, iRng2_ap, sFor_ap, eComp_ap, bYes_ap, frzAt_ap, eUn_ap, eNotD_ap, eOrD_ap, eChain_ap, eListRg1_ap, eIsa_ap, eMt_ap, iEnumV_ap, iEnumF_ap, iZipV_ap, iZipF_ap, eTLen_ap, iRng3D_ap, sEnd_ap, eSs_ap, sPar3_ap, xPop_ap, xTup1_ap, xCat_ap, sSetX_ap, sAppX_ap, sParO_ap, sForEI_ap, sForK_ap, eRep_ap, eDicK_ap, eDicT_ap, sPut_ap, eAlt_ap, sTry_ap, eGetD_ap, eLockI_ap, iKeyF_ap, runB_ap, gOne_ap, gMany_ap, dI_ap, yesC_ap, dCmp_int, setD, kill_nx, kill_rt, kill_bk, Option.bind_some, Option.map_some, Option.bind_none, Option.map_none, List.getElem?_cons_zero, List.getElem?_cons_succ, List.set_cons_zero, List.set_cons_succ, List.cons_append, List.nil_append, List.append_nil, List.replicate, List.length_cons, List.length_nil, Nat.reduceAdd, Nat.reduceSub, Nat.zero_add, wdat_no, wdat_d, wdat_town, wdat_ol, wdat_od, wfrz_no, wfrz_d, wfrz_town, wfrz_ol, wfrz_od, wval_no, wval_d, wval_town, wval_ol, wval_od, warg_no, warg_d, warg_town, warg_ol, warg_od, vals, gLen, gAbs, gMax2, gMin2, gInt, gTup, gList, wipeW, if_true, if_false, Bool.false_eq_true, Bool.not_true, Bool.not_false, reduceCtorEq, cl])).trans ?_
  refine (sSeq_nx (ρ' := [.d (prsN P), .d (prsN (tcL P)), .no, .no, .no, .no, .no, .no]) (n' := n) ?_).trans ?_
  · generalize hG : eAlt (eApp gSortDict (sCons (dOf (eComp (iOf (dVar 1)) (gOne 2) [2] bYes (eTup (aCons (eVar 2) (aCons (eC (.int 0)) aNil))))) sNil)) (eApp gSortedD (sCons (dOf (eApp gDictT (sCons (dOf (eComp (iOf (dVar 1)) (gOne 2) [2] bYes (eTup (aCons (eVar 2) (aCons (eC (.int 0)) aNil))))) sNil))) sNil)) = G at so ⊢
    simp -implicitDefEqProofs only [eVar_ap, dVar_ap, eC_ap, dOf_ap, eFrz_ap, eBin_ap, bTest_ap, bTru_ap, bAnd_ap, bOr_ap, bNot_ap, eIf_ap, eB_ap, eAnd_ap, eOr_ap, aNil_ap, aCons_ap, sNil_ap, sCons_ap, eTup_ap, eLst_ap, eCall_ap, eApp_ap, oNone_ap, oSome_ap, eSl_ap, sNil'_ap, sSeq_ap, sBrk_ap, sRet_ap, sRetN_ap, sRetO_ap, sDrop_ap, sIf_ap, sSet_ap, sApp_ap, sTown_ap, sExt_ap, sIns_ap, sSetIx_ap, sAsg_ap, sPar_ap, iOf_ap, iVal_ap, iRng1_ap, iRng2_ap, sFor_ap, eComp_ap, bYes_ap, frzAt_ap, eUn_ap, eNotD_ap, eOrD_ap, eChain_ap, eListRg1_ap, eIsa_ap, eMt_ap, iEnumV_ap, iEnumF_ap, iZipV_ap, iZipF_ap, eTLen_ap, iRng3D_ap, sEnd_ap, eSs_ap, sPar3_ap, xPop_ap, xTup1_ap, xCat_ap, sSetX_ap, sAppX_ap, sParO_ap, sForEI_ap, sForK_ap, eRep_ap, eDicK_ap, eDicT_ap, sPut_ap, eAlt_ap, sTry_ap, eGetD_ap, eLockI_ap, iKeyF_ap, runB_ap, gOne_ap, gMany_ap, dI_ap, yesC_ap, dCmp_int, setD, kill_nx, kill_rt, kill_bk, Option.bind_some, Option.map_some, Option.bind_none, Option.map_none, List.getElem?_cons_zero, List.getElem?_cons_succ, List.set_cons_zero, List.set_cons_succ, List.cons_append, List.nil_append, List.append_nil, List.replicate, List.length_cons, List.length_nil, Nat.reduceAdd, Nat.reduceSub, Nat.zero_add, wdat_no, wdat_d, wdat_town, wdat_ol, wdat_od, wfrz_no, wfrz_d, wfrz_town, wfrz_ol, wfrz_od, wval_no, wval_d, wval_town, wval_ol, wval_od, warg_no, warg_d, warg_town, warg_ol, warg_od, vals, gLen, gAbs, gMax2, gMin2, gInt, gTup, gList, wipeW, if_true, if_false, Bool.false_eq_true, Bool.not_true, Bool.not_false, reduceCtorEq, gList, so, ne, iSeq, List.length_map, hbP, c2, g2, dTru_bool, Bool.not_true]
  refine (sSeq_nx (ρ' := [.no, .no, .no, .no, .no, .no, .no, .no]) (n' := n) (by simp -implicitDefEqProofs only [eVar_ap, dVar_ap, eC_ap, dOf_ap, eFrz_ap, eBin_ap, bTest_ap, bTru_ap, bAnd_ap, bOr_ap, bNot_ap, eIf_ap, eB_ap, eAnd_ap, eOr_ap, aNil_ap, aCons_ap, sNil_ap, sCons_ap, eTup_ap, eLst_ap, eCall_ap, eApp_ap, oNone_ap, oSome_ap, eSl_ap, sNil'_ap, sSeq_ap, sBrk_ap, sRet_ap, sRetN_ap, sRetO_ap, sDrop_ap, sIf_ap, sSet_ap, sApp_ap, sTown_ap, sExt_ap, sIns_ap, sSetIx_ap, sAsg_ap, sPar_ap, iOf_ap, iVal_ap, iRng1_ap, iRng2_ap, sFor_ap, eComp_ap, bYes_ap, frzAt_ap, eUn_ap, eNotD_ap, eOrD_ap, eChain_ap, eListRg1_ap, eIsa_ap, eMt_ap, iEnumV_ap, iEnumF_ap, iZipV_ap, iZipF_ap, eTLen_ap, iRng3D_ap, sEnd_ap, eSs_ap, sPar3_ap, xPop_ap, xTup1_ap, xCat_ap, sSetX_ap, sAppX_ap, sParO_ap, sForEI_ap, sForK_ap, eRep_ap, eDicK_ap, eDicT_ap, sPut_ap, eAlt_ap, sTry_ap, eGetD_ap, eLockI_ap, iKeyF_ap, runB_ap, gOne_ap, gMany_ap, dI_ap, yesC_ap, dCmp_int, setD, kill_nx, kill_rt, kill_bk, Option.bind_some, Option.map_some, Option.bind_none, Option.map_none, List.getElem?_cons_zero, List.getElem?_cons_succ, List.set_cons_zero, List.set_cons_succ, List.cons_append, List.nil_append, List.append_nil, List.replicate, List.length_cons, List.length_nil, Nat.reduceAdd, Nat.reduceSub, Nat.zero_add, wdat_no, wdat_d, wdat_town, wdat_ol, wdat_od, wfrz_no, wfrz_d, wfrz_town, wfrz_ol, wfrz_od, wval_no, wval_d, wval_town, wval_ol, wval_od, warg_no, warg_d, warg_town, warg_ol, warg_od, vals, gLen, gAbs, gMax2, gMin2, gInt, gTup, gList, wipeW, if_true, if_false, Bool.false_eq_true, Bool.not_true, Bool.not_false, reduceCtorEq, iSeq, List.length_map, hb, lp])).trans ?_
  simp -implicitDefEqProofs only [eVar_ap, dVar_ap, eC_ap, dOf_ap, eFrz_ap, eBin_ap, bTest_ap, bTru_ap, bAnd_ap, bOr_ap, bNot_ap, eIf_ap, eB_ap, eAnd_ap, eOr_ap, aNil_ap, aCons_ap, sNil_ap, sCons_ap, eTup_ap, eLst_ap, eCall_ap, eApp_ap, oNone_ap, oSome_ap, eSl_ap, sNil'_ap, sSeq_ap, sBrk_ap, sRet_ap, sRetN_ap, sRetO_ap, sDrop_ap, sIf_ap, sSet_ap, sApp_ap, sTown_ap, sExt_ap, sIns_ap, sSetIx_ap, sAsg_ap, sPar_ap, iOf_ap, iVal_ap, iRng1_ap, iRng2_ap, sFor_ap, eComp_ap, bYes_ap, frzAt_ap, eUn_ap, eNotD_ap, eOrD_ap, eChain_ap, eListRg1_ap, eIsa_ap, eMt_ap, iEnumV_ap, iEnumF_ap, iZipV_ap, iZipF_ap, eTLen_ap, iRng3D_ap, sEnd_ap, eSs_ap, sPar3_ap, xPop_ap, xTup1_ap, xCat_ap, sSetX_ap, sAppX_ap, sParO_ap, sForEI_ap, sForK_ap, eRep_ap, eDicK_ap, eDicT_ap, sPut_ap, eAlt_ap, sTry_ap, eGetD_ap, eLockI_ap, iKeyF_ap, runB_ap, gOne_ap, gMany_ap, dI_ap, yesC_ap, dCmp_int, setD, kill_nx, kill_rt, kill_bk, Option.bind_some, Option.map_some, Option.bind_none, Option.map_none, List.getElem?_cons_zero, List.getElem?_cons_succ, List.set_cons_zero, List.set_cons_succ, List.cons_append, List.nil_append, List.append_nil, List.replicate, List.length_cons, List.length_nil, Nat.reduceAdd, Nat.reduceSub, Nat.zero_add, wdat_no, wdat_d, wdat_town, wdat_ol, wdat_od, wfrz_no, wfrz_d, wfrz_town, wfrz_ol, wfrz_od, wval_no, wval_d, wval_town, wval_ol, wval_od, warg_no, warg_d, warg_town, warg_ol, warg_od, vals, gLen, gAbs, gMax2, gMin2, gInt, gTup, gList, wipeW, if_true, if_false, Bool.false_eq_true, Bool.not_true, Bool.not_false, reduceCtorEq]
/-! rings -/
theorem pairKs_nat : ∀ l : List Nat, pairKs (l.map fun (i : Nat) => PyData.tuple [.int (i : Int), .int 0]) = some (l.map fun (i : Nat) => (i : Int))
  | [] => rfl
  | i :: l => by
    have ih := pairKs_nat l
    rw [List.map_cons]
    simp only [pairKs, ih]
    rfl
theorem ss_len {l : List Nat} (h : l.Nodup) : (ssetI (l.map fun (i : Nat) => (i : Int))).length = l.length := by
  have nd : (l.map fun (i : Nat) => (i : Int)).Nodup := List.pairwise_map.mpr (h.imp fun q e => q (by omega))
  have := ((List.perm_ext_iff_of_nodup ((ssetI_pw (l.map fun (i : Nat) => (i : Int))).imp fun q => Int.ne_of_lt q) nd).mpr fun z => ssetI_mem z _).length_eq
  rw [this, List.length_map]
theorem ring_holds {P : List NN} {m : Nat} (D : L2.Lv.Sh.Dp m P) (n : Nat) : m__law_ring_holds [.d (prsN P)] n = some (.d (.bool true), n) := by
  have hP := D.pr
  have cl := closed_any hP n
  have tl := (tcL_pr hP).few
  have hb : (tcL P).length ≤ big := le_big (by omega)
  have ro := ring_ok hP D.srt (fun p hp => (D.lt p hp).1) n
  have nr := no_ring D.six D.lt
  have c1 := comp_filA (g := gMany [3, 4]) (own := [3, 4]) (tst := bTest (eBin dEq (dVar 3) (dVar 4))) (elt := eVar 3) (ρ := [.d (prsN P), .d (rgO (allR P m).head?), .d (prsN (tcL P)), .no, .no]) (n := n) prN (fun q => iN q.1) (fun q => q.1 == q.2) (tcL P) fun q _ => ⟨[.d (prsN P), .d (rgO (allR P m).head?), .d (prsN (tcL P)), .d (.int (q.1 : Int)), .d (.int (q.2 : Int))], rfl, by
    have e := eqI q.1 q.2
    simp -implicitDefEqProofs only [eVar_ap, dVar_ap, eC_ap, dOf_ap, eFrz_ap, eBin_ap, bTest_ap, bTru_ap, bAnd_ap, bOr_ap, bNot_ap, eIf_ap, eB_ap, eAnd_ap, eOr_ap, aNil_ap, aCons_ap, sNil_ap, sCons_ap, eTup_ap, eLst_ap, eCall_ap, eApp_ap, oNone_ap, oSome_ap, eSl_ap, sNil'_ap, sSeq_ap, sBrk_ap, sRet_ap, sRetN_ap, sRetO_ap, sDrop_ap, sIf_ap, sSet_ap, sApp_ap, sTown_ap, sExt_ap, sIns_ap, sSetIx_ap, sAsg_ap, sPar_ap, iOf_ap, iVal_ap, iRng1_ap, iRng2_ap, sFor_ap, eComp_ap, bYes_ap, frzAt_ap, eUn_ap, eNotD_ap, eOrD_ap, eChain_ap, eListRg1_ap, eIsa_ap, eMt_ap, iEnumV_ap, iEnumF_ap, iZipV_ap, iZipF_ap, eTLen_ap, iRng3D_ap, sEnd_ap, eSs_ap, sPar3_ap, xPop_ap, xTup1_ap, xCat_ap, sSetX_ap, sAppX_ap, sParO_ap, sForEI_ap, sForK_ap, eRep_ap, eDicK_ap, eDicT_ap, sPut_ap, eAlt_ap, sTry_ap, eGetD_ap, eLockI_ap, iKeyF_ap, runB_ap, gOne_ap, gMany_ap, dI_ap, yesC_ap, dCmp_int, setD, kill_nx, kill_rt, kill_bk, Option.bind_some, Option.map_some, Option.bind_none, Option.map_none, List.getElem?_cons_zero, List.getElem?_cons_succ, List.set_cons_zero, List.set_cons_succ, List.cons_append, List.nil_append, List.append_nil, List.replicate, List.length_cons, List.length_nil, Nat.reduceAdd, Nat.reduceSub, Nat.zero_add, wdat_no, wdat_d, wdat_town, wdat_ol, wdat_od, wfrz_no, wfrz_d, wfrz_town, wfrz_ol, wfrz_od, wval_no, wval_d, wval_town, wval_ol, wval_od, warg_no, warg_d, warg_town, warg_ol, warg_od, vals, gLen, gAbs, gMax2, gMin2, gInt, gTup, gList, wipeW, if_true, if_false, Bool.false_eq_true, Bool.not_true, Bool.not_false, reduceCtorEq, e], fun _ => by simp -implicitDefEqProofs only [eVar_ap, dVar_ap, eC_ap, dOf_ap, eFrz_ap, eBin_ap, bTest_ap, bTru_ap, bAnd_ap, bOr_ap, bNot_ap, eIf_ap, eB_ap, eAnd_ap, eOr_ap, aNil_ap, aCons_ap, sNil_ap, sCons_ap, eTup_ap, eLst_ap, eCall_ap, eApp_ap, oNone_ap, oSome_ap, eSl_ap, sNil'_ap, sSeq_ap, sBrk_ap, sRet_ap, sRetN_ap, sRetO_ap, sDrop_ap, sIf_ap, sSet_ap, sApp_ap, sTown_ap, sExt_ap, sIns_ap, sSetIx_ap, sAsg_ap, sPar_ap, iOf_ap, iVal_ap, iRng1_ap, iRng2_ap, sFor_ap, eComp_ap, bYes_ap, frzAt_ap, eUn_ap, eNotD_ap, eOrD_ap, eChain_ap, eListRg1_ap, eIsa_ap, eMt_ap, iEnumV_ap, iEnumF_ap, iZipV_ap, iZipF_ap, eTLen_ap, iRng3D_ap, sEnd_ap, eSs_ap, sPar3_ap, xPop_ap, xTup1_ap, xCat_ap, sSetX_ap, sAppX_ap, sParO_ap, sForEI_ap, sForK_ap, eRep_ap, eDicK_ap, eDicT_ap, sPut_ap, eAlt_ap, sTry_ap, eGetD_ap, eLockI_ap, iKeyF_ap, runB_ap, gOne_ap, gMany_ap, dI_ap, yesC_ap, dCmp_int, setD, kill_nx, kill_rt, kill_bk, Option.bind_some, Option.map_some, Option.bind_none, Option.map_none, List.getElem?_cons_zero, List.getElem?_cons_succ, List.set_cons_zero, List.set_cons_succ, List.cons_append, List.nil_append, List.append_nil, List.replicate, List.length_cons, List.length_nil, Nat.reduceAdd, Nat.reduceSub, Nat.zero_add, wdat_no, wdat_d, wdat_town, wdat_ol, wdat_od, wfrz_no, wfrz_d, wfrz_town, wfrz_ol, wfrz_od, wval_no, wval_d, wval_town, wval_ol, wval_od, warg_no, warg_d, warg_town, warg_ol, warg_od, vals, gLen, gAbs, gMax2, gMin2, gInt, gTup, gList, wipeW, if_true, if_false, Bool.false_eq_true, Bool.not_true, Bool.not_false, reduceCtorEq]; rfl⟩
  unfold m__law_ring_holds b__law_ring_holds
  refine runB_rt (n' := n) ?_
  refine (sSeq_nx (ρ' := [.d (prsN P), .d (rgO (allR P m).head?), .d (prsN (tcL P)), .no, .no]) (n' := n) (by simp -implicitDefEqProofs only [eVar_ap, dVar_ap, eC_ap, dOf_ap, eFrz_ap, eBin_ap, bTest_ap, bTru_ap, bAnd_ap, bOr_ap, bNot_ap, eIf_ap, eB_ap, eAnd_ap, eOr_ap, aNil_ap, aCons_ap, sNil_ap, sCons_ap, eTup_ap, eLst_ap, eCall_ap, eApp_ap, oNone_ap, oSome_ap, eSl_ap, sNil'_ap, sSeq_ap, sBrk_ap, sRet_ap, sRetN_ap, sRetO_ap, sDrop_ap, sIf_ap, sSet_ap, sApp_ap, sTown_ap, sExt_ap, sIns_ap, sSetIx_ap, sAsg_ap, sPar_ap, iOf_ap, iVal_ap, iRng1_ap, iRng2_ap, sFor_ap, eComp_ap, bYes_ap, frzAt_ap, eUn_ap, eNotD_ap, eOrD_ap, eChain_ap, eListRg1_ap, eIsa_ap, eMt_ap, iEnumV_ap, iEnumF_ap, iZipV_ap, iZipF_ap, eTLen_ap, iRng3D_ap, sEnd_ap, eSs_ap, sPar3_ap, xPop_ap, xTup1_ap, xCat_ap, sSetX_ap, sAppX_ap, sParO_ap, sForEI_ap, sForK_ap, eRep_ap, eDicK_ap, eDicT_ap, sPut_ap, eAlt_ap, sTry_ap, eGetD_ap, eLockI_ap, iKeyF_ap, runB_ap, gOne_ap, gMany_ap, dI_ap, yesC_ap, dCmp_int, setD, kill_nx, kill_rt, kill_bk, Option.bind_some, Option.map_some, Option.bind_none, Option.map_none, List.getElem?_cons_zero, List.getElem?_cons_succ, List.set_cons_zero, List.set_cons_succ, List.cons_append, List.nil_append, List.append_nil, List.replicate, List.length_cons, List.length_nil, Nat.reduceAdd, Nat.reduceSub, Nat.zero_add, wdat_no, wdat_d, wdat_town, wdat_ol, wdat_od, wfrz_no, wfrz_d, wfrz_town, wfrz_ol, wfrz_od, wval_no, wval_d, wval_town, wval_ol, wval_od, warg_no, warg_d, warg_town, warg_ol, warg_od, vals, gLen, gAbs, gMax2, gMin2, gInt, gTup, gList, wipeW, if_true, if_false, Bool.false_eq_true, Bool.not_true, Bool.not_false, reduceCtorEq, ro, cl])).trans ?_
  cases hR : allR P m with
  | nil =>
    rw [hR] at c1
    have ce : (tcL P).filter (fun p => p.1 == p.2) = [] := by
      rw [List.filter_eq_nil_iff]
      intro p hp q
      have q : p.1 = p.2 := by simpa using q
      exact nr.mp hR p.1 (by have := (tcL_mem hP (a := p.1) (b := p.2)).mp hp; rw [← q] at this; exact this)
    rw [ce, List.map_nil] at c1
    have i1 : dIsN .none .none = some (.d (.bool true)) := rfl
    have n1 : dNe (.bool true) (.bool true) = some (.d (.bool false)) := rfl
    have t0 : dTru (.list []) = some false := rfl
    have c1 : loopC (gMany [3, 4]) [3, 4] (bTest (eBin dEq (dVar 3) (dVar 4))) (eVar 3) [.d (prsN P), .d .none, .d (prsN (tcL P)), .no, .no] ((tcL P).map prN) n = some ([], n) := c1
    show sSeq _ _ [.d (prsN P), .d .none, .d (prsN (tcL P)), .no, .no] n = _
    refine (sSeq_nx (ρ' := [.d (prsN P), .d .none, .no, .no, .no]) (n' := n) (by simp -implicitDefEqProofs only [eVar_ap, dVar_ap, eC_ap, dOf_ap, eFrz_ap, eBin_ap, bTest_ap, bTru_ap, bAnd_ap, bOr_ap, bNot_ap, eIf_ap, eB_ap, eAnd_ap, eOr_ap, aNil_ap, aCons_ap, sNil_ap, sCons_ap, eTup_ap, eLst_ap, eCall_ap, eApp_ap, oNone_ap, oSome_ap, eSl_ap, sNil'_ap, sSeq_ap, sBrk_ap, sRet_ap, sRetN_ap, sRetO_ap, sDrop_ap, sIf_ap, sSet_ap, sApp_ap, sTown_ap, sExt_ap, sIns_ap, sSetIx_ap, sAsg_ap, sPar_ap, iOf_ap, iVal_ap, iRng1_ap, iRng2_ap, sFor_ap, eComp_ap, bYes_ap, frzAt_ap, eUn_ap, eNotD_ap, eOrD_ap, eChain_ap, eListRg1_ap, eIsa_ap, eMt_ap, iEnumV_ap, iEnumF_ap, iZipV_ap, iZipF_ap, eTLen_ap, iRng3D_ap, sEnd_ap, eSs_ap, sPar3_ap, xPop_ap, xTup1_ap, xCat_ap, sSetX_ap, sAppX_ap, sParO_ap, sForEI_ap, sForK_ap, eRep_ap, eDicK_ap, eDicT_ap, sPut_ap, eAlt_ap, sTry_ap, eGetD_ap, eLockI_ap, iKeyF_ap, runB_ap, gOne_ap, gMany_ap, dI_ap, yesC_ap, dCmp_int, setD, kill_nx, kill_rt, kill_bk, Option.bind_some, Option.map_some, Option.bind_none, Option.map_none, List.getElem?_cons_zero, List.getElem?_cons_succ, List.set_cons_zero, List.set_cons_succ, List.cons_append, List.nil_append, List.append_nil, List.replicate, List.length_cons, List.length_nil, Nat.reduceAdd, Nat.reduceSub, Nat.zero_add, wdat_no, wdat_d, wdat_town, wdat_ol, wdat_od, wfrz_no, wfrz_d, wfrz_town, wfrz_ol, wfrz_od, wval_no, wval_d, wval_town, wval_ol, wval_od, warg_no, warg_d, warg_town, warg_ol, warg_od, vals, gLen, gAbs, gMax2, gMin2, gInt, gTup, gList, wipeW, if_true, if_false, Bool.false_eq_true, Bool.not_true, Bool.not_false, reduceCtorEq, i1, iSeq, List.length_map, hb, c1, t0, Bool.not_false, n1])).trans ?_
    simp -implicitDefEqProofs only [eVar_ap, dVar_ap, eC_ap, dOf_ap, eFrz_ap, eBin_ap, bTest_ap, bTru_ap, bAnd_ap, bOr_ap, bNot_ap, eIf_ap, eB_ap, eAnd_ap, eOr_ap, aNil_ap, aCons_ap, sNil_ap, sCons_ap, eTup_ap, eLst_ap, eCall_ap, eApp_ap, oNone_ap, oSome_ap, eSl_ap, sNil'_ap, sSeq_ap, sBrk_ap, sRet_ap, sRetN_ap, sRetO_ap, sDrop_ap, sIf_ap, sSet_ap, sApp_ap, sTown_ap, sExt_ap, sIns_ap, sSetIx_ap, sAsg_ap, sPar_ap, iOf_ap, iVal_ap, iRng1_ap, iRng2_ap, sFor_ap, eComp_ap, bYes_ap, frzAt_ap, eUn_ap, eNotD_ap, eOrD_ap, eChain_ap, eListRg1_ap, eIsa_ap, eMt_ap, iEnumV_ap, iEnumF_ap, iZipV_ap, iZipF_ap, eTLen_ap, iRng3D_ap, sEnd_ap, eSs_ap, sPar3_ap, xPop_ap, xTup1_ap, xCat_ap, sSetX_ap, sAppX_ap, sParO_ap, sForEI_ap, sForK_ap, eRep_ap, eDicK_ap, eDicT_ap, sPut_ap, eAlt_ap, sTry_ap, eGetD_ap, eLockI_ap, iKeyF_ap, runB_ap, gOne_ap, gMany_ap, dI_ap, yesC_ap, dCmp_int, setD, kill_nx, kill_rt, kill_bk, Option.bind_some, Option.map_some, Option.bind_none, Option.map_none, List.getElem?_cons_zero, List.getElem?_cons_succ, List.set_cons_zero, List.set_cons_succ, List.cons_append, List.nil_append, List.append_nil, List.replicate, List.length_cons, List.length_nil, Nat.reduceAdd, Nat.reduceSub, Nat.zero_add, wdat_no, wdat_d, wdat_town, wdat_ol, wdat_od, wfrz_no, wfrz_d, wfrz_town, wfrz_ol, wfrz_od, wval_no, wval_d, wval_town, wval_ol, wval_od, warg_no, warg_d, warg_town, warg_ol, warg_od, vals, gLen, gAbs, gMax2, gMin2, gInt, gTup, gList, wipeW, if_true, if_false, Bool.false_eq_true, Bool.not_true, Bool.not_false, reduceCtorEq, i1]
  | cons r L =>
    rw [hR] at c1
    have R := allR_rg (m := m) (r := r) (by rw [hR]; exact List.mem_cons_self ..)
    have wy := allR_wy hP D.six r (by rw [hR]; exact List.mem_cons_self ..)
    have rl := wy.len
    obtain ⟨q, F, ce⟩ : ∃ q F, (tcL P).filter (fun p => p.1 == p.2) = q :: F := by
      cases c : (tcL P).filter (fun p => p.1 == p.2) with
      | cons q F => exact ⟨q, F, rfl⟩
      | nil =>
        have h : (hdw r, hdw r) ∈ (tcL P).filter (fun p => p.1 == p.2) := List.mem_filter.mpr ⟨(tcL_mem hP).mpr (closed_tc R.ne R.pth R.cl), by simp⟩
        rw [c] at h
        cases h
    rw [ce, List.map_cons] at c1
    have t1 : dTru (.list (iN q.1 :: F.map fun p => iN p.1)) = some true := rfl
    have i1 : dIsN (wyD r) .none = some (.d (.bool false)) := rfl
    have n1 : dNe (.bool false) (.bool false) = some (.d (.bool false)) := rfl
    have c1 : loopC (gMany [3, 4]) [3, 4] (bTest (eBin dEq (dVar 3) (dVar 4))) (eVar 3) [.d (prsN P), .d (wyD r), .d (prsN (tcL P)), .no, .no] ((tcL P).map prN) n = some (iN q.1 :: F.map fun p => iN p.1, n) := c1
    have sl1 : dSl (wyD r) (some 1) none = some (.d (wyD r.tail)) := by
      show some (W.d (.tuple (cutD (r.map iN) (some 1) none))) = _
      rw [cutD_tail, ← List.map_tail]
    have sl2 : dSl (wyD r) none (some 1) = some (.d (wyD [hdw r])) := by
      show some (W.d (.tuple (cutD (r.map iN) none (some ((1 : Nat) : Int))))) = _
      rw [cut_take]
      cases r with
      | nil => exact absurd rfl R.ne
      | cons a t => rfl
    have d1 := dAdd_tup (r.tail.map iN) ([hdw r].map iN) (le_big (by simp; omega))
    rw [← List.map_append] at d1
    have zk : zipOk (wyD r) (wyD (r.tail ++ [hdw r])) = some ((r.zip (r.tail ++ [hdw r])).map prN) := by
      show some (zipD (r.map iN) ((r.tail ++ [hdw r]).map iN)) = _
      rw [zip_wy]
    have zp := ring_zip (hdw r) r R.pth R.ne R.cl
    have zl : (r.zip (r.tail ++ [hdw r])).length ≤ big := le_big (by rw [List.length_zip]; omega)
    have hx := ixHd0 R.ne
    have mn : gMinT [wyD r] = some (.d (.int (hdw r : Int))) := by
      obtain ⟨a, t, rfl⟩ : ∃ a t, r = a :: t := by
        cases r with
        | nil => exact absurd rfl R.ne
        | cons a t => exact ⟨a, t, rfl⟩
      have i2 := intsOf_map ((a : Int) :: t.map fun k : Nat => (k : Int))
      have e : (wyD (a :: t)) = .tuple (((a : Int) :: t.map fun k : Nat => (k : Int)).map .int) := by
        show PyData.tuple _ = _
        rw [List.map_cons, List.map_cons, List.map_map]; rfl
      have lo : lowI (a : Int) (t.map fun k : Nat => (k : Int)) = (a : Int) := by
        refine (low_uniq (List.mem_cons_self ..) fun y hy => ?_).symm
        rcases List.mem_cons.mp hy with h | h
        · omega
        · obtain ⟨k, hk, rfl⟩ := List.mem_map.mp h
          have := R.lo k (List.mem_cons_of_mem _ hk)
          have e0 : hdw (a :: t) = a := rfl
          rw [e0] at this; omega
      rw [e]
      simp only [gMinT, i2, Option.bind_some, lo]
      rfl
    have ne0 : ∀ z : Int, dNe (.int z) (.int z) = some (.d (.bool false)) := fun z => by rw [dNe_int]; simp
    have c2 := comp_mapA (g := gOne 3) (own := [3]) (elt := eTup (aCons (eVar 3) (aCons (eC (.int 0)) aNil))) (ρ := [.d (prsN P), .d (wyD r), .no, .no, .no]) (n := n) iN (fun (i : Nat) => .tuple [.int (i : Int), .int 0]) r fun x _ => ⟨[.d (prsN P), .d (wyD r), .no, .d (.int (x : Int)), .no], rfl, by simp -implicitDefEqProofs only [eVar_ap, dVar_ap, eC_ap, dOf_ap, eFrz_ap, eBin_ap, bTest_ap, bTru_ap, bAnd_ap, bOr_ap, bNot_ap, eIf_ap, eB_ap, eAnd_ap, eOr_ap, aNil_ap, aCons_ap, sNil_ap, sCons_ap, eTup_ap, eLst_ap, eCall_ap, eApp_ap, oNone_ap, oSome_ap, eSl_ap, sNil'_ap, sSeq_ap, sBrk_ap, sRet_ap, sRetN_ap, sRetO_ap, sDrop_ap, sIf_ap, sSet_ap, sApp_ap, sTown_ap, sExt_ap, sIns_ap, sSetIx_ap, sAsg_ap, sPar_ap, iOf_ap, iVal_ap, iRng1_ap, iRng2_ap, sFor_ap, eComp_ap, bYes_ap, frzAt_ap, eUn_ap, eNotD_ap, eOrD_ap, eChain_ap, eListRg1_ap, eIsa_ap, eMt_ap, iEnumV_ap, iEnumF_ap, iZipV_ap, iZipF_ap, eTLen_ap, iRng3D_ap, sEnd_ap, eSs_ap, sPar3_ap, xPop_ap, xTup1_ap, xCat_ap, sSetX_ap, sAppX_ap, sParO_ap, sForEI_ap, sForK_ap, eRep_ap, eDicK_ap, eDicT_ap, sPut_ap, eAlt_ap, sTry_ap, eGetD_ap, eLockI_ap, iKeyF_ap, runB_ap, gOne_ap, gMany_ap, dI_ap, yesC_ap, dCmp_int, setD, kill_nx, kill_rt, kill_bk, Option.bind_some, Option.map_some, Option.bind_none, Option.map_none, List.getElem?_cons_zero, List.getElem?_cons_succ, List.set_cons_zero, List.set_cons_succ, List.cons_append, List.nil_append, List.append_nil, List.replicate, List.length_cons, List.length_nil, Nat.reduceAdd, Nat.reduceSub, Nat.zero_add, wdat_no, wdat_d, wdat_town, wdat_ol, wdat_od, wfrz_no, wfrz_d, wfrz_town, wfrz_ol, wfrz_od, wval_no, wval_d, wval_town, wval_ol, wval_od, warg_no, warg_d, warg_town, warg_ol, warg_od, vals, gLen, gAbs, gMax2, gMin2, gInt, gTup, gList, wipeW, if_true, if_false, Bool.false_eq_true, Bool.not_true, Bool.not_false, reduceCtorEq]⟩
    have gl : gLenDict [.list (r.map fun (i : Nat) => .tuple [.int (i : Int), .int 0])] = some (.d (.int (r.length : Int))) := by
      simp only [gLenDict, pairKs_nat, Option.bind_some]
      rw [if_pos (by rw [List.length_map]; omega), ss_len R.nd]
    have hr : r.length ≤ big := le_big (by omega)
    have c3 := comp_mapA (g := gMany [3, 4]) (own := [3, 4]) (elt := eBin dIn (dOf (eTup (aCons (eVar 3) (aCons (eVar 4) aNil)))) (dVar 0)) (ρ := [.d (prsN P), .d (wyD r), .no, .no, .no]) (n := n) prN (fun _ => .bool true) (r.zip (r.tail ++ [hdw r])) fun p hp => by
      have i := (in_pr p.1 p.2 P (by have := D.few; omega)).1
      rw [decide_eq_true (zp p hp)] at i
      exact ⟨[.d (prsN P), .d (wyD r), .no, .d (.int (p.1 : Int)), .d (.int (p.2 : Int))], rfl, by simp -implicitDefEqProofs only [eVar_ap, dVar_ap, eC_ap, dOf_ap, eFrz_ap, eBin_ap, bTest_ap, bTru_ap, bAnd_ap, bOr_ap, bNot_ap, eIf_ap, eB_ap, eAnd_ap, eOr_ap, aNil_ap, aCons_ap, sNil_ap, sCons_ap, eTup_ap, eLst_ap, eCall_ap, eApp_ap, oNone_ap, oSome_ap, eSl_ap, sNil'_ap, sSeq_ap, sBrk_ap, sRet_ap, sRetN_ap, sRetO_ap, sDrop_ap, sIf_ap, sSet_ap, sApp_ap, sTown_ap, sExt_ap, sIns_ap, sSetIx_ap, sAsg_ap, sPar_ap, iOf_ap, iVal_ap, iRng1_ap, iRng2_ap, sFor_ap, eComp_ap, bYes_ap, frzAt_ap, eUn_ap, eNotD_ap, eOrD_ap, eChain_ap, eListRg1_ap, eIsa_ap, eMt_ap, iEnumV_ap, iEnumF_ap, iZipV_ap, iZipF_ap, eTLen_ap, iRng3D_ap, sEnd_ap, eSs_ap, sPar3_ap, xPop_ap, xTup1_ap, xCat_ap, sSetX_ap, sAppX_ap, sParO_ap, sForEI_ap, sForK_ap, eRep_ap, eDicK_ap, eDicT_ap, sPut_ap, eAlt_ap, sTry_ap, eGetD_ap, eLockI_ap, iKeyF_ap, runB_ap, gOne_ap, gMany_ap, dI_ap, yesC_ap, dCmp_int, setD, kill_nx, kill_rt, kill_bk, Option.bind_some, Option.map_some, Option.bind_none, Option.map_none, List.getElem?_cons_zero, List.getElem?_cons_succ, List.set_cons_zero, List.set_cons_succ, List.cons_append, List.nil_append, List.append_nil, List.replicate, List.length_cons, List.length_nil, Nat.reduceAdd, Nat.reduceSub, Nat.zero_add, wdat_no, wdat_d, wdat_town, wdat_ol, wdat_od, wfrz_no, wfrz_d, wfrz_town, wfrz_ol, wfrz_od, wval_no, wval_d, wval_town, wval_ol, wval_od, warg_no, warg_d, warg_town, warg_ol, warg_od, vals, gLen, gAbs, gMax2, gMin2, gInt, gTup, gList, wipeW, if_true, if_false, Bool.false_eq_true, Bool.not_true, Bool.not_false, reduceCtorEq, i]⟩
    have g3 : gAll [.list ((r.zip (r.tail ++ [hdw r])).map fun _ => .bool true)] = some (.d (.bool true)) := by
      rw [gAll_map (fun _ : NN => true)]
      simp
    show sSeq _ _ [.d (prsN P), .d (wyD r), .d (prsN (tcL P)), .no, .no] n = _
    refine (sSeq_nx (ρ' := [.d (prsN P), .d (wyD r), .no, .no, .no]) (n' := n) (by simp -implicitDefEqProofs only [eVar_ap, dVar_ap, eC_ap, dOf_ap, eFrz_ap, eBin_ap, bTest_ap, bTru_ap, bAnd_ap, bOr_ap, bNot_ap, eIf_ap, eB_ap, eAnd_ap, eOr_ap, aNil_ap, aCons_ap, sNil_ap, sCons_ap, eTup_ap, eLst_ap, eCall_ap, eApp_ap, oNone_ap, oSome_ap, eSl_ap, sNil'_ap, sSeq_ap, sBrk_ap, sRet_ap, sRetN_ap, sRetO_ap, sDrop_ap, sIf_ap, sSet_ap, sApp_ap, sTown_ap, sExt_ap, sIns_ap, sSetIx_ap, sAsg_ap, sPar_ap, iOf_ap, iVal_ap, iRng1_ap, iRng2_ap, sFor_ap, eComp_ap, bYes_ap, frzAt_ap, eUn_ap, eNotD_ap, eOrD_ap, eChain_ap, eListRg1_ap, eIsa_ap, eMt_ap, iEnumV_ap, iEnumF_ap, iZipV_ap, iZipF_ap, eTLen_ap, iRng3D_ap, sEnd_ap, eSs_ap, sPar3_ap, xPop_ap, xTup1_ap, xCat_ap, sSetX_ap, sAppX_ap, sParO_ap, sForEI_ap, sForK_ap, eRep_ap, eDicK_ap, eDicT_ap, sPut_ap, eAlt_ap, sTry_ap, eGetD_ap, eLockI_ap, iKeyF_ap, runB_ap, gOne_ap, gMany_ap, dI_ap, yesC_ap, dCmp_int, setD, kill_nx, kill_rt, kill_bk, Option.bind_some, Option.map_some, Option.bind_none, Option.map_none, List.getElem?_cons_zero, List.getElem?_cons_succ, List.set_cons_zero, List.set_cons_succ, List.cons_append, List.nil_append, List.append_nil, List.replicate, List.length_cons, List.length_nil, Nat.reduceAdd, Nat.reduceSub, Nat.zero_add, wdat_no, wdat_d, wdat_town, wdat_ol, wdat_od, wfrz_no, wfrz_d, wfrz_town, wfrz_ol, wfrz_od, wval_no, wval_d, wval_town, wval_ol, wval_od, warg_no, warg_d, warg_town, warg_ol, warg_od, vals, gLen, gAbs, gMax2, gMin2, gInt, gTup, gList, wipeW, if_true, if_false, Bool.false_eq_true, Bool.not_true, Bool.not_false, reduceCtorEq, i1, iSeq, List.length_map, hb, c1, t1, Bool.not_true, n1])).trans ?_
    refine (sSeq_nx (ρ' := [.d (prsN P), .d (wyD r), .no, .no, .no]) (n' := n) (by simp -implicitDefEqProofs only [eVar_ap, dVar_ap, eC_ap, dOf_ap, eFrz_ap, eBin_ap, bTest_ap, bTru_ap, bAnd_ap, bOr_ap, bNot_ap, eIf_ap, eB_ap, eAnd_ap, eOr_ap, aNil_ap, aCons_ap, sNil_ap, sCons_ap, eTup_ap, eLst_ap, eCall_ap, eApp_ap, oNone_ap, oSome_ap, eSl_ap, sNil'_ap, sSeq_ap, sBrk_ap, sRet_ap, sRetN_ap, sRetO_ap, sDrop_ap, sIf_ap, sSet_ap, sApp_ap, sTown_ap, sExt_ap, sIns_ap, sSetIx_ap, sAsg_ap, sPar_ap, iOf_ap, iVal_ap, iRng1_ap, iRng2_ap, sFor_ap, eComp_ap, bYes_ap, frzAt_ap, eUn_ap, eNotD_ap, eOrD_ap, eChain_ap, eListRg1_ap, eIsa_ap, eMt_ap, iEnumV_ap, iEnumF_ap, iZipV_ap, iZipF_ap, eTLen_ap, iRng3D_ap, sEnd_ap, eSs_ap, sPar3_ap, xPop_ap, xTup1_ap, xCat_ap, sSetX_ap, sAppX_ap, sParO_ap, sForEI_ap, sForK_ap, eRep_ap, eDicK_ap, eDicT_ap, sPut_ap, eAlt_ap, sTry_ap, eGetD_ap, eLockI_ap, iKeyF_ap, runB_ap, gOne_ap, gMany_ap, dI_ap, yesC_ap, dCmp_int, setD, kill_nx, kill_rt, kill_bk, Option.bind_some, Option.map_some, Option.bind_none, Option.map_none, List.getElem?_cons_zero, List.getElem?_cons_succ, List.set_cons_zero, List.set_cons_succ, List.cons_append, List.nil_append, List.append_nil, List.replicate, List.length_cons, List.length_nil, Nat.reduceAdd, Nat.reduceSub, Nat.zero_add, wdat_no, wdat_d, wdat_town, wdat_ol, wdat_od, wfrz_no, wfrz_d, wfrz_town, wfrz_ol, wfrz_od, wval_no, wval_d, wval_town, wval_ol, wval_od, warg_no, warg_d, warg_town, warg_ol, warg_od, vals, gLen, gAbs, gMax2, gMin2, gInt, gTup, gList, wipeW, if_true, if_false, Bool.false_eq_true, Bool.not_true, Bool.not_false, reduceCtorEq, i1])).trans ?_
    refine (sSeq_nx (ρ' := [.d (prsN P), .d (wyD r), .no, .no, .no]) (n' := n) (by simp -implicitDefEqProofs only [eVar_ap, dVar_ap, eC_ap, dOf_ap, eFrz_ap, eBin_ap, bTest_ap, bTru_ap, bAnd_ap, bOr_ap, bNot_ap, eIf_ap, eB_ap, eAnd_ap, eOr_ap, aNil_ap, aCons_ap, sNil_ap, sCons_ap, eTup_ap, eLst_ap, eCall_ap, eApp_ap, oNone_ap, oSome_ap, eSl_ap, sNil'_ap, sSeq_ap, sBrk_ap, sRet_ap, sRetN_ap, sRetO_ap, sDrop_ap, sIf_ap, sSet_ap, sApp_ap, sTown_ap, sExt_ap, sIns_ap, sSetIx_ap, sAsg_ap, sPar_ap, iOf_ap, iVal_ap, iRng1_ap, iRng2_ap, sFor_ap, eComp_ap, bYes_ap, frzAt_ap, eUn_ap, eNotD_ap, eOrD_ap, eChain_ap, eListRg1_ap, eIsa_ap, eMt_ap, iEnumV_ap, iEnumF_ap, iZipV_ap, iZipF_ap, eTLen_ap, iRng3D_ap, sEnd_ap, eSs_ap, sPar3_ap, xPop_ap, xTup1_ap, xCat_ap, sSetX_ap, sAppX_ap, sParO_ap, sForEI_ap, sForK_ap, eRep_ap, eDicK_ap, eDicT_ap, sPut_ap, eAlt_ap, sTry_ap, eGetD_ap, eLockI_ap, iKeyF_ap, runB_ap, gOne_ap, gMany_ap, dI_ap, yesC_ap, dCmp_int, setD, kill_nx, kill_rt, kill_bk, Option.bind_some, Option.map_some, Option.bind_none, Option.map_none, List.getElem?_cons_zero, List.getElem?_cons_succ, List.set_cons_zero, List.set_cons_succ, List.cons_append, List.nil_append, List.append_nil, List.replicate, List.length_cons, List.length_nil, Nat.reduceAdd, Nat.reduceSub, Nat.zero_add, wdat_no, wdat_d, wdat_town, wdat_ol, wdat_od, wfrz_no, wfrz_d, wfrz_town, wfrz_ol, wfrz_od, wval_no, wval_d, wval_town, wval_ol, wval_od, warg_no, warg_d, warg_town, warg_ol, warg_od, vals, gLen, gAbs, gMax2, gMin2, gInt, gTup, gList, wipeW, if_true, if_false, Bool.false_eq_true, Bool.not_true, Bool.not_false, reduceCtorEq, mn, hx, ne0, iSeq, List.length_map, hr, c2, gl])).trans ?_
    simp -implicitDefEqProofs only [eVar_ap, dVar_ap, eC_ap, dOf_ap, eFrz_ap, eBin_ap, bTest_ap, bTru_ap, bAnd_ap, bOr_ap, bNot_ap, eIf_ap, eB_ap, eAnd_ap, eOr_ap, aNil_ap, aCons_ap, sNil_ap, sCons_ap, eTup_ap, eLst_ap, eCall_ap, eApp_ap, oNone_ap, oSome_ap, eSl_ap, sNil'_ap, sSeq_ap, sBrk_ap, sRet_ap, sRetN_ap, sRetO_ap, sDrop_ap, sIf_ap, sSet_ap, sApp_ap, sTown_ap, sExt_ap, sIns_ap, sSetIx_ap, sAsg_ap, sPar_ap, iOf_ap, iVal_ap, iRng1_ap, iRng2_ap, sFor_ap, eComp_ap, bYes_ap, frzAt_ap, eUn_ap, eNotD_ap, eOrD_ap, eChain_ap, eListRg1_ap, eIsa_ap, eMt_ap, iEnumV_ap, iEnumF_ap, iZipV_ap, iZipF_ap, eTLen_ap, iRng3D_ap, sEnd_ap, eSs_ap, sPar3_ap, xPop_ap, xTup1_ap, xCat_ap, sSetX_ap, sAppX_ap, sParO_ap, sForEI_ap, sForK_ap, eRep_ap, eDicK_ap, eDicT_ap, sPut_ap, eAlt_ap, sTry_ap, eGetD_ap, eLockI_ap, iKeyF_ap, runB_ap, gOne_ap, gMany_ap, dI_ap, yesC_ap, dCmp_int, setD, kill_nx, kill_rt, kill_bk, Option.bind_some, Option.map_some, Option.bind_none, Option.map_none, List.getElem?_cons_zero, List.getElem?_cons_succ, List.set_cons_zero, List.set_cons_succ, List.cons_append, List.nil_append, List.append_nil, List.replicate, List.length_cons, List.length_nil, Nat.reduceAdd, Nat.reduceSub, Nat.zero_add, wdat_no, wdat_d, wdat_town, wdat_ol, wdat_od, wfrz_no, wfrz_d, wfrz_town, wfrz_ol, wfrz_od, wval_no, wval_d, wval_town, wval_ol, wval_od, warg_no, warg_d, warg_town, warg_ol, warg_od, vals, gLen, gAbs, gMax2, gMin2, gInt, gTup, gList, wipeW, if_true, if_false, Bool.false_eq_true, Bool.not_true, Bool.not_false, reduceCtorEq, sl1, sl2, d1, zk, List.length_map, zl, c3, g3]
/-! refused -/
theorem q_w (s t : Str) (h : shp (.str s) = true) (h2 : shp (.str t) = true) (e : (s == t) = false) : dEq (.str s) (.str t) = some (.d (.bool false)) := by rw [dEq_str h h2, e]
theorem refused_ok {P : List NN} {m : Nat} (D : L2.Lv.Sh.Dp m P) (n : Nat) : m__law_refused [.d (prsN P), .d (.int (m : Int))] n = some (.d (.int (if allR P m = [] then 0 else 4)), n) := by
  have hP := D.pr
  have s1 : shp (.str "bare") = true := by decide +kernel
  have s2 : shp (.str "orders") = true := by decide +kernel
  have s3 : shp (.str "least") = true := by decide +kernel
  have s4 : shp (.str "levels") = true := by decide +kernel
  have a1 : dEq (.str "bare") (.str "bare") = some (.d (.bool true)) := by rw [dEq_str s1 s1]; rfl
  have a2 := q_w "orders" "bare" s2 s1 (by decide +kernel)
  have a3 := q_w "least" "bare" s3 s1 (by decide +kernel)
  have a4 := q_w "levels" "bare" s4 s1 (by decide +kernel)
  have b2 : dEq (.str "orders") (.str "orders") = some (.d (.bool true)) := by rw [dEq_str s2 s2]; rfl
  have b3 := q_w "least" "orders" s3 s2 (by decide +kernel)
  have b4 := q_w "levels" "orders" s4 s2 (by decide +kernel)
  have c3 : dEq (.str "least") (.str "least") = some (.d (.bool true)) := by rw [dEq_str s3 s3]; rfl
  have c4 := q_w "levels" "least" s4 s3 (by decide +kernel)
  by_cases c : allR P m = []
  · rw [if_pos c]
    have A : Ac P m := ⟨hP, D.srt, D.six, D.lt, (no_ring D.six D.lt).mp c⟩
    obtain ⟨⟨x1, _⟩, ⟨x2, _⟩, ⟨x3, _⟩, ⟨x4, _⟩⟩ := deeds_yes A n
    unfold m__law_refused b__law_refused l__law_refused_1
    simp -implicitDefEqProofs only [eVar_ap, dVar_ap, eC_ap, dOf_ap, eFrz_ap, eBin_ap, bTest_ap, bTru_ap, bAnd_ap, bOr_ap, bNot_ap, eIf_ap, eB_ap, eAnd_ap, eOr_ap, aNil_ap, aCons_ap, sNil_ap, sCons_ap, eTup_ap, eLst_ap, eCall_ap, eApp_ap, oNone_ap, oSome_ap, eSl_ap, sNil'_ap, sSeq_ap, sBrk_ap, sRet_ap, sRetN_ap, sRetO_ap, sDrop_ap, sIf_ap, sSet_ap, sApp_ap, sTown_ap, sExt_ap, sIns_ap, sSetIx_ap, sAsg_ap, sPar_ap, iOf_ap, iVal_ap, iRng1_ap, iRng2_ap, sFor_ap, eComp_ap, bYes_ap, frzAt_ap, eUn_ap, eNotD_ap, eOrD_ap, eChain_ap, eListRg1_ap, eIsa_ap, eMt_ap, iEnumV_ap, iEnumF_ap, iZipV_ap, iZipF_ap, eTLen_ap, iRng3D_ap, sEnd_ap, eSs_ap, sPar3_ap, xPop_ap, xTup1_ap, xCat_ap, sSetX_ap, sAppX_ap, sParO_ap, sForEI_ap, sForK_ap, eRep_ap, eDicK_ap, eDicT_ap, sPut_ap, eAlt_ap, sTry_ap, eGetD_ap, eLockI_ap, iKeyF_ap, runB_ap, gOne_ap, gMany_ap, dI_ap, yesC_ap, dCmp_int, setD, kill_nx, kill_rt, kill_bk, Option.bind_some, Option.map_some, Option.bind_none, Option.map_none, List.getElem?_cons_zero, List.getElem?_cons_succ, List.set_cons_zero, List.set_cons_succ, List.cons_append, List.nil_append, List.append_nil, List.replicate, List.length_cons, List.length_nil, Nat.reduceAdd, Nat.reduceSub, Nat.zero_add, wdat_no, wdat_d, wdat_town, wdat_ol, wdat_od, wfrz_no, wfrz_d, wfrz_town, wfrz_ol, wfrz_od, wval_no, wval_d, wval_town, wval_ol, wval_od, warg_no, warg_d, warg_town, warg_ol, warg_od, vals, gLen, gAbs, gMax2, gMin2, gInt, gTup, gList, wipeW, if_true, if_false, Bool.false_eq_true, Bool.not_true, Bool.not_false, reduceCtorEq, iSeq, loopF_cons, loopF_nil, sSeqX, sDropX, xCall, lft, sEndX, sIfX, sTry, a1, a2, a3, a4, b2, b3, b4, c3, c4, x1, x2, x3, x4]
  · rw [if_neg c]
    obtain ⟨x1, x2, x3, x4⟩ := deeds_no hP D.srt (fun p hp => (D.lt p hp).1) c n
    unfold m__law_refused b__law_refused l__law_refused_1
    simp -implicitDefEqProofs only [eVar_ap, dVar_ap, eC_ap, dOf_ap, eFrz_ap, eBin_ap, bTest_ap, bTru_ap, bAnd_ap, bOr_ap, bNot_ap, eIf_ap, eB_ap, eAnd_ap, eOr_ap, aNil_ap, aCons_ap, sNil_ap, sCons_ap, eTup_ap, eLst_ap, eCall_ap, eApp_ap, oNone_ap, oSome_ap, eSl_ap, sNil'_ap, sSeq_ap, sBrk_ap, sRet_ap, sRetN_ap, sRetO_ap, sDrop_ap, sIf_ap, sSet_ap, sApp_ap, sTown_ap, sExt_ap, sIns_ap, sSetIx_ap, sAsg_ap, sPar_ap, iOf_ap, iVal_ap, iRng1_ap, iRng2_ap, sFor_ap, eComp_ap, bYes_ap, frzAt_ap, eUn_ap, eNotD_ap, eOrD_ap, eChain_ap, eListRg1_ap, eIsa_ap, eMt_ap, iEnumV_ap, iEnumF_ap, iZipV_ap, iZipF_ap, eTLen_ap, iRng3D_ap, sEnd_ap, eSs_ap, sPar3_ap, xPop_ap, xTup1_ap, xCat_ap, sSetX_ap, sAppX_ap, sParO_ap, sForEI_ap, sForK_ap, eRep_ap, eDicK_ap, eDicT_ap, sPut_ap, eAlt_ap, sTry_ap, eGetD_ap, eLockI_ap, iKeyF_ap, runB_ap, gOne_ap, gMany_ap, dI_ap, yesC_ap, dCmp_int, setD, kill_nx, kill_rt, kill_bk, Option.bind_some, Option.map_some, Option.bind_none, Option.map_none, List.getElem?_cons_zero, List.getElem?_cons_succ, List.set_cons_zero, List.set_cons_succ, List.cons_append, List.nil_append, List.append_nil, List.replicate, List.length_cons, List.length_nil, Nat.reduceAdd, Nat.reduceSub, Nat.zero_add, wdat_no, wdat_d, wdat_town, wdat_ol, wdat_od, wfrz_no, wfrz_d, wfrz_town, wfrz_ol, wfrz_od, wval_no, wval_d, wval_town, wval_ol, wval_od, warg_no, warg_d, warg_town, warg_ol, warg_od, vals, gLen, gAbs, gMax2, gMin2, gInt, gTup, gList, wipeW, if_true, if_false, Bool.false_eq_true, Bool.not_true, Bool.not_false, reduceCtorEq, iSeq, loopF_cons, loopF_nil, sSeqX, sDropX, xCall, lft, sEndX, sIfX, sTry, a1, a2, a3, a4, b2, b3, b4, c3, c4, x1, x2, x3, x4, dAdd_int]
    rfl
/-! orders -/
theorem cut_dropK (xs : List PyData) (k : Nat) : cutD xs (some (k : Int)) none = xs.drop k := by
  unfold cutD
  have h1 : HT.sIx xs.length 0 (some (k : Int)) = min k xs.length := by
    simp only [HT.sIx]
    rw [if_neg (by omega)]; omega
  have h2 : HT.sIx xs.length xs.length none = xs.length := rfl
  rw [h1, h2]
  by_cases c : k ≤ xs.length
  · rw [Nat.min_eq_left c, List.take_of_length_le (by rw [List.length_drop]; exact Nat.le_refl _)]
  · rw [Nat.min_eq_right (by omega), List.drop_length, List.drop_of_length_le (by omega)]
    simp
theorem idxT {w : List Nat} {a : Nat} (h : a ∈ w) : gIndexT (wyD w) [.int (a : Int)] = some (.d (.int ((w.idxOf a : Nat) : Int))) := by
  have := gIndexT_ints (t := w.map fun k : Nat => (k : Int)) (x := (a : Int)) (List.mem_map.mpr ⟨a, h, rfl⟩)
  rw [idx_int] at this
  have e : ti (w.map fun k : Nat => (k : Int)) = wyD w := by unfold ti; rw [List.map_map]; rfl
  rw [e] at this
  exact this
theorem sort_wy {w : List Nat} {m : Nat} (h : w.Perm (List.range m)) : gSorted [wyD w] = some (.ol ((List.range m).map iN)) := by
  have e : wyD w = ti (w.map fun (k : Nat) => (k : Int)) := by unfold ti; rw [List.map_map]; rfl
  rw [e, gSorted_ints, srtI_nat]
  have so : w.mergeSort (fun a b => decide (a ≤ b)) = List.range m := by
    have pw := List.pairwise_mergeSort (le := fun a b : Nat => decide (a ≤ b)) (fun a b c h1 h2 => by
      simp only [decide_eq_true_eq] at h1 h2 ⊢; omega) (fun a b => by
      simp only [Bool.or_eq_true, decide_eq_true_eq]; omega) w
    exact List.Perm.eq_of_pairwise (le := (· ≤ ·)) (fun a b _ _ h1 h2 => by omega) (pw.imp fun q => by simpa using q) (List.pairwise_lt_range.imp fun q => Nat.le_of_lt q) ((List.mergeSort_perm w _).trans h)
  rw [so, List.map_map]
  rfl
theorem pairsB_map {α : Type} (f : α → Bool) : ∀ L : List α, pairsB (L.map fun x => .tuple [.bool (f x), .int 0]) = some (L.map f)
  | [] => rfl
  | x :: L => by
    have ih := pairsB_map f L
    rw [List.map_cons]
    simp only [pairsB, ih]
    rfl
theorem erase_not {l : List NN} (hn : l.Nodup) {i : Nat} {p : NN} (h : l[i]? = some p) : ∀ q ∈ l.eraseIdx i, q ∈ l.filter fun q => !(q == p) := by
  intro q hq
  obtain ⟨hi, rfl⟩ := List.getElem?_eq_some_iff.mp h
  rw [List.mem_eraseIdx_iff_getElem] at hq
  obtain ⟨j, hj, hne, rfl⟩ := hq
  refine List.mem_filter.mpr ⟨List.getElem_mem _, ?_⟩
  have : l[j] ≠ l[i] := fun e => hne ((List.getElem_inj hn).mp e)
  simpa using this
theorem orders_hold {P : List NN} {m : Nat} (A : Ac P m) (h2 : 2 ≤ m) (n : Nat) : m__law_orders_hold [.d (prsN P), .d (.int (m : Int))] n = some (.d (.bool true), n) := by
  have six := A.six
  have hP := A.pr
  have pf := hP.few
  have tl := (tcL_pr hP).few
  have bp := brL_pr hP
  have bf := bp.few
  obtain ⟨⟨_, x1⟩, ⟨_, x2⟩, ⟨_, x3⟩, ⟨_, x4⟩⟩ := deeds_yes A n
  obtain ⟨⟨_, y1⟩, _⟩ := deeds_yes A.br n
  rw [ord_br A] at y1
  have cl := closed_any hP n
  have cb := closed_any bp n
  rw [brL_closed hP A.no] at cb
  have fa := free_any hP m six n
  have hd := ord_head (rkOf hP A.no) 10 100000 (List.range m) (by rw [List.length_range]; omega) (by rw [List.length_range]; omega) (range_nodup m)
  have ol := ordF_len P 10 (List.range m) (by rw [List.length_range]; exact six)
  have p6 := pow6 (n := (List.range m).length) (by rw [List.length_range]; exact six)
  have oe := ord_each P 10 (List.range m)
  have ois := fun w hw => ordF_is (P := P) 10 (List.range m) w (range_nodup m) hw
  have opw := ordF_pw (P := P) 10 (List.range m) List.pairwise_lt_range
  generalize hO : ordF P 10 (List.range m) = O at *
  have one : O ≠ [] := by intro c; rw [c] at hd; cases hd
  have hbO : O.length ≤ big := le_big (by omega)
  have hbP : P.length ≤ big := le_big (by omega)
  have hbF : (brL P).length ≤ big := le_big (by omega)
  have rgm := rng1_ok (j := (m : Int)) (by omega) (by omega)
  rw [Int.toNat_natCast, rgN] at rgm
  -- 1
  have em : O.map (fun w => PyData.tuple [wyD w, .int 0]) = (O.map zI).map fun k => PyData.tuple [tI k, .int 0] := by
    rw [List.map_map]
    exact List.map_congr_left fun w _ => by show PyData.tuple [wyD w, .int 0] = .tuple [tI (zI w), .int 0]; rw [wy_tI]
  have em2 : (O.map zI).map tI = O.map wyD := by
    rw [List.map_map]
    exact List.map_congr_left fun w _ => (wy_tI w).symm
  obtain ⟨d1, d2⟩ := dict_same (O.map zI) (by simpa using one) (fun k hk => by
    obtain ⟨w, hw, rfl⟩ := List.mem_map.mp hk
    intro c
    have := (ois w hw).1.length_eq
    rw [List.length_range] at this
    have l0 : (zI w).length = w.length := by unfold zI; rw [List.length_map]
    rw [c] at l0
    simp at l0; omega) (List.pairwise_map.mpr opw) (by rw [List.length_map]; omega)
  rw [← em] at d1
  rw [em2] at d2
  have g0 : gSortDict [.list (O.map fun w => PyData.tuple [wyD w, .int 0])] = none := by
    cases O with
    | nil => exact absurd rfl one
    | cons w O => rw [List.map_cons, wy_tI]; rfl
  have c1 := comp_mapA (g := gOne 5) (own := [5]) (elt := eTup (aCons (eVar 5) (aCons (eC (.int 0)) aNil))) (ρ := [.d (prsN P), .d (.int (m : Int)), .d (.tuple (O.map wyD)), .d (prsN (brL P)), .d (.tuple ((List.range m).map fun x => iN (hgt P x))), .no, .no, .no, .no, .no, .no, .no, .no, .no]) (n := n) wyD (fun w => .tuple [wyD w, .int 0]) O fun w _ => ⟨_, rfl, by simp -implicitDefEqProofs only [eVar_ap, dVar_ap, eC_ap, dOf_ap, eFrz_ap, eBin_ap, bTest_ap, bTru_ap, bAnd_ap, bOr_ap, bNot_ap, eIf_ap, eB_ap, eAnd_ap, eOr_ap, aNil_ap, aCons_ap, sNil_ap, sCons_ap, eTup_ap, eLst_ap, eCall_ap, eApp_ap, oNone_ap, oSome_ap, eSl_ap, sNil'_ap, sSeq_ap, sBrk_ap, sRet_ap, sRetN_ap, sRetO_ap, sDrop_ap, sIf_ap, sSet_ap, sApp_ap, sTown_ap, sExt_ap, sIns_ap, sSetIx_ap, sAsg_ap, sPar_ap, iOf_ap, iVal_ap, iRng1_ap, iRng2_ap, sFor_ap, eComp_ap, bYes_ap, frzAt_ap, eUn_ap, eNotD_ap, eOrD_ap, eChain_ap, eListRg1_ap, eIsa_ap, eMt_ap, iEnumV_ap, iEnumF_ap, iZipV_ap, iZipF_ap, eTLen_ap, iRng3D_ap, sEnd_ap, eSs_ap, sPar3_ap, xPop_ap, xTup1_ap, xCat_ap, sSetX_ap, sAppX_ap, sParO_ap, sForEI_ap, sForK_ap, eRep_ap, eDicK_ap, eDicT_ap, sPut_ap, eAlt_ap, sTry_ap, eGetD_ap, eLockI_ap, iKeyF_ap, runB_ap, gOne_ap, gMany_ap, dI_ap, yesC_ap, dCmp_int, setD, kill_nx, kill_rt, kill_bk, Option.bind_some, Option.map_some, Option.bind_none, Option.map_none, List.getElem?_cons_zero, List.getElem?_cons_succ, List.set_cons_zero, List.set_cons_succ, List.cons_append, List.nil_append, List.append_nil, List.replicate, List.length_cons, List.length_nil, Nat.reduceAdd, Nat.reduceSub, Nat.zero_add, wdat_no, wdat_d, wdat_town, wdat_ol, wdat_od, wfrz_no, wfrz_d, wfrz_town, wfrz_ol, wfrz_od, wval_no, wval_d, wval_town, wval_ol, wval_od, warg_no, warg_d, warg_town, warg_ol, warg_od, vals, gLen, gAbs, gMax2, gMin2, gInt, gTup, gList, wipeW, if_true, if_false, Bool.false_eq_true, Bool.not_true, Bool.not_false, reduceCtorEq]⟩
  have ncO : ∀ x ∈ O.map wyD, nc 2 x = true := fun x hx => by
    obtain ⟨w, hw, rfl⟩ := List.mem_map.mp hx
    exact wy_nc w (by have := oe w hw; rw [List.length_range] at this; omega)
  have ne1 := dNe_ls (k := 2) ncO (by decide)
  have ix0 : dIx (.tuple (O.map wyD)) (.int 0) = some (.d (wyD (lstF P 100000 (List.range m)))) := by
    cases O with
    | nil => exact absurd rfl one
    | cons w W =>
      cases hd
      rw [ixT _ 0 (by omega) (by simp)]
      rfl
  have lw : lstF P 100000 (List.range m) ∈ O := List.mem_of_head? hd
  have ne2 : dNe (wyD (lstF P 100000 (List.range m))) (wyD (lstF P 100000 (List.range m))) = some (.d (.bool false)) := dNe_self (ncO _ (List.mem_map.mpr ⟨_, lw, rfl⟩)) (by decide)
  -- 2
  have lp1 := loopF_same (g := gOne 5) (body := l__law_orders_hold_1) (ρ := [.d (prsN P), .d (.int (m : Int)), .d (.tuple (O.map wyD)), .d (prsN (brL P)), .d (.tuple ((List.range m).map fun x => iN (hgt P x))), .no, .no, .no, .no, .no, .no, .no, .no, .no]) (n := n) wyD O fun w hw => by
    obtain ⟨w1, w2⟩ := ois w hw
    have inn : ∀ x, x < m → x ∈ w := fun x hx => w1.mem_iff.mpr (List.mem_range.mpr hx)
    have f1 := comp_filA (g := gMany [7, 8]) (own := [7, 8]) (tst := bTest (eBin (dCmp rGt zGt) (dOf (eMt isTupD gIndexT (dVar 5) (sCons (dVar 7) sNil))) (dOf (eMt isTupD gIndexT (dVar 5) (sCons (dVar 8) sNil))))) (elt := eVar 7) (ρ := [.d (prsN P), .d (.int (m : Int)), .d (.tuple (O.map wyD)), .d (prsN (brL P)), .d (.tuple ((List.range m).map fun x => iN (hgt P x))), .d (wyD w), .no, .no, .no, .no, .no, .no, .no, .no]) (n := n) prN (fun q => iN q.1) (fun _ => false) P fun q hq => by
      obtain ⟨q1, q2⟩ := A.lt q hq
      have i1 := idxT (inn _ q1)
      have i2 := idxT (inn _ q2)
      have lt := lin_idx w2 (inn _ q1) (inn _ q2) (show (q.1, q.2) ∈ P from hq) fun e => A.no q.1 (.base (by have : q = (q.1, q.1) := Prod.ext rfl e.symm; rw [← this]; exact hq))
      have gt : rGt ((w.idxOf q.1 : Nat) : Int) ((w.idxOf q.2 : Nat) : Int) = false := decide_eq_false (by omega)
      exact ⟨[.d (prsN P), .d (.int (m : Int)), .d (.tuple (O.map wyD)), .d (prsN (brL P)), .d (.tuple ((List.range m).map fun x => iN (hgt P x))), .d (wyD w), .no, .d (.int (q.1 : Int)), .d (.int (q.2 : Int)), .no, .no, .no, .no, .no], rfl, by simp -implicitDefEqProofs only [eVar_ap, dVar_ap, eC_ap, dOf_ap, eFrz_ap, eBin_ap, bTest_ap, bTru_ap, bAnd_ap, bOr_ap, bNot_ap, eIf_ap, eB_ap, eAnd_ap, eOr_ap, aNil_ap, aCons_ap, sNil_ap, sCons_ap, eTup_ap, eLst_ap, eCall_ap, eApp_ap, oNone_ap, oSome_ap, eSl_ap, sNil'_ap, sSeq_ap, sBrk_ap, sRet_ap, sRetN_ap, sRetO_ap, sDrop_ap, sIf_ap, sSet_ap, sApp_ap, sTown_ap, sExt_ap, sIns_ap, sSetIx_ap, sAsg_ap, sPar_ap, iOf_ap, iVal_ap, iRng1_ap, iRng2_ap, sFor_ap, eComp_ap, bYes_ap, frzAt_ap, eUn_ap, eNotD_ap, eOrD_ap, eChain_ap, eListRg1_ap, eIsa_ap, eMt_ap, iEnumV_ap, iEnumF_ap, iZipV_ap, iZipF_ap, eTLen_ap, iRng3D_ap, sEnd_ap, eSs_ap, sPar3_ap, xPop_ap, xTup1_ap, xCat_ap, sSetX_ap, sAppX_ap, sParO_ap, sForEI_ap, sForK_ap, eRep_ap, eDicK_ap, eDicT_ap, sPut_ap, eAlt_ap, sTry_ap, eGetD_ap, eLockI_ap, iKeyF_ap, runB_ap, gOne_ap, gMany_ap, dI_ap, yesC_ap, dCmp_int, setD, kill_nx, kill_rt, kill_bk, Option.bind_some, Option.map_some, Option.bind_none, Option.map_none, List.getElem?_cons_zero, List.getElem?_cons_succ, List.set_cons_zero, List.set_cons_succ, List.cons_append, List.nil_append, List.append_nil, List.replicate, List.length_cons, List.length_nil, Nat.reduceAdd, Nat.reduceSub, Nat.zero_add, wdat_no, wdat_d, wdat_town, wdat_ol, wdat_od, wfrz_no, wfrz_d, wfrz_town, wfrz_ol, wfrz_od, wval_no, wval_d, wval_town, wval_ol, wval_od, warg_no, warg_d, warg_town, warg_ol, warg_od, vals, gLen, gAbs, gMax2, gMin2, gInt, gTup, gList, wipeW, if_true, if_false, Bool.false_eq_true, Bool.not_true, Bool.not_false, reduceCtorEq, isTupD, i1, i2, gt], fun h => by cases h⟩
    have ff : P.filter (fun _ => false) = [] := by simp
    rw [ff, List.map_nil] at f1
    have so := sort_wy w1
    have h1 : (0 : Int) ≤ (m : Int) ∧ (m : Int) ≤ big := ⟨by omega, by have : big = 16777216 := rfl; omega⟩
    have ne := dNe_ls (k := 1) (xs := (List.range m).map iN) (fun x hx => by
      obtain ⟨i, _, rfl⟩ := List.mem_map.mp hx; rfl) (by decide)
    have ne' := dNe_ls (k := 1) (xs := []) (fun x hx => by cases hx) (by decide)
    refine ⟨_, rfl, ?_⟩
    unfold l__law_orders_hold_1
    refine (sSeq_nx (ρ' := [.d (prsN P), .d (.int (m : Int)), .d (.tuple (O.map wyD)), .d (prsN (brL P)), .d (.tuple ((List.range m).map fun x => iN (hgt P x))), .d (wyD w), .d (.list []), .no, .no, .no, .no, .no, .no, .no]) (n' := n) (by simp -implicitDefEqProofs only [eVar_ap, dVar_ap, eC_ap, dOf_ap, eFrz_ap, eBin_ap, bTest_ap, bTru_ap, bAnd_ap, bOr_ap, bNot_ap, eIf_ap, eB_ap, eAnd_ap, eOr_ap, aNil_ap, aCons_ap, sNil_ap, sCons_ap, eTup_ap, eLst_ap, eCall_ap, eApp_ap, oNone_ap, oSome_ap, eSl_ap, sNil'_ap, sSeq_ap, sBrk_ap, sRet_ap, sRetN_ap, sRetO_ap, sDrop_ap, sIf_ap, sSet_ap, sApp_ap, sTown_ap, sExt_ap, sIns_ap, sSetIx_ap, sAsg_ap, sPar_ap, iOf_ap, iVal_ap, iRng1_ap, iRng2_ap, sFor_ap, eComp_ap, bYes_ap, frzAt_ap, eUn_ap, eNotD_ap, eOrD_ap, eChain_ap, eListRg1_ap, eIsa_ap, eMt_ap, iEnumV_ap, iEnumF_ap, iZipV_ap, iZipF_ap, eTLen_ap, iRng3D_ap, sEnd_ap, eSs_ap, sPar3_ap, xPop_ap, xTup1_ap, xCat_ap, sSetX_ap, sAppX_ap, sParO_ap, sForEI_ap, sForK_ap, eRep_ap, eDicK_ap, eDicT_ap, sPut_ap, eAlt_ap, sTry_ap, eGetD_ap, eLockI_ap, iKeyF_ap, runB_ap, gOne_ap, gMany_ap, dI_ap, yesC_ap, dCmp_int, setD, kill_nx, kill_rt, kill_bk, Option.bind_some, Option.map_some, Option.bind_none, Option.map_none, List.getElem?_cons_zero, List.getElem?_cons_succ, List.set_cons_zero, List.set_cons_succ, List.cons_append, List.nil_append, List.append_nil, List.replicate, List.length_cons, List.length_nil, Nat.reduceAdd, Nat.reduceSub, Nat.zero_add, wdat_no, wdat_d, wdat_town, wdat_ol, wdat_od, wfrz_no, wfrz_d, wfrz_town, wfrz_ol, wfrz_od, wval_no, wval_d, wval_town, wval_ol, wval_od, warg_no, warg_d, warg_town, warg_ol, warg_od, vals, gLen, gAbs, gMax2, gMin2, gInt, gTup, gList, wipeW, if_true, if_false, Bool.false_eq_true, Bool.not_true, Bool.not_false, reduceCtorEq, iSeq, List.length_map, hbP, f1])).trans ?_
    simp -implicitDefEqProofs only [eVar_ap, dVar_ap, eC_ap, dOf_ap, eFrz_ap, eBin_ap, bTest_ap, bTru_ap, bAnd_ap, bOr_ap, bNot_ap, eIf_ap, eB_ap, eAnd_ap, eOr_ap, aNil_ap, aCons_ap, sNil_ap, sCons_ap, eTup_ap, eLst_ap, eCall_ap, eApp_ap, oNone_ap, oSome_ap, eSl_ap, sNil'_ap, sSeq_ap, sBrk_ap, sRet_ap, sRetN_ap, sRetO_ap, sDrop_ap, sIf_ap, sSet_ap, sApp_ap, sTown_ap, sExt_ap, sIns_ap, sSetIx_ap, sAsg_ap, sPar_ap, iOf_ap, iVal_ap, iRng1_ap, iRng2_ap, sFor_ap, eComp_ap, bYes_ap, frzAt_ap, eUn_ap, eNotD_ap, eOrD_ap, eChain_ap, eListRg1_ap, eIsa_ap, eMt_ap, iEnumV_ap, iEnumF_ap, iZipV_ap, iZipF_ap, eTLen_ap, iRng3D_ap, sEnd_ap, eSs_ap, sPar3_ap, xPop_ap, xTup1_ap, xCat_ap, sSetX_ap, sAppX_ap, sParO_ap, sForEI_ap, sForK_ap, eRep_ap, eDicK_ap, eDicT_ap, sPut_ap, eAlt_ap, sTry_ap, eGetD_ap, eLockI_ap, iKeyF_ap, runB_ap, gOne_ap, gMany_ap, dI_ap, yesC_ap, dCmp_int, setD, kill_nx, kill_rt, kill_bk, Option.bind_some, Option.map_some, Option.bind_none, Option.map_none, List.getElem?_cons_zero, List.getElem?_cons_succ, List.set_cons_zero, List.set_cons_succ, List.cons_append, List.nil_append, List.append_nil, List.replicate, List.length_cons, List.length_nil, Nat.reduceAdd, Nat.reduceSub, Nat.zero_add, wdat_no, wdat_d, wdat_town, wdat_ol, wdat_od, wfrz_no, wfrz_d, wfrz_town, wfrz_ol, wfrz_od, wval_no, wval_d, wval_town, wval_ol, wval_od, warg_no, warg_d, warg_town, warg_ol, warg_od, vals, gLen, gAbs, gMax2, gMin2, gInt, gTup, gList, wipeW, if_true, if_false, Bool.false_eq_true, Bool.not_true, Bool.not_false, reduceCtorEq, so, h1, and_self, Int.toNat_natCast, rgN, ne, ne']
  -- 3
  have ne3 : dNe (prsN (tcL P)) (prsN (tcL P)) = some (.d (.bool false)) := dNe_self (prs_nc (tcL P) (by omega)) (by decide)
  have ne4 : dNe (.tuple (O.map wyD)) (.tuple (O.map wyD)) = some (.d (.bool false)) := dNe_self (k := 3) (nc_tup (by rw [List.length_map]; omega) ncO) (by decide)
  have c3 := comp_mapA (g := gOne 9) (own := [9]) (elt := eBin dIn (dVar 9) (dOf (eCall m_closed (aCons (eVar 0) aNil)))) (ρ := [.d (prsN P), .d (.int (m : Int)), .d (.tuple (O.map wyD)), .d (prsN (brL P)), .d (.tuple ((List.range m).map fun x => iN (hgt P x))), .no, .no, .no, .no, .no, .no, .no, .no, .no]) (n := n) prN (fun _ => .bool true) (brL P) fun p hp => by
    have i := (in_pr p.1 p.2 (tcL P) (by omega)).1
    rw [decide_eq_true (brL_sub hp)] at i
    have i : dIn (prN p) (prsN (tcL P)) = some (.d (.bool true)) := i
    exact ⟨_, rfl, by simp -implicitDefEqProofs only [eVar_ap, dVar_ap, eC_ap, dOf_ap, eFrz_ap, eBin_ap, bTest_ap, bTru_ap, bAnd_ap, bOr_ap, bNot_ap, eIf_ap, eB_ap, eAnd_ap, eOr_ap, aNil_ap, aCons_ap, sNil_ap, sCons_ap, eTup_ap, eLst_ap, eCall_ap, eApp_ap, oNone_ap, oSome_ap, eSl_ap, sNil'_ap, sSeq_ap, sBrk_ap, sRet_ap, sRetN_ap, sRetO_ap, sDrop_ap, sIf_ap, sSet_ap, sApp_ap, sTown_ap, sExt_ap, sIns_ap, sSetIx_ap, sAsg_ap, sPar_ap, iOf_ap, iVal_ap, iRng1_ap, iRng2_ap, sFor_ap, eComp_ap, bYes_ap, frzAt_ap, eUn_ap, eNotD_ap, eOrD_ap, eChain_ap, eListRg1_ap, eIsa_ap, eMt_ap, iEnumV_ap, iEnumF_ap, iZipV_ap, iZipF_ap, eTLen_ap, iRng3D_ap, sEnd_ap, eSs_ap, sPar3_ap, xPop_ap, xTup1_ap, xCat_ap, sSetX_ap, sAppX_ap, sParO_ap, sForEI_ap, sForK_ap, eRep_ap, eDicK_ap, eDicT_ap, sPut_ap, eAlt_ap, sTry_ap, eGetD_ap, eLockI_ap, iKeyF_ap, runB_ap, gOne_ap, gMany_ap, dI_ap, yesC_ap, dCmp_int, setD, kill_nx, kill_rt, kill_bk, Option.bind_some, Option.map_some, Option.bind_none, Option.map_none, List.getElem?_cons_zero, List.getElem?_cons_succ, List.set_cons_zero, List.set_cons_succ, List.cons_append, List.nil_append, List.append_nil, List.replicate, List.length_cons, List.length_nil, Nat.reduceAdd, Nat.reduceSub, Nat.zero_add, wdat_no, wdat_d, wdat_town, wdat_ol, wdat_od, wfrz_no, wfrz_d, wfrz_town, wfrz_ol, wfrz_od, wval_no, wval_d, wval_town, wval_ol, wval_od, warg_no, warg_d, warg_town, warg_ol, warg_od, vals, gLen, gAbs, gMax2, gMin2, gInt, gTup, gList, wipeW, if_true, if_false, Bool.false_eq_true, Bool.not_true, Bool.not_false, reduceCtorEq, cl, i]⟩
  have g3 : gAll [.list ((brL P).map fun _ => .bool true)] = some (.d (.bool true)) := by
    rw [gAll_map (fun _ : NN => true)]
    simp
  -- 4
  have lp2 := loopF_enum (g := gMany [10, 9]) (body := l__law_orders_hold_2) (n := n) prN (fun _ => [.d (prsN P), .d (.int (m : Int)), .d (.tuple (O.map wyD)), .d (prsN (brL P)), .d (.tuple ((List.range m).map fun x => iN (hgt P x))), .no, .no, .no, .no, .no, .no, .no, .no, .no]) (brL P) fun i p hi => by
    have k1 := cut_take ((brL P).map prN) i
    have k2 := cut_dropK ((brL P).map prN) (i + 1)
    rw [show ((i + 1 : Nat) : Int) = (i : Int) + 1 by omega] at k2
    rw [← List.map_take] at k1
    rw [← List.map_drop] at k2
    have d := dAdd_tup (((brL P).take i).map prN) (((brL P).drop (i + 1)).map prN) (le_big (by simp; omega))
    rw [← List.map_append, ← List.eraseIdx_eq_take_drop_succ] at d
    have ep : Pr ((brL P).eraseIdx i) := ⟨fun q hq => bp.lt q (List.mem_of_mem_eraseIdx hq), bp.nd.sublist (List.eraseIdx_sublist _ _)⟩
    have ce := closed_any ep n
    have pin : p ∈ brL P := List.mem_of_getElem? hi
    have nin : (p.1, p.2) ∉ tcL ((brL P).eraseIdx i) := fun q => brL_need hP A.no (a := p.1) (b := p.2) pin (TC.mono (erase_not bp.nd hi) ((tcL_mem ep).mp q))
    have i4 := (in_pr p.1 p.2 (tcL ((brL P).eraseIdx i)) (by have := (tcL_pr ep).few; omega)).1
    rw [decide_eq_false nin] at i4
    have i4 : dIn (prN p) (prsN (tcL ((brL P).eraseIdx i))) = some (.d (.bool false)) := i4
    refine ⟨[.d (prsN P), .d (.int (m : Int)), .d (.tuple (O.map wyD)), .d (prsN (brL P)), .d (.tuple ((List.range m).map fun x => iN (hgt P x))), .no, .no, .no, .no, .d (prN p), .d (.int (i : Int)), .no, .no, .no], rfl, ?_⟩
    unfold l__law_orders_hold_2
    simp -implicitDefEqProofs only [eVar_ap, dVar_ap, eC_ap, dOf_ap, eFrz_ap, eBin_ap, bTest_ap, bTru_ap, bAnd_ap, bOr_ap, bNot_ap, eIf_ap, eB_ap, eAnd_ap, eOr_ap, aNil_ap, aCons_ap, sNil_ap, sCons_ap, eTup_ap, eLst_ap, eCall_ap, eApp_ap, oNone_ap, oSome_ap, eSl_ap, sNil'_ap, sSeq_ap, sBrk_ap, sRet_ap, sRetN_ap, sRetO_ap, sDrop_ap, sIf_ap, sSet_ap, sApp_ap, sTown_ap, sExt_ap, sIns_ap, sSetIx_ap, sAsg_ap, sPar_ap, iOf_ap, iVal_ap, iRng1_ap, iRng2_ap, sFor_ap, eComp_ap, bYes_ap, frzAt_ap, eUn_ap, eNotD_ap, eOrD_ap, eChain_ap, eListRg1_ap, eIsa_ap, eMt_ap, iEnumV_ap, iEnumF_ap, iZipV_ap, iZipF_ap, eTLen_ap, iRng3D_ap, sEnd_ap, eSs_ap, sPar3_ap, xPop_ap, xTup1_ap, xCat_ap, sSetX_ap, sAppX_ap, sParO_ap, sForEI_ap, sForK_ap, eRep_ap, eDicK_ap, eDicT_ap, sPut_ap, eAlt_ap, sTry_ap, eGetD_ap, eLockI_ap, iKeyF_ap, runB_ap, gOne_ap, gMany_ap, dI_ap, yesC_ap, dCmp_int, setD, kill_nx, kill_rt, kill_bk, Option.bind_some, Option.map_some, Option.bind_none, Option.map_none, List.getElem?_cons_zero, List.getElem?_cons_succ, List.set_cons_zero, List.set_cons_succ, List.cons_append, List.nil_append, List.append_nil, List.replicate, List.length_cons, List.length_nil, Nat.reduceAdd, Nat.reduceSub, Nat.zero_add, wdat_no, wdat_d, wdat_town, wdat_ol, wdat_od, wfrz_no, wfrz_d, wfrz_town, wfrz_ol, wfrz_od, wval_no, wval_d, wval_town, wval_ol, wval_od, warg_no, warg_d, warg_town, warg_ol, warg_od, vals, gLen, gAbs, gMax2, gMin2, gInt, gTup, gList, wipeW, if_true, if_false, Bool.false_eq_true, Bool.not_true, Bool.not_false, reduceCtorEq, dSl, dAdd_int, k1, k2, d, ce, i4]
  -- 5
  have lp3 := loopF_same (g := gOne 11) (body := l__law_orders_hold_3) (ρ := [.d (prsN P), .d (.int (m : Int)), .d (.tuple (O.map wyD)), .no, .d (.tuple ((List.range m).map fun x => iN (hgt P x))), .no, .no, .no, .no, .no, .no, .no, .no, .no]) (n := n) iN (List.range m) fun x hx => by
    have xl := List.mem_range.mp hx
    have hix : ∀ z : Nat, z < m → dIx (.tuple ((List.range m).map fun x => iN (hgt P x))) (.int (z : Int)) = some (.d (.int ((hgt P z : Nat) : Int))) := fun z hz => by
      rw [ixT _ (z : Int) (by omega) (by simp; omega)]
      simp [iN]
    have f5 := comp_filA (g := gMany [7, 8]) (own := [7, 8]) (tst := bTest (eBin dEq (dVar 8) (dVar 11))) (elt := eBin dAdd (dOf (eBin dIx (dVar 4) (dVar 7))) (dOf (eC (.int 1)))) (ρ := [.d (prsN P), .d (.int (m : Int)), .d (.tuple (O.map wyD)), .no, .d (.tuple ((List.range m).map fun x => iN (hgt P x))), .no, .no, .no, .no, .no, .no, .d (.int (x : Int)), .no, .no]) (n := n) prN (fun q => .int ((hgt P q.1 : Nat) + 1 : Int)) (fun q => q.2 == x) P fun q hq => ⟨[.d (prsN P), .d (.int (m : Int)), .d (.tuple (O.map wyD)), .no, .d (.tuple ((List.range m).map fun x => iN (hgt P x))), .no, .no, .d (.int (q.1 : Int)), .d (.int (q.2 : Int)), .no, .no, .d (.int (x : Int)), .no, .no], rfl, by
      have e := eqI q.2 x
      simp -implicitDefEqProofs only [eVar_ap, dVar_ap, eC_ap, dOf_ap, eFrz_ap, eBin_ap, bTest_ap, bTru_ap, bAnd_ap, bOr_ap, bNot_ap, eIf_ap, eB_ap, eAnd_ap, eOr_ap, aNil_ap, aCons_ap, sNil_ap, sCons_ap, eTup_ap, eLst_ap, eCall_ap, eApp_ap, oNone_ap, oSome_ap, eSl_ap, sNil'_ap, sSeq_ap, sBrk_ap, sRet_ap, sRetN_ap, sRetO_ap, sDrop_ap, sIf_ap, sSet_ap, sApp_ap, sTown_ap, sExt_ap, sIns_ap, sSetIx_ap, sAsg_ap, sPar_ap, iOf_ap, iVal_ap, iRng1_ap, iRng2_ap, sFor_ap, eComp_ap, bYes_ap, frzAt_ap, eUn_ap, eNotD_ap, eOrD_ap, eChain_ap, eListRg1_ap, eIsa_ap, eMt_ap, iEnumV_ap, iEnumF_ap, iZipV_ap, iZipF_ap, eTLen_ap, iRng3D_ap, sEnd_ap, eSs_ap, sPar3_ap, xPop_ap, xTup1_ap, xCat_ap, sSetX_ap, sAppX_ap, sParO_ap, sForEI_ap, sForK_ap, eRep_ap, eDicK_ap, eDicT_ap, sPut_ap, eAlt_ap, sTry_ap, eGetD_ap, eLockI_ap, iKeyF_ap, runB_ap, gOne_ap, gMany_ap, dI_ap, yesC_ap, dCmp_int, setD, kill_nx, kill_rt, kill_bk, Option.bind_some, Option.map_some, Option.bind_none, Option.map_none, List.getElem?_cons_zero, List.getElem?_cons_succ, List.set_cons_zero, List.set_cons_succ, List.cons_append, List.nil_append, List.append_nil, List.replicate, List.length_cons, List.length_nil, Nat.reduceAdd, Nat.reduceSub, Nat.zero_add, wdat_no, wdat_d, wdat_town, wdat_ol, wdat_od, wfrz_no, wfrz_d, wfrz_town, wfrz_ol, wfrz_od, wval_no, wval_d, wval_town, wval_ol, wval_od, warg_no, warg_d, warg_town, warg_ol, warg_od, vals, gLen, gAbs, gMax2, gMin2, gInt, gTup, gList, wipeW, if_true, if_false, Bool.false_eq_true, Bool.not_true, Bool.not_false, reduceCtorEq, e], fun _ => by
      have i := hix q.1 (A.lt q hq).1
      simp -implicitDefEqProofs only [eVar_ap, dVar_ap, eC_ap, dOf_ap, eFrz_ap, eBin_ap, bTest_ap, bTru_ap, bAnd_ap, bOr_ap, bNot_ap, eIf_ap, eB_ap, eAnd_ap, eOr_ap, aNil_ap, aCons_ap, sNil_ap, sCons_ap, eTup_ap, eLst_ap, eCall_ap, eApp_ap, oNone_ap, oSome_ap, eSl_ap, sNil'_ap, sSeq_ap, sBrk_ap, sRet_ap, sRetN_ap, sRetO_ap, sDrop_ap, sIf_ap, sSet_ap, sApp_ap, sTown_ap, sExt_ap, sIns_ap, sSetIx_ap, sAsg_ap, sPar_ap, iOf_ap, iVal_ap, iRng1_ap, iRng2_ap, sFor_ap, eComp_ap, bYes_ap, frzAt_ap, eUn_ap, eNotD_ap, eOrD_ap, eChain_ap, eListRg1_ap, eIsa_ap, eMt_ap, iEnumV_ap, iEnumF_ap, iZipV_ap, iZipF_ap, eTLen_ap, iRng3D_ap, sEnd_ap, eSs_ap, sPar3_ap, xPop_ap, xTup1_ap, xCat_ap, sSetX_ap, sAppX_ap, sParO_ap, sForEI_ap, sForK_ap, eRep_ap, eDicK_ap, eDicT_ap, sPut_ap, eAlt_ap, sTry_ap, eGetD_ap, eLockI_ap, iKeyF_ap, runB_ap, gOne_ap, gMany_ap, dI_ap, yesC_ap, dCmp_int, setD, kill_nx, kill_rt, kill_bk, Option.bind_some, Option.map_some, Option.bind_none, Option.map_none, List.getElem?_cons_zero, List.getElem?_cons_succ, List.set_cons_zero, List.set_cons_succ, List.cons_append, List.nil_append, List.append_nil, List.replicate, List.length_cons, List.length_nil, Nat.reduceAdd, Nat.reduceSub, Nat.zero_add, wdat_no, wdat_d, wdat_town, wdat_ol, wdat_od, wfrz_no, wfrz_d, wfrz_town, wfrz_ol, wfrz_od, wval_no, wval_d, wval_town, wval_ol, wval_od, warg_no, warg_d, warg_town, warg_ol, warg_od, vals, gLen, gAbs, gMax2, gMin2, gInt, gTup, gList, wipeW, if_true, if_false, Bool.false_eq_true, Bool.not_true, Bool.not_false, reduceCtorEq, i, dAdd_int]⟩
    have e5 : (P.filter fun q => q.2 == x).map (fun q => PyData.int ((hgt P q.1 : Nat) + 1 : Int)) = (((ahd P x).map fun f => hgt P f + 1).map fun k : Nat => (k : Int)).map .int := by
      unfold ahd
      rw [List.map_map, List.map_map, List.map_map]; rfl
    rw [e5] at f5
    have al : (ahd P x).length ≤ 36 := Nat.le_trans (cnt_le P x) pf
    have d5 := dAdd_lst [.int 0] ((((ahd P x).map fun f => hgt P f + 1).map fun k : Nat => (k : Int)).map .int) (le_big (by simp; omega))
    have e6 : [PyData.int 0] ++ (((ahd P x).map fun f => hgt P f + 1).map fun k : Nat => (k : Int)).map .int = (0 :: ((ahd P x).map fun f => hgt P f + 1).map fun k : Nat => (k : Int)).map .int := rfl
    rw [e6] at d5
    have g5 : gMax1 [.list ((0 :: ((ahd P x).map fun f => hgt P f + 1).map fun k : Nat => (k : Int)).map .int)] = some (.d (.int ((hgt P x : Nat) : Int))) := by
      have : gMaxL [.list ((0 :: ((ahd P x).map fun f => hgt P f + 1).map fun k : Nat => (k : Int)).map .int)] = some (.d (.int ((hgt P x : Nat) : Int))) := by
        show (intsOf ((0 :: ((ahd P x).map fun f => hgt P f + 1).map fun k : Nat => (k : Int)).map .int)).bind _ = _
        rw [intsOf_map, Option.bind_some]
        show some (W.d (.int (topI 0 _))) = _
        rw [top_nat, ← hgt_eqA (rkOf hP A.no)]
      unfold gMax1
      rw [this]; rfl
    have ix := hix x xl
    have nz : dNe (.int ((hgt P x : Nat) : Int)) (.int ((hgt P x : Nat) : Int)) = some (.d (.bool false)) := by rw [dNe_int]; simp
    refine ⟨[.d (prsN P), .d (.int (m : Int)), .d (.tuple (O.map wyD)), .no, .d (.tuple ((List.range m).map fun x => iN (hgt P x))), .no, .no, .no, .no, .no, .no, .d (.int (x : Int)), .no, .no], rfl, ?_⟩
    unfold l__law_orders_hold_3
    simp -implicitDefEqProofs only [eVar_ap, dVar_ap, eC_ap, dOf_ap, eFrz_ap, eBin_ap, bTest_ap, bTru_ap, bAnd_ap, bOr_ap, bNot_ap, eIf_ap, eB_ap, eAnd_ap, eOr_ap, aNil_ap, aCons_ap, sNil_ap, sCons_ap, eTup_ap, eLst_ap, eCall_ap, eApp_ap, oNone_ap, oSome_ap, eSl_ap, sNil'_ap, sSeq_ap, sBrk_ap, sRet_ap, sRetN_ap, sRetO_ap, sDrop_ap, sIf_ap, sSet_ap, sApp_ap, sTown_ap, sExt_ap, sIns_ap, sSetIx_ap, sAsg_ap, sPar_ap, iOf_ap, iVal_ap, iRng1_ap, iRng2_ap, sFor_ap, eComp_ap, bYes_ap, frzAt_ap, eUn_ap, eNotD_ap, eOrD_ap, eChain_ap, eListRg1_ap, eIsa_ap, eMt_ap, iEnumV_ap, iEnumF_ap, iZipV_ap, iZipF_ap, eTLen_ap, iRng3D_ap, sEnd_ap, eSs_ap, sPar3_ap, xPop_ap, xTup1_ap, xCat_ap, sSetX_ap, sAppX_ap, sParO_ap, sForEI_ap, sForK_ap, eRep_ap, eDicK_ap, eDicT_ap, sPut_ap, eAlt_ap, sTry_ap, eGetD_ap, eLockI_ap, iKeyF_ap, runB_ap, gOne_ap, gMany_ap, dI_ap, yesC_ap, dCmp_int, setD, kill_nx, kill_rt, kill_bk, Option.bind_some, Option.map_some, Option.bind_none, Option.map_none, List.getElem?_cons_zero, List.getElem?_cons_succ, List.set_cons_zero, List.set_cons_succ, List.cons_append, List.nil_append, List.append_nil, List.replicate, List.length_cons, List.length_nil, Nat.reduceAdd, Nat.reduceSub, Nat.zero_add, wdat_no, wdat_d, wdat_town, wdat_ol, wdat_od, wfrz_no, wfrz_d, wfrz_town, wfrz_ol, wfrz_od, wval_no, wval_d, wval_town, wval_ol, wval_od, warg_no, warg_d, warg_town, warg_ol, warg_od, vals, gLen, gAbs, gMax2, gMin2, gInt, gTup, gList, wipeW, if_true, if_false, Bool.false_eq_true, Bool.not_true, Bool.not_false, reduceCtorEq, ix, iSeq, List.length_map, hbP, f5, d5, g5, nz]
  -- 6
  have lp4 := loopF_same (g := gMany [5, 12]) (body := l__law_orders_hold_4) (ρ := [.d (prsN P), .d (.int (m : Int)), .d (.tuple (O.map wyD)), .no, .no, .no, .no, .no, .no, .no, .no, .no, .no, .no]) (n := n) prN ((List.range m).flatMap (frL (tcL P) m)) fun p hp => by
    obtain ⟨l1, l2, n1, n2⟩ := free_mem.mp hp
    obtain ⟨w1, m1, k1⟩ := free_way A (show p.1 < m by omega) l2 (by omega) n2
    obtain ⟨w2, m2, k2⟩ := free_way A l2 (show p.1 < m by omega) (by omega) n1
    rw [hO] at m1 m2
    have c6 := comp_mapA (g := gOne 13) (own := [13]) (elt := eTup (aCons (eBin (dCmp rLt zLt) (dOf (eMt isTupD gIndexT (dVar 13) (sCons (dVar 5) sNil))) (dOf (eMt isTupD gIndexT (dVar 13) (sCons (dVar 12) sNil)))) (aCons (eC (.int 0)) aNil))) (ρ := [.d (prsN P), .d (.int (m : Int)), .d (.tuple (O.map wyD)), .no, .no, .d (.int (p.1 : Int)), .no, .no, .no, .no, .no, .no, .d (.int (p.2 : Int)), .no]) (n := n) wyD (fun w => .tuple [.bool (decide (w.idxOf p.1 < w.idxOf p.2)), .int 0]) O fun w hw => by
      have inn : ∀ x, x < m → x ∈ w := fun x hx => (ois w hw).1.mem_iff.mpr (List.mem_range.mpr hx)
      have i1 := idxT (inn p.1 (by omega))
      have i2 := idxT (inn p.2 l2)
      have g : rLt ((w.idxOf p.1 : Nat) : Int) ((w.idxOf p.2 : Nat) : Int) = decide (w.idxOf p.1 < w.idxOf p.2) := decide_eq_decide.mpr (by omega)
      exact ⟨[.d (prsN P), .d (.int (m : Int)), .d (.tuple (O.map wyD)), .no, .no, .d (.int (p.1 : Int)), .no, .no, .no, .no, .no, .no, .d (.int (p.2 : Int)), .d (wyD w)], rfl, by simp -implicitDefEqProofs only [eVar_ap, dVar_ap, eC_ap, dOf_ap, eFrz_ap, eBin_ap, bTest_ap, bTru_ap, bAnd_ap, bOr_ap, bNot_ap, eIf_ap, eB_ap, eAnd_ap, eOr_ap, aNil_ap, aCons_ap, sNil_ap, sCons_ap, eTup_ap, eLst_ap, eCall_ap, eApp_ap, oNone_ap, oSome_ap, eSl_ap, sNil'_ap, sSeq_ap, sBrk_ap, sRet_ap, sRetN_ap, sRetO_ap, sDrop_ap, sIf_ap, sSet_ap, sApp_ap, sTown_ap, sExt_ap, sIns_ap, sSetIx_ap, sAsg_ap, sPar_ap, iOf_ap, iVal_ap, iRng1_ap, iRng2_ap, sFor_ap, eComp_ap, bYes_ap, frzAt_ap, eUn_ap, eNotD_ap, eOrD_ap, eChain_ap, eListRg1_ap, eIsa_ap, eMt_ap, iEnumV_ap, iEnumF_ap, iZipV_ap, iZipF_ap, eTLen_ap, iRng3D_ap, sEnd_ap, eSs_ap, sPar3_ap, xPop_ap, xTup1_ap, xCat_ap, sSetX_ap, sAppX_ap, sParO_ap, sForEI_ap, sForK_ap, eRep_ap, eDicK_ap, eDicT_ap, sPut_ap, eAlt_ap, sTry_ap, eGetD_ap, eLockI_ap, iKeyF_ap, runB_ap, gOne_ap, gMany_ap, dI_ap, yesC_ap, dCmp_int, setD, kill_nx, kill_rt, kill_bk, Option.bind_some, Option.map_some, Option.bind_none, Option.map_none, List.getElem?_cons_zero, List.getElem?_cons_succ, List.set_cons_zero, List.set_cons_succ, List.cons_append, List.nil_append, List.append_nil, List.replicate, List.length_cons, List.length_nil, Nat.reduceAdd, Nat.reduceSub, Nat.zero_add, wdat_no, wdat_d, wdat_town, wdat_ol, wdat_od, wfrz_no, wfrz_d, wfrz_town, wfrz_ol, wfrz_od, wval_no, wval_d, wval_town, wval_ol, wval_od, warg_no, warg_d, warg_town, warg_ol, warg_od, vals, gLen, gAbs, gMax2, gMin2, gInt, gTup, gList, wipeW, if_true, if_false, Bool.false_eq_true, Bool.not_true, Bool.not_false, reduceCtorEq, isTupD, i1, i2, g]⟩
    have gb : gLenDictB [.list (O.map fun w => .tuple [.bool (decide (w.idxOf p.1 < w.idxOf p.2)), .int 0])] = some (.d (.int 2)) := by
      have b : bcnt (O.map fun w => decide (w.idxOf p.1 < w.idxOf p.2)) = 2 := by
        unfold bcnt
        rw [if_pos (List.mem_map.mpr ⟨w1, m1, decide_eq_true k1⟩), if_pos (List.mem_map.mpr ⟨w2, m2, decide_eq_false (by omega)⟩)]
      simp only [gLenDictB, pairsB_map, Option.bind_some]
      rw [if_pos (by rw [List.length_map]; omega), b]
      rfl
    have nz : dNe (.int 2) (.int 2) = some (.d (.bool false)) := rfl
    refine ⟨[.d (prsN P), .d (.int (m : Int)), .d (.tuple (O.map wyD)), .no, .no, .d (.int (p.1 : Int)), .no, .no, .no, .no, .no, .no, .d (.int (p.2 : Int)), .no], rfl, ?_⟩
    unfold l__law_orders_hold_4
    simp -implicitDefEqProofs only [eVar_ap, dVar_ap, eC_ap, dOf_ap, eFrz_ap, eBin_ap, bTest_ap, bTru_ap, bAnd_ap, bOr_ap, bNot_ap, eIf_ap, eB_ap, eAnd_ap, eOr_ap, aNil_ap, aCons_ap, sNil_ap, sCons_ap, eTup_ap, eLst_ap, eCall_ap, eApp_ap, oNone_ap, oSome_ap, eSl_ap, sNil'_ap, sSeq_ap, sBrk_ap, sRet_ap, sRetN_ap, sRetO_ap, sDrop_ap, sIf_ap, sSet_ap, sApp_ap, sTown_ap, sExt_ap, sIns_ap, sSetIx_ap, sAsg_ap, sPar_ap, iOf_ap, iVal_ap, iRng1_ap, iRng2_ap, sFor_ap, eComp_ap, bYes_ap, frzAt_ap, eUn_ap, eNotD_ap, eOrD_ap, eChain_ap, eListRg1_ap, eIsa_ap, eMt_ap, iEnumV_ap, iEnumF_ap, iZipV_ap, iZipF_ap, eTLen_ap, iRng3D_ap, sEnd_ap, eSs_ap, sPar3_ap, xPop_ap, xTup1_ap, xCat_ap, sSetX_ap, sAppX_ap, sParO_ap, sForEI_ap, sForK_ap, eRep_ap, eDicK_ap, eDicT_ap, sPut_ap, eAlt_ap, sTry_ap, eGetD_ap, eLockI_ap, iKeyF_ap, runB_ap, gOne_ap, gMany_ap, dI_ap, yesC_ap, dCmp_int, setD, kill_nx, kill_rt, kill_bk, Option.bind_some, Option.map_some, Option.bind_none, Option.map_none, List.getElem?_cons_zero, List.getElem?_cons_succ, List.set_cons_zero, List.set_cons_succ, List.cons_append, List.nil_append, List.append_nil, List.replicate, List.length_cons, List.length_nil, Nat.reduceAdd, Nat.reduceSub, Nat.zero_add, wdat_no, wdat_d, wdat_town, wdat_ol, wdat_od, wfrz_no, wfrz_d, wfrz_town, wfrz_ol, wfrz_od, wval_no, wval_d, wval_town, wval_ol, wval_od, warg_no, warg_d, warg_town, warg_ol, warg_od, vals, gLen, gAbs, gMax2, gMin2, gInt, gTup, gList, wipeW, if_true, if_false, Bool.false_eq_true, Bool.not_true, Bool.not_false, reduceCtorEq, iSeq, List.length_map, hbO, c6, gb, nz]
  have cn := count_all A
  have fl : ((List.range m).flatMap (frL (tcL P) m)).length ≤ 100 := by
    have := (free_sub (tcL P) m).length_le
    have a1 := (allP_len ⟨m, by omega⟩).1
    simp only at a1
    have : tri m ≤ 21 := by
      have : m = 2 ∨ m = 3 ∨ m = 4 ∨ m = 5 ∨ m = 6 := by omega
      rcases this with rfl | rfl | rfl | rfl | rfl <;> decide
    omega
  have hbQ : ((List.range m).flatMap (frL (tcL P) m)).length ≤ big := le_big (by omega)
  have me1 : mulC (m : Int) ((m : Int) - 1) = true := mulC_l (by omega) (by omega)
  have me2 : divC ((m : Int) * ((m : Int) - 1)) 2 = true := divC_ok (by decide) (by decide)
  have fin : dEq (.int (((List.range m).flatMap (frL (tcL P) m)).length + (tcL P).length : Int)) (.int (tri m : Nat)) = some (.d (.bool true)) := by
    rw [dEq_int, ← cn]; simp
  unfold m__law_orders_hold b__law_orders_hold
  refine runB_rt (n' := n) ?_
  refine (sSeq_nx (ρ' := [.d (prsN P), .d (.int (m : Int)), .d (.tuple (O.map wyD)), .d (prsN (brL P)), .d (.tuple ((List.range m).map fun x => iN (hgt P x))), .no, .no, .no, .no, .no, .no, .no, .no, .no]) (n' := n) (by simp -implicitDefEqProofs only [eVar_ap, dVar_ap, eC_ap, dOf_ap, eFrz_ap, eBin_ap, bTest_ap, bTru_ap, bAnd_ap, bOr_ap, bNot_ap, eIf_ap, eB_ap, eAnd_ap, eOr_ap, aNil_ap, aCons_ap, sNil_ap, sCons_ap, eTup_ap, eLst_ap, eCall_ap, eApp_ap, oNone_ap, oSome_ap, eSl_ap, sNil'_ap, sSeq_ap, sBrk_ap, sRet_ap, sRetN_ap, sRetO_ap, sDrop_ap, sIf_ap, sSet_ap, sApp_ap, sTown_ap, sExt_ap, sIns_ap, sSetIx_ap, sAsg_ap, sPar_ap, iOf_ap, iVal_ap, iRng1_ap, iRng2_ap, sFor_ap, eComp_ap, bYes_ap, frzAt_ap, eUn_ap, eNotD_ap, eOrD_ap, eChain_ap, eListRg1_ap, eIsa_ap, eMt_ap, iEnumV_ap, iEnumF_ap, iZipV_ap, iZipF_ap, eTLen_ap, iRng3D_ap, sEnd_ap, eSs_ap, sPar3_ap, xPop_ap, xTup1_ap, xCat_ap, sSetX_ap, sAppX_ap, sParO_ap, sForEI_ap, sForK_ap, eRep_ap, eDicK_ap, eDicT_ap, sPut_ap, eAlt_ap, sTry_ap, eGetD_ap, eLockI_ap, iKeyF_ap, runB_ap, gOne_ap, gMany_ap, dI_ap, yesC_ap, dCmp_int, setD, kill_nx, kill_rt, kill_bk, Option.bind_some, Option.map_some, Option.bind_none, Option.map_none, List.getElem?_cons_zero, List.getElem?_cons_succ, List.set_cons_zero, List.set_cons_succ, List.cons_append, List.nil_append, List.append_nil, List.replicate, List.length_cons, List.length_nil, Nat.reduceAdd, Nat.reduceSub, Nat.zero_add, wdat_no, wdat_d, wdat_town, wdat_ol, wdat_od, wfrz_no, wfrz_d, wfrz_town, wfrz_ol, wfrz_od, wval_no, wval_d, wval_town, wval_ol, wval_od, warg_no, warg_d, warg_town, warg_ol, warg_od, vals, gLen, gAbs, gMax2, gMin2, gInt, gTup, gList, wipeW, if_true, if_false, Bool.false_eq_true, Bool.not_true, Bool.not_false, reduceCtorEq, x1, x3, x4])).trans ?_
  refine (sSeq_nx (ρ' := [.d (prsN P), .d (.int (m : Int)), .d (.tuple (O.map wyD)), .d (prsN (brL P)), .d (.tuple ((List.range m).map fun x => iN (hgt P x))), .no, .no, .no, .no, .no, .no, .no, .no, .no]) (n' := n) (by
    simp -implicitDefEqProofs only [eVar_ap, dVar_ap, eC_ap, dOf_ap, eFrz_ap, eBin_ap, bTest_ap, bTru_ap, bAnd_ap, bOr_ap, bNot_ap, eIf_ap, eB_ap, eAnd_ap, eOr_ap, aNil_ap, aCons_ap, sNil_ap, sCons_ap, eTup_ap, eLst_ap, eCall_ap, eApp_ap, oNone_ap, oSome_ap, eSl_ap, sNil'_ap, sSeq_ap, sBrk_ap, sRet_ap, sRetN_ap, sRetO_ap, sDrop_ap, sIf_ap, sSet_ap, sApp_ap, sTown_ap, sExt_ap, sIns_ap, sSetIx_ap, sAsg_ap, sPar_ap, iOf_ap, iVal_ap, iRng1_ap, iRng2_ap, sFor_ap, eComp_ap, bYes_ap, frzAt_ap, eUn_ap, eNotD_ap, eOrD_ap, eChain_ap, eListRg1_ap, eIsa_ap, eMt_ap, iEnumV_ap, iEnumF_ap, iZipV_ap, iZipF_ap, eTLen_ap, iRng3D_ap, sEnd_ap, eSs_ap, sPar3_ap, xPop_ap, xTup1_ap, xCat_ap, sSetX_ap, sAppX_ap, sParO_ap, sForEI_ap, sForK_ap, eRep_ap, eDicK_ap, eDicT_ap, sPut_ap, eAlt_ap, sTry_ap, eGetD_ap, eLockI_ap, iKeyF_ap, runB_ap, gOne_ap, gMany_ap, dI_ap, yesC_ap, dCmp_int, setD, kill_nx, kill_rt, kill_bk, Option.bind_some, Option.map_some, Option.bind_none, Option.map_none, List.getElem?_cons_zero, List.getElem?_cons_succ, List.set_cons_zero, List.set_cons_succ, List.cons_append, List.nil_append, List.append_nil, List.replicate, List.length_cons, List.length_nil, Nat.reduceAdd, Nat.reduceSub, Nat.zero_add, wdat_no, wdat_d, wdat_town, wdat_ol, wdat_od, wfrz_no, wfrz_d, wfrz_town, wfrz_ol, wfrz_od, wval_no, wval_d, wval_town, wval_ol, wval_od, warg_no, warg_d, warg_town, warg_ol, warg_od, vals, gLen, gAbs, gMax2, gMin2, gInt, gTup, gList, wipeW, if_true, if_false, Bool.false_eq_true, Bool.not_true, Bool.not_false, reduceCtorEq, gList, iSeq, List.length_map, hbO, c1, g0, Option.none_or, d1, d2, ne1, ix0, x2, ne2])).trans ?_
  refine (sSeq_nx (ρ' := [.d (prsN P), .d (.int (m : Int)), .d (.tuple (O.map wyD)), .d (prsN (brL P)), .d (.tuple ((List.range m).map fun x => iN (hgt P x))), .no, .no, .no, .no, .no, .no, .no, .no, .no]) (n' := n) (by simp -implicitDefEqProofs only [eVar_ap, dVar_ap, eC_ap, dOf_ap, eFrz_ap, eBin_ap, bTest_ap, bTru_ap, bAnd_ap, bOr_ap, bNot_ap, eIf_ap, eB_ap, eAnd_ap, eOr_ap, aNil_ap, aCons_ap, sNil_ap, sCons_ap, eTup_ap, eLst_ap, eCall_ap, eApp_ap, oNone_ap, oSome_ap, eSl_ap, sNil'_ap, sSeq_ap, sBrk_ap, sRet_ap, sRetN_ap, sRetO_ap, sDrop_ap, sIf_ap, sSet_ap, sApp_ap, sTown_ap, sExt_ap, sIns_ap, sSetIx_ap, sAsg_ap, sPar_ap, iOf_ap, iVal_ap, iRng1_ap, iRng2_ap, sFor_ap, eComp_ap, bYes_ap, frzAt_ap, eUn_ap, eNotD_ap, eOrD_ap, eChain_ap, eListRg1_ap, eIsa_ap, eMt_ap, iEnumV_ap, iEnumF_ap, iZipV_ap, iZipF_ap, eTLen_ap, iRng3D_ap, sEnd_ap, eSs_ap, sPar3_ap, xPop_ap, xTup1_ap, xCat_ap, sSetX_ap, sAppX_ap, sParO_ap, sForEI_ap, sForK_ap, eRep_ap, eDicK_ap, eDicT_ap, sPut_ap, eAlt_ap, sTry_ap, eGetD_ap, eLockI_ap, iKeyF_ap, runB_ap, gOne_ap, gMany_ap, dI_ap, yesC_ap, dCmp_int, setD, kill_nx, kill_rt, kill_bk, Option.bind_some, Option.map_some, Option.bind_none, Option.map_none, List.getElem?_cons_zero, List.getElem?_cons_succ, List.set_cons_zero, List.set_cons_succ, List.cons_append, List.nil_append, List.append_nil, List.replicate, List.length_cons, List.length_nil, Nat.reduceAdd, Nat.reduceSub, Nat.zero_add, wdat_no, wdat_d, wdat_town, wdat_ol, wdat_od, wfrz_no, wfrz_d, wfrz_town, wfrz_ol, wfrz_od, wval_no, wval_d, wval_town, wval_ol, wval_od, warg_no, warg_d, warg_town, warg_ol, warg_od, vals, gLen, gAbs, gMax2, gMin2, gInt, gTup, gList, wipeW, if_true, if_false, Bool.false_eq_true, Bool.not_true, Bool.not_false, reduceCtorEq, iSeq, List.length_map, hbO, lp1])).trans ?_
  refine (sSeq_nx (ρ' := [.d (prsN P), .d (.int (m : Int)), .d (.tuple (O.map wyD)), .d (prsN (brL P)), .d (.tuple ((List.range m).map fun x => iN (hgt P x))), .no, .no, .no, .no, .no, .no, .no, .no, .no]) (n' := n) (by simp -implicitDefEqProofs only [eVar_ap, dVar_ap, eC_ap, dOf_ap, eFrz_ap, eBin_ap, bTest_ap, bTru_ap, bAnd_ap, bOr_ap, bNot_ap, eIf_ap, eB_ap, eAnd_ap, eOr_ap, aNil_ap, aCons_ap, sNil_ap, sCons_ap, eTup_ap, eLst_ap, eCall_ap, eApp_ap, oNone_ap, oSome_ap, eSl_ap, sNil'_ap, sSeq_ap, sBrk_ap, sRet_ap, sRetN_ap, sRetO_ap, sDrop_ap, sIf_ap, sSet_ap, sApp_ap, sTown_ap, sExt_ap, sIns_ap, sSetIx_ap, sAsg_ap, sPar_ap, iOf_ap, iVal_ap, iRng1_ap, iRng2_ap, sFor_ap, eComp_ap, bYes_ap, frzAt_ap, eUn_ap, eNotD_ap, eOrD_ap, eChain_ap, eListRg1_ap, eIsa_ap, eMt_ap, iEnumV_ap, iEnumF_ap, iZipV_ap, iZipF_ap, eTLen_ap, iRng3D_ap, sEnd_ap, eSs_ap, sPar3_ap, xPop_ap, xTup1_ap, xCat_ap, sSetX_ap, sAppX_ap, sParO_ap, sForEI_ap, sForK_ap, eRep_ap, eDicK_ap, eDicT_ap, sPut_ap, eAlt_ap, sTry_ap, eGetD_ap, eLockI_ap, iKeyF_ap, runB_ap, gOne_ap, gMany_ap, dI_ap, yesC_ap, dCmp_int, setD, kill_nx, kill_rt, kill_bk, Option.bind_some, Option.map_some, Option.bind_none, Option.map_none, List.getElem?_cons_zero, List.getElem?_cons_succ, List.set_cons_zero, List.set_cons_succ, List.cons_append, List.nil_append, List.append_nil, List.replicate, List.length_cons, List.length_nil, Nat.reduceAdd, Nat.reduceSub, Nat.zero_add, wdat_no, wdat_d, wdat_town, wdat_ol, wdat_od, wfrz_no, wfrz_d, wfrz_town, wfrz_ol, wfrz_od, wval_no, wval_d, wval_town, wval_ol, wval_od, warg_no, warg_d, warg_town, warg_ol, warg_od, vals, gLen, gAbs, gMax2, gMin2, gInt, gTup, gList, wipeW, if_true, if_false, Bool.false_eq_true, Bool.not_true, Bool.not_false, reduceCtorEq, cb, cl, ne3, y1, ne4, iSeq, List.length_map, hbF, c3, g3, dTru_bool, Bool.not_true])).trans ?_
  refine (sSeq_nx (ρ' := [.d (prsN P), .d (.int (m : Int)), .d (.tuple (O.map wyD)), .no, .d (.tuple ((List.range m).map fun x => iN (hgt P x))), .no, .no, .no, .no, .no, .no, .no, .no, .no]) (n' := n) (by simp -implicitDefEqProofs only [eVar_ap, dVar_ap, eC_ap, dOf_ap, eFrz_ap, eBin_ap, bTest_ap, bTru_ap, bAnd_ap, bOr_ap, bNot_ap, eIf_ap, eB_ap, eAnd_ap, eOr_ap, aNil_ap, aCons_ap, sNil_ap, sCons_ap, eTup_ap, eLst_ap, eCall_ap, eApp_ap, oNone_ap, oSome_ap, eSl_ap, sNil'_ap, sSeq_ap, sBrk_ap, sRet_ap, sRetN_ap, sRetO_ap, sDrop_ap, sIf_ap, sSet_ap, sApp_ap, sTown_ap, sExt_ap, sIns_ap, sSetIx_ap, sAsg_ap, sPar_ap, iOf_ap, iVal_ap, iRng1_ap, iRng2_ap, sFor_ap, eComp_ap, bYes_ap, frzAt_ap, eUn_ap, eNotD_ap, eOrD_ap, eChain_ap, eListRg1_ap, eIsa_ap, eMt_ap, iEnumV_ap, iEnumF_ap, iZipV_ap, iZipF_ap, eTLen_ap, iRng3D_ap, sEnd_ap, eSs_ap, sPar3_ap, xPop_ap, xTup1_ap, xCat_ap, sSetX_ap, sAppX_ap, sParO_ap, sForEI_ap, sForK_ap, eRep_ap, eDicK_ap, eDicT_ap, sPut_ap, eAlt_ap, sTry_ap, eGetD_ap, eLockI_ap, iKeyF_ap, runB_ap, gOne_ap, gMany_ap, dI_ap, yesC_ap, dCmp_int, setD, kill_nx, kill_rt, kill_bk, Option.bind_some, Option.map_some, Option.bind_none, Option.map_none, List.getElem?_cons_zero, List.getElem?_cons_succ, List.set_cons_zero, List.set_cons_succ, List.cons_append, List.nil_append, List.append_nil, List.replicate, List.length_cons, List.length_nil, Nat.reduceAdd, Nat.reduceSub, Nat.zero_add, wdat_no, wdat_d, wdat_town, wdat_ol, wdat_od, wfrz_no, wfrz_d, wfrz_town, wfrz_ol, wfrz_od, wval_no, wval_d, wval_town, wval_ol, wval_od, warg_no, warg_d, warg_town, warg_ol, warg_od, vals, gLen, gAbs, gMax2, gMin2, gInt, gTup, gList, wipeW, if_true, if_false, Bool.false_eq_true, Bool.not_true, Bool.not_false, reduceCtorEq, seqOf, lp2])).trans ?_
  refine (sSeq_nx (ρ' := [.d (prsN P), .d (.int (m : Int)), .d (.tuple (O.map wyD)), .no, .no, .no, .no, .no, .no, .no, .no, .no, .no, .no]) (n' := n) (by simp -implicitDefEqProofs only [eVar_ap, dVar_ap, eC_ap, dOf_ap, eFrz_ap, eBin_ap, bTest_ap, bTru_ap, bAnd_ap, bOr_ap, bNot_ap, eIf_ap, eB_ap, eAnd_ap, eOr_ap, aNil_ap, aCons_ap, sNil_ap, sCons_ap, eTup_ap, eLst_ap, eCall_ap, eApp_ap, oNone_ap, oSome_ap, eSl_ap, sNil'_ap, sSeq_ap, sBrk_ap, sRet_ap, sRetN_ap, sRetO_ap, sDrop_ap, sIf_ap, sSet_ap, sApp_ap, sTown_ap, sExt_ap, sIns_ap, sSetIx_ap, sAsg_ap, sPar_ap, iOf_ap, iVal_ap, iRng1_ap, iRng2_ap, sFor_ap, eComp_ap, bYes_ap, frzAt_ap, eUn_ap, eNotD_ap, eOrD_ap, eChain_ap, eListRg1_ap, eIsa_ap, eMt_ap, iEnumV_ap, iEnumF_ap, iZipV_ap, iZipF_ap, eTLen_ap, iRng3D_ap, sEnd_ap, eSs_ap, sPar3_ap, xPop_ap, xTup1_ap, xCat_ap, sSetX_ap, sAppX_ap, sParO_ap, sForEI_ap, sForK_ap, eRep_ap, eDicK_ap, eDicT_ap, sPut_ap, eAlt_ap, sTry_ap, eGetD_ap, eLockI_ap, iKeyF_ap, runB_ap, gOne_ap, gMany_ap, dI_ap, yesC_ap, dCmp_int, setD, kill_nx, kill_rt, kill_bk, Option.bind_some, Option.map_some, Option.bind_none, Option.map_none, List.getElem?_cons_zero, List.getElem?_cons_succ, List.set_cons_zero, List.set_cons_succ, List.cons_append, List.nil_append, List.append_nil, List.replicate, List.length_cons, List.length_nil, Nat.reduceAdd, Nat.reduceSub, Nat.zero_add, wdat_no, wdat_d, wdat_town, wdat_ol, wdat_od, wfrz_no, wfrz_d, wfrz_town, wfrz_ol, wfrz_od, wval_no, wval_d, wval_town, wval_ol, wval_od, warg_no, warg_d, warg_town, warg_ol, warg_od, vals, gLen, gAbs, gMax2, gMin2, gInt, gTup, gList, wipeW, if_true, if_false, Bool.false_eq_true, Bool.not_true, Bool.not_false, reduceCtorEq, rgm, lp3])).trans ?_
  refine (sSeq_nx (ρ' := [.d (prsN P), .d (.int (m : Int)), .no, .no, .no, .no, .no, .no, .no, .no, .no, .no, .no, .no]) (n' := n) (by simp -implicitDefEqProofs only [eVar_ap, dVar_ap, eC_ap, dOf_ap, eFrz_ap, eBin_ap, bTest_ap, bTru_ap, bAnd_ap, bOr_ap, bNot_ap, eIf_ap, eB_ap, eAnd_ap, eOr_ap, aNil_ap, aCons_ap, sNil_ap, sCons_ap, eTup_ap, eLst_ap, eCall_ap, eApp_ap, oNone_ap, oSome_ap, eSl_ap, sNil'_ap, sSeq_ap, sBrk_ap, sRet_ap, sRetN_ap, sRetO_ap, sDrop_ap, sIf_ap, sSet_ap, sApp_ap, sTown_ap, sExt_ap, sIns_ap, sSetIx_ap, sAsg_ap, sPar_ap, iOf_ap, iVal_ap, iRng1_ap, iRng2_ap, sFor_ap, eComp_ap, bYes_ap, frzAt_ap, eUn_ap, eNotD_ap, eOrD_ap, eChain_ap, eListRg1_ap, eIsa_ap, eMt_ap, iEnumV_ap, iEnumF_ap, iZipV_ap, iZipF_ap, eTLen_ap, iRng3D_ap, sEnd_ap, eSs_ap, sPar3_ap, xPop_ap, xTup1_ap, xCat_ap, sSetX_ap, sAppX_ap, sParO_ap, sForEI_ap, sForK_ap, eRep_ap, eDicK_ap, eDicT_ap, sPut_ap, eAlt_ap, sTry_ap, eGetD_ap, eLockI_ap, iKeyF_ap, runB_ap, gOne_ap, gMany_ap, dI_ap, yesC_ap, dCmp_int, setD, kill_nx, kill_rt, kill_bk, Option.bind_some, Option.map_some, Option.bind_none, Option.map_none, List.getElem?_cons_zero, List.getElem?_cons_succ, List.set_cons_zero, List.set_cons_succ, List.cons_append, List.nil_append, List.append_nil, List.replicate, List.length_cons, List.length_nil, Nat.reduceAdd, Nat.reduceSub, Nat.zero_add, wdat_no, wdat_d, wdat_town, wdat_ol, wdat_od, wfrz_no, wfrz_d, wfrz_town, wfrz_ol, wfrz_od, wval_no, wval_d, wval_town, wval_ol, wval_od, warg_no, warg_d, warg_town, warg_ol, warg_od, vals, gLen, gAbs, gMax2, gMin2, gInt, gTup, gList, wipeW, if_true, if_false, Bool.false_eq_true, Bool.not_true, Bool.not_false, reduceCtorEq, fa, iSeq, List.length_map, hbQ, lp4])).trans ?_
  simp -implicitDefEqProofs only [eVar_ap, dVar_ap, eC_ap, dOf_ap, eFrz_ap, eBin_ap, bTest_ap, bTru_ap, bAnd_ap, bOr_ap, bNot_ap, eIf_ap, eB_ap, eAnd_ap, eOr_ap, aNil_ap, aCons_ap, sNil_ap, sCons_ap, eTup_ap, eLst_ap, eCall_ap, eApp_ap, oNone_ap, oSome_ap, eSl_ap, sNil'_ap, sSeq_ap, sBrk_ap, sRet_ap, sRetN_ap, sRetO_ap, sDrop_ap, sIf_ap, sSet_ap, sApp_ap, sTown_ap, sExt_ap, sIns_ap, sSetIx_ap, sAsg_ap, sPar_ap, iOf_ap, iVal_ap, iRng1_ap, iRng2_ap, sFor_ap, eComp_ap, bYes_ap, frzAt_ap, eUn_ap, eNotD_ap, eOrD_ap, eChain_ap, eListRg1_ap, eIsa_ap, eMt_ap, iEnumV_ap, iEnumF_ap, iZipV_ap, iZipF_ap, eTLen_ap, iRng3D_ap, sEnd_ap, eSs_ap, sPar3_ap, xPop_ap, xTup1_ap, xCat_ap, sSetX_ap, sAppX_ap, sParO_ap, sForEI_ap, sForK_ap, eRep_ap, eDicK_ap, eDicT_ap, sPut_ap, eAlt_ap, sTry_ap, eGetD_ap, eLockI_ap, iKeyF_ap, runB_ap, gOne_ap, gMany_ap, dI_ap, yesC_ap, dCmp_int, setD, kill_nx, kill_rt, kill_bk, Option.bind_some, Option.map_some, Option.bind_none, Option.map_none, List.getElem?_cons_zero, List.getElem?_cons_succ, List.set_cons_zero, List.set_cons_succ, List.cons_append, List.nil_append, List.append_nil, List.replicate, List.length_cons, List.length_nil, Nat.reduceAdd, Nat.reduceSub, Nat.zero_add, wdat_no, wdat_d, wdat_town, wdat_ol, wdat_od, wfrz_no, wfrz_d, wfrz_town, wfrz_ol, wfrz_od, wval_no, wval_d, wval_town, wval_ol, wval_od, warg_no, warg_d, warg_town, warg_ol, warg_od, vals, gLen, gAbs, gMax2, gMin2, gInt, gTup, gList, wipeW, if_true, if_false, Bool.false_eq_true, Bool.not_true, Bool.not_false, reduceCtorEq, fa, cl, List.length_map, dAdd_int, dMul, me1, dSub_int, dDiv, me2, tri_int, fin]
theorem one_turn (ns : List Int) (x : PyData) (n : Nat) (hn : n + 40 ≤ big) : ∃ n', l_law_1 [Sc ns, .town, .d x, .no, .no] n = some (.nx [Sc ns, .town, .no, .no, .no] n') ∧ n ≤ n' ∧ n' ≤ n + 30 := by
  obtain ⟨z, hz, e1⟩ := draw2_nat ns n (by omega) 4 (by decide)
  have e1 : m__law_draw_v2 [Sc ns, .town, .d (.int 4)] n = some (.d (.int (z : Int)), n + 1) := e1
  obtain ⟨P, n', D, e2, l1, l2⟩ := pairs2_ok ns (z + 2) (by omega) (by omega) (n + 1) (by omega)
  have a1 : dAdd (.int 2) (.int (z : Int)) = some (.d (.int ((z + 2 : Nat) : Int))) := by
    rw [dAdd_int]
    have : (2 : Int) + (z : Int) = ((z + 2 : Nat) : Int) := by omega
    rw [this]
  generalize hm : z + 2 = m at D e2 a1
  have hP := D.pr
  have c1 := closed_holds hP n'
  have c2 := ring_holds D n'
  have c3 := closed_any hP n'
  have c4 := closed_any (tcL_pr hP) n'
  rw [tcL_tcL hP] at c4
  have tl := (tcL_pr hP).few
  have ne1 : dNe (prsN (tcL P)) (prsN (tcL P)) = some (.d (.bool false)) := dNe_self (prs_nc (tcL P) (by omega)) (by decide)
  have rf := refused_ok D n'
  have ro := ring_ok hP D.srt (fun p hp => (D.lt p hp).1) n'
  have nz : ∀ z : Int, dNe (.int z) (.int z) = some (.d (.bool false)) := fun z => by rw [dNe_int]; simp
  refine ⟨n', ?_, by omega, by omega⟩
  unfold l_law_1
  refine (sSeq_nx (ρ' := [Sc ns, .town, .no, .d (.int (m : Int)), .no]) (n' := n + 1) (by simp -implicitDefEqProofs only [eVar_ap, dVar_ap, eC_ap, dOf_ap, eFrz_ap, eBin_ap, bTest_ap, bTru_ap, bAnd_ap, bOr_ap, bNot_ap, eIf_ap, eB_ap, eAnd_ap, eOr_ap, aNil_ap, aCons_ap, sNil_ap, sCons_ap, eTup_ap, eLst_ap, eCall_ap, eApp_ap, oNone_ap, oSome_ap, eSl_ap, sNil'_ap, sSeq_ap, sBrk_ap, sRet_ap, sRetN_ap, sRetO_ap, sDrop_ap, sIf_ap, sSet_ap, sApp_ap, sTown_ap, sExt_ap, sIns_ap, sSetIx_ap, sAsg_ap, sPar_ap, iOf_ap, iVal_ap, iRng1_ap, iRng2_ap, sFor_ap, eComp_ap, bYes_ap, frzAt_ap, eUn_ap, eNotD_ap, eOrD_ap, eChain_ap, eListRg1_ap, eIsa_ap, eMt_ap, iEnumV_ap, iEnumF_ap, iZipV_ap, iZipF_ap, eTLen_ap, iRng3D_ap, sEnd_ap, eSs_ap, sPar3_ap, xPop_ap, xTup1_ap, xCat_ap, sSetX_ap, sAppX_ap, sParO_ap, sForEI_ap, sForK_ap, eRep_ap, eDicK_ap, eDicT_ap, sPut_ap, eAlt_ap, sTry_ap, eGetD_ap, eLockI_ap, iKeyF_ap, runB_ap, gOne_ap, gMany_ap, dI_ap, yesC_ap, dCmp_int, setD, kill_nx, kill_rt, kill_bk, Option.bind_some, Option.map_some, Option.bind_none, Option.map_none, List.getElem?_cons_zero, List.getElem?_cons_succ, List.set_cons_zero, List.set_cons_succ, List.cons_append, List.nil_append, List.append_nil, List.replicate, List.length_cons, List.length_nil, Nat.reduceAdd, Nat.reduceSub, Nat.zero_add, wdat_no, wdat_d, wdat_town, wdat_ol, wdat_od, wfrz_no, wfrz_d, wfrz_town, wfrz_ol, wfrz_od, wval_no, wval_d, wval_town, wval_ol, wval_od, warg_no, warg_d, warg_town, warg_ol, warg_od, vals, gLen, gAbs, gMax2, gMin2, gInt, gTup, gList, wipeW, if_true, if_false, Bool.false_eq_true, Bool.not_true, Bool.not_false, reduceCtorEq, e1, a1])).trans ?_
  refine (sSeq_nx (ρ' := [Sc ns, .town, .no, .d (.int (m : Int)), .d (prsN P)]) (n' := n') (by simp -implicitDefEqProofs only [eVar_ap, dVar_ap, eC_ap, dOf_ap, eFrz_ap, eBin_ap, bTest_ap, bTru_ap, bAnd_ap, bOr_ap, bNot_ap, eIf_ap, eB_ap, eAnd_ap, eOr_ap, aNil_ap, aCons_ap, sNil_ap, sCons_ap, eTup_ap, eLst_ap, eCall_ap, eApp_ap, oNone_ap, oSome_ap, eSl_ap, sNil'_ap, sSeq_ap, sBrk_ap, sRet_ap, sRetN_ap, sRetO_ap, sDrop_ap, sIf_ap, sSet_ap, sApp_ap, sTown_ap, sExt_ap, sIns_ap, sSetIx_ap, sAsg_ap, sPar_ap, iOf_ap, iVal_ap, iRng1_ap, iRng2_ap, sFor_ap, eComp_ap, bYes_ap, frzAt_ap, eUn_ap, eNotD_ap, eOrD_ap, eChain_ap, eListRg1_ap, eIsa_ap, eMt_ap, iEnumV_ap, iEnumF_ap, iZipV_ap, iZipF_ap, eTLen_ap, iRng3D_ap, sEnd_ap, eSs_ap, sPar3_ap, xPop_ap, xTup1_ap, xCat_ap, sSetX_ap, sAppX_ap, sParO_ap, sForEI_ap, sForK_ap, eRep_ap, eDicK_ap, eDicT_ap, sPut_ap, eAlt_ap, sTry_ap, eGetD_ap, eLockI_ap, iKeyF_ap, runB_ap, gOne_ap, gMany_ap, dI_ap, yesC_ap, dCmp_int, setD, kill_nx, kill_rt, kill_bk, Option.bind_some, Option.map_some, Option.bind_none, Option.map_none, List.getElem?_cons_zero, List.getElem?_cons_succ, List.set_cons_zero, List.set_cons_succ, List.cons_append, List.nil_append, List.append_nil, List.replicate, List.length_cons, List.length_nil, Nat.reduceAdd, Nat.reduceSub, Nat.zero_add, wdat_no, wdat_d, wdat_town, wdat_ol, wdat_od, wfrz_no, wfrz_d, wfrz_town, wfrz_ol, wfrz_od, wval_no, wval_d, wval_town, wval_ol, wval_od, warg_no, warg_d, warg_town, warg_ol, warg_od, vals, gLen, gAbs, gMax2, gMin2, gInt, gTup, gList, wipeW, if_true, if_false, Bool.false_eq_true, Bool.not_true, Bool.not_false, reduceCtorEq, e2])).trans ?_
  refine (sSeq_nx (ρ' := [Sc ns, .town, .no, .d (.int (m : Int)), .d (prsN P)]) (n' := n') (by simp -implicitDefEqProofs only [eVar_ap, dVar_ap, eC_ap, dOf_ap, eFrz_ap, eBin_ap, bTest_ap, bTru_ap, bAnd_ap, bOr_ap, bNot_ap, eIf_ap, eB_ap, eAnd_ap, eOr_ap, aNil_ap, aCons_ap, sNil_ap, sCons_ap, eTup_ap, eLst_ap, eCall_ap, eApp_ap, oNone_ap, oSome_ap, eSl_ap, sNil'_ap, sSeq_ap, sBrk_ap, sRet_ap, sRetN_ap, sRetO_ap, sDrop_ap, sIf_ap, sSet_ap, sApp_ap, sTown_ap, sExt_ap, sIns_ap, sSetIx_ap, sAsg_ap, sPar_ap, iOf_ap, iVal_ap, iRng1_ap, iRng2_ap, sFor_ap, eComp_ap, bYes_ap, frzAt_ap, eUn_ap, eNotD_ap, eOrD_ap, eChain_ap, eListRg1_ap, eIsa_ap, eMt_ap, iEnumV_ap, iEnumF_ap, iZipV_ap, iZipF_ap, eTLen_ap, iRng3D_ap, sEnd_ap, eSs_ap, sPar3_ap, xPop_ap, xTup1_ap, xCat_ap, sSetX_ap, sAppX_ap, sParO_ap, sForEI_ap, sForK_ap, eRep_ap, eDicK_ap, eDicT_ap, sPut_ap, eAlt_ap, sTry_ap, eGetD_ap, eLockI_ap, iKeyF_ap, runB_ap, gOne_ap, gMany_ap, dI_ap, yesC_ap, dCmp_int, setD, kill_nx, kill_rt, kill_bk, Option.bind_some, Option.map_some, Option.bind_none, Option.map_none, List.getElem?_cons_zero, List.getElem?_cons_succ, List.set_cons_zero, List.set_cons_succ, List.cons_append, List.nil_append, List.append_nil, List.replicate, List.length_cons, List.length_nil, Nat.reduceAdd, Nat.reduceSub, Nat.zero_add, wdat_no, wdat_d, wdat_town, wdat_ol, wdat_od, wfrz_no, wfrz_d, wfrz_town, wfrz_ol, wfrz_od, wval_no, wval_d, wval_town, wval_ol, wval_od, warg_no, warg_d, warg_town, warg_ol, warg_od, vals, gLen, gAbs, gMax2, gMin2, gInt, gTup, gList, wipeW, if_true, if_false, Bool.false_eq_true, Bool.not_true, Bool.not_false, reduceCtorEq, c1, c2, c3, c4, ne1, dTru_bool, Bool.not_true])).trans ?_
  by_cases c : allR P m = []
  · rw [if_pos c] at rf
    rw [c] at ro
    have ro : m_ring [.d (prsN P)] n' = some (.d .none, n') := ro
    have A : Ac P m := ⟨hP, D.srt, D.six, D.lt, (no_ring D.six D.lt).mp c⟩
    have oh := orders_hold A (by omega) n'
    have nn : dNotN .none .none = some (.d (.bool false)) := rfl
    have i1 : dIsN .none .none = some (.d (.bool true)) := rfl
    have z0 := nz 0
    refine (sSeq_nx (ρ' := [Sc ns, .town, .no, .d (.int (m : Int)), .d (prsN P)]) (n' := n') (by simp -implicitDefEqProofs only [eVar_ap, dVar_ap, eC_ap, dOf_ap, eFrz_ap, eBin_ap, bTest_ap, bTru_ap, bAnd_ap, bOr_ap, bNot_ap, eIf_ap, eB_ap, eAnd_ap, eOr_ap, aNil_ap, aCons_ap, sNil_ap, sCons_ap, eTup_ap, eLst_ap, eCall_ap, eApp_ap, oNone_ap, oSome_ap, eSl_ap, sNil'_ap, sSeq_ap, sBrk_ap, sRet_ap, sRetN_ap, sRetO_ap, sDrop_ap, sIf_ap, sSet_ap, sApp_ap, sTown_ap, sExt_ap, sIns_ap, sSetIx_ap, sAsg_ap, sPar_ap, iOf_ap, iVal_ap, iRng1_ap, iRng2_ap, sFor_ap, eComp_ap, bYes_ap, frzAt_ap, eUn_ap, eNotD_ap, eOrD_ap, eChain_ap, eListRg1_ap, eIsa_ap, eMt_ap, iEnumV_ap, iEnumF_ap, iZipV_ap, iZipF_ap, eTLen_ap, iRng3D_ap, sEnd_ap, eSs_ap, sPar3_ap, xPop_ap, xTup1_ap, xCat_ap, sSetX_ap, sAppX_ap, sParO_ap, sForEI_ap, sForK_ap, eRep_ap, eDicK_ap, eDicT_ap, sPut_ap, eAlt_ap, sTry_ap, eGetD_ap, eLockI_ap, iKeyF_ap, runB_ap, gOne_ap, gMany_ap, dI_ap, yesC_ap, dCmp_int, setD, kill_nx, kill_rt, kill_bk, Option.bind_some, Option.map_some, Option.bind_none, Option.map_none, List.getElem?_cons_zero, List.getElem?_cons_succ, List.set_cons_zero, List.set_cons_succ, List.cons_append, List.nil_append, List.append_nil, List.replicate, List.length_cons, List.length_nil, Nat.reduceAdd, Nat.reduceSub, Nat.zero_add, wdat_no, wdat_d, wdat_town, wdat_ol, wdat_od, wfrz_no, wfrz_d, wfrz_town, wfrz_ol, wfrz_od, wval_no, wval_d, wval_town, wval_ol, wval_od, warg_no, warg_d, warg_town, warg_ol, warg_od, vals, gLen, gAbs, gMax2, gMin2, gInt, gTup, gList, wipeW, if_true, if_false, Bool.false_eq_true, Bool.not_true, Bool.not_false, reduceCtorEq, rf, ro, nn, z0])).trans ?_
    simp -implicitDefEqProofs only [eVar_ap, dVar_ap, eC_ap, dOf_ap, eFrz_ap, eBin_ap, bTest_ap, bTru_ap, bAnd_ap, bOr_ap, bNot_ap, eIf_ap, eB_ap, eAnd_ap, eOr_ap, aNil_ap, aCons_ap, sNil_ap, sCons_ap, eTup_ap, eLst_ap, eCall_ap, eApp_ap, oNone_ap, oSome_ap, eSl_ap, sNil'_ap, sSeq_ap, sBrk_ap, sRet_ap, sRetN_ap, sRetO_ap, sDrop_ap, sIf_ap, sSet_ap, sApp_ap, sTown_ap, sExt_ap, sIns_ap, sSetIx_ap, sAsg_ap, sPar_ap, iOf_ap, iVal_ap, iRng1_ap, iRng2_ap, sFor_ap, eComp_ap, bYes_ap, frzAt_ap, eUn_ap, eNotD_ap, eOrD_ap, eChain_ap, eListRg1_ap, eIsa_ap, eMt_ap, iEnumV_ap, iEnumF_ap, iZipV_ap, iZipF_ap, eTLen_ap, iRng3D_ap, sEnd_ap, eSs_ap, sPar3_ap, xPop_ap, xTup1_ap, xCat_ap, sSetX_ap, sAppX_ap, sParO_ap, sForEI_ap, sForK_ap, eRep_ap, eDicK_ap, eDicT_ap, sPut_ap, eAlt_ap, sTry_ap, eGetD_ap, eLockI_ap, iKeyF_ap, runB_ap, gOne_ap, gMany_ap, dI_ap, yesC_ap, dCmp_int, setD, kill_nx, kill_rt, kill_bk, Option.bind_some, Option.map_some, Option.bind_none, Option.map_none, List.getElem?_cons_zero, List.getElem?_cons_succ, List.set_cons_zero, List.set_cons_succ, List.cons_append, List.nil_append, List.append_nil, List.replicate, List.length_cons, List.length_nil, Nat.reduceAdd, Nat.reduceSub, Nat.zero_add, wdat_no, wdat_d, wdat_town, wdat_ol, wdat_od, wfrz_no, wfrz_d, wfrz_town, wfrz_ol, wfrz_od, wval_no, wval_d, wval_town, wval_ol, wval_od, warg_no, warg_d, warg_town, warg_ol, warg_od, vals, gLen, gAbs, gMax2, gMin2, gInt, gTup, gList, wipeW, if_true, if_false, Bool.false_eq_true, Bool.not_true, Bool.not_false, reduceCtorEq, ro, i1, oh, dTru_bool, Bool.not_true]
  · rw [if_neg c] at rf
    cases hR : allR P m with
    | nil => exact absurd hR c
    | cons r R =>
      rw [hR] at ro
      have ro : m_ring [.d (prsN P)] n' = some (.d (wyD r), n') := ro
      have nn : dNotN (wyD r) .none = some (.d (.bool true)) := rfl
      have i1 : dIsN (wyD r) .none = some (.d (.bool false)) := rfl
      have z4 := nz 4
      refine (sSeq_nx (ρ' := [Sc ns, .town, .no, .d (.int (m : Int)), .d (prsN P)]) (n' := n') (by simp -implicitDefEqProofs only [eVar_ap, dVar_ap, eC_ap, dOf_ap, eFrz_ap, eBin_ap, bTest_ap, bTru_ap, bAnd_ap, bOr_ap, bNot_ap, eIf_ap, eB_ap, eAnd_ap, eOr_ap, aNil_ap, aCons_ap, sNil_ap, sCons_ap, eTup_ap, eLst_ap, eCall_ap, eApp_ap, oNone_ap, oSome_ap, eSl_ap, sNil'_ap, sSeq_ap, sBrk_ap, sRet_ap, sRetN_ap, sRetO_ap, sDrop_ap, sIf_ap, sSet_ap, sApp_ap, sTown_ap, sExt_ap, sIns_ap, sSetIx_ap, sAsg_ap, sPar_ap, iOf_ap, iVal_ap, iRng1_ap, iRng2_ap, sFor_ap, eComp_ap, bYes_ap, frzAt_ap, eUn_ap, eNotD_ap, eOrD_ap, eChain_ap, eListRg1_ap, eIsa_ap, eMt_ap, iEnumV_ap, iEnumF_ap, iZipV_ap, iZipF_ap, eTLen_ap, iRng3D_ap, sEnd_ap, eSs_ap, sPar3_ap, xPop_ap, xTup1_ap, xCat_ap, sSetX_ap, sAppX_ap, sParO_ap, sForEI_ap, sForK_ap, eRep_ap, eDicK_ap, eDicT_ap, sPut_ap, eAlt_ap, sTry_ap, eGetD_ap, eLockI_ap, iKeyF_ap, runB_ap, gOne_ap, gMany_ap, dI_ap, yesC_ap, dCmp_int, setD, kill_nx, kill_rt, kill_bk, Option.bind_some, Option.map_some, Option.bind_none, Option.map_none, List.getElem?_cons_zero, List.getElem?_cons_succ, List.set_cons_zero, List.set_cons_succ, List.cons_append, List.nil_append, List.append_nil, List.replicate, List.length_cons, List.length_nil, Nat.reduceAdd, Nat.reduceSub, Nat.zero_add, wdat_no, wdat_d, wdat_town, wdat_ol, wdat_od, wfrz_no, wfrz_d, wfrz_town, wfrz_ol, wfrz_od, wval_no, wval_d, wval_town, wval_ol, wval_od, warg_no, warg_d, warg_town, warg_ol, warg_od, vals, gLen, gAbs, gMax2, gMin2, gInt, gTup, gList, wipeW, if_true, if_false, Bool.false_eq_true, Bool.not_true, Bool.not_false, reduceCtorEq, rf, ro, nn, z4])).trans ?_
      simp -implicitDefEqProofs only [eVar_ap, dVar_ap, eC_ap, dOf_ap, eFrz_ap, eBin_ap, bTest_ap, bTru_ap, bAnd_ap, bOr_ap, bNot_ap, eIf_ap, eB_ap, eAnd_ap, eOr_ap, aNil_ap, aCons_ap, sNil_ap, sCons_ap, eTup_ap, eLst_ap, eCall_ap, eApp_ap, oNone_ap, oSome_ap, eSl_ap, sNil'_ap, sSeq_ap, sBrk_ap, sRet_ap, sRetN_ap, sRetO_ap, sDrop_ap, sIf_ap, sSet_ap, sApp_ap, sTown_ap, sExt_ap, sIns_ap, sSetIx_ap, sAsg_ap, sPar_ap, iOf_ap, iVal_ap, iRng1_ap, iRng2_ap, sFor_ap, eComp_ap, bYes_ap, frzAt_ap, eUn_ap, eNotD_ap, eOrD_ap, eChain_ap, eListRg1_ap, eIsa_ap, eMt_ap, iEnumV_ap, iEnumF_ap, iZipV_ap, iZipF_ap, eTLen_ap, iRng3D_ap, sEnd_ap, eSs_ap, sPar3_ap, xPop_ap, xTup1_ap, xCat_ap, sSetX_ap, sAppX_ap, sParO_ap, sForEI_ap, sForK_ap, eRep_ap, eDicK_ap, eDicT_ap, sPut_ap, eAlt_ap, sTry_ap, eGetD_ap, eLockI_ap, iKeyF_ap, runB_ap, gOne_ap, gMany_ap, dI_ap, yesC_ap, dCmp_int, setD, kill_nx, kill_rt, kill_bk, Option.bind_some, Option.map_some, Option.bind_none, Option.map_none, List.getElem?_cons_zero, List.getElem?_cons_succ, List.set_cons_zero, List.set_cons_succ, List.cons_append, List.nil_append, List.append_nil, List.replicate, List.length_cons, List.length_nil, Nat.reduceAdd, Nat.reduceSub, Nat.zero_add, wdat_no, wdat_d, wdat_town, wdat_ol, wdat_od, wfrz_no, wfrz_d, wfrz_town, wfrz_ol, wfrz_od, wval_no, wval_d, wval_town, wval_ol, wval_od, warg_no, warg_d, warg_town, warg_ol, warg_od, vals, gLen, gAbs, gMax2, gMin2, gInt, gTup, gList, wipeW, if_true, if_false, Bool.false_eq_true, Bool.not_true, Bool.not_false, reduceCtorEq, ro, i1]
theorem law_true (ns : List Int) (hns : ns.length ≤ 63) : ∃ n', b_law (.d (.list (ns.map .int)) :: .town :: List.replicate 3 .no) 0 = some (.rt (.d (.bool true)) n') := by
  have hr6 : rng1 (.int 6) = some (rangeD 0 6) := rng1_ok (by decide) (by decide)
  obtain ⟨n', e, _⟩ := loop_law (g := gOne 2) (body := l_law_1) (ρ := [Sc ns, .town, .no, .no, .no]) 40 (fun x n hn => by
    obtain ⟨n', h1, h2, h3⟩ := one_turn ns x n hn
    exact ⟨_, n', rfl, h1, h2, by omega⟩) (rangeD 0 6) 0 (by rw [rangeD_len]; unfold big; omega)
  refine ⟨n', ?_⟩
  unfold b_law
  simp -implicitDefEqProofs only [eVar_ap, dVar_ap, eC_ap, dOf_ap, eFrz_ap, eBin_ap, bTest_ap, bTru_ap, bAnd_ap, bOr_ap, bNot_ap, eIf_ap, eB_ap, eAnd_ap, eOr_ap, aNil_ap, aCons_ap, sNil_ap, sCons_ap, eTup_ap, eLst_ap, eCall_ap, eApp_ap, oNone_ap, oSome_ap, eSl_ap, sNil'_ap, sSeq_ap, sBrk_ap, sRet_ap, sRetN_ap, sRetO_ap, sDrop_ap, sIf_ap, sSet_ap, sApp_ap, sTown_ap, sExt_ap, sIns_ap, sSetIx_ap, sAsg_ap, sPar_ap, iOf_ap, iVal_ap, iRng1_ap, iRng2_ap, sFor_ap, eComp_ap, bYes_ap, frzAt_ap, eUn_ap, eNotD_ap, eOrD_ap, eChain_ap, eListRg1_ap, eIsa_ap, eMt_ap, iEnumV_ap, iEnumF_ap, iZipV_ap, iZipF_ap, eTLen_ap, iRng3D_ap, sEnd_ap, eSs_ap, sPar3_ap, xPop_ap, xTup1_ap, xCat_ap, sSetX_ap, sAppX_ap, sParO_ap, sForEI_ap, sForK_ap, eRep_ap, eDicK_ap, eDicT_ap, sPut_ap, eAlt_ap, sTry_ap, eGetD_ap, eLockI_ap, iKeyF_ap, runB_ap, gOne_ap, gMany_ap, dI_ap, yesC_ap, dCmp_int, setD, kill_nx, kill_rt, kill_bk, Option.bind_some, Option.map_some, Option.bind_none, Option.map_none, List.getElem?_cons_zero, List.getElem?_cons_succ, List.set_cons_zero, List.set_cons_succ, List.cons_append, List.nil_append, List.append_nil, List.replicate, List.length_cons, List.length_nil, Nat.reduceAdd, Nat.reduceSub, Nat.zero_add, wdat_no, wdat_d, wdat_town, wdat_ol, wdat_od, wfrz_no, wfrz_d, wfrz_town, wfrz_ol, wfrz_od, wval_no, wval_d, wval_town, wval_ol, wval_od, warg_no, warg_d, warg_town, warg_ol, warg_od, vals, gLen, gAbs, gMax2, gMin2, gInt, gTup, gList, wipeW, if_true, if_false, Bool.false_eq_true, Bool.not_true, Bool.not_false, reduceCtorEq, hr6, e]
end L2.Lv.K36
open PySem PySem.W PyProof.Rows
set_option maxHeartbeats 0 in
theorem PySem.Challenge.cw_keyorders_k36_whole_pairs_that_follow_holds : PySem.Challenge.rw_keyorders_k36_whole_pairs_that_follow.Holds := by
  w_on; o_law; k_head; (case hw => w_witness2)
  k_fill
  refine L2.walk_of (l := PySem.Challenge.rw_keyorders_k36_whole_pairs_that_follow) (n := 63) (k := 17) (x := "_law_script") (CX := fun _ => L2.CX0) (sp := fun w => L2.Lv.spLaw _ 63) rfl (by decide) rfl ⟨rfl, by decide, by decide⟩ (fun w h Y => PySem.W.kIn_of Y) ?F (fun _ H a ns hl hO hS => ⟨a, ns, rfl, hO, hS, hl, fun _ => rfl⟩) (fun _ _ _ _ _ h => h)
  case F =>
    intro w mg fa h KX G hmg
    refine' L2.Lv.K36.all_mk KX G hmg 63 L2.Lv.K36.law_true ?a0 ?l0 ?c0 ?k0 ?a1 ?l1 ?c1 ?k1 ?a2 ?l2 ?c2 ?k2 ?a3 ?l3 ?c3 ?k3 ?a4 ?l4 ?c4 ?k4 ?a5 ?l5 ?c5 ?k5 ?a6 ?l6 ?c6 ?k6 ?a7 ?l7 ?c7 ?k7 ?a8 ?l8 ?c8 ?k8 ?a9 ?l9 ?c9 ?k9 ?a10 ?l10 ?c10 ?k10 ?a11 ?l11 ?c11 ?k11 ?a12 ?l12 ?c12 ?k12 ?a13 ?l13 ?c13 ?k13 ?a14 ?l14 ?c14 ?k14 ?a15 ?l15 ?c15 ?k15 ?a16 ?l16 ?c16 ?k16 ?a17 ?l17 ?c17 ?k17 ?z0 ?z1 ?z2 ?z3 ?z4 ?z5 ?z6 ?z7 ?z8 ?z9 ?z10 ?z11 ?z12 ?ea0 ?ex0 ?ek0 ?eb0 ?et0 ?ei0 ?es0
    (case a0 => k_is); (case l0 => k_is); (case c0 => k_is); (case k0 => k_is); (case a1 => k_is); (case l1 => k_is); (case c1 => k_is); (case k1 => k_is); (case a2 => k_is); (case l2 => k_is); (case c2 => k_is); (case k2 => k_is); (case a3 => k_is); (case l3 => k_is); (case c3 => k_is); (case k3 => k_is); (case a4 => k_is); (case l4 => k_is); (case c4 => k_is); (case k4 => k_is); (case a5 => k_is); (case l5 => k_is); (case c5 => k_is); (case k5 => k_is); (case a6 => k_is); (case l6 => k_is); (case c6 => k_is); (case k6 => k_is); (case a7 => k_is); (case l7 => k_is); (case c7 => k_is); (case k7 => k_is); (case a8 => k_is); (case l8 => k_is); (case c8 => k_is); (case k8 => k_is); (case a9 => k_is); (case l9 => k_is); (case c9 => k_is); (case k9 => k_is); (case a10 => k_is); (case l10 => k_is); (case c10 => k_is); (case k10 => k_is); (case a11 => k_is); (case l11 => k_is); (case c11 => k_is); (case k11 => k_is); (case a12 => k_is); (case l12 => k_is); (case c12 => k_is); (case k12 => k_is); (case a13 => k_is); (case l13 => k_is); (case c13 => k_is); (case k13 => k_is); (case a14 => k_is); (case l14 => k_is); (case c14 => k_is); (case k14 => k_is); (case a15 => k_is); (case l15 => k_is); (case c15 => k_is); (case k15 => k_is); (case a16 => k_is); (case l16 => k_is); (case c16 => k_is); (case k16 => k_is); (case a17 => k_is); (case l17 => k_is); (case c17 => k_is); (case k17 => k_is); (case z0 => k_is); (case z1 => k_is); (case z2 => k_is); (case z3 => k_is); (case z4 => k_is); (case z5 => k_is); (case z6 => k_is); (case z7 => k_is); (case z8 => k_is); (case z9 => k_is); (case z10 => k_is); (case z11 => k_is); (case z12 => k_is); (case ea0 => k_is); (case ex0 => k_exc); (case ek0 => k_is); (case eb0 => k_is); (case et0 => k_is); (case ei0 => k_is); (case es0 => first | rfl | k_is)

