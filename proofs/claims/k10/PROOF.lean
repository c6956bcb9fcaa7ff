import PyProof.Rows.All
import Wide.All
import OpenK.AllK
import Wide.FinOn
import HandS.ForMost
import HandS.Flow
import HandS.TupAny
import HandS.Zip
import HandS.More
import HandS.Deep
import HandS.TupLe
import HandS.TupMul
import HandS.Conv
import HandS.IsInst
import HandS.SortInts
import KE.KIndexOf
import KE.DataFind
import KE.SortData
import KE.GoesNew
import HandS.Iter
import HandS.Style
import HandS.SetFor
import KE.DataAny
import HandS.Strs
import KE.DatumOrd
import ObjForm.LawKit
import HandS.TupSets
import HandS.TupLen
import KE.KDictPairs
import KE.DataMinMax
import HandS.ExcOwn
import HandS.TryOnly
import HandS.WordsExc
import KE.KSortAsk
import KE.KTupSum
import HandS.SetBool
import KE.KDictSum
import KE.KDictCopyH
import KE.KDictWalk
import KE.KeyNested
import KE.DataEq
import PySem.Challenge.RW_keyorders_k10_whole_papers_of_tables
set_option Elab.async false
set_option linter.all false
set_option maxRecDepth 100000
set_option maxHeartbeats 4000000
namespace L2.Lv
open PySem PySem.Spec PyProof.Rows
/-- what a slot holds, by value -/
inductive W where
  | no
  | d (x : PyData)
  | town
  | ol (xs : List PyData)
  | od (kvs : List (PyData × PyData))
  | oll (xss : List (List PyData))
abbrev Hz : Hp := fun _ => none
theorem rdz {a : Addr} {u : HO} : ¬ Rd Hz a u := by
  rintro (h | ⟨o, h⟩) <;> cases h
theorem sqLz {K : PySem.W.Frag} {H : Hp} {a : Addr} {xs : List V} (h : SqL K Hz a xs) : SqL K H a xs := by
  rcases h with h | h
  · exact (rdz h).elim
  · exact .inr h
theorem sqTz {K : PySem.W.Frag} {H : Hp} {a : Addr} {xs : List V} (h : SqT K Hz a xs) : SqT K H a xs := by
  rcases h with h | h
  · exact (rdz h).elim
  · exact .inr h
/-- a tuple, as it was made (it has no dict) -/
def TupAt (H : Hp) (a : Addr) (xs : List V) : Prop := ∃ o, H a = some (.frz o (.tup xs)) ∧ o.dict = none
def KTup (K : PySem.W.Frag) (a : Addr) (xs : List V) : Prop := SqT K Hz a xs ∧ ∃ o, K.lookup a = some o ∧ o.cls = .type "tuple" ∧ o.dict = none
theorem TupAt.sq {K : PySem.W.Frag} {H : Hp} {a : Addr} {xs : List V} (h : TupAt H a xs) : SqT K H a xs := by
  obtain ⟨o, h, _⟩ := h
  exact .inl (.inr ⟨o, h⟩)
theorem sqT_of {A : Addr → Prop} {K : PySem.W.Frag} {H : Hp} {a : Addr} {xs : List V} (h : (¬ A a ∧ TupAt H a xs) ∨ KTup K a xs) : SqT K H a xs := h.elim (fun z => z.2.sq) fun z => sqTz z.1
mutual
/-- v reads as the data d, by way of no address of A -/
inductive Dv (A : Addr → Prop) (K : PySem.W.Frag) (H : Hp) : V → PyData → Prop
  | non : Dv A K H .non .none
  | bl (b : Bool) : Dv A K H (.bl b) (.bool b)
  | int (i : Int) : Dv A K H (.int i) (.int i)
  | str (x : Str) : Dv A K H (.str x) (.str x)
  | lst {a : Addr} {xs : List V} {ds : List PyData} : (¬ A a ∧ Rd H a (.lst xs)) ∨ SqL K Hz a xs → DvAll A K H xs ds → Dv A K H (.ref a) (.list ds)
  | tup {a : Addr} {xs : List V} {ds : List PyData} : (¬ A a ∧ TupAt H a xs) ∨ KTup K a xs → DvAll A K H xs ds → Dv A K H (.ref a) (.tuple ds)
inductive DvAll (A : Addr → Prop) (K : PySem.W.Frag) (H : Hp) : List V → List PyData → Prop
  | nil : DvAll A K H [] []
  | cons {v : V} {vs : List V} {d : PyData} {ds : List PyData} : Dv A K H v d → DvAll A K H vs ds → DvAll A K H (v :: vs) (d :: ds)
end
/-- from A, H to A', H': what is read stays -/
def Keep (A A' : Addr → Prop) (H H' : Hp) : Prop := ∀ a o, ¬ A a → H a = some o → ¬ A' a ∧ H' a = some o
theorem Keep.rd {A A' : Addr → Prop} {H H' : Hp} (m : Keep A A' H H') {a : Addr} {u : HO} (n : ¬ A a) (r : Rd H a u) : ¬ A' a ∧ Rd H' a u := by
  rcases r with r | ⟨o, r⟩
  · exact ⟨(m a _ n r).1, .inl (m a _ n r).2⟩
  · exact ⟨(m a _ n r).1, .inr ⟨o, (m a _ n r).2⟩⟩
section
variable {A A' : Addr → Prop} {K : PySem.W.Frag} {H H' : Hp}
mutual
theorem Dv.keep (m : Keep A A' H H') : ∀ (d : PyData) (v : V), Dv A K H v d → Dv A' K H' v d
  | .none, _, h => by cases h; exact .non
  | .bool _, _, h => by cases h; exact .bl _
  | .int _, _, h => by cases h; exact .int _
  | .str _, _, h => by cases h; exact .str _
  | .list ds, _, h => by
    cases h with
    | lst hs ha => exact .lst (hs.imp (fun z => m.rd z.1 z.2) id) (DvAll.keep m ds _ ha)
  | .tuple ds, _, h => by
    cases h with
    | tup hs ha => exact .tup (hs.imp (fun ⟨n, o, r, d⟩ => ⟨(m _ _ n r).1, o, (m _ _ n r).2, d⟩) id) (DvAll.keep m ds _ ha)
  | .dict _, _, h => by cases h
theorem DvAll.keep (m : Keep A A' H H') : ∀ (ds : List PyData) (vs : List V), DvAll A K H vs ds → DvAll A' K H' vs ds
  | [], _, h => by cases h; exact .nil
  | d :: ds, _, h => by
    cases h with
    | cons h1 h2 => exact .cons (Dv.keep m d _ h1) (DvAll.keep m ds _ h2)
end
theorem Dv.mono (m : Keep A A' H H') {d : PyData} {v : V} (h : Dv A K H v d) : Dv A' K H' v d := Dv.keep m d v h
theorem DvAll.mono (m : Keep A A' H H') {ds : List PyData} {vs : List V} (h : DvAll A K H vs ds) : DvAll A' K H' vs ds := DvAll.keep m ds vs h
mutual
theorem Dv.dpK : ∀ (d : PyData) (v : V), Dv A K H v d → Dp K H v d
  | .none, _, h => by cases h; exact .non
  | .bool _, _, h => by cases h; exact .bl _
  | .int _, _, h => by cases h; exact .int _
  | .str _, _, h => by cases h; exact .str _
  | .list ds, _, h => by
    cases h with
    | lst hs ha => exact .lst (hs.elim (fun z => .inl z.2) sqLz) (DvAll.dpK ds _ ha)
  | .tuple ds, _, h => by
    cases h with
    | tup hs ha => exact .tup (sqT_of hs) (DvAll.dpK ds _ ha)
  | .dict _, _, h => by cases h
theorem DvAll.dpK : ∀ (ds : List PyData) (vs : List V), DvAll A K H vs ds → DpAll K H vs ds
  | [], _, h => by cases h; exact .nil
  | d :: ds, _, h => by
    cases h with
    | cons h1 h2 => exact .cons (Dv.dpK d _ h1) (DvAll.dpK ds _ h2)
end
theorem Dv.dp {d : PyData} {v : V} (h : Dv A K H v d) : Dp K H v d := Dv.dpK d v h
theorem DvAll.dp {d : List PyData} {v : List V} (h : DvAll A K H v d) : DpAll K H v d := DvAll.dpK d v h
theorem DvAll.length : ∀ {vs : List V} {ds : List PyData}, DvAll A K H vs ds → vs.length = ds.length
  | _, _, .nil => rfl
  | _, _, .cons _ t => congrArg (· + 1) (DvAll.length t)
theorem DvAll.append : ∀ {vs us : List V} {ds es : List PyData}, DvAll A K H vs ds → DvAll A K H us es → DvAll A K H (vs ++ us) (ds ++ es)
  | _, _, _, _, .nil, s => s
  | _, _, _, _, .cons r t, s => .cons r (DvAll.append t s)
theorem DvAll.take : ∀ (n : Nat) {vs : List V} {ds : List PyData}, DvAll A K H vs ds → DvAll A K H (vs.take n) (ds.take n)
  | 0, _, _, _ => by simpa using DvAll.nil
  | _ + 1, _, _, .nil => .nil
  | n + 1, _, _, .cons r t => .cons r (DvAll.take n t)
theorem DvAll.drop : ∀ (n : Nat) {vs : List V} {ds : List PyData}, DvAll A K H vs ds → DvAll A K H (vs.drop n) (ds.drop n)
  | 0, _, _, h => h
  | _ + 1, _, _, .nil => .nil
  | n + 1, _, _, .cons _ t => DvAll.drop n t
theorem DvAll.get : ∀ {vs : List V} {ds : List PyData} {i : Nat} {d : PyData}, DvAll A K H vs ds → ds[i]? = some d → ∃ v, vs[i]? = some v ∧ Dv A K H v d
  | _, _, _, _, .nil, e => by simp at e
  | _, _, 0, _, .cons r _, e => by simp at e; subst e; exact ⟨_, rfl, r⟩
  | _, _, i + 1, _, .cons _ t, e => by
    obtain ⟨v, h1, h2⟩ := DvAll.get (i := i) t (by simpa using e)
    exact ⟨v, by simpa using h1, h2⟩
theorem DvAll.set : ∀ {vs : List V} {ds : List PyData} {v : V} {d : PyData} (i : Nat), DvAll A K H vs ds → Dv A K H v d → DvAll A K H (vs.set i v) (ds.set i d)
  | _, _, _, _, _, .nil, _ => .nil
  | _, _, _, _, 0, .cons _ t, r => .cons r t
  | _, _, _, _, i + 1, .cons r t, q => .cons r (DvAll.set i t q)
theorem DvAll.eraseIdx : ∀ {vs : List V} {ds : List PyData} (i : Nat), DvAll A K H vs ds → DvAll A K H (vs.eraseIdx i) (ds.eraseIdx i)
  | _, _, _, .nil => .nil
  | _, _, 0, .cons _ t => t
  | _, _, i + 1, .cons r t => .cons r (DvAll.eraseIdx i t)
end
/-! ### dicts -/
inductive KeyD : Key → PyData → Prop
  | int (i : Int) : KeyD (.inl i) (.int i)
  | str (x : Str) : KeyD (.inr x) (.str x)
/-- the mark of a dict whose keys are tuples of ints -/
def markT : PyData × PyData := (.none, .none)
/-- the mark of a dict that is gone through: it is read alone -/
def markF : PyData × PyData := (.none, .bool true)
def DTat (h : Heap) (a : Addr) (xs : List (List Int × Addr × Value)) : Prop :=
  xs.length ≤ sizeLine ∧ (a == sysModules) = false ∧ ∃ (P : Program) (w : World) (o : Obj) (es : Array DictEntry) (ep : Nat), h.get? a = some o ∧ o.ExactDict ∧ o.data = .dict es ep ∧ es.toList = xs.map (entryOfKey (tupleKind (intKind P w))) ∧ (xs.map (·.1)).Nodup
def DO (a : Addr) (xs : List (List Int × Addr × Value)) : HO := .ext fun h => DTat h a xs
def DRel (A : Addr → Prop) (K : PySem.W.Frag) (H : Hp) (q : List Int × Addr × Value) (kv : PyData × PyData) : Prop :=
  kv.1 = .tuple (q.1.map .int) ∧ ((¬ A q.2.1 ∧ TupAt H q.2.1 (q.1.map V.int)) ∨ KTup K q.2.1 (q.1.map V.int)) ∧ ∃ v, RelV v q.2.2 ∧ Dv A K H v kv.2
def DctAt (A : Addr → Prop) (K : PySem.W.Frag) (H : Hp) (a : Addr) (kvs : List (PyData × PyData)) : Prop :=
  (∃ ks, H a = some (.dK ks) ∧ Paired (fun p q => KeyD p.1 q.1 ∧ Dv A K H p.2 q.2) ks kvs) ∨
  (∃ xs rest, kvs = markT :: rest ∧ H a = some (DO a xs) ∧ Paired (DRel A K H) xs rest) ∨
  (∃ ks rest o, kvs = markF :: rest ∧ H a = some (.frz o (.dK ks)) ∧ Paired (fun p q => KeyD p.1 q.1 ∧ Dv A K H p.2 q.2) ks rest)
theorem Paired.impl {α β : Type} {F G : α → β → Prop} (f : ∀ a b, F a b → G a b) : ∀ {l : List α} {m : List β}, Paired F l m → Paired G l m
  | _, _, .nil => .nil
  | _, _, .cons r t => .cons (f _ _ r) (Paired.impl f t)
theorem DRel.mono {A A' : Addr → Prop} {K : PySem.W.Frag} {H H' : Hp} (m : Keep A A' H H') {q : List Int × Addr × Value} {kv : PyData × PyData} (h : DRel A K H q kv) : DRel A' K H' q kv := by
  obtain ⟨h1, h2, v, h3, h4⟩ := h
  exact ⟨h1, h2.imp (fun ⟨n, o, r, d⟩ => ⟨(m _ _ n r).1, o, (m _ _ n r).2, d⟩) id, v, h3, h4.mono m⟩
theorem DctAt.mono {A A' : Addr → Prop} {K : PySem.W.Frag} {H H' : Hp} {a : Addr} {kvs : List (PyData × PyData)} (m : Keep A A' H H') (k : ∀ o, H a = some o → H' a = some o) (h : DctAt A K H a kvs) : DctAt A' K H' a kvs := by
  rcases h with ⟨ks, e, p⟩ | ⟨xs, rest, e0, e, p⟩ | ⟨ks, rest, o, e0, e, p⟩
  · exact .inl ⟨ks, k _ e, Paired.impl (fun x y z => ⟨z.1, z.2.mono m⟩) p⟩
  · exact .inr (.inl ⟨xs, rest, e0, k _ e, Paired.impl (fun x y z => z.mono m) p⟩)
  · exact .inr (.inr ⟨ks, rest, o, e0, k _ e, Paired.impl (fun x y z => ⟨z.1, z.2.mono m⟩) p⟩)
theorem DctAt.there {A : Addr → Prop} {K : PySem.W.Frag} {H : Hp} {a : Addr} {kvs : List (PyData × PyData)} (h : DctAt A K H a kvs) : H a ≠ none := by
  rcases h with ⟨ks, e, _⟩ | ⟨xs, rest, _, e, _⟩ | ⟨ks, rest, o, _, e, _⟩ <;> (rw [e]; simp)
/-! ### the state by value -/
/-- T: where the town stands; P: what others own; H0: the heap at the entry -/
structure Cn where
  T : Option Addr
  P : Addr → Prop
  H0 : Hp
abbrev Ow := Nat → Option Addr
def Av (C : Cn) (O : Ow) : Addr → Prop := fun a => C.P a ∨ C.T = some a ∨ ∃ i, O i = some a
abbrev Ow0 : Ow := fun _ => none
def TownAt (C : Cn) (H : Hp) (n : Nat) : Prop := ∀ a, C.T = some a → H a = some (.lst (List.replicate n (.int 0)))
/-- what an expression does to the heap -/
structure Step (C : Cn) (H H' : Hp) : Prop where
  st : ∀ a o, H a = some o → C.T ≠ some a → H' a = some o
  fr : ∀ a, H' a = none → H a = none
def Grow (H H' : Hp) : Prop := ∀ a o, H a = some o → H' a = some o
theorem Grow.refl {H : Hp} : Grow H H := fun _ _ h => h
theorem Grow.trans {H H1 H2 : Hp} (a : Grow H H1) (b : Grow H1 H2) : Grow H H2 := fun x o h => b x o (a x o h)
theorem Grow.upd {H : Hp} {p : Addr} {o : HO} (h : H p = none) : Grow H (upd H p o) := fun a u e => by rw [upd_ne (ne_of_none e h)]; exact e
theorem Grow.step {C : Cn} {H H' : Hp} (g : Grow H H') : Step C H H' := ⟨fun a o h _ => g a o h, fun a h => by
  cases e : H a with
  | none => rfl
  | some o => rw [g a o e] at h; cases h⟩
theorem Grow.town {C : Cn} {H H' : Hp} {n : Nat} (g : Grow H H') (t : TownAt C H n) : TownAt C H' n := fun a e => g _ _ (t a e)
theorem Step.refl {C : Cn} {H : Hp} : Step C H H := Grow.refl.step
theorem Step.trans {C : Cn} {H H1 H2 : Hp} (a : Step C H H1) (b : Step C H1 H2) : Step C H H2 := ⟨fun x o h n => b.st x o (a.st x o h n) n, fun x h => a.fr x (b.fr x h)⟩
theorem Step.rd {C : Cn} {H H' : Hp} (s : Step C H H') {a : Addr} {u : HO} (n : C.T ≠ some a) (r : Rd H a u) : Rd H' a u := by
  rcases r with r | ⟨o, r⟩
  · exact .inl (s.st _ _ r n)
  · exact .inr ⟨o, s.st _ _ r n⟩
theorem Grow.rd {H H' : Hp} (s : Grow H H') {a : Addr} {u : HO} (r : Rd H a u) : Rd H' a u := by
  rcases r with r | ⟨o, r⟩
  · exact .inl (s _ _ r)
  · exact .inr ⟨o, s _ _ r⟩
theorem Rd.there {H : Hp} {a : Addr} {u : HO} (r : Rd H a u) : H a ≠ none := by
  rcases r with r | ⟨o, r⟩ <;> (rw [r]; simp)
theorem Step.keep {C : Cn} {H H' : Hp} {A : Addr → Prop} (s : Step C H H') (t : ∀ a, C.T = some a → A a) : Keep A A H H' := fun a u n r => ⟨n, s.st a u r (fun e => n (t a e))⟩
theorem Grow.keep {H H' : Hp} {A : Addr → Prop} (s : Grow H H') : Keep A A H H' := fun a u n r => ⟨n, s a u r⟩
theorem Av.t {C : Cn} {O : Ow} : ∀ a, C.T = some a → Av C O a := fun a e => .inr (.inl e)
/-- an expression's value: from the heap H ahead of it to H' -/
def Res (A : Addr → Prop) (T : Option Addr) (K : PySem.W.Frag) (H H' : Hp) (v : V) : W → Prop
  | .no => False
  | .d x => Dv A K H' v x
  | .town => ∃ a, T = some a ∧ v = .ref a
  | .ol xs => ∃ a vs, v = .ref a ∧ H a = none ∧ H' a = some (.lst vs) ∧ DvAll (fun b => A b ∨ b = a) K H' vs xs
  | .od kvs => ∃ a, v = .ref a ∧ H a = none ∧ DctAt (fun b => A b ∨ b = a) K H' a kvs
  | .oll _ => False
/-- a value that is looked at: it may be a list or a dict of one's own -/
def DvB (A : Addr → Prop) (T : Option Addr) (K : PySem.W.Frag) (H : Hp) (v : V) (x : PyData) : Prop :=
  Dv A K H v x ∨ (∃ a vs ds, v = .ref a ∧ x = .list ds ∧ T ≠ some a ∧ H a = some (.lst vs) ∧ DvAll A K H vs ds) ∨
  (∃ a kvs, v = .ref a ∧ x = .dict kvs ∧ T ≠ some a ∧ DctAt A K H a kvs)
def W.dat : W → Option PyData
  | .d x => some x
  | .ol xs => some (.list xs)
  | .od kvs => some (.dict kvs)
  | _ => none
/-- taken as it is, for ever -/
def W.frz : W → W
  | .ol xs => .d (.list xs)
  | w => w
/-- the lists in a list of one's own lists: hd tells where they stand -/
def NstAt (A : Addr → Prop) (K : PySem.W.Frag) (H : Hp) (hd : Nat → Option Addr) (xss : List (List PyData)) (bs : List Addr) : Prop :=
  bs.length = xss.length ∧ bs.length ≤ 1000 ∧ ∀ j b xs, bs[j]? = some b → xss[j]? = some xs → hd j = some b ∧ ∃ vs, H b = some (.lst vs) ∧ DvAll A K H vs xs
theorem NstAt.mono {A A' : Addr → Prop} {K : PySem.W.Frag} {H H' : Hp} {hd hd' : Nat → Option Addr} {xss : List (List PyData)} {bs : List Addr} (q : NstAt A K H hd xss bs) (m : Keep A A' H H') (e : ∀ j, j < bs.length → hd' j = hd j) (k : ∀ j b u, j < bs.length → hd j = some b → H b = some u → H' b = some u) : NstAt A' K H' hd' xss bs :=
  ⟨q.1, q.2.1, fun j b xs h1 h2 => by
    obtain ⟨h3, vs, h4, h5⟩ := q.2.2 j b xs h1 h2
    have hj := (List.getElem?_eq_some_iff.mp h1).1
    exact ⟨(e j hj).trans h3, vs, k j b _ hj h3 h4, h5.mono m⟩⟩
def SlOk (A : Addr → Prop) (T : Option Addr) (K : PySem.W.Frag) (H : Hp) (v : Option (Option V)) (o : Option Addr) (hd : Nat → Option Addr) : W → Prop
  | .no => True
  | .d x => ∃ u, v = some (some u) ∧ Dv A K H u x
  | .town => ∃ a, T = some a ∧ v = some (some (.ref a))
  | .ol xs => ∃ a vs, o = some a ∧ v = some (some (.ref a)) ∧ H a = some (.lst vs) ∧ DvAll A K H vs xs
  | .od kvs => ∃ a, o = some a ∧ v = some (some (.ref a)) ∧ DctAt A K H a kvs
  | .oll xss => ∃ a bs, o = some a ∧ v = some (some (.ref a)) ∧ H a = some (.lst (bs.map V.ref)) ∧ NstAt A K H hd xss bs
/-- where the lists of the list at the slot i stand -/
def hid (O : Ow) (l i : Nat) : Nat → Option Addr := fun j => O (l + 1000 * i + j)
theorem lt_of_get {ρ : List W} {i : Nat} {w : W} (h : ρ[i]? = some w) : i < ρ.length := (List.getElem?_eq_some_iff.mp h).1
structure EnvOk (C : Cn) (O : Ow) (K : PySem.W.Frag) (σ : St) (H : Hp) (ρ : List W) (n : Nat) : Prop where
  len : ρ.length = σ.length
  sl : ∀ i w, ρ[i]? = some w → SlOk (Av C O) C.T K H σ[i]? (O i) (hid O ρ.length i) w
  inj : ∀ i j a, O i = some a → O j = some a → i = j
  own : ∀ i a, O i = some a → C.T ≠ some a ∧ C.H0 a = none ∧ H a ≠ none
  town : TownAt C H n
  base : ∀ a o, C.H0 a = some o → C.T ≠ some a → H a = some o
  ptr : ∀ a, C.P a → H a ≠ none
  fr : ∀ a, H a = none → C.H0 a = none
section
variable {C : Cn} {O O' : Ow} {K : PySem.W.Frag} {σ : St} {H H' H1 H2 : Hp} {ρ : List W} {n n' : Nat} {A A' : Addr → Prop} {T : Option Addr} {v : V} {w : W} {x : PyData}
theorem EnvOk.av (E : EnvOk C O K σ H ρ n) : ∀ a, Av C O a → H a ≠ none := by
  rintro a (h | h | ⟨i, h⟩)
  · exact E.ptr a h
  · rw [E.town a h]; simp
  · exact (E.own i a h).2.2
theorem EnvOk.step (E : EnvOk C O K σ H ρ n) (S : Step C H H') (t : TownAt C H' n') : EnvOk C O K σ H' ρ n' := by
  have k : Keep (Av C O) (Av C O) H H' := S.keep Av.t
  have nn : ∀ a, H a ≠ none → H' a ≠ none := fun a h e => h (S.fr a e)
  refine ⟨E.len, fun i w hw => ?_, E.inj, fun i a h => ⟨(E.own i a h).1, (E.own i a h).2.1, nn a (E.own i a h).2.2⟩, t, fun a o h hn => S.st a o (E.base a o h hn) hn, fun a h => nn a (E.ptr a h), fun a h => E.fr a (S.fr a h)⟩
  have q := E.sl i w hw
  cases w with
  | no => trivial
  | d x => obtain ⟨u, h1, h2⟩ := q; exact ⟨u, h1, h2.mono k⟩
  | town => exact q
  | ol xs =>
    obtain ⟨a, vs, h1, h2, h3, h4⟩ := q
    exact ⟨a, vs, h1, h2, S.st _ _ h3 (E.own i a h1).1, h4.mono k⟩
  | od kvs =>
    obtain ⟨a, h1, h2, h3⟩ := q
    exact ⟨a, h1, h2, h3.mono k fun o e => S.st _ _ e (E.own i a h1).1⟩
  | oll xss =>
    obtain ⟨a, bs, h1, h2, h3, h4⟩ := q
    exact ⟨a, bs, h1, h2, S.st _ _ h3 (E.own i a h1).1, h4.mono k (fun _ _ => rfl) fun j b u _ h e => S.st _ _ e (E.own _ b h).1⟩
theorem DvB.step (S : Step C H H') (t : ∀ a, C.T = some a → A a) (h : DvB A C.T K H v x) : DvB A C.T K H' v x := by
  rcases h with h | ⟨a, vs, ds, h1, h2, h3, h4, h5⟩ | ⟨a, kvs, h1, h2, h3, h4⟩
  · exact .inl (h.mono (S.keep t))
  · exact .inr (.inl ⟨a, vs, ds, h1, h2, h3, S.st _ _ h4 h3, h5.mono (S.keep t)⟩)
  · exact .inr (.inr ⟨a, kvs, h1, h2, h3, h4.mono (S.keep t) fun o e => S.st _ _ e h3⟩)
theorem Res.dat (tr : ∀ a, T = some a → H a ≠ none) (h : Res A T K H H' v w) (e : w.dat = some x) : DvB A T K H' v x := by
  cases w with
  | no => cases e
  | d y => cases e; exact .inl h
  | town => cases e
  | ol xs =>
    cases e
    obtain ⟨a, vs, h1, h2, h3, h4⟩ := h
    exact .inr (.inl ⟨a, vs, xs, h1, rfl, fun z => tr a z h2, h3, h4.mono fun b u nb r => ⟨fun z => nb (.inl z), r⟩⟩)
  | od kvs =>
    cases e
    obtain ⟨a, h1, h2, h3⟩ := h
    exact .inr (.inr ⟨a, kvs, h1, rfl, fun z => tr a z h2, h3.mono (fun b u nb r => ⟨fun z => nb (.inl z), r⟩) fun o e => e⟩)
  | oll _ => cases e
theorem Res.frz (tr : ∀ a, A a → H a ≠ none) (h : Res A T K H H' v w) : Res A T K H H' v w.frz := by
  cases w with
  | ol xs =>
    obtain ⟨a, vs, h1, h2, h3, h4⟩ := h
    subst h1
    exact .lst (.inl ⟨fun z => tr a z h2, .inl h3⟩) (h4.mono fun b u nb r => ⟨fun z => nb (.inl z), r⟩)
  | no => exact h
  | d _ => exact h
  | town => exact h
  | od _ => exact h
  | oll _ => exact h
end
end L2.Lv
namespace L2.Lv
open PySem PySem.Spec PyProof.Rows
abbrev Fe := List W → Nat → Option (W × Nat)
abbrev Fd := List W → Nat → Option (PyData × Nat)
abbrev Ft := List W → Nat → Option (Bool × Nat)
abbrev Fa := List W → Nat → Option (List W × Nat)
def tV (K : PySem.W.Frag) (f : Fe) : TE := fun σ H Q => ∃ C O ρ n w n', f ρ n = some (w, n') ∧ EnvOk C O K σ H ρ n ∧ ∀ v H', Step C H H' → TownAt C H' n' → Res (Av C O) C.T K H H' v w → Q v H'
def tVB (K : PySem.W.Frag) (f : Fd) : TE := fun σ H Q => ∃ C O ρ n x n', f ρ n = some (x, n') ∧ EnvOk C O K σ H ρ n ∧ ∀ v H', Step C H H' → TownAt C H' n' → DvB (Av C O) C.T K H' v x → Q v H'
def tVT (K : PySem.W.Frag) (f : Ft) : TT := fun σ H Q => ∃ C O ρ n b n', f ρ n = some (b, n') ∧ EnvOk C O K σ H ρ n ∧ ∀ H', Step C H H' → TownAt C H' n' → Q b H'
/-- an argument: data that stays, or the town -/
def ArgOk (A : Addr → Prop) (T : Option Addr) (K : PySem.W.Frag) (H : Hp) (v : V) : W → Prop
  | .d x => Dv A K H v x
  | .town => ∃ a, T = some a ∧ v = .ref a
  | _ => False
abbrev ArgsOk (A : Addr → Prop) (T : Option Addr) (K : PySem.W.Frag) (H : Hp) : List V → List W → Prop := Paired (ArgOk A T K H)
def tVA (K : PySem.W.Frag) (f : Fa) : TA := fun σ H Q => ∃ C O ρ n ws n', f ρ n = some (ws, n') ∧ EnvOk C O K σ H ρ n ∧ ∀ vs H', Step C H H' → TownAt C H' n' → ArgsOk (Av C O) C.T K H' vs ws → Q vs H'
abbrev EvE (X : Cx) (e : Expr) (f : Fe) : Prop := PE X e (tV X.K f)
abbrev EvB (X : Cx) (e : Expr) (f : Fd) : Prop := PE X e (tVB X.K f)
abbrev EvT (X : Cx) (e : Expr) (f : Ft) : Prop := PT X e (tVT X.K f)
abbrev EvW (X : Cx) (e : Expr) (f : Ft) : Prop := PW X e (tVT X.K f)
theorem peI {X : Cx} {e : Expr} {t t' : TE} (h : PE X e t) (w : ∀ σ H Q, t' σ H Q → t σ H Q) : PE X e t' := ⟨fun pins s σ H Q I q => h.run pins s σ H Q I (w σ H Q q)⟩
theorem ptI {X : Cx} {e : Expr} {t t' : TT} (h : PT X e t) (w : ∀ σ H Q, t' σ H Q → t σ H Q) : PT X e t' := ⟨fun pins s σ H Q I q => h.run pins s σ H Q I (w σ H Q q)⟩
theorem pwI {X : Cx} {e : Expr} {t t' : TT} (h : PW X e t) (w : ∀ σ H Q, t' σ H Q → t σ H Q) : PW X e t' := ⟨fun wh pins s σ H Q I q => h.run wh pins s σ H Q I (w σ H Q q)⟩
theorem paI {X : Cx} {e : List Expr} {t t' : TA} (h : PA X e t) (w : ∀ σ H Q, t' σ H Q → t σ H Q) : PA X e t' := ⟨fun p pins s σ H Q I q => h.run p pins s σ H Q I (w σ H Q q)⟩
section
variable {X : Cx} {e a b : Expr} {f fa fb : Fe} {da db : Fd} {pos : Pos}
theorem EnvOk.tr {C : Cn} {O : Ow} {K : PySem.W.Frag} {σ : St} {H : Hp} {ρ : List W} {n : Nat} (E : EnvOk C O K σ H ρ n) : ∀ a, C.T = some a → H a ≠ none := fun a e => E.av a (.inr (.inl e))
/-! names, constants -/
def eVar (i : Nat) : Fe := fun ρ n => match ρ[i]? with
  | some (.d x) => some (.d x, n)
  | some .town => some (.town, n)
  | _ => none
theorem ev_var {i : Nat} (h : PE X e (tVar i)) : EvE X e (eVar i) := peI h (by
  rintro σ H Q ⟨C, O, ρ, n, w, n', hf, E, q⟩
  unfold eVar at hf
  split at hf
  · rename_i x hx
    cases hf
    obtain ⟨u, h1, h2⟩ := E.sl _ _ hx
    exact ⟨u, h1, q _ _ Step.refl E.town h2⟩
  · rename_i hx
    cases hf
    obtain ⟨u, h1, h2⟩ := E.sl _ _ hx
    exact ⟨_, h2, q _ _ Step.refl E.town ⟨u, h1, rfl⟩⟩
  · cases hf)
/-- a name, looked at -/
def dVar (i : Nat) : Fd := fun ρ n => (ρ[i]?.bind W.dat).map (·, n)
theorem eb_var {i : Nat} (h : PE X e (tVar i)) : EvB X e (dVar i) := peI h (by
  rintro σ H Q ⟨C, O, ρ, n, x, n', hf, E, q⟩
  unfold dVar at hf
  cases hx : ρ[i]? with
  | none => rw [hx] at hf; cases hf
  | some w =>
    rw [hx] at hf
    have sl := E.sl _ _ hx
    cases w with
    | no => cases hf
    | town => cases hf
    | d y =>
      cases hf
      obtain ⟨u, h1, h2⟩ := sl
      exact ⟨u, h1, q _ _ Step.refl E.town (.inl h2)⟩
    | ol xs =>
      cases hf
      obtain ⟨a, vs, h1, h2, h3, h4⟩ := sl
      exact ⟨_, h2, q _ _ Step.refl E.town (.inr (.inl ⟨a, vs, xs, rfl, rfl, (E.own i a h1).1, h3, h4⟩))⟩
    | od kvs =>
      cases hf
      obtain ⟨a, h1, h2, h3⟩ := sl
      exact ⟨_, h2, q _ _ Step.refl E.town (.inr (.inr ⟨a, kvs, rfl, rfl, (E.own i a h1).1, h3⟩))⟩
    | oll _ => cases hf)
def eC (x : PyData) : Fe := fun _ n => some (.d x, n)
theorem ev_c {v : V} {x : PyData} (h : PE X e (tC v)) (r : ∀ A H, Dv A X.K H v x) : EvE X e (eC x) := peI h (by
  rintro σ H Q ⟨C, O, ρ, n, w, n', hf, E, q⟩
  cases hf
  exact q _ _ Step.refl E.town (r _ _))
theorem ev_int {i j pos} : EvE X (.Constant (.int i) j pos) (eC (.int i)) := ev_c pe_int fun _ _ => .int _
theorem ev_bl {i j pos} : EvE X (.Constant (.bool i) j pos) (eC (.bool i)) := ev_c pe_bl fun _ _ => .bl _
theorem ev_non {j pos} : EvE X (.Constant .none j pos) (eC .none) := ev_c pe_non fun _ _ => .non
theorem ev_str {i j pos} : EvE X (.Constant (.str i) j pos) (eC (.str i)) := ev_c pe_str fun _ _ => .str _
/-- a value that is looked at -/
def dOf (f : Fe) : Fd := fun ρ n => (f ρ n).bind fun p => p.1.dat.map (·, p.2)
theorem eb_of (h : EvE X e f) : EvB X e (dOf f) := peI h (by
  rintro σ H Q ⟨C, O, ρ, n, x, n', hf, E, q⟩
  unfold dOf at hf
  obtain ⟨⟨w, n1⟩, h1, h2⟩ := Option.bind_eq_some_iff.mp hf
  obtain ⟨y, h3, h4⟩ := Option.map_eq_some_iff.mp h2
  cases h4
  exact ⟨C, O, ρ, n, w, n1, h1, E, fun v H' st t r => q v H' st t (r.dat E.tr h3)⟩)
/-- .. kept as it is for ever -/
def eFrz (f : Fe) : Fe := fun ρ n => (f ρ n).map fun p => (p.1.frz, p.2)
theorem ev_frz (h : EvE X e f) : EvE X e (eFrz f) := peI h (by
  rintro σ H Q ⟨C, O, ρ, n, x, n', hf, E, q⟩
  unfold eFrz at hf
  obtain ⟨⟨w, n1⟩, h1, h2⟩ := Option.map_eq_some_iff.mp hf
  cases h2
  exact ⟨C, O, ρ, n, w, n1, h1, E, fun v H' st t r => q v H' st t (r.frz E.av)⟩)
/-! operators -/
def OpV (X : Cx) (f : Value → Value → Sem Value) (g : PyData → PyData → Option W) : Prop := ∃ r : R2, OpR X f r ∧
  ∀ (A : Addr → Prop) (T : Option Addr) (x y : V) (dx dy : PyData) (w : W) (H : Hp) (Q : VK), (∀ a, A a → H a ≠ none) → DvB A T X.K H x dx → DvB A T X.K H y dy → g dx dy = some w →
    (∀ v H', Grow H H' → Res A none X.K H H' v w → Q v H') → r x y H Q
theorem OpV.or {f : Value → Value → Sem Value} {g h : PyData → PyData → Option W} (hg : OpV X f g) (hh : OpV X f h) : OpV X f (fun x y => (g x y).or (h x y)) := by
  obtain ⟨r, h1, h2⟩ := hg
  obtain ⟨r', h1', h2'⟩ := hh
  refine ⟨_, h1.or h1', fun A T x y dx dy w H Q tr rx ry e q => ?_⟩
  have e : (g dx dy).or (h dx dy) = some w := e
  cases hx : g dx dy with
  | none =>
    rw [hx] at e
    exact .inr (h2' A T x y dx dy w H Q tr rx ry (by simpa using e) q)
  | some w' =>
    rw [hx] at e
    exact .inl (h2 A T x y dx dy w H Q tr rx ry (hx.trans (by simpa using e)) q)
def eBin (g : PyData → PyData → Option W) (fa fb : Fd) : Fe := fun ρ n => (fa ρ n).bind fun p => (fb ρ p.2).bind fun q => (g p.1 q.1).map (·, q.2)
theorem Res.none_any {A : Addr → Prop} {T : Option Addr} {K : PySem.W.Frag} {H H' : Hp} {v : V} {w : W} (h : Res A none K H H' v w) : Res A T K H H' v w := by
  cases w with
  | town => obtain ⟨a, e, _⟩ := h; cases e
  | no => exact h
  | d _ => exact h
  | ol _ => exact h
  | od _ => exact h
  | oll _ => exact h
theorem Res.back {A : Addr → Prop} {T : Option Addr} {K : PySem.W.Frag} {H0 H H' : Hp} {v : V} {w : W} (b : ∀ a, H a = none → H0 a = none) (h : Res A T K H H' v w) : Res A T K H0 H' v w := by
  cases w with
  | no => exact h
  | d _ => exact h
  | town => exact h
  | ol xs => obtain ⟨a, vs, h1, h2, h3⟩ := h; exact ⟨a, vs, h1, b a h2, h3⟩
  | od xs => obtain ⟨a, h1, h2, h3⟩ := h; exact ⟨a, h1, b a h2, h3⟩
  | oll _ => exact h
theorem op_run {fo : Value → Value → Sem Value} {g : PyData → PyData → Option W} {r : R2} {σ : St} {H : Hp} {Q : VK}
    (h2 : ∀ (A : Addr → Prop) (T : Option Addr) (x y : V) (dx dy : PyData) (w : W) (H : Hp) (Q : VK), (∀ a, A a → H a ≠ none) → DvB A T X.K H x dx → DvB A T X.K H y dy → g dx dy = some w → (∀ v H', Grow H H' → Res A none X.K H H' v w → Q v H') → r x y H Q)
    (h : tV X.K (eBin g da db) σ H Q) : tOp r (tVB X.K da) (tVB X.K db) σ H Q := by
  obtain ⟨C, O, ρ, n, w, n', hf, E, q⟩ := h
  unfold eBin at hf
  obtain ⟨⟨x, n1⟩, e1, hf⟩ := Option.bind_eq_some_iff.mp hf
  obtain ⟨⟨y, n2⟩, e2, hf⟩ := Option.bind_eq_some_iff.mp hf
  obtain ⟨z, e3, hf⟩ := Option.map_eq_some_iff.mp hf
  cases hf
  refine ⟨C, O, ρ, n, x, n1, e1, E, fun vx H1 s1 t1 r1 => ?_⟩
  have E1 := E.step s1 t1
  refine ⟨C, O, ρ, n1, y, n2, e2, E1, fun vy H2 s2 t2 r2 => ?_⟩
  have E2 := E1.step s2 t2
  refine h2 (Av C O) C.T vx vy x y w H2 Q E2.av (r1.step s2 Av.t) r2 e3 fun v H3 g3 r3 => ?_
  exact q v H3 ((s1.trans s2).trans g3.step) (g3.town t2) (r3.none_any.back fun a ha => s1.fr a (s2.fr a ha))
theorem ev_bin {op : Operator} {g : PyData → PyData → Option W} (ho : OpV X (binaryOp op) g) (ha : EvB X a da) (hb : EvB X b db) : EvE X (.BinOp a op b pos) (eBin g da db) := by
  obtain ⟨r, h1, h2⟩ := ho
  exact peI (pe_op h1 ha hb) fun σ H Q h => op_run (fo := binaryOp op) h2 h
theorem ev_cmp {op : CmpOp} {g : PyData → PyData → Option W} (ho : OpV X (compareOp op) g) (ha : EvB X a da) (hb : EvB X b db) (hm : behindInMarks op b = false) : EvE X (.Compare a [op] [b] pos) (eBin g da db) := by
  obtain ⟨r, h1, h2⟩ := ho
  exact peI (pe_cmpR h1 ha hb hm) fun σ H Q h => op_run (fo := compareOp op) h2 h
/-- a comparison's truth -/
def bTest (f : Fe) : Ft := fun ρ n => (f ρ n).bind fun p => match p.1 with
  | .d (.bool c) => some (c, p.2)
  | _ => none
theorem tV_bool {K : PySem.W.Frag} {f : Fe} {σ : St} {H : Hp} {Q : Bool → Hp → Prop} (h : tVT K (bTest f) σ H Q) : tV K f σ H (fun x H' => ∃ k, x = .bl k ∧ Q k H') := by
  obtain ⟨C, O, ρ, n, c, n', hf, E, q⟩ := h
  unfold bTest at hf
  obtain ⟨⟨x, n1⟩, e1, hf⟩ := Option.bind_eq_some_iff.mp hf
  cases x with
  | d y =>
    cases y with
    | bool c' =>
      cases hf
      refine ⟨C, O, ρ, n, _, _, e1, E, fun v H' s t r => ?_⟩
      have r : Dv (Av C O) K H' v (.bool c) := r
      cases r
      exact ⟨c, rfl, q H' s t⟩
    | _ => cases hf
  | _ => cases hf
theorem et_cmp {op : CmpOp} {g : PyData → PyData → Option W} (ho : OpV X (compareOp op) g) (ha : EvB X a da) (hb : EvB X b db) (hm : behindInMarks op b = false) : EvT X (.Compare a [op] [b] pos) (bTest (eBin g da db)) := by
  obtain ⟨r, h1, h2⟩ := ho
  exact ptI (pt_cmpR h1 ha hb hm) fun σ H Q h => op_run (fo := compareOp op) h2 (tV_bool h)
/-! truth -/
def dTru : PyData → Option Bool
  | .none => some false
  | .bool b => some b
  | .int i => some (i != 0)
  | .str y => if y.length ≤ sizeLine then some ((y.length : Int) != 0) else none
  | .list xs => some (!xs.isEmpty)
  | .tuple xs => some (!xs.isEmpty)
  | .dict _ => none
def bTru (f : Fd) : Ft := fun ρ n => (f ρ n).bind fun p => (dTru p.1).map (·, p.2)
theorem DvAll.empty {A : Addr → Prop} {K : PySem.W.Frag} {H : Hp} {vs : List V} {ds : List PyData} (h : DvAll A K H vs ds) : vs.isEmpty = ds.isEmpty := by cases h <;> rfl
theorem DvB.tup {A : Addr → Prop} {T : Option Addr} {K : PySem.W.Frag} {H : Hp} {v : V} {ds : List PyData} (h : DvB A T K H v (.tuple ds)) : ∃ a xs, v = .ref a ∧ SqT K H a xs ∧ DvAll A K H xs ds ∧ Dv A K H v (.tuple ds) := by
  rcases h with h | ⟨a, vs, ds, h1, h2, _⟩ | ⟨a, kvs, h1, h2, _⟩
  · cases id h with
    | tup hs ha => exact ⟨_, _, rfl, sqT_of hs, ha, h⟩
  · cases h2
  · cases h2
theorem DvB.lst {A : Addr → Prop} {T : Option Addr} {K : PySem.W.Frag} {H : Hp} {v : V} {ds : List PyData} (h : DvB A T K H v (.list ds)) : ∃ a xs, v = .ref a ∧ SqL K H a xs ∧ DvAll A K H xs ds := by
  rcases h with h | ⟨a, vs, ds, h1, h2, h3, h4, h5⟩ | ⟨a, kvs, h1, h2, _⟩
  · cases h with
    | lst hs ha => exact ⟨_, _, rfl, hs.elim (fun z => .inl z.2) sqLz, ha⟩
  · cases h2
    exact ⟨a, vs, h1, SqL.of h4, h5⟩
  · cases h2
theorem DvB.int {A : Addr → Prop} {T : Option Addr} {K : PySem.W.Frag} {H : Hp} {v : V} {i : Int} (h : DvB A T K H v (.int i)) : v = .int i := by
  rcases h with h | ⟨a, vs, ds, h1, h2, _⟩ | ⟨a, kvs, h1, h2, _⟩
  · cases h; rfl
  · cases h2
  · cases h2
theorem DvB.str {A : Addr → Prop} {T : Option Addr} {K : PySem.W.Frag} {H : Hp} {v : V} {i : Str} (h : DvB A T K H v (.str i)) : v = .str i := by
  rcases h with h | ⟨a, vs, ds, h1, h2, _⟩ | ⟨a, kvs, h1, h2, _⟩
  · cases h; rfl
  · cases h2
  · cases h2
theorem DvB.bl {A : Addr → Prop} {T : Option Addr} {K : PySem.W.Frag} {H : Hp} {v : V} {i : Bool} (h : DvB A T K H v (.bool i)) : v = .bl i := by
  rcases h with h | ⟨a, vs, ds, h1, h2, _⟩ | ⟨a, kvs, h1, h2, _⟩
  · cases h; rfl
  · cases h2
  · cases h2
theorem DvB.non {A : Addr → Prop} {T : Option Addr} {K : PySem.W.Frag} {H : Hp} {v : V} (h : DvB A T K H v .none) : v = .non := by
  rcases h with h | ⟨a, vs, ds, h1, h2, _⟩ | ⟨a, kvs, h1, h2, _⟩
  · cases h; rfl
  · cases h2
  · cases h2
theorem DvB.dct {A : Addr → Prop} {T : Option Addr} {K : PySem.W.Frag} {H : Hp} {v : V} {kvs : List (PyData × PyData)} (h : DvB A T K H v (.dict kvs)) : ∃ a, v = .ref a ∧ DctAt A K H a kvs := by
  rcases h with h | ⟨a, vs, ds, h1, h2, _⟩ | ⟨a, kvs, h1, h2, h3, h4⟩
  · cases h
  · cases h2
  · cases h2; exact ⟨a, h1, h4⟩
theorem dTru_ok {A : Addr → Prop} {T : Option Addr} {K : PySem.W.Frag} {H : Hp} {v : V} {x : PyData} {c : Bool} (h : DvB A T K H v x) (e : dTru x = some c) : TruV K v H c := by
  cases x with
  | none => have := h.non; subst this; cases e; rfl
  | bool b => have := h.bl; subst this; cases e; rfl
  | int i => have := h.int; subst this; cases e; rfl
  | str y =>
    have := h.str; subst this
    simp only [dTru] at e
    split at e
    · rename_i hy
      cases e; exact ⟨hy, rfl⟩
    · cases e
  | list xs =>
    obtain ⟨a, vs, rfl, h1, h2⟩ := h.lst
    cases e
    exact .inl ⟨vs, h1, by rw [h2.empty]⟩
  | tuple xs =>
    obtain ⟨a, vs, rfl, h1, h2, _⟩ := h.tup
    cases e
    exact .inr (.inl ⟨vs, h1, by rw [h2.empty]⟩)
  | dict _ => cases e
theorem et_tru (ha : EvB X a da) (he : ∀ whole, isTrue a X.env whole = (do let v ← whole; standAt a.pos; holding [v] (truthy v))) : EvT X a (bTru da) := ptI (pt_truth ha he) (by
  rintro σ H Q ⟨C, O, ρ, n, c, n', hf, E, q⟩
  unfold bTru at hf
  obtain ⟨⟨x, n1⟩, e1, hf⟩ := Option.bind_eq_some_iff.mp hf
  obtain ⟨z, e3, hf⟩ := Option.map_eq_some_iff.mp hf
  cases hf
  exact ⟨C, O, ρ, n, x, n1, e1, E, fun v H' s t r => ⟨c, dTru_ok r e3, q H' s t⟩⟩)
/-! and, or, not, if -/
variable {ta tb tc : Ft} {rest : List Expr} {c : Expr}
def bAnd (ta tb : Ft) : Ft := fun ρ n => (ta ρ n).bind fun p => if p.1 then tb ρ p.2 else some (false, p.2)
def bOr (ta tb : Ft) : Ft := fun ρ n => (ta ρ n).bind fun p => if p.1 then some (true, p.2) else tb ρ p.2
def bNot (ta : Ft) : Ft := fun ρ n => (ta ρ n).map fun p => (!p.1, p.2)
theorem ew_or1 (ha : EvT X a ta) : EvW X (.BoolOp .Or [a] pos) ta := pw_or1 ha
theorem ew_or (ha : EvT X a ta) (hb : EvW X (.BoolOp .Or (b :: rest) pos) tb) : EvW X (.BoolOp .Or (a :: b :: rest) pos) (bOr ta tb) := pwI (pw_or ha hb) (by
  rintro σ H Q ⟨C, O, ρ, n, c, n', hf, E, q⟩
  unfold bOr at hf
  obtain ⟨⟨x, n1⟩, e1, hf⟩ := Option.bind_eq_some_iff.mp hf
  refine ⟨C, O, ρ, n, x, n1, e1, E, fun H1 s1 t1 => ?_⟩
  cases x with
  | false =>
    rw [if_neg (by simp)]
    exact ⟨C, O, ρ, n1, c, n', by simpa using hf, E.step s1 t1, fun H2 s2 t2 => q H2 (s1.trans s2) t2⟩
  | true =>
    rw [if_pos rfl]
    simp at hf
    obtain ⟨rfl, rfl⟩ := hf
    exact q H1 s1 t1)
theorem et_w (h : EvW X a ta) : EvT X a ta := h.pt
theorem et_not (ha : EvT X a ta) : EvT X (.UnaryOp .Not a pos) (bNot ta) := ptI (pt_not ha) (by
  rintro σ H Q ⟨C, O, ρ, n, c, n', hf, E, q⟩
  unfold bNot at hf
  obtain ⟨⟨x, n1⟩, e1, hf⟩ := Option.map_eq_some_iff.mp hf
  cases hf
  exact ⟨C, O, ρ, n, x, n1, e1, E, fun H1 s1 t1 => q H1 s1 t1⟩)
def eIf (tc : Ft) (fa fb : Fe) : Fe := fun ρ n => (tc ρ n).bind fun p => if p.1 then fa ρ p.2 else fb ρ p.2
theorem Res.step0 {A : Addr → Prop} {T : Option Addr} {K : PySem.W.Frag} {C : Cn} {H H1 H' : Hp} {v : V} {w : W} (s : Step C H H1) (h : Res A T K H1 H' v w) : Res A T K H H' v w := h.back s.fr
theorem ev_ife (hc : EvT X c tc) (ha : EvE X a fa) (hb : EvE X b fb) : EvE X (.IfExp c a b pos) (eIf tc fa fb) := peI (pe_ifExp hc ha hb) (by
  rintro σ H Q ⟨C, O, ρ, n, w, n', hf, E, q⟩
  unfold eIf at hf
  obtain ⟨⟨x, n1⟩, e1, hf⟩ := Option.bind_eq_some_iff.mp hf
  refine ⟨C, O, ρ, n, x, n1, e1, E, fun H1 s1 t1 => ?_⟩
  cases x with
  | true => exact ⟨C, O, ρ, n1, w, n', by simpa using hf, E.step s1 t1, fun v H2 s2 t2 r => q v H2 (s1.trans s2) t2 (r.step0 s1)⟩
  | false => exact ⟨C, O, ρ, n1, w, n', by simpa using hf, E.step s1 t1, fun v H2 s2 t2 r => q v H2 (s1.trans s2) t2 (r.step0 s1)⟩)
/-- and, or, not as values (bools) -/
def eB (t : Ft) : Fe := fun ρ n => (t ρ n).map fun p => (.d (.bool p.1), p.2)
/-- and as a value: all but the last are truths -/
def eAnd (fa fb : Fe) : Fe := fun ρ n => (fa ρ n).bind fun p => match p.1 with
  | .d (.bool true) => fb ρ p.2
  | .d (.bool false) => some (.d (.bool false), p.2)
  | _ => none
def eOr (fa fb : Fe) : Fe := fun ρ n => (fa ρ n).bind fun p => match p.1 with
  | .d (.bool false) => fb ρ p.2
  | .d (.bool true) => some (.d (.bool true), p.2)
  | _ => none
theorem ev_one {op : BoolOp} (ha : EvE X a fa) : EvE X (.BoolOp op [a] pos) fa := pe_one ha
theorem ev_and (ha : EvE X a fa) (hb : EvE X (.BoolOp .And (b :: rest) pos) fb) : EvE X (.BoolOp .And (a :: b :: rest) pos) (eAnd fa fb) := peI (pe_and ha hb) (by
  rintro σ H Q ⟨C, O, ρ, n, w, n', hf, E, q⟩
  unfold eAnd at hf
  obtain ⟨⟨x, n1⟩, e1, hf⟩ := Option.bind_eq_some_iff.mp hf
  refine ⟨C, O, ρ, n, x, n1, e1, E, fun v H1 s1 t1 r => ?_⟩
  simp only at hf
  split at hf
  · have r : Dv (Av C O) X.K H1 v (.bool true) := r
    cases r
    exact ⟨true, rfl, C, O, ρ, n1, w, n', hf, E.step s1 t1, fun v H2 s2 t2 r => q v H2 (s1.trans s2) t2 (r.step0 s1)⟩
  · have r : Dv (Av C O) X.K H1 v (.bool false) := r
    cases r
    cases hf
    exact ⟨false, rfl, q _ _ s1 t1 (.bl _)⟩
  · cases hf)
end
end L2.Lv
namespace L2.Lv
open PySem PySem.Spec PyProof.Rows
abbrev Fds := List W → Nat → Option (List PyData × Nat)
abbrev DvBs (A : Addr → Prop) (T : Option Addr) (K : PySem.W.Frag) (H : Hp) : List V → List PyData → Prop := Paired (DvB A T K H)
def tVD (K : PySem.W.Frag) (f : Fds) : TA := fun σ H Q => ∃ C O ρ n xs n', f ρ n = some (xs, n') ∧ EnvOk C O K σ H ρ n ∧ ∀ vs H', Step C H H' → TownAt C H' n' → DvBs (Av C O) C.T K H' vs xs → Q vs H'
structure EvA (X : Cx) (es : List Expr) (f : Fa) : Prop where
  pa : PA X es (tVA X.K f)
  len : ∀ ρ n ws n', f ρ n = some (ws, n') → ws.length = es.length
abbrev EvD (X : Cx) (es : List Expr) (f : Fds) : Prop := PA X es (tVD X.K f)
section
variable {X : Cx} {e a b : Expr} {es : List Expr} {f fa fb : Fe} {d da db : Fd} {fs : Fa} {ds : Fds} {pos : Pos}
/-! arguments -/
def aNil : Fa := fun _ n => some ([], n)
def W.arg : W → Option W
  | .d x => some (.d x)
  | .ol xs => some (.d (.list xs))
  | .town => some .town
  | _ => none
def aCons (f : Fe) (fs : Fa) : Fa := fun ρ n => (f ρ n).bind fun p => p.1.arg.bind fun w => (fs ρ p.2).map fun q => (w :: q.1, q.2)
theorem ArgOk.step {C : Cn} {A : Addr → Prop} {K : PySem.W.Frag} {H H' : Hp} {v : V} {w : W} (s : Step C H H') (t : ∀ a, C.T = some a → A a) (h : ArgOk A C.T K H v w) : ArgOk A C.T K H' v w := by
  cases w with
  | d x => exact Dv.mono (s.keep t) h
  | town => exact h
  | no => exact h
  | ol _ => exact h
  | od _ => exact h
  | oll _ => exact h
theorem Res.arg {A : Addr → Prop} {T : Option Addr} {K : PySem.W.Frag} {H H' : Hp} {v : V} {w w' : W} (tr : ∀ a, A a → H a ≠ none) (h : Res A T K H H' v w) (e : w.arg = some w') : ArgOk A T K H' v w' := by
  have q := h.frz tr
  cases w with
  | d x => cases e; exact q
  | ol x => cases e; exact q
  | town => cases e; exact q
  | no => cases e
  | od _ => cases e
  | oll _ => cases e
theorem ea_nil : EvA X [] aNil := ⟨paI pa_nil (by
  rintro σ H Q ⟨C, O, ρ, n, w, n', hf, E, q⟩
  cases hf
  exact q _ _ Step.refl E.town .nil), by rintro ρ n ws n' h; cases h; rfl⟩
theorem ea_cons (ha : EvE X e f) (hr : EvA X es fs) (hs : starEach (e :: es) X.env = (false, eval e X.env) :: starEach es X.env := by rfl) : EvA X (e :: es) (aCons f fs) := by
  refine ⟨paI (pa_cons ha hr.pa hs) ?_, ?_⟩
  · rintro σ H Q ⟨C, O, ρ, n, w, n', hf, E, q⟩
    unfold aCons at hf
    obtain ⟨⟨x, n1⟩, e1, hf⟩ := Option.bind_eq_some_iff.mp hf
    obtain ⟨x', e2, hf⟩ := Option.bind_eq_some_iff.mp hf
    obtain ⟨⟨ws, n2⟩, e3, hf⟩ := Option.map_eq_some_iff.mp hf
    cases hf
    refine ⟨C, O, ρ, n, x, n1, e1, E, fun v H1 s1 t1 r1 => ?_⟩
    refine ⟨C, O, ρ, n1, ws, n2, e3, E.step s1 t1, fun vs H2 s2 t2 r2 => ?_⟩
    exact q _ _ (s1.trans s2) t2 (.cons ((r1.arg E.av e2).step s2 Av.t) r2)
  · intro ρ n ws n' h
    unfold aCons at h
    obtain ⟨⟨x, n1⟩, e1, h⟩ := Option.bind_eq_some_iff.mp h
    obtain ⟨x', e2, h⟩ := Option.bind_eq_some_iff.mp h
    obtain ⟨⟨ws, n2⟩, e3, h⟩ := Option.map_eq_some_iff.mp h
    cases h
    simp [hr.len _ _ _ _ e3]
def sNil : Fds := fun _ n => some ([], n)
def sCons (f : Fd) (fs : Fds) : Fds := fun ρ n => (f ρ n).bind fun p => (fs ρ p.2).map fun q => (p.1 :: q.1, q.2)
theorem ed_nil : EvD X [] sNil := paI pa_nil (by
  rintro σ H Q ⟨C, O, ρ, n, w, n', hf, E, q⟩
  cases hf
  exact q _ _ Step.refl E.town .nil)
theorem DvBs.step {C : Cn} {A : Addr → Prop} {K : PySem.W.Frag} {H H' : Hp} (s : Step C H H') (t : ∀ a, C.T = some a → A a) {vs : List V} {xs : List PyData} (h : DvBs A C.T K H vs xs) : DvBs A C.T K H' vs xs := Paired.impl (fun _ _ z => DvB.step s t z) h
theorem ed_cons (ha : EvB X e d) (hr : EvD X es ds) (hs : starEach (e :: es) X.env = (false, eval e X.env) :: starEach es X.env := by rfl) : EvD X (e :: es) (sCons d ds) := paI (pa_cons ha hr hs) (by
  rintro σ H Q ⟨C, O, ρ, n, w, n', hf, E, q⟩
  unfold sCons at hf
  obtain ⟨⟨x, n1⟩, e1, hf⟩ := Option.bind_eq_some_iff.mp hf
  obtain ⟨⟨ws, n2⟩, e3, hf⟩ := Option.map_eq_some_iff.mp hf
  cases hf
  refine ⟨C, O, ρ, n, x, n1, e1, E, fun v H1 s1 t1 r1 => ?_⟩
  refine ⟨C, O, ρ, n1, ws, n2, e3, E.step s1 t1, fun vs H2 s2 t2 r2 => ?_⟩
  exact q _ _ (s1.trans s2) t2 (.cons (r1.step s2 Av.t) r2))
/-! displays -/
def W.val : W → Option PyData
  | .d x => some x
  | _ => none
def vals : List W → Option (List PyData)
  | [] => some []
  | w :: ws => w.val.bind fun x => (vals ws).map (x :: ·)
theorem vals_ok {A : Addr → Prop} {T : Option Addr} {K : PySem.W.Frag} {H : Hp} : ∀ {ws : List W} {vs : List V} {xs : List PyData}, ArgsOk A T K H vs ws → vals ws = some xs → DvAll A K H vs xs ∧ xs.length = ws.length
  | _, _, _, .nil, e => by cases e; exact ⟨.nil, rfl⟩
  | w :: ws, _, _, .cons r t, e => by
    unfold vals at e
    obtain ⟨x, e1, e⟩ := Option.bind_eq_some_iff.mp e
    obtain ⟨ys, e2, e⟩ := Option.map_eq_some_iff.mp e
    cases e
    obtain ⟨q1, q2⟩ := vals_ok t e2
    cases w with
    | d y => cases e1; exact ⟨.cons r q1, by simp [q2]⟩
    | _ => cases e1
def eTup (fs : Fa) : Fe := fun ρ n => (fs ρ n).bind fun p => (vals p.1).map fun xs => (.d (.tuple xs), p.2)
def eLst (fs : Fa) : Fe := fun ρ n => (fs ρ n).bind fun p => (vals p.1).map fun xs => (.ol xs, p.2)
theorem small_line {n : Nat} (h : n ≤ 1000) : n ≤ sizeLine := Nat.le_of_lt (small1000 h)
theorem new_tup {A : Addr → Prop} {K : PySem.W.Frag} {H : Hp} {p : Addr} {vs : List V} {xs : List PyData} {o : Obj} (hp : H p = none) (tr : ∀ a, A a → H a ≠ none) (ho : o.dict = none) (h : DvAll A K H vs xs) : Dv A K (upd H p (.frz o (.tup vs))) (.ref p) (.tuple xs) :=
  .tup (.inl ⟨fun z => tr p z hp, o, upd_same, ho⟩) (h.mono (Grow.upd hp).keep)
/-! tuples as they are made -/
def rNewT (xs : List V) (H : Hp) (Q : VK) : Prop := ∀ p o, o.dict = none → H p = none → Q (.ref p) (upd H p (.frz o (.tup xs)))
theorem Inv.newT {pins : List (Addr × Obj)} {σ : St} {H : Hp} {s : Shared} {Q : VK} {xs : List V} {us : List Value} (I : Inv X pins σ H s) (r : Vals xs us) (hz : xs.length ≤ sizeLine) (q : rNewT xs H Q) :
    EP X pins σ Q (.ref s.heap.objs.size) { s with heap := s.heap.push { cls := .type "tuple", data := .seq us.toArray } } :=
  ⟨.ref s.heap.objs.size, _, I.laid (t' := s.toks) (o := .frz { cls := .type "tuple", data := .seq us.toArray } (.tup xs)) (fun b u e => Heap.get?_push_of_some _ e) (Nat.le_refl _) ⟨Heap.get?_push_size _ rfl, hz, us, r, IsTup.new _ _⟩, rfl,
    q _ _ rfl (I.hok.fresh (Nat.le_refl _))⟩
def tTupF (t : L2.TA) : TE := fun σ H Q => t σ H fun xs H1 => xs.length ≤ sizeLine ∧ rNewT xs H1 Q
theorem pe_tupF {t : L2.TA} {x1} (h : PA X es t) : PE X (.Tuple es x1 pos) (tTupF t) := ⟨fun pins s σ H Q I hq =>
  wpAny_Tuple_spliced (thn (h.run pos pins s σ H _ I hq) fun us s1 ⟨xs, H1, I1, r, z, q⟩ => ⟨by rw [← r.length]; exact z, Inv.newT I1 r z q⟩)⟩
/-- t + u -/
def rCatF (K : PySem.W.Frag) : R2 := fun x y H Q => ∃ a b xs ys, x = .ref a ∧ y = .ref b ∧ SqT K H a xs ∧ SqT K H b ys ∧ xs.length + ys.length ≤ sizeLine ∧
  (xs = [] → Q (.ref b) H) ∧ (ys = [] → Q (.ref a) H) ∧ rNewT (xs ++ ys) H Q
theorem op_catF : OpR X (binaryOp .Add) (rCatF X.K) := by
  rintro pins s σ H x y v u Q I rx ry ⟨a, b, xs, ys, rfl, rfl, ha, hb, hz, q0, q1, q2⟩
  have hv : v = .ref a := rx
  have hu : u = .ref b := ry
  subst hv hu
  obtain ⟨its, r1, p1, _⟩ := I.tuple ha
  obtain ⟨its2, r2, p2, _⟩ := I.tuple hb
  by_cases hx : xs = []
  · subst hx
    cases r1
    exact cat_tup0 p1 p2 ⟨.ref b, H, I, rfl, q0 rfl⟩
  · refine HT.cat_tup p1 p2 (fun z => hx (r1.nil_iff.mp z)) (fun z => ⟨.ref a, H, I, rfl, q1 (r2.nil_iff.mp z)⟩) (fun _ => ?_) (by rw [← r1.length, ← r2.length]; exact hz)
    exact Inv.newT I (r1.append r2) (by rw [List.length_append]; exact hz) q2
/-- t[lo:hi] -/
def rSlF (K : PySem.W.Frag) : V → Option Int → Option Int → Hp → VK → Prop := fun x lo hi H Q => ∃ a xs, x = .ref a ∧ SqT K H a xs ∧
  (HT.sIx xs.length 0 lo = 0 ∧ HT.sIx xs.length xs.length hi = xs.length → Q (.ref a) H) ∧ rNewT (cutV xs lo hi) H Q
theorem sl_tupF : SlR X (rSlF X.K) := by
  rintro pins s σ H x v vl vu lo hi sl Q I rx hs pl pu ⟨a, xs, rfl, hx, q1, q2⟩
  by_cases hw : HT.sIx xs.length 0 lo = 0 ∧ HT.sIx xs.length xs.length hi = xs.length
  · exact sl_tupA pins s σ H _ v vl vu lo hi sl Q I rx hs pl pu ⟨a, xs, rfl, hx, q1, fun z => (z hw).elim⟩
  · have hv : v = .ref a := rx
    subst hv
    obtain ⟨its, r, ht, hz⟩ := I.tuple hx
    have hlen : its.toArray.size = xs.length := by rw [List.size_toArray]; exact r.length.symm
    refine ⟨"tuple", _, PyProof.Rows.slot_tuple_getitem.lookup, ht.typeIs, HT.getItem_tuple_cut ht hs pl pu (by rw [hlen]; exact hw) ?_ (by rw [hlen]; exact hz)⟩
    rw [hlen]
    exact Inv.newT I ((r.drop _).take _) (Nat.le_trans (cutV_length xs lo hi) hz) q2
/-- tuple(x) -/
theorem call_tupF : CallR X (.type "tuple") (fun xs H Q => ∃ p ys, xs = [.ref p] ∧ ((SqL X.K H p ys ∧ rNewT ys H Q) ∨ (SqT X.K H p ys ∧ Q (.ref p) H))) := by
  rintro pins s σ H xs us Q I r ⟨p, ys, rfl, h⟩
  obtain ⟨u, rfl, rx⟩ := vals1 r
  have hu : u = .ref p := rx
  subst hu
  rcases h with ⟨hq, q⟩ | ⟨hq, q⟩
  · obtain ⟨its, r', pl, hz⟩ := I.list hq
    have hlen := r'.length
    refine call_tuple_list pl.isList (fun h' kp => ?_) (by simp only [List.size_toArray] <;> omega)
    exact Inv.newT (I.kept (t' := s.toks) kp) r' hz q
  · obtain ⟨its, r', pl, hz⟩ := I.tuple hq
    exact call_tuple_same pl ⟨.ref p, H, I, rfl, q⟩
theorem new_lst {A : Addr → Prop} {T : Option Addr} {K : PySem.W.Frag} {H : Hp} {p : Addr} {vs : List V} {xs : List PyData} (hp : H p = none) (h : DvAll A K H vs xs) : Res A T K H (upd H p (.lst vs)) (.ref p) (.ol xs) :=
  ⟨p, vs, rfl, hp, upd_same, h.mono fun a u n r => ⟨fun z => z.elim n fun e => (by rw [e, hp] at r; cases r), Grow.upd hp _ _ r⟩⟩
theorem ev_tup {x1} (h : EvA X es fs) (hz : es.length ≤ 1000 := by decide) : EvE X (.Tuple es x1 pos) (eTup fs) := peI (pe_tupF h.pa) (by
  rintro σ H Q ⟨C, O, ρ, n, w, n', hf, E, q⟩
  unfold eTup at hf
  obtain ⟨⟨ws, n1⟩, e1, hf⟩ := Option.bind_eq_some_iff.mp hf
  obtain ⟨xs, e2, hf⟩ := Option.map_eq_some_iff.mp hf
  cases hf
  refine ⟨C, O, ρ, n, ws, _, e1, E, fun vs H1 s1 t1 r1 => ?_⟩
  obtain ⟨d1, d2⟩ := vals_ok r1 e2
  have hl := h.len _ _ _ _ e1
  refine ⟨by rw [d1.length]; exact small_line (by omega), fun p o ho hp => ?_⟩
  exact q _ _ (s1.trans (Grow.upd hp).step) ((Grow.upd hp).town t1) (new_tup hp (E.step s1 t1).av ho d1))
theorem ev_lst (h : EvA X es fs) (hz : es.length ≤ 1000 := by decide) : EvE X (.List es pos) (eLst fs) := peI (pe_lst h.pa) (by
  rintro σ H Q ⟨C, O, ρ, n, w, n', hf, E, q⟩
  unfold eLst at hf
  obtain ⟨⟨ws, n1⟩, e1, hf⟩ := Option.bind_eq_some_iff.mp hf
  obtain ⟨xs, e2, hf⟩ := Option.map_eq_some_iff.mp hf
  cases hf
  refine ⟨C, O, ρ, n, ws, _, e1, E, fun vs H1 s1 t1 r1 => ?_⟩
  obtain ⟨d1, d2⟩ := vals_ok r1 e2
  have hl := h.len _ _ _ _ e1
  refine ⟨by rw [d1.length]; exact small_line (by omega), fun p hp => ?_⟩
  exact q _ _ (s1.trans (Grow.upd hp).step) ((Grow.upd hp).town t1) ((new_lst hp d1).back s1.fr))
/-! calls of a def -/
abbrev Fn := List W → Nat → Option (W × Nat)
/-- the promise: by value -/
def spOf (K : PySem.W.Frag) (k : Nat) (F : Fn) : Sp := fun vs H Q E => ∃ (T : Option Addr) (P : Addr → Prop) (ws : List W) (n : Nat) (w : W) (n' : Nat),
  (∀ a, P a → H a ≠ none) ∧ TownAt ⟨T, P, H⟩ H n ∧ ws.length = k ∧ ArgsOk (Av ⟨T, P, H⟩ Ow0) T K H vs ws ∧ F ws n = some (w, n') ∧
  ∀ v H', Step ⟨T, P, H⟩ H H' → TownAt ⟨T, P, H⟩ H' n' → Res (Av ⟨T, P, H⟩ Ow0) T K H H' v w → Q v H'
theorem spOf.len {K : PySem.W.Frag} {k : Nat} {F : Fn} : ∀ vs H Q E, spOf K k F vs H Q E → vs.length = k := by
  rintro vs H Q E ⟨T, P, ws, n, w, n', _, _, hl, ha, _⟩
  rw [← hl]
  exact Paired.length ha
def eCall (F : Fn) (fs : Fa) : Fe := fun ρ n => (fs ρ n).bind fun p => F p.1 p.2
theorem Res.av {A A' : Addr → Prop} {T : Option Addr} {K : PySem.W.Frag} {H H' : Hp} {v : V} {w : W} (i : ∀ a, A' a → A a) (h : Res A T K H H' v w) : Res A' T K H H' v w := by
  cases w with
  | no => exact h
  | d _ => exact Dv.mono (fun a u n r => ⟨fun z => n (i a z), r⟩) h
  | town => exact h
  | ol xs => obtain ⟨a, vs, h1, h2, h3, h4⟩ := h; exact ⟨a, vs, h1, h2, h3, h4.mono fun b u n r => ⟨fun z => n (z.imp (i b) id), r⟩⟩
  | od xs => obtain ⟨a, h1, h2, h3⟩ := h; exact ⟨a, h1, h2, h3.mono (fun b u n r => ⟨fun z => n (z.imp (i b) id), r⟩) fun o e => e⟩
  | oll _ => exact h
theorem call_run {k : Nat} {F : Fn} (h0 : EvA X es fs) (hk : es.length = k) {σ : St} {H : Hp} {Q : VK} (h : tV X.K (eCall F fs) σ H Q) : tCall (spOf X.K k F) [] E0 (tVA X.K fs) σ H Q := by
  obtain ⟨C, O, ρ, n, w, n', hf, E, q⟩ := h
  unfold eCall at hf
  obtain ⟨⟨ws, n1⟩, e1, hf⟩ := Option.bind_eq_some_iff.mp hf
  refine ⟨C, O, ρ, n, ws, n1, e1, E, fun vs H1 s1 t1 r1 => ?_⟩
  have E1 := E.step s1 t1
  have av1 : ∀ a, Av ⟨C.T, fun a => C.P a ∨ ∃ i, O i = some a, H1⟩ Ow0 a → Av C O a := by
    rintro a ((z | z) | z | ⟨i, z⟩)
    · exact .inl z
    · exact .inr (.inr z)
    · exact .inr (.inl z)
    · cases z
  have av2 : ∀ a, Av C O a → Av ⟨C.T, fun a => C.P a ∨ ∃ i, O i = some a, H1⟩ Ow0 a := by
    rintro a (z | z | z)
    · exact .inl (.inl z)
    · exact .inr (.inl z)
    · exact .inl (.inr z)
  show spOf X.K k F (vs ++ []) H1 Q E0
  rw [List.append_nil]
  refine ⟨C.T, fun a => C.P a ∨ ∃ i, O i = some a, ws, n1, w, n', fun a z => E1.av a (z.elim .inl fun z => .inr (.inr z)), t1, ?_, ?_, hf, fun v H2 s2 t2 r2 => ?_⟩
  · rw [h0.len _ _ _ _ e1, hk]
  · refine Paired.impl (fun v w z => ?_) r1
    cases w with
    | d x => exact Dv.mono (fun a u n r => ⟨fun z => n (av1 a z), r⟩) z
    | town => exact z
    | no => exact z
    | ol _ => exact z
    | od _ => exact z
    | oll _ => exact z
  · have s2' : Step C H1 H2 := ⟨s2.st, s2.fr⟩
    exact q v H2 (s1.trans s2') t2 ((r2.av av2).back s1.fr)
section
variable {k j : Nat} {F : Fn} {g : Addr} {fd : FuncData} {ps : List Str} {x : Str} {p : Pos}
theorem ev_call (G : FnOk X.prog X.w X.K X.mg X.base CX0 j g fd ps (spOf X.K k F)) (hr : Room j X.A) (hg : Gl X x) (hm : X.mg x = some (.ref g)) (hk : PySem.W.keepIn X.K (.ref g) = true) (hb : Binds X.K fd ps []) (ha : EvA X (e :: es) fs)
    (hl : (e :: es).length = k := by rfl) (hdb : (x == ("__debug__" : Str)) = false := by decide) (he : starEach (e :: es) X.env = (false, eval e X.env) :: starEach es X.env := by rfl) (hpl : (backTo pos (starEach es X.env)).any (·.1) = false := by rfl) :
    EvE X (.Call (.Name x p) (e :: es) [] pos) (eCall F fs) := peI (pe_call G hr hg hm hk hb .nil pass0 ha.pa hdb he hpl) fun σ H Q h => call_run ha hl h
end
/-! calls of built-ins, by values -/
def CallV (X : Cx) (f : Value) (g : List PyData → Option W) : Prop := ∃ r, CallR X f r ∧
  ∀ (A : Addr → Prop) (T : Option Addr) (vs : List V) (xs : List PyData) (w : W) (H : Hp) (Q : VK), (∀ a, A a → H a ≠ none) → DvBs A T X.K H vs xs → g xs = some w →
    (∀ v H', Grow H H' → Res A none X.K H H' v w → Q v H') → r vs H Q
def eApp (g : List PyData → Option W) (ds : Fds) : Fe := fun ρ n => (ds ρ n).bind fun p => (g p.1).map (·, p.2)
theorem app_run {g : List PyData → Option W} {r : List V → Hp → VK → Prop} {σ : St} {H : Hp} {Q : VK}
    (h2 : ∀ (A : Addr → Prop) (T : Option Addr) (vs : List V) (xs : List PyData) (w : W) (H : Hp) (Q : VK), (∀ a, A a → H a ≠ none) → DvBs A T X.K H vs xs → g xs = some w →
      (∀ v H', Grow H H' → Res A none X.K H H' v w → Q v H') → r vs H Q)
    (h : tV X.K (eApp g ds) σ H Q) : tCB r (tVD X.K ds) σ H Q := by
  obtain ⟨C, O, ρ, n, w, n', hf, E, q⟩ := h
  unfold eApp at hf
  obtain ⟨⟨xs, n1⟩, e1, hf⟩ := Option.bind_eq_some_iff.mp hf
  obtain ⟨z, e2, hf⟩ := Option.map_eq_some_iff.mp hf
  cases hf
  refine ⟨C, O, ρ, n, xs, _, e1, E, fun vs H1 s1 t1 r1 => ?_⟩
  exact h2 (Av C O) C.T vs xs _ H1 Q (E.step s1 t1).av r1 e2 fun v H2 g2 r2 => q v H2 (s1.trans g2.step) (g2.town t1) (r2.none_any.back s1.fr)
section
variable {x : Str} {p : Pos} {id T : String} {g g' : List PyData → Option W}
theorem ev_callB (hc : CallV X (.builtin id) g) (hg : Gl X x) (hm : X.mg x = none) (hv : bootBuiltins x = some (.builtin id)) (ha : EvD X (e :: es) ds) (hn : x ≠ "__name__" := by decide) (hdb : (x == ("__debug__" : Str)) = false := by decide)
    (he : starEach (e :: es) X.env = (false, eval e X.env) :: starEach es X.env := by rfl) (hpl : (backTo pos (starEach es X.env)).any (·.1) = false := by rfl) : EvE X (.Call (.Name x p) (e :: es) [] pos) (eApp g ds) := by
  obtain ⟨r, h1, h2⟩ := hc
  exact peI (pe_callB h1 hg hm hv ha hn hdb he hpl) fun σ H Q h => app_run h2 h
theorem ev_callTy (hc : CallV X (.type T) g) (hg : Gl X x) (hm : X.mg x = none) (hv : bootBuiltins x = some (.type T)) (ha : EvD X (e :: es) ds) (hn : x ≠ "__name__" := by decide) (hdb : (x == ("__debug__" : Str)) = false := by decide)
    (he : starEach (e :: es) X.env = (false, eval e X.env) :: starEach es X.env := by rfl) (hpl : (backTo pos (starEach es X.env)).any (·.1) = false := by rfl) : EvE X (.Call (.Name x p) (e :: es) [] pos) (eApp g ds) := by
  obtain ⟨r, h1, h2⟩ := hc
  exact peI (pe_callTy h1 hg hm hv ha hn hdb he hpl) fun σ H Q h => app_run h2 h
theorem CallV.or {f : Value} (hg : CallV X f g) (hh : CallV X f g') : CallV X f (fun xs => (g xs).or (g' xs)) := by
  obtain ⟨r, h1, h2⟩ := hg
  obtain ⟨r', h1', h2'⟩ := hh
  refine ⟨_, h1.or h1', fun A T vs xs w H Q tr rx e q => ?_⟩
  have e : (g xs).or (g' xs) = some w := e
  cases hx : g xs with
  | none =>
    rw [hx] at e
    exact .inr (h2' A T vs xs w H Q tr rx (by simpa using e) q)
  | some w' =>
    rw [hx] at e
    exact .inl (h2 A T vs xs w H Q tr rx (hx.trans (by simpa using e)) q)
end
/-! subscripts, slices -/
def IxV (X : Cx) (g : PyData → PyData → Option W) : Prop := ∃ r : R2, IxR X r ∧
  ∀ (A : Addr → Prop) (T : Option Addr) (x y : V) (dx dy : PyData) (w : W) (H : Hp) (Q : VK), (∀ a, A a → H a ≠ none) → DvB A T X.K H x dx → DvB A T X.K H y dy → g dx dy = some w →
    (∀ v H', Grow H H' → Res A none X.K H H' v w → Q v H') → r x y H Q
theorem ev_ix {g : PyData → PyData → Option W} (ho : IxV X g) (ha : EvB X a da) (hb : EvB X b db) (hs : PlainIx b) : EvE X (.Subscript a b pos) (eBin g da db) := by
  obtain ⟨r, h1, h2⟩ := ho
  exact peI (pe_ix h1 ha hb hs) fun σ H Q h => op_run (fo := binaryOp .Add) h2 h
def dIx : PyData → PyData → Option W
  | .list xs, .int i => (atI xs i).map .d
  | .tuple xs, .int i => (atI xs i).map .d
  | _, _ => none
theorem DvAll.at {A : Addr → Prop} {K : PySem.W.Frag} {H : Hp} {vs : List V} {xs : List PyData} {i : Int} {x : PyData} (h : DvAll A K H vs xs) (e : atI xs i = some x) : ∃ v, atI vs i = some v ∧ Dv A K H v x := by
  unfold atI at e ⊢
  rw [h.length]
  cases hj : ixN xs.length i with
  | none => rw [hj] at e; cases e
  | some j =>
    rw [hj] at e
    obtain ⟨v, h1, h2⟩ := h.get e
    exact ⟨v, h1, h2⟩
theorem ixv : IxV X dIx := ⟨_, ix_list.or ix_tup, fun A T x y dx dy w H Q tr rx ry e q => by
  cases dy with
  | int i =>
    have := ry.int; subst this
    cases dx with
    | list xs =>
      obtain ⟨z, e1, rfl⟩ := Option.map_eq_some_iff.mp (show (atI xs i).map W.d = some w from e)
      obtain ⟨a, vs, rfl, h1, h2⟩ := rx.lst
      obtain ⟨v, h3, h4⟩ := h2.at e1
      exact .inl ⟨a, vs, i, v, rfl, rfl, h1, h3, q _ _ Grow.refl h4⟩
    | tuple xs =>
      obtain ⟨z, e1, rfl⟩ := Option.map_eq_some_iff.mp (show (atI xs i).map W.d = some w from e)
      obtain ⟨a, vs, rfl, h1, h2, _⟩ := rx.tup
      obtain ⟨v, h3, h4⟩ := h2.at e1
      exact .inr ⟨a, vs, i, v, rfl, rfl, h1, h3, q _ _ Grow.refl h4⟩
    | _ => cases e
  | _ => cases dx <;> cases e⟩
abbrev Fo := List W → Nat → Option (Option Int × Nat)
def tVO (K : PySem.W.Frag) (f : Fo) : TO := fun σ H Q => ∃ C O ρ n o n', f ρ n = some (o, n') ∧ EnvOk C O K σ H ρ n ∧ ∀ H', Step C H H' → TownAt C H' n' → Q o H'
structure EvO (X : Cx) (e : Option Expr) (f : Fo) : Prop where
  ex : ∃ t, PO X e t ∧ ∀ σ H Q, tVO X.K f σ H Q → t σ H Q
def oNone : Fo := fun _ n => some (none, n)
def oSome (d : Fd) : Fo := fun ρ n => (d ρ n).bind fun p => match p.1 with
  | .int i => some (some i, p.2)
  | _ => none
theorem eo_none : EvO X none oNone := ⟨_, po_none, by
  rintro σ H Q ⟨C, O, ρ, n, w, n', hf, E, q⟩
  cases hf
  exact q _ Step.refl E.town⟩
theorem eo_some (h : EvB X e d) : EvO X (some e) (oSome d) := ⟨_, po_some h, by
  rintro σ H Q ⟨C, O, ρ, n, w, n', hf, E, q⟩
  unfold oSome at hf
  obtain ⟨⟨x, n1⟩, e1, hf⟩ := Option.bind_eq_some_iff.mp hf
  cases x with
  | int i =>
    cases hf
    refine ⟨C, O, ρ, n, _, _, e1, E, fun v H1 s1 t1 r1 => ?_⟩
    exact ⟨i, r1.int, q _ s1 t1⟩
  | _ => cases hf⟩
def SlV (X : Cx) (g : PyData → Option Int → Option Int → Option W) : Prop := ∃ r, SlR X r ∧
  ∀ (A : Addr → Prop) (T : Option Addr) (x : V) (dx : PyData) (lo hi : Option Int) (w : W) (H : Hp) (Q : VK), (∀ a, A a → H a ≠ none) → DvB A T X.K H x dx → g dx lo hi = some w →
    (∀ v H', Grow H H' → Res A none X.K H H' v w → Q v H') → r x lo hi H Q
def eSl (g : PyData → Option Int → Option Int → Option W) (d : Fd) (o o' : Fo) : Fe := fun ρ n => (d ρ n).bind fun p => (o ρ p.2).bind fun q => (o' ρ q.2).bind fun r => (g p.1 q.1 r.1).map (·, r.2)
theorem ev_slice {g : PyData → Option Int → Option Int → Option W} {lo hi : Option Expr} {o o' : Fo} {p2 : Pos} (hs : SlV X g) (ha : EvB X a d) (hl : EvO X lo o) (hu : EvO X hi o') : EvE X (.Subscript a (.Slice lo hi none p2) pos) (eSl g d o o') := by
  obtain ⟨r, h1, h2⟩ := hs
  obtain ⟨t, p1, w1⟩ := hl.ex
  obtain ⟨t', p1', w1'⟩ := hu.ex
  refine peI (pe_slice h1 ha p1 p1') ?_
  rintro σ H Q ⟨C, O, ρ, n, w, n', hf, E, q⟩
  unfold eSl at hf
  obtain ⟨⟨x, n1⟩, e1, hf⟩ := Option.bind_eq_some_iff.mp hf
  obtain ⟨⟨i, n2⟩, e2, hf⟩ := Option.bind_eq_some_iff.mp hf
  obtain ⟨⟨j, n3⟩, e3, hf⟩ := Option.bind_eq_some_iff.mp hf
  obtain ⟨z, e4, hf⟩ := Option.map_eq_some_iff.mp hf
  cases hf
  refine ⟨C, O, ρ, n, x, _, e1, E, fun v H1 s1 t1 r1 => ?_⟩
  have E1 := E.step s1 t1
  refine w1 σ H1 _ ⟨C, O, ρ, n1, i, n2, e2, E1, fun H2 s2 t2 => ?_⟩
  have E2 := E1.step s2 t2
  refine w1' σ H2 _ ⟨C, O, ρ, n2, j, _, e3, E2, fun H3 s3 t3 => ?_⟩
  refine h2 (Av C O) C.T v x i j _ H3 Q (E2.step s3 t3).av ((r1.step s2 Av.t).step s3 Av.t) e4 fun v H4 g4 r4 => ?_
  exact q v H4 (((s1.trans s2).trans s3).trans g4.step) (g4.town t3) (r4.none_any.back fun a ha => s1.fr a (s2.fr a (s3.fr a ha)))
/-- what stands from lo to ahead of hi -/
def cutD (xs : List PyData) (lo hi : Option Int) : List PyData := (xs.drop (HT.sIx xs.length 0 lo)).take (HT.sIx xs.length xs.length hi - HT.sIx xs.length 0 lo)
def dSl : PyData → Option Int → Option Int → Option W
  | .list xs, lo, hi => some (.ol (cutD xs lo hi))
  | .tuple xs, lo, hi => some (.d (.tuple (cutD xs lo hi)))
  | _, _, _ => none
theorem DvAll.cut {A : Addr → Prop} {K : PySem.W.Frag} {H : Hp} {vs : List V} {xs : List PyData} {lo hi : Option Int} (h : DvAll A K H vs xs) : DvAll A K H (cutV vs lo hi) (cutD xs lo hi) := by
  unfold cutV cutD
  rw [h.length]
  exact (h.drop _).take _
theorem slv : SlV X dSl := ⟨_, sl_list.or sl_tupF, fun A T x dx lo hi w H Q tr rx e q => by
  cases dx with
  | list xs =>
    cases e
    obtain ⟨a, vs, rfl, h1, h2⟩ := rx.lst
    exact .inl ⟨a, vs, rfl, h1, fun p hp => q _ _ (Grow.upd hp) (new_lst hp h2.cut)⟩
  | tuple xs =>
    cases e
    obtain ⟨a, vs, rfl, h1, h2, h3⟩ := rx.tup
    refine .inr ⟨a, vs, rfl, h1, fun hw => ?_, fun p o ho hp => q _ _ (Grow.upd hp) (new_tup hp tr ho h2.cut)⟩
    have e : cutD xs lo hi = xs := by
      rw [h2.length] at hw
      unfold cutD
      rw [hw.1, hw.2, List.drop_zero, Nat.sub_zero, List.take_length]
    rw [e] at q
    exact q _ _ Grow.refl h3
  | _ => cases e⟩
end
end L2.Lv
namespace L2.Lv
open PySem PySem.Spec PyProof.Rows
inductive Out where
  | nx (ρ : List W) (n : Nat)
  | rt (w : W) (n : Nat)
  | bk (ρ : List W) (n : Nat)
abbrev Fs := List W → Nat → Option Out
/-- what statements do to the heap -/
structure StepS (C : Cn) (O O' : Ow) (H H' : Hp) : Prop where
  st : ∀ a o, H a = some o → C.T ≠ some a → (∀ i, O i ≠ some a) → H' a = some o
  fr : ∀ a, H' a = none → H a = none
  ow : ∀ i a, O' i = some a → (∃ j, O j = some a) ∨ H a = none
section
variable {C : Cn} {O O' O1 O2 : Ow} {K : PySem.W.Frag} {σ : St} {H H' H1 H2 : Hp} {ρ : List W} {n n' : Nat} {v : V} {w : W} {x : PyData}
theorem Step.stepS (s : Step C H H') (h : ∀ i a, O' i = some a → (∃ j, O j = some a) ∨ H a = none) : StepS C O O' H H' := ⟨fun a o e t _ => s.st a o e t, s.fr, h⟩
theorem Step.stepS0 (s : Step C H H') : StepS C O O H H' := s.stepS fun i a h => .inl ⟨i, h⟩
theorem StepS.trans (a : StepS C O O1 H H1) (b : StepS C O1 O2 H1 H2) : StepS C O O2 H H2 := by
  refine ⟨fun x o e t ne => b.st x o (a.st x o e t ne) t fun i z => ?_, fun x h => a.fr x (b.fr x h), fun i x h => ?_⟩
  · rcases a.ow i x z with ⟨j, q⟩ | q
    · exact ne j q
    · rw [q] at e; cases e
  · rcases b.ow i x h with ⟨j, q⟩ | q
    · exact a.ow j x q
    · exact .inr (a.fr x q)
/-- what is read by no way of ours stays -/
theorem StepS.keep (s : StepS C O O' H H') : Keep (Av C O) (Av C O') H H' := fun a u na r => by
  have nt : C.T ≠ some a := fun e => na (.inr (.inl e))
  have no : ∀ i, O i ≠ some a := fun i e => na (.inr (.inr ⟨i, e⟩))
  refine ⟨?_, ?_⟩
  · rintro (z | z | ⟨i, z⟩)
    · exact na (.inl z)
    · exact nt z
    · rcases s.ow i a z with ⟨j, q⟩ | q
      · exact no j q
      · rw [q] at r; cases r
  · exact s.st _ _ r nt no
structure EndRt (C : Cn) (K : PySem.W.Frag) (H' : Hp) (n' : Nat) (v : V) (w : W) : Prop where
  base : ∀ a o, C.H0 a = some o → C.T ≠ some a → H' a = some o
  fr : ∀ a, H' a = none → C.H0 a = none
  town : TownAt C H' n'
  res : Res (Av C Ow0) C.T K C.H0 H' v w
def EndOk (C : Cn) (O : Ow) (K : PySem.W.Frag) (H : Hp) (D : Ends) : Out → Prop
  | .nx ρ' n' => ∀ O' σ' H', StepS C O O' H H' → EnvOk C O' K σ' H' ρ' n' → D.nx σ' H'
  | .rt w n' => ∀ v H', EndRt C K H' n' v w → D.rt v H'
  | .bk ρ' n' => ∀ O' σ' H', StepS C O O' H H' → EnvOk C O' K σ' H' ρ' n' → D.bk σ' H'
/-- what is ours is no one else's -/
def OwnP (C : Cn) (O : Ow) : Prop := ∀ i a, O i = some a → ¬ C.P a
theorem OwnP.step (h : OwnP C O) (E : EnvOk C O K σ H ρ n) (s : StepS C O O' H H') : OwnP C O' := fun i a e z => by
  rcases s.ow i a e with ⟨j, q⟩ | q
  · exact h j a q z
  · exact E.ptr a z q
def tVS (K : PySem.W.Frag) (f : Fs) : TS := fun D σ H => ∃ C O ρ n out, f ρ n = some out ∧ EnvOk C O K σ H ρ n ∧ OwnP C O ∧ EndOk C O K H D out
abbrev EvS (X : Cx) (st : Stmt) (f : Fs) : Prop := PS X st (tVS X.K f)
abbrev EvSs (X : Cx) (st : List Stmt) (f : Fs) : Prop := PSs X st (tVS X.K f)
theorem EndOk.after {D : Ends} {out : Out} (s : StepS C O O' H H') (h : EndOk C O K H D out) : EndOk C O' K H' D out := by
  cases out with
  | nx ρ n => exact fun O2 σ2 H2 s2 E2 => h O2 σ2 H2 (s.trans s2) E2
  | bk ρ n => exact fun O2 σ2 H2 s2 E2 => h O2 σ2 H2 (s.trans s2) E2
  | rt w n => exact h
end
section
variable {X : Cx} {e a b : Expr} {es : List Expr} {f fa fb : Fe} {d da db : Fd} {fs : Fa} {ds : Fds} {pos : Pos} {st : Stmt} {rest sts sts' : List Stmt} {g h : Fs}
theorem psI {t t' : TS} (h : PS X st t) (w : ∀ D σ H, t' D σ H → t D σ H) : PS X st t' := ⟨fun pins s σ H D I q => h.run pins s σ H D I (w D σ H q)⟩
theorem pssI {t t' : TS} (h : PSs X sts t) (w : ∀ D σ H, t' D σ H → t D σ H) : PSs X sts t' := ⟨fun pins s σ H D I q => h.run pins s σ H D I (w D σ H q)⟩
def sNil' : Fs := fun ρ n => some (.nx ρ n)
def sSeq (g h : Fs) : Fs := fun ρ n => (g ρ n).bind fun o => match o with
  | .nx ρ' n' => h ρ' n'
  | o => some o
theorem ss_nil : EvSs X [] sNil' := pssI pss_nil (by
  rintro D σ H ⟨C, O, ρ, n, out, hf, E, np, q⟩
  cases hf
  exact q O σ H Step.refl.stepS0 E)
theorem ss_cons (h1 : EvS X st g) (h2 : EvSs X rest h) : EvSs X (st :: rest) (sSeq g h) := pssI (pss_cons h1 h2) (by
  rintro D σ H ⟨C, O, ρ, n, out, hf, E, np, q⟩
  unfold sSeq at hf
  obtain ⟨o, e1, hf⟩ := Option.bind_eq_some_iff.mp hf
  refine ⟨C, O, ρ, n, o, e1, E, np, ?_⟩
  cases o with
  | nx ρ' n' => exact fun O' σ' H' s E' => ⟨C, O', ρ', n', out, hf, E', np.step E s, q.after s⟩
  | rt w n' => cases hf; exact q
  | bk ρ' n' => cases hf; exact q)
theorem ss_one (h1 : EvS X st g) : EvSs X [st] g := pss_one h1
def sBrk : Fs := fun ρ n => some (.bk ρ n)
/-! what is handed back -/
theorem EnvOk.endRt {C : Cn} {O : Ow} {K : PySem.W.Frag} {σ : St} {H H1 : Hp} {ρ : List W} {n n' : Nat} {v : V} {w : W} (E : EnvOk C O K σ H ρ n) (s : Step C H H1) (t : TownAt C H1 n') (r : Res (Av C O) C.T K H H1 v w) : EndRt C K H1 n' v w := by
  have E1 := E.step s t
  refine ⟨E1.base, E1.fr, t, (r.av (A' := Av C Ow0) ?_).back E.fr⟩
  rintro a (z | z | ⟨i, z⟩)
  · exact .inl z
  · exact .inr (.inl z)
  · cases z
def sRet (f : Fe) : Fs := fun ρ n => (f ρ n).map fun p => .rt p.1 p.2
theorem ss_ret (ha : EvE X e f) : EvS X (.Return (some e) pos) (sRet f) := psI (ps_ret ha) (by
  rintro D σ H ⟨C, O, ρ, n, out, hf, E, np, q⟩
  unfold sRet at hf
  obtain ⟨⟨w, n1⟩, e1, hf⟩ := Option.map_eq_some_iff.mp hf
  cases hf
  exact ⟨C, O, ρ, n, w, n1, e1, E, fun v H1 s t r => q v H1 (E.endRt s t r)⟩)
def sRetN : Fs := fun _ n => some (.rt (.d .none) n)
/-- a list or dict of one's own -/
def sRetO (i : Nat) : Fs := fun ρ n => match ρ[i]? with
  | some (.ol xs) => some (.rt (.ol xs) n)
  | some (.od xs) => some (.rt (.od xs) n)
  | _ => none
def sDrop (f : Fe) : Fs := fun ρ n => (f ρ n).map fun p => .nx ρ p.2
def sIf (c : Ft) (g h : Fs) : Fs := fun ρ n => (c ρ n).bind fun p => if p.1 then g ρ p.2 else h ρ p.2
theorem ss_if {c : Expr} {tc : Ft} (hc : EvT X c tc) (ha : EvSs X sts g) (hb : EvSs X sts' h) : EvS X (.If c sts sts' pos) (sIf tc g h) := psI (ps_if hc ha hb) (by
  rintro D σ H ⟨C, O, ρ, n, out, hf, E, np, q⟩
  unfold sIf at hf
  obtain ⟨⟨x, n1⟩, e1, hf⟩ := Option.bind_eq_some_iff.mp hf
  refine ⟨C, O, ρ, n, x, n1, e1, E, fun H1 s t => ?_⟩
  cases x with
  | true => exact ⟨C, O, ρ, n1, out, by simpa using hf, E.step s t, np, q.after s.stepS0⟩
  | false => exact ⟨C, O, ρ, n1, out, by simpa using hf, E.step s t, np, q.after s.stepS0⟩)
/-! stores -/
def owSet (O : Ow) (i : Nat) (o : Option Addr) : Ow := fun j => if j = i then o else O j
theorem owSet_at {O : Ow} {i : Nat} {o : Option Addr} : owSet O i o i = o := if_pos rfl
theorem owSet_of {O : Ow} {i j : Nat} {o : Option Addr} (h : j ≠ i) : owSet O i o j = O j := if_neg h
theorem EnvOk.assign {C : Cn} {O : Ow} {K : PySem.W.Frag} {σ : St} {H H1 : Hp} {ρ : List W} {n n' : Nat} {v : V} {w : W} {i : Nat} (E : EnvOk C O K σ H ρ n) (s : Step C H H1) (t : TownAt C H1 n') (r : Res (Av C O) C.T K H H1 v w) :
    ∃ O', EnvOk C O' K (σ.set i (some v)) H1 (ρ.set i w) n' ∧ StepS C O O' H H1 := by
  have E1 := E.step s t
  by_cases hi : i < ρ.length
  · have hj : ∀ j w', (ρ.set i w)[j]? = some w' → (j = i ∧ w' = w) ∨ (j ≠ i ∧ ρ[j]? = some w') := fun j w' e => by
      by_cases h : j = i
      · subst h
        rw [List.getElem?_set_self hi] at e
        cases e
        exact .inl ⟨rfl, rfl⟩
      · rw [List.getElem?_set_ne (Ne.symm h)] at e
        exact .inr ⟨h, e⟩
    have hσ : i < σ.length := by rw [← E.len]; exact hi
    -- the address that is new, if any
    have key : ∀ o : Option Addr, (∀ a, o = some a → H a = none ∧ C.T ≠ some a ∧ H1 a ≠ none) →
        SlOk (Av C (owSet O i o)) C.T K H1 (some (some v)) o (hid (owSet O i o) ρ.length i) w →
        ∃ O', EnvOk C O' K (σ.set i (some v)) H1 (ρ.set i w) n' ∧ StepS C O O' H H1 := by
      intro o ho hw
      have kp : Keep (Av C O) (Av C (owSet O i o)) H H1 := fun a u na r => by
        refine ⟨?_, s.st _ _ r (fun e => na (.inr (.inl e)))⟩
        rintro (z | z | ⟨j, z⟩)
        · exact na (.inl z)
        · exact na (.inr (.inl z))
        · by_cases h : j = i
          · rw [h, owSet_at] at z
            rw [(ho a z).1] at r; cases r
          · rw [owSet_of h] at z
            exact na (.inr (.inr ⟨j, z⟩))
      refine ⟨owSet O i o, ⟨by simpa using E.len, fun j w' e => ?_, fun j k a h1 h2 => ?_, fun j a h => ?_, t, E1.base, E1.ptr, E1.fr⟩, s.stepS fun j a h => ?_⟩
      · rw [List.length_set]
        rcases hj j w' e with ⟨rfl, rfl⟩ | ⟨ne, e⟩
        · rw [List.getElem?_set_self hσ, owSet_at]
          exact hw
        · rw [List.getElem?_set_ne (Ne.symm ne), owSet_of ne]
          have q := E.sl j w' e
          cases w' with
          | no => trivial
          | d x => obtain ⟨u, h1, h2⟩ := q; exact ⟨u, h1, h2.mono kp⟩
          | town => exact q
          | ol xs =>
            obtain ⟨a, vs, h1, h2, h3, h4⟩ := q
            exact ⟨a, vs, h1, h2, s.st _ _ h3 (E.own j a h1).1, h4.mono kp⟩
          | od kvs =>
            obtain ⟨a, h1, h2, h3⟩ := q
            exact ⟨a, h1, h2, h3.mono kp fun o e => s.st _ _ e (E.own j a h1).1⟩
          | oll xss =>
            obtain ⟨a, bs, h1, h2, h3, h4⟩ := q
            exact ⟨a, bs, h1, h2, s.st _ _ h3 (E.own j a h1).1, h4.mono kp (fun x hx => owSet_of (by omega)) fun x b u _ h e => s.st _ _ e (E.own _ b h).1⟩
      · by_cases hj : j = i
        · rw [hj, owSet_at] at h1
          by_cases hk : k = i
          · rw [hj, hk]
          · rw [owSet_of hk] at h2
            exact absurd (ho a h1).1 (E.own k a h2).2.2
        · rw [owSet_of hj] at h1
          by_cases hk : k = i
          · rw [hk, owSet_at] at h2
            exact absurd (ho a h2).1 (E.own j a h1).2.2
          · rw [owSet_of hk] at h2
            exact E.inj j k a h1 h2
      · skip
        by_cases hj : j = i
        · rw [hj, owSet_at] at h
          exact ⟨(ho a h).2.1, E.fr a (ho a h).1, (ho a h).2.2⟩
        · rw [owSet_of hj] at h
          exact E1.own j a h
      · skip
        by_cases hj : j = i
        · rw [hj, owSet_at] at h
          exact .inr (ho a h).1
        · rw [owSet_of hj] at h
          exact .inl ⟨j, h⟩
    have avn : ∀ b, Av C (owSet O i none) b → Av C O b := by
      rintro b (z | z | ⟨j, z⟩)
      · exact .inl z
      · exact .inr (.inl z)
      · by_cases h : j = i
        · rw [h, owSet_at] at z; cases z
        · rw [owSet_of h] at z; exact .inr (.inr ⟨j, z⟩)
    have avs : ∀ a b, Av C (owSet O i (some a)) b → Av C O b ∨ b = a := by
      rintro a b (z | z | ⟨j, z⟩)
      · exact .inl (.inl z)
      · exact .inl (.inr (.inl z))
      · by_cases h : j = i
        · rw [h, owSet_at] at z; cases z; exact .inr rfl
        · rw [owSet_of h] at z; exact .inl (.inr (.inr ⟨j, z⟩))
    cases w with
    | no => exact False.elim r
    | d x => exact key none (fun a e => by cases e) ⟨v, rfl, Dv.mono (fun a u na r => ⟨fun z => na (avn a z), r⟩) r⟩
    | town =>
      obtain ⟨a, h1, h2⟩ := r
      exact key none (fun a e => by cases e) ⟨a, h1, by rw [h2]⟩
    | ol xs =>
      obtain ⟨a, vs, h1, h2, h3, h4⟩ := r
      subst h1
      exact key (some a) (fun b e => by cases e; exact ⟨h2, fun z => E.tr a z h2, by rw [h3]; simp⟩) ⟨a, vs, rfl, rfl, h3, h4.mono fun b u nb r => ⟨fun z => nb (avs a b z), r⟩⟩
    | oll _ => exact False.elim r
    | od kvs =>
      obtain ⟨a, h1, h2, h3⟩ := r
      subst h1
      exact key (some a) (fun b e => by cases e; exact ⟨h2, fun z => E.tr a z h2, h3.there⟩) ⟨a, rfl, rfl, h3.mono (fun b u nb r => ⟨fun z => nb (avs a b z), r⟩) fun o e => e⟩
  · have e1 : ρ.set i w = ρ := List.set_eq_of_length_le (by omega)
    have e2 : σ.set i (some v) = σ := List.set_eq_of_length_le (by rw [← E.len]; omega)
    rw [e1, e2]
    exact ⟨O, E1, s.stepS0⟩
def sSet (i : Nat) (f : Fe) : Fs := fun ρ n => (f ρ n).map fun p => .nx (ρ.set i p.1) p.2
theorem ss_set {i : Nat} {x : Str} {pos' : Pos} (hN : X.N.Nodup) (hi : X.N[i]? = some x) (hx : Loc X.env.scope x) (ha : EvE X e f) (hs : swapsWith e (some (.Name x pos')) pos.line X.env = pure false := by rfl) (hf : X.fn x = true ∨ X.env.scope.names.lookup x = some .local := by first | exact .inl rfl | exact .inr rfl | assumption) :
    EvS X (.Assign [.Name x pos'] e pos) (sSet i f) := psI (ps_set hN hi hx ha hs hf) (by
  rintro D σ H ⟨C, O, ρ, n, out, hf, E, np, q⟩
  unfold sSet at hf
  obtain ⟨⟨w, n1⟩, e1, hf⟩ := Option.map_eq_some_iff.mp hf
  cases hf
  refine ⟨C, O, ρ, n, w, n1, e1, E, fun v H1 s t r => ?_⟩
  obtain ⟨O', E', s'⟩ := E.assign (i := i) s t r
  exact q O' _ H1 s' E')
end
end L2.Lv
namespace L2.Lv
open PySem PySem.Spec PyProof.Rows
def big : Nat := 16777216
theorem big_eq : sizeLine = big := sizeLine_eq
section
variable {C : Cn} {O : Ow} {K : PySem.W.Frag} {σ : St} {H H1 : Hp} {ρ : List W} {n n' i : Nat} {v : V} {w' : W} {a : Addr} {o : HO}
theorem keep_upd (hav : Av C O a) : Keep (Av C O) (Av C O) H (upd H a o) := fun b u nb r => by
  have ne : b ≠ a := fun e => nb (by rw [e]; exact hav)
  exact ⟨nb, by rw [upd_ne ne]; exact r⟩
end
section
variable {X : Cx} {e a b : Expr} {es : List Expr} {f fa fb : Fe} {d da db : Fd} {fs : Fa} {ds : Fds} {pos : Pos} {st : Stmt} {rest sts sts' : List Stmt} {g h : Fs}
/-! x.append(e) -/
def sApp (i : Nat) (f : Fe) : Fs := fun ρ n => (f ρ n).bind fun p => p.1.frz.val.bind fun x => match ρ[i]? with
  | some (.ol xs) => if xs.length < big then some (.nx (ρ.set i (.ol (xs ++ [x]))) p.2) else none
  | _ => none
theorem Res.val {A : Addr → Prop} {T : Option Addr} {K : PySem.W.Frag} {H H' : Hp} {v : V} {w : W} {x : PyData} (h : Res A T K H H' v w) (e : w.val = some x) : Dv A K H' v x := by
  cases w with
  | d y => cases e; exact h
  | _ => cases e
/-- the town grows -/
def sTown (i : Nat) : Fs := fun ρ n => match ρ[i]? with
  | some .town => if n < big then some (.nx ρ (n + 1)) else none
  | _ => none
theorem ss_town {i : Nat} {j : Nat} {p2 p3 p4 : Pos} (hb : PE X b (tVar i)) (hbase : attributeBase b "append" X.env (eval b X.env) = eval b X.env := by rfl)
    (hfew : ((backTo p3 (starEach [.Constant (.int 0) j p4] X.env)).all (fun x => !x.1) && (backToKw p3 (keywordEach [] X.env)).all (fun x => x.1.isSome)
      && decide ([Expr.Constant (.int 0) j p4].length + ([] : List Keyword).length + (if ([] : List Keyword).isEmpty then 0 else 1) < 30)) = true := by rfl)
    (hline : (p2.endLine == p3.line) = true := by rfl)
    (hsw : swapsWith (.Call (.Attribute b "append" p2) [.Constant (.int 0) j p4] [] p3) none pos.line X.env = pure false := by rfl) :
    EvS X (.Expr (.Call (.Attribute b "append" p2) [.Constant (.int 0) j p4] [] p3) pos) (sTown i) := psI (ps_expr (pe_bm PySem.F.plainAttrs_list PySem.F.slot_list_append PySem.F.type_list_append mt_append hb (pa_cons pe_int pa_nil) hbase hfew hline rfl rfl) hsw) (by
  rintro D σ H ⟨C, O, ρ, n, out, hf, E, np, q⟩
  unfold sTown at hf
  split at hf
  · rename_i hx
    split at hf
    · rename_i hz
      cases hf
      obtain ⟨l, h1, h2⟩ := E.sl _ _ hx
      have h3 := E.town l h1
      refine ⟨_, h2, .inl ⟨rfl, _, SqL.of h3⟩, ?_⟩
      refine ⟨l, _, .int 0, rfl, rfl, h3, by rw [List.length_replicate, big_eq]; exact hz, ?_⟩
      have ne : ∀ b, b ≠ l → upd H l (.lst (List.replicate n (V.int 0) ++ [.int 0])) b = H b := fun b hb => upd_ne hb
      have st : Step C H (upd H l (.lst (List.replicate n (V.int 0) ++ [.int 0]))) := ⟨fun b o e t => by rw [ne b (fun z => t (by rw [z]; exact h1))]; exact e, fun b e => by
        by_cases hb : b = l
        · rw [hb, upd_same] at e; cases e
        · rw [ne b hb] at e; exact e⟩
      have tw : TownAt C (upd H l (.lst (List.replicate n (V.int 0) ++ [.int 0]))) (n + 1) := fun b e => by
        have : b = l := Option.some.inj (e.symm.trans h1)
        rw [this, upd_same, List.replicate_succ']
      exact q O σ _ st.stepS0 (E.step st tw)
    · cases hf
  · cases hf)
/-- x.extend(a new list) -/
def sExt (i : Nat) (f : Fe) : Fs := fun ρ n => (f ρ n).bind fun p => match p.1, ρ[i]? with
  | .ol ys, some (.ol xs) => if xs.length + ys.length ≤ big then some (.nx (ρ.set i (.ol (xs ++ ys))) p.2) else none
  | _, _ => none
/-- x.insert(k, e) -/
def sIns (i : Nat) (d : Fd) (f : Fe) : Fs := fun ρ n => (d ρ n).bind fun k => (f ρ k.2).bind fun p => p.1.frz.val.bind fun x => match k.1, ρ[i]? with
  | .int z, some (.ol xs) => if xs.length < big ∧ 0 ≤ z ∧ z ≤ xs.length then some (.nx (ρ.set i (.ol (xs.take z.toNat ++ x :: xs.drop z.toNat))) p.2) else none
  | _, _ => none
/-! x[k] = e -/
def sSetIx (i : Nat) (d : Fd) (f : Fe) : Fs := fun ρ n => (f ρ n).bind fun p => p.1.frz.val.bind fun x => (d ρ p.2).bind fun k => match k.1, ρ[i]? with
  | .int z, some (.ol xs) => (ixN xs.length z).map fun j => .nx (ρ.set i (.ol (xs.set j x))) k.2
  | _, _ => none
/-! targets -/
abbrev Fg := PyData → List W → Option (List W)
def setV : List Nat → List V → St → St
  | i :: is, v :: vs, σ => setV is vs (σ.set i (some v))
  | _, _, σ => σ
def setD : List Nat → List PyData → List W → Option (List W)
  | [], [], ρ => some ρ
  | i :: is, x :: xs, ρ => setD is xs (ρ.set i (.d x))
  | _, _, _ => none
/-- one name, or several -/
def gOne (i : Nat) : Fg := fun x ρ => some (ρ.set i (.d x))
def gMany (is : List Nat) : Fg := fun x ρ => match x with
  | .tuple xs => setD is xs ρ
  | _ => none
/-- what a walk gives out: data, or (p) a new pair -/
def DvI (p : Bool) (A : Addr → Prop) (K : PySem.W.Frag) (H : Hp) (v : V) (x : PyData) : Prop := Dv A K H v x ∨ (p = true ∧ ∃ a vs ds, v = .ref a ∧ x = .tuple ds ∧ SqT K H a vs ∧ DvAll A K H vs ds)
theorem DvI.dv {A : Addr → Prop} {K : PySem.W.Frag} {H : Hp} {v : V} {x : PyData} (h : DvI false A K H v x) : Dv A K H v x := h.elim id fun z => nomatch z.1
def tVG (p : Bool) (K : PySem.W.Frag) (is : List Nat) (g : Fg) : TG := fun v σ H Q => ∃ C O ρ n x ρ', g x ρ = some ρ' ∧ EnvOk C O K σ H ρ n ∧ DvI p (Av C O) K H v x ∧
  ∀ O' vs, StepS C O O' H H → EnvOk C O' K (setV is vs σ) H ρ' n → Q (setV is vs σ) H
def tVGs (K : PySem.W.Frag) (is : List Nat) : TGs := fun vs σ H Q => ∃ C O ρ n xs ρ', setD is xs ρ = some ρ' ∧ EnvOk C O K σ H ρ n ∧ DvAll (Av C O) K H vs xs ∧
    ∀ O' us, StepS C O O' H H → EnvOk C O' K (setV is us σ) H ρ' n → Q (setV is us σ) H
abbrev EvG (X : Cx) (p : Bool) (e : Expr) (is : List Nat) (g : Fg) : Prop := PG X e (tVG p X.K is g)
structure EvGs (X : Cx) (es : List Expr) (is : List Nat) : Prop where
  ex : PGs X es (tVGs X.K is)
  len : is.length = es.length
theorem pgI {t t' : TG} (h : PG X e t) (w : ∀ v σ H Q, t' v σ H Q → t v σ H Q) : PG X e t' := ⟨fun pins s σ H v u Q I r q => h.run pins s σ H v u Q I r (w v σ H Q q)⟩
theorem pgsI {t t' : TGs} (h : PGs X es t) (w : ∀ v σ H Q, t' v σ H Q → t v σ H Q) : PGs X es t' := ⟨fun pins s σ H v u Q I r q => h.run pins s σ H v u Q I r (w v σ H Q q)⟩
theorem eg_one {i : Nat} {x : Str} {p : Pos} (hg : PG X (.Name x p) (gName i)) : EvG X false (.Name x p) [i] (gOne i) := pgI hg (by
  rintro v σ H Q ⟨C, O, ρ, n, x, ρ', hf, E, r, q⟩
  cases hf
  obtain ⟨O', E', s'⟩ := E.assign (i := i) (w := .d x) (v := v) (n' := n) (H1 := H) Step.refl E.town r.dv
  exact q O' [v] s' E')
theorem egs_nil : EvGs X [] [] := ⟨pgsI pgs_nil (by
  rintro vs σ H Q ⟨C, O, ρ, n, xs, ρ', hf, E, r, q⟩
  cases r with
  | nil =>
    cases hf
    exact ⟨rfl, q O [] Step.refl.stepS0 E⟩
  | cons r1 r2 => cases hf), rfl⟩
theorem egs_cons {i : Nat} {is : List Nat} {x : Str} {p : Pos} (hg : PG X (.Name x p) (gName i)) (hr : EvGs X es is) (hs : (assignEach (.Name x p :: es) X.env).map (·.2) = assign (.Name x p) X.env :: (assignEach es X.env).map (·.2) := by rfl) : EvGs X (.Name x p :: es) (i :: is) := by
  refine ⟨pgsI (pgs_cons hg hr.ex hs) ?_, by simp [hr.len]⟩
  rintro vs σ H Q ⟨C, O, ρ, n, xs, ρ', hf, E, r, q⟩
  cases r with
  | nil => cases hf
  | cons r1 r2 =>
    rename_i v vs' x xs'
    refine ⟨v, vs', rfl, ?_⟩
    obtain ⟨O1, E1, s1⟩ := E.assign (i := i) (w := .d x) (v := v) (n' := n) (H1 := H) Step.refl E.town r1
    exact ⟨C, O1, _, n, xs', ρ', hf, E1, r2.mono s1.keep, fun O' us s2 E2 => q O' (v :: us) (s1.trans s2) E2⟩
theorem setD_len : ∀ {is : List Nat} {xs : List PyData} {ρ ρ' : List W}, setD is xs ρ = some ρ' → xs.length = is.length
  | [], [], _, _, _ => rfl
  | [], _ :: _, _, _, h => by cases h
  | _ :: _, [], _, _, h => by cases h
  | i :: is, x :: xs, ρ, ρ', h => by
    have := setD_len (is := is) (xs := xs) h
    simp [this]
theorem eg_many {p : Bool} {k : Nat} {is : List Nat} (hc : X.calm = true) (h : EvGs X es is) (hn : (assignEach es X.env).length = es.length := by rfl) (hst : (assignEach es X.env).findIdx? (·.1) = none := by rfl) : EvG X p (.Tuple es k pos) is (gMany is) := pgI (pg_tup hc h.ex hn hst) (by
  rintro v σ H Q ⟨C, O, ρ, n, x, ρ', hf, E, r, q⟩
  have key : ∀ a vs ds, v = .ref a → x = .tuple ds → SqT X.K H a vs → DvAll (Av C O) X.K H vs ds → gTup X.K es.length (tVGs X.K is) v σ H Q := by
    rintro a vs ds rfl rfl r1 r2
    refine ⟨a, vs, rfl, r1, ?_, C, O, ρ, n, ds, ρ', hf, E, r2, q⟩
    rw [r2.length, setD_len hf, h.len]
  cases x with
  | tuple xs =>
    rcases r with r | ⟨_, a, vs, ds, h1, h2, h3, h4⟩
    · obtain ⟨a, vs, h1, r1, r2, _⟩ := DvB.tup (T := none) (.inl r)
      exact key a vs xs h1 rfl r1 r2
    · exact key a vs ds h1 h2 h3 h4
  | _ => cases hf)
/-- target = value -/
def sAsg (g : Fg) (f : Fe) : Fs := fun ρ n => (f ρ n).bind fun p => p.1.frz.val.bind fun x => (g x ρ).map fun ρ' => .nx ρ' p.2
theorem ss_asg {tg : Expr} {is : List Nat} {g : Fg} (ha : EvE X e f) (hg : EvG X false tg is g) (hs : swapsWithSole [tg] e pos.line X.env = pure false := by rfl) (hw : swappedStores [tg] e X.env = pure none := by rfl)
    (h1 : (assignEach [tg] X.env).map (·.2) = [assign tg X.env] := by rfl) : EvS X (.Assign [tg] e pos) (sAsg g f) := psI (ps_asg ha hg hs hw h1) (by
  rintro D σ H ⟨C, O, ρ, n, out, hf, E, np, q⟩
  unfold sAsg at hf
  obtain ⟨⟨w, n1⟩, e1, hf⟩ := Option.bind_eq_some_iff.mp hf
  obtain ⟨x, e2, hf⟩ := Option.bind_eq_some_iff.mp hf
  obtain ⟨ρ', e3, hf⟩ := Option.map_eq_some_iff.mp hf
  cases hf
  exact ⟨C, O, ρ, n, w, n1, e1, E, fun v H1 s t r => ⟨C, O, ρ, n1, x, ρ', e3, E.step s t, .inl ((r.frz E.av).val e2), fun O' vs s' E' => q O' _ H1 (s.stepS0.trans s') E'⟩⟩)
/-- a, b = x, y -/
def sPar (i j : Nat) (fs : Fa) : Fs := fun ρ n => (fs ρ n).bind fun p => match p.1 with
  | [w, w'] => some (.nx ((ρ.set i w).set j w') p.2)
  | _ => none
/-! what is walked -/
abbrev Fi := List W → Nat → Option (List PyData × Nat)
/-- it walks xs, as long as what A leaves out stands -/
def ItOk (p : Bool) (K : PySem.W.Frag) (J : It) (xs : List PyData) (A B : Addr → Prop) (H1 : Hp) : Prop :=
  ∀ H2, (∀ a o, H1 a = some o → ¬ A a → H2 a = some o) → (∀ a, H2 a = none → H1 a = none) →
    (∀ i x, xs[i]? = some x → J.go i H2 ∧ ∀ v H', J.yld i H2 v H' → Grow H2 H' ∧ ∀ B', Keep B B' H1 H2 → (∀ a, B' a → H2 a ≠ none) → DvI p B' K H' v x) ∧ J.stop xs.length H2
def TA (C : Cn) : Addr → Prop := fun a => C.T = some a
/-- of a for: what is walked is not ours -/
def tVI (p : Bool) (K : PySem.W.Frag) (f : Fi) : TI := fun σ H R => ∃ C O ρ n xs n', f ρ n = some (xs, n') ∧ EnvOk C O K σ H ρ n ∧ ∀ J H', Step C H H' → TownAt C H' n' → ItOk p K J xs (Av C O) (Av C O) H' → R J H'
/-- of a comprehension -/
def tVJ (p : Bool) (K : PySem.W.Frag) (f : Fi) : TI := fun σ H R => ∃ C O ρ n xs n', f ρ n = some (xs, n') ∧ EnvOk C O K σ H ρ n ∧ ∀ J H', Step C H H' → TownAt C H' n' → ItOk p K J xs (TA C) (Av C O) H' → R J H'
abbrev EvI (X : Cx) (p : Bool) (tg e : Expr) (f : Fi) : Prop := PI X tg e (tVI p X.K f)
abbrev EvJ (X : Cx) (p : Bool) (tg e : Expr) (f : Fi) : Prop := PI X tg e (tVJ p X.K f)
theorem piI {tg : Expr} {t t' : TI} (h : PI X tg e t) (w : ∀ σ H R, t' σ H R → t σ H R) : PI X tg e t' := ⟨fun pins s σ H R I q => h.run pins s σ H R I (w σ H R q)⟩
theorem ItOk.less {p : Bool} {K : PySem.W.Frag} {J : It} {xs : List PyData} {A A' B : Addr → Prop} {H1 : Hp} (i : ∀ a, A' a → A a) (h : ItOk p K J xs A B H1) : ItOk p K J xs A' B H1 := fun H2 k f => h H2 (fun a o e n => k a o e fun z => n (i a z)) f
theorem ej_of {p : Bool} {tg : Expr} {f : Fi} (h : EvI X p tg e f) : EvJ X p tg e f := piI h (by
  rintro σ H R ⟨C, O, ρ, n, xs, n', hf, E, q⟩
  exact ⟨C, O, ρ, n, xs, n', hf, E, fun J H' s t k => q J H' s t (k.less Av.t)⟩)
def iSeq : PyData → Option (List PyData)
  | .list xs => some xs
  | .tuple xs => some xs
  | _ => none
def iOf (d : Fd) : Fi := fun ρ n => (d ρ n).bind fun p => (iSeq p.1).map (·, p.2)
/-- a list or a tuple -/
def iLT (K : PySem.W.Frag) (tl : TE) : TI := fun σ H R => tl σ H fun x H1 => ∃ a, x = .ref a ∧ (((∃ xs, SqL K H1 a xs) ∧ R (Itl K a) H1) ∨ ((∃ xs, SqT K H1 a xs) ∧ R (Itt K a) H1))
theorem pi_seq {tg : Expr} {tl : TE} (hl : PE X e tl) : PI X tg e (iLT X.K tl) := by
  refine ⟨fun pins s σ H R I h => thn (hl.run pins s σ H _ I h) fun v s1 ⟨x, H1, I1, r1, q1⟩ => ?_⟩
  obtain ⟨a, hx, q⟩ := q1
  subst hx
  have hv : v = Value.ref a := r1
  subst hv
  have young : ∀ b ∈ [s1.heap.objs.size], FpOk X pins H1 b := fun b hb => by
    rw [List.mem_singleton.mp hb]
    exact I1.fpOk (Nat.le_refl _) (I1.hok.fresh (Nat.le_refl _))
  rcases q with ⟨⟨xs, hq⟩, q⟩ | ⟨⟨xs, hq⟩, q⟩
  · obtain ⟨its, _, p, _⟩ := I1.list hq
    exact wpAny_pyIter_list p.isList ⟨_, _, _, _, H1, rfl, I1.kept (t' := s1.toks) fun b o e => Heap.get?_push_of_some _ e, turn_list a _, ⟨_, Heap.get?_push_size _ rfl, rfl, rfl⟩, young, q⟩
  · obtain ⟨its, _, p, _⟩ := I1.tuple hq
    exact wpAny_pyIter_tuple (items := its.toArray) p ⟨_, _, _, _, H1, rfl, I1.kept (t' := s1.toks) fun b o e => Heap.get?_push_of_some _ e, turn_tuple a _, ⟨_, Heap.get?_push_size _ rfl, rfl, rfl⟩, young, q⟩
section
variable {K : PySem.W.Frag} {A B : Addr → Prop} {H H1 H2 : Hp} {vs : List V} {xs : List PyData} {l : Addr}
theorem it_list (hs : (¬ A l ∧ Rd H1 l (.lst vs)) ∨ SqL K Hz l vs) (hd : DvAll B K H1 vs xs) : ItOk false K (Itl K l) xs A B H1 := fun H2 k f => by
  have h2 : SqL K H2 l vs := hs.elim (fun ⟨na, r⟩ => .inl (r.imp (fun z => k _ _ z na) fun ⟨o, z⟩ => ⟨o, k _ _ z na⟩)) sqLz
  refine ⟨fun i x hx => ?_, vs, h2, by rw [hd.length]; exact Nat.le_refl _⟩
  obtain ⟨v, e1, e2⟩ := hd.get hx
  refine ⟨⟨vs, v, h2, e1⟩, ?_⟩
  rintro v' H' ⟨rfl, y⟩
  refine ⟨Grow.refl, fun B' kp _ => ?_⟩
  have := y vs h2
  rw [e1] at this
  cases this
  exact .inl (e2.mono kp)
theorem it_tup (hs : (¬ A l ∧ Rd H1 l (.tup vs)) ∨ SqT K Hz l vs) (hd : DvAll B K H1 vs xs) : ItOk false K (Itt K l) xs A B H1 := fun H2 k f => by
  have h2 : SqT K H2 l vs := hs.elim (fun ⟨na, r⟩ => .inl (r.imp (fun z => k _ _ z na) fun ⟨o, z⟩ => ⟨o, k _ _ z na⟩)) sqTz
  refine ⟨fun i x hx => ?_, vs, h2, by rw [hd.length]; exact Nat.le_refl _⟩
  obtain ⟨v, e1, e2⟩ := hd.get hx
  refine ⟨⟨vs, v, h2, e1⟩, ?_⟩
  rintro v' H' ⟨rfl, y⟩
  refine ⟨Grow.refl, fun B' kp _ => ?_⟩
  have := y vs h2
  rw [e1] at this
  cases this
  exact .inl (e2.mono kp)
end
/-- walked data, kept for ever -/
def iVal (f : Fe) : Fi := fun ρ n => (f ρ n).bind fun p => p.1.frz.val.bind fun x => (iSeq x).map (·, p.2)
theorem ei_seq {tg : Expr} (h : EvE X e f) : EvI X false tg e (iVal f) := piI (pi_seq h) (by
  rintro σ H R ⟨C, O, ρ, n, xs, n', hf, E, q⟩
  unfold iVal at hf
  obtain ⟨⟨w, n1⟩, e1, hf⟩ := Option.bind_eq_some_iff.mp hf
  obtain ⟨x, e2, hf⟩ := Option.bind_eq_some_iff.mp hf
  obtain ⟨ys, e3, hf⟩ := Option.map_eq_some_iff.mp hf
  cases hf
  refine ⟨C, O, ρ, n, w, n1, e1, E, fun v H1 s t r => ?_⟩
  have r' : Dv (Av C O) X.K H1 v x := (r.frz E.av).val e2
  cases x with
  | list zs =>
    cases e3
    cases r' with
    | lst hs ha => exact ⟨_, rfl, .inl ⟨⟨_, hs.elim (fun z => .inl z.2) sqLz⟩, q _ H1 s t (it_list hs ha)⟩⟩
  | tuple zs =>
    cases e3
    cases r' with
    | tup hs ha => exact ⟨_, rfl, .inr ⟨⟨_, sqT_of hs⟩, q _ H1 s t (it_tup (hs.imp (fun z => ⟨z.1, let ⟨o, z, _⟩ := z.2; .inr ⟨o, z⟩⟩) (·.1)) ha)⟩⟩
  | _ => cases e3)
/-- in a comprehension a list of one's own may be walked -/
theorem ej_seq {tg : Expr} (h : EvB X e d) : EvJ X false tg e (iOf d) := piI (pi_seq h) (by
  rintro σ H R ⟨C, O, ρ, n, xs, n', hf, E, q⟩
  unfold iOf at hf
  obtain ⟨⟨x, n1⟩, e1, hf⟩ := Option.bind_eq_some_iff.mp hf
  obtain ⟨ys, e3, hf⟩ := Option.map_eq_some_iff.mp hf
  cases hf
  refine ⟨C, O, ρ, n, x, n1, e1, E, fun v H1 s t r => ?_⟩
  have tn : ∀ a, ¬ Av C O a → ¬ TA C a := fun a h z => h (Av.t a z)
  cases x with
  | list zs =>
    cases e3
    rcases r with r | ⟨l, vs, ds, rfl, h2, h3, h4, h5⟩ | ⟨l, kvs, _, h2, _⟩
    · cases r with
      | lst hs ha => exact ⟨_, rfl, .inl ⟨⟨_, hs.elim (fun z => .inl z.2) sqLz⟩, q _ H1 s t (it_list (hs.imp (fun z => ⟨tn _ z.1, z.2⟩) id) ha)⟩⟩
    · cases h2
      exact ⟨_, rfl, .inl ⟨⟨_, SqL.of h4⟩, q _ H1 s t (it_list (.inl ⟨h3, .inl h4⟩) h5)⟩⟩
    · cases h2
  | tuple zs =>
    cases e3
    rcases r with r | ⟨l, vs, ds, rfl, h2, h3, h4, h5⟩ | ⟨l, kvs, _, h2, _⟩
    · cases r with
      | tup hs ha => exact ⟨_, rfl, .inr ⟨⟨_, sqT_of hs⟩, q _ H1 s t (it_tup (hs.imp (fun z => ⟨tn _ z.1, let ⟨o, z, _⟩ := z.2; .inr ⟨o, z⟩⟩) (·.1)) ha)⟩⟩
    · cases h2
    · cases h2
  | _ => cases e3)
/-! ranges -/
def rangeD (lo : Int) (n : Nat) : List PyData := (List.range n).map fun (i : Nat) => .int (lo + i)
def rng1 : PyData → Option (List PyData)
  | .int j => if -(2 ^ 62) ≤ j ∧ j < 2 ^ 62 then some (rangeD 0 j.toNat) else none
  | _ => none
def rng2 : PyData → PyData → Option (List PyData)
  | .int i, .int j => if -(2 ^ 62) ≤ i ∧ i < 2 ^ 62 ∧ -(2 ^ 62) ≤ j ∧ j < 2 ^ 62 then some (rangeD i (j - i).toNat) else none
  | _, _ => none
def iRng1 (d : Fd) : Fi := fun ρ n => (d ρ n).bind fun p => (rng1 p.1).map (·, p.2)
def iRng2 (da db : Fd) : Fi := fun ρ n => (da ρ n).bind fun p => (db ρ p.2).bind fun q => (rng2 p.1 q.1).map (·, q.2)
theorem it_rng {K : PySem.W.Frag} {A B : Addr → Prop} {H1 : Hp} {lo : Int} {n : Nat} : ItOk false K (Itr lo n) (rangeD lo n) A B H1 := fun H2 k f => by
  have hl : (rangeD lo n).length = n := by simp [rangeD]
  refine ⟨fun i x hx => ?_, by rw [hl]; exact Nat.le_refl _⟩
  have hi : i < n := by rw [← hl]; exact (List.getElem?_eq_some_iff.mp hx).1
  refine ⟨hi, ?_⟩
  rintro v H' ⟨rfl, rfl⟩
  refine ⟨Grow.refl, fun B' _ _ => ?_⟩
  have e : (rangeD lo n)[i]? = some (.int (lo + i)) := by simp [rangeD, hi]
  rw [e] at hx
  cases hx
  exact .inl (.int _)
theorem ei_range1 {tg : Expr} {p : Pos} (hg : Gl X "range") (hm : X.mg "range" = none) (ha : EvB X a d) (hs : starEach [a] X.env = [(false, eval a X.env)] := by rfl) : EvI X false tg (.Call (.Name "range" p) [a] [] pos) (iRng1 d) := piI (pi_range1 hg hm (pa_cons ha pa_nil hs) hs) (by
  rintro σ H R ⟨C, O, ρ, n, xs, n', hf, E, q⟩
  unfold iRng1 at hf
  obtain ⟨⟨y, n1⟩, e1, hf⟩ := Option.bind_eq_some_iff.mp hf
  obtain ⟨zs, e3, hf⟩ := Option.map_eq_some_iff.mp hf
  cases hf
  refine ⟨C, O, ρ, n, y, n1, e1, E, fun v H1 s t r => ?_⟩
  cases y with
  | int j =>
    simp only [rng1] at e3
    split at e3
    · rename_i hj
      cases e3
      exact ⟨j, by rw [r.int], hj.1, hj.2, q _ H1 s t it_rng⟩
    · cases e3
  | _ => cases e3)
end
end L2.Lv
namespace L2.Lv
open PySem PySem.Spec PyProof.Rows
def loopF (g : Fg) (body : Fs) : List PyData → Fs
  | [], ρ, n => some (.nx ρ n)
  | x :: xs, ρ, n => (g x ρ).bind fun ρ1 => (body ρ1 n).bind fun o => match o with
    | .nx ρ' n' => loopF g body xs ρ' n'
    | .bk ρ' n' => some (.nx ρ' n')
    | .rt w n' => some (.rt w n')
def sFor (fi : Fi) (g : Fg) (body : Fs) : Fs := fun ρ n => (fi ρ n).bind fun p => loopF g body p.1 ρ p.2
def loopW (c : Ft) (body : Fs) : Nat → Fs
  | 0, _, _ => none
  | k + 1, ρ, n => (c ρ n).bind fun p => if p.1 then (body ρ p.2).bind fun o => match o with
    | .nx ρ' n' => loopW c body k ρ' n'
    | .bk ρ' n' => some (.nx ρ' n')
    | .rt w n' => some (.rt w n')
    else some (.nx ρ p.2)
def wipeW (ρ : List W) : List Nat → List W
  | [] => ρ
  | v :: vs => (wipeW ρ vs).set v .no
def loopC (g : Fg) (own : List Nat) (tst : Ft) (elt : Fe) (ρ : List W) : List PyData → Nat → Option (List PyData × Nat)
  | [], n => some ([], n)
  | x :: xs, n => (g x (wipeW ρ own)).bind fun ρ1 => (tst ρ1 n).bind fun b => if b.1 then
      (elt ρ1 b.2).bind fun w => w.1.frz.val.bind fun y => (loopC g own tst elt ρ xs w.2).map fun r => (y :: r.1, r.2)
    else loopC g own tst elt ρ xs b.2
def eComp (fi : Fi) (g : Fg) (own : List Nat) (tst : Ft) (elt : Fe) : Fe := fun ρ n => (fi ρ n).bind fun p => if p.1.length ≤ big then (loopC g own tst elt ρ p.1 p.2).map fun q => (.ol q.1, q.2) else none
section
variable {X : Cx} {e a b : Expr} {es : List Expr} {f fa fb : Fe} {d da db : Fd} {fs : Fa} {ds : Fds} {pos : Pos} {st : Stmt} {rest sts sts' : List Stmt} {gs h : Fs}
theorem ss_for {p : Bool} {tg : Expr} {fi : Fi} {is : List Nat} {g : Fg} {body : Fs} (hp : PassesOwn (model X.prog X.w) X.A X.env X.xe) (hc : X.calm = true) (hi : EvI X p tg e fi) (hg : EvG X p tg is g) (hb : EvSs X sts body)
    (hs : ∀ x, foldedSetIterable e X.env x = pure x := by intro _; rfl) : EvS X (.For tg e sts [] pos) (sFor fi g body) := psI (ps_for hp hc hi hg hb hs) (by
  rintro D σ H ⟨C, O, ρ, n, out, hf, E, np, q⟩
  unfold sFor at hf
  obtain ⟨⟨xs, n1⟩, e1, hf⟩ := Option.bind_eq_some_iff.mp hf
  refine ⟨C, O, ρ, n, xs, n1, e1, E, fun J H1 s t it => ?_⟩
  refine ⟨fun i m σ' H' => ∃ O' ρ' n', m = xs.length - i ∧ i ≤ xs.length ∧ StepS C O O' H1 H' ∧ EnvOk C O' X.K σ' H' ρ' n' ∧ loopF g body (xs.drop i) ρ' n' = some out,
    ⟨_, O, ρ, n1, rfl, Nat.zero_le _, Step.refl.stepS0, E.step s t, hf⟩, ?_⟩
  rintro i m σ' H' ⟨O', ρ', n', rfl, hi, S', E', hl⟩
  obtain ⟨items, stop⟩ := it H' (fun a o e na => S'.st a o e (fun z => na (.inr (.inl z))) fun j z => na (.inr (.inr ⟨j, z⟩))) S'.fr
  by_cases hlt : i < xs.length
  · obtain ⟨go, yl⟩ := items i xs[i] (List.getElem?_eq_getElem hlt)
    rw [List.drop_eq_getElem_cons hlt] at hl
    unfold loopF at hl
    obtain ⟨ρ1, e2, hl⟩ := Option.bind_eq_some_iff.mp hl
    obtain ⟨o, e3, hl⟩ := Option.bind_eq_some_iff.mp hl
    refine .inr ⟨go, fun σ'' H'' => ∃ O'' ρ'' n'', StepS C O O'' H1 H'' ∧ EnvOk C O'' X.K σ'' H'' ρ'' n'' ∧ loopF g body (xs.drop (i + 1)) ρ'' n'' = some out, ?_, fun v H2 y => ?_⟩
    · rintro σ'' H'' ⟨O'', ρ'', n'', S'', E'', hl''⟩
      exact ⟨xs.length - (i + 1), by omega, O'', ρ'', n'', rfl, hlt, S'', E'', hl''⟩
    · obtain ⟨gr, it2⟩ := yl v H2 y
      have r := it2 (Av C O') S'.keep E'.av
      have E2 := E'.step gr.step (gr.town E'.town)
      have S2 : StepS C O O' H1 H2 := S'.trans gr.step.stepS0
      refine ⟨C, O', ρ', n', xs[i], ρ1, e2, E2, r, fun O3 vs s3 E3 => ⟨C, O3, ρ1, n', o, e3, E3, np.step E (s.stepS0.trans (S2.trans s3)), ?_⟩⟩
      cases o with
      | nx ρ4 n4 => exact fun O4 σ4 H4 s4 E4 => ⟨O4, ρ4, n4, (S2.trans s3).trans s4, E4, hl⟩
      | bk ρ4 n4 =>
        cases hl
        exact fun O4 σ4 H4 s4 E4 => q O4 σ4 H4 (s.stepS0.trans ((S2.trans s3).trans s4)) E4
      | rt w n4 =>
        cases hl
        exact q
  · have hie : i = xs.length := by omega
    subst hie
    rw [List.drop_length] at hl
    cases hl
    exact .inl ⟨stop, q O' σ' H' (s.stepS0.trans S') E'⟩)
/-! comprehensions -/
theorem wipe_get (σ : St) : ∀ (vs : List Nat) (j : Nat), (wipe σ vs)[j]? = if j ∈ vs ∧ j < σ.length then some none else σ[j]?
  | [], j => by simp [wipe]
  | v :: vs, j => by
    unfold wipe
    by_cases hv : v = j
    · subst hv
      by_cases hl : v < σ.length
      · rw [List.getElem?_set_self (by rw [wipe_length]; exact hl), if_pos ⟨List.mem_cons_self, hl⟩]
      · rw [List.getElem?_eq_none (by rw [List.length_set, wipe_length]; omega), if_neg (fun z => hl z.2), List.getElem?_eq_none (by omega)]
    · rw [List.getElem?_set_ne hv, wipe_get σ vs j]
      simp [Ne.symm hv]
theorem wipe_set {σ : St} {vs : List Nat} {i : Nat} {x : Option V} (h : i ∈ vs) : wipe (σ.set i x) vs = wipe σ vs := by
  apply List.ext_getElem?
  intro j
  rw [wipe_get, wipe_get, List.length_set]
  by_cases hj : j ∈ vs ∧ j < σ.length
  · rw [if_pos hj, if_pos hj]
  · rw [if_neg hj, if_neg hj]
    by_cases hi : i = j
    · subst hi
      have : ¬ i < σ.length := fun z => hj ⟨h, z⟩
      rw [List.getElem?_eq_none (by simpa using this), List.getElem?_eq_none (by omega)]
    · rw [List.getElem?_set_ne hi]
theorem wipe_wipe {σ : St} {vs : List Nat} : wipe (wipe σ vs) vs = wipe σ vs := by
  apply List.ext_getElem?
  intro j
  rw [wipe_get, wipe_length, wipe_get]
  split <;> rfl
theorem wipe_setV {vs : List Nat} : ∀ {is : List Nat} {us : List V} {σ : St}, (∀ i ∈ is, i ∈ vs) → wipe (setV is us σ) vs = wipe σ vs
  | [], _, _, _ => by unfold setV; rfl
  | _ :: _, [], _, _ => by unfold setV; rfl
  | i :: is, u :: us, σ, h => by
    unfold setV
    rw [wipe_setV (fun j hj => h j (List.mem_cons_of_mem _ hj)), wipe_set (h i List.mem_cons_self)]
theorem wipeW_length (ρ : List W) : ∀ vs : List Nat, (wipeW ρ vs).length = ρ.length
  | [] => rfl
  | v :: vs => by unfold wipeW; rw [List.length_set, wipeW_length ρ vs]
theorem wipeW_get (ρ : List W) : ∀ (vs : List Nat) (j : Nat), (wipeW ρ vs)[j]? = if j ∈ vs ∧ j < ρ.length then some .no else ρ[j]?
  | [], j => by simp [wipeW]
  | v :: vs, j => by
    unfold wipeW
    by_cases hv : v = j
    · subst hv
      by_cases hl : v < ρ.length
      · rw [List.getElem?_set_self (by rw [wipeW_length]; exact hl), if_pos ⟨List.mem_cons_self, hl⟩]
      · rw [List.getElem?_eq_none (by rw [List.length_set, wipeW_length]; omega), if_neg (fun z => hl z.2), List.getElem?_eq_none (by omega)]
    · rw [List.getElem?_set_ne hv, wipeW_get ρ vs j]
      simp [Ne.symm hv]
/-- in a block all that is ours, and the new list at D, is as others' -/
def blkC (C : Cn) (O : Ow) (D : Addr) : Cn := ⟨C.T, fun a => C.P a ∨ (∃ i, O i = some a) ∨ a = D, C.H0⟩
theorem blkC_av {C : Cn} {O O' : Ow} {D : Addr} : ∀ a, Av C O a ∨ a = D → Av (blkC C O D) O' a := by
  rintro a ((z | z | z) | z)
  · exact .inl (.inl z)
  · exact .inr (.inl z)
  · exact .inl (.inr (.inl z))
  · exact .inl (.inr (.inr z))
theorem blkC_va {C : Cn} {O : Ow} {D : Addr} : ∀ a, Av (blkC C O D) O a → Av C O a ∨ a = D := by
  rintro a ((z | z | z) | z | z)
  · exact .inl (.inl z)
  · exact .inl (.inr (.inr z))
  · exact .inr z
  · exact .inl (.inr (.inl z))
  · exact .inl (.inr (.inr z))
/-- the block's state -/
theorem EnvOk.blk {C : Cn} {O : Ow} {K : PySem.W.Frag} {σ : St} {H1 H' : Hp} {ρ : List W} {n n' : Nat} {D : Addr} {vs : List Nat} (E : EnvOk C O K σ H1 ρ n) (hD : H1 D = none) (s : Step C H1 H') (t : TownAt C H' n') (hD' : H' D ≠ none) :
    EnvOk (blkC C O D) O K (wipe σ vs) H' (wipeW ρ vs) n' := by
  have E1 := E.step s t
  have kp : Keep (Av C O) (Av (blkC C O D) O) H1 H' := fun a u na r => by
    refine ⟨fun z => ?_, s.st _ _ r (fun e => na (.inr (.inl e)))⟩
    rcases blkC_va a z with z | z
    · exact na z
    · rw [z, hD] at r; cases r
  refine ⟨by rw [wipeW_length, wipe_length]; exact E.len, fun i w e => ?_, E.inj, E1.own, t, E1.base, fun a z => z.elim (E1.ptr a) fun z => z.elim (fun ⟨i, z⟩ => (E1.own i a z).2.2) fun z => by rw [z]; exact hD', E1.fr⟩
  rw [wipeW_get] at e
  rw [wipe_get]
  split at e
  · cases e
    trivial
  · rename_i hn
    rw [if_neg (by rw [← E.len]; exact hn)]
    have q := E.sl i w e
    cases w with
    | no => trivial
    | d x => obtain ⟨u, h1, h2⟩ := q; exact ⟨u, h1, h2.mono kp⟩
    | town => exact q
    | ol xs =>
      obtain ⟨a, us, h1, h2, h3, h4⟩ := q
      exact ⟨a, us, h1, h2, s.st _ _ h3 (E.own i a h1).1, h4.mono kp⟩
    | od kvs =>
      obtain ⟨a, h1, h2, h3⟩ := q
      exact ⟨a, h1, h2, h3.mono kp fun o e => s.st _ _ e (E.own i a h1).1⟩
    | oll xss =>
      obtain ⟨a, bs, h1, h2, h3, h4⟩ := q
      exact ⟨a, bs, h1, h2, s.st _ _ h3 (E.own i a h1).1, h4.mono kp (fun _ _ => by rw [wipeW_length]) fun x b u _ h e => s.st _ _ e (E.own _ b h).1⟩
def bYes : Ft := fun _ n => some (true, n)
abbrev EvTs (X : Cx) (es : List Expr) (f : Ft) : Prop := PTs X es (tVT X.K f)
theorem ptsI {t t' : TT} (h : PTs X es t) (w : ∀ σ H Q, t' σ H Q → t σ H Q) : PTs X es t' := ⟨fun pins s σ H Q I q => h.run pins s σ H Q I (w σ H Q q)⟩
theorem ets_nil : EvTs X [] bYes := ptsI pts_nil (by
  rintro σ H Q ⟨C, O, ρ, n, c, n', hf, E, q⟩
  cases hf
  exact q H Step.refl E.town)
theorem comp_run {p : Bool} {K : PySem.W.Frag} {fi : Fi} {is own : List Nat} {g : Fg} {tst : Ft} {elt : Fe} (ho : ∀ i ∈ is, i ∈ own) {σ : St} {H : Hp} {Q : VK} (h : tV K (eComp fi g own tst elt) σ H Q) :
    tLc (tVJ p K fi) (tVG p K is g) (tVT K tst) (tV K elt) own σ H Q := by
  obtain ⟨C, O, ρ, n, w, n', hf, E, q⟩ := h
  unfold eComp at hf
  obtain ⟨⟨xs, n1⟩, e1, hf⟩ := Option.bind_eq_some_iff.mp hf
  simp only at hf
  split at hf
  case isFalse => cases hf
  rename_i hz
  obtain ⟨⟨ys, nf⟩, e2, hf⟩ := Option.map_eq_some_iff.mp hf
  cases hf
  refine ⟨C, O, ρ, n, xs, n1, e1, E, fun J H1 s t it D hD => ?_⟩
  have E1 := E.step s t
  have hDH : H D = none := s.fr D hD
  let Inv1 : Nat → Hp → Prop := fun i H' => ∃ n2 acc vs r, Step C H1 H' ∧ TownAt C H' n2 ∧ H' D = some (.lst vs) ∧ DvAll (fun b => Av C O b ∨ b = D) K H' vs acc ∧ acc.length ≤ i ∧ loopC g own tst elt ρ (xs.drop i) n2 = some (r, nf) ∧ acc ++ r = ys
  refine ⟨fun i m H' => m = xs.length - i ∧ i ≤ xs.length ∧ Inv1 i H', ⟨_, rfl, Nat.zero_le _, n1, [], [], ys, (Grow.upd hD).step, (Grow.upd hD).town t, upd_same, .nil, Nat.le_refl _, e2, rfl⟩, ?_⟩
  rintro i m H' ⟨rfl, hi, n2, acc, vs, r, S', T', hD', hacc, hlen, hl, hys⟩
  obtain ⟨items, stop⟩ := it H' (fun a o e na => S'.st a o e na) S'.fr
  have EB : EnvOk (blkC C O D) O K (wipe σ own) H' (wipeW ρ own) n2 := E1.blk hD S' T' (by rw [hD']; simp)
  by_cases hlt : i < xs.length
  · obtain ⟨go, yl⟩ := items i xs[i] (List.getElem?_eq_getElem hlt)
    rw [List.drop_eq_getElem_cons hlt] at hl
    unfold loopC at hl
    obtain ⟨ρ1, e3, hl⟩ := Option.bind_eq_some_iff.mp hl
    obtain ⟨⟨c, n3⟩, e4, hl⟩ := Option.bind_eq_some_iff.mp hl
    refine .inr ⟨go, Inv1 (i + 1), fun H'' z => ⟨xs.length - (i + 1), by omega, rfl, hlt, z⟩, fun v H2 y => ?_⟩
    obtain ⟨gr, it2⟩ := yl v H2 y
    have rx : DvI p (Av (blkC C O D) O) K H2 v xs[i] := it2 _ (fun a u na rd => by
      refine ⟨fun z => ?_, S'.st _ _ rd (fun e => na (.inr (.inl e)))⟩
      rcases blkC_va a z with z | z
      · exact na z
      · rw [z, hD] at rd; cases rd) EB.av
    have E2 := EB.step gr.step (gr.town EB.town)
    refine ⟨_, O, wipeW ρ own, n2, xs[i], ρ1, e3, E2, rx, fun O3 us s3 E3 => ⟨by rw [wipe_setV ho, wipe_wipe], ?_⟩⟩
    refine ⟨_, O3, ρ1, n2, c, n3, e4, E3, fun H3 s4 t4 => ?_⟩
    have E4 := E3.step s4 t4
    have toC : ∀ {Ha Hb : Hp}, Step ((blkC C O D) : Cn) Ha Hb → Step C Ha Hb := fun {Ha Hb} z => ⟨z.st, z.fr⟩
    have S3 : Step C H1 H3 := (S'.trans gr.step).trans (toC s4)
    have TD : C.T ≠ some D := fun z => E1.tr D z hD
    have hD3 : H3 D = some (.lst vs) := s4.st _ _ (gr _ _ hD') TD
    have hacc3 : DvAll (fun b => Av C O b ∨ b = D) K H3 vs acc := (hacc.mono gr.keep).mono ((toC s4).keep fun a z => .inl (.inr (.inl z)))
    cases c with
    | false =>
      simp only [Bool.false_eq_true, if_false] at hl ⊢
      exact ⟨n3, acc, vs, r, S3, t4, hD3, hacc3, by omega, hl, hys⟩
    | true =>
      simp only [if_true] at hl ⊢
      obtain ⟨⟨wy, n4⟩, e5, hl⟩ := Option.bind_eq_some_iff.mp hl
      obtain ⟨y', e6, hl⟩ := Option.bind_eq_some_iff.mp hl
      obtain ⟨⟨r', n5⟩, e7, hl⟩ := Option.map_eq_some_iff.mp hl
      cases hl
      refine ⟨_, O3, ρ1, n3, wy, n4, e5, E4, fun vy H4 s5 t5 ry => ?_⟩
      have ry' : Dv (Av (blkC C O D) O3) K H4 vy y' := (ry.frz E4.av).val e6
      have hD4 : H4 D = some (.lst vs) := s5.st _ _ hD3 TD
      have hacc4 := hacc3.mono ((toC s5).keep fun a z => .inl (.inr (.inl z)))
      have S4 : Step C H1 H4 := S3.trans (toC s5)
      have ne : ∀ b u, b ≠ D → upd H4 D u b = H4 b := fun b u hb => upd_ne hb
      have kp : Keep (fun b => Av C O b ∨ b = D) (fun b => Av C O b ∨ b = D) H4 (upd H4 D (.lst (vs ++ [vy]))) := fun a u na rd => ⟨na, by
        rw [upd_ne (fun z => na (.inr z))]
        exact rd⟩
      have kq : Keep (Av (blkC C O D) O3) (fun b => Av C O b ∨ b = D) H4 H4 := fun a u na rd => ⟨fun z => na (blkC_av a z), rd⟩
      have nn : ∀ b, upd H4 D (.lst (vs ++ [vy])) b = none → H4 b = none := fun b z => by
        by_cases h : b = D
        · rw [h, upd_same] at z; cases z
        · rw [upd_ne h] at z; exact z
      refine ⟨vs, hD4, by rw [hacc.length, big_eq]; omega, n4, acc ++ [y'], vs ++ [vy], r', ⟨fun a o z t => ?_, fun a z => S4.fr a (nn a z)⟩, fun a z => ?_, upd_same, (hacc4.append (.cons (ry'.mono kq) .nil)).mono kp, by rw [List.length_append]; simp; omega, e7, ?_⟩
      · rw [upd_ne (fun h => by rw [h, hD] at z; cases z)]
        exact S4.st a o z t
      · rw [upd_ne (fun h => TD (by rw [← h]; exact z))]
        exact t5 a z
      · rw [List.append_assoc]
        exact hys
  · have hie : i = xs.length := by omega
    subst hie
    rw [List.drop_length] at hl
    cases hl
    rw [List.append_nil] at hys
    subst hys
    exact .inl ⟨stop, q _ _ (s.trans S') T' ⟨D, vs, rfl, hDH, hD', hacc⟩⟩
end
end L2.Lv
namespace L2.Lv
open PySem PySem.Spec PyProof.Rows
/-! comprehensions as expressions -/
section
variable {X : Cx} {e a b : Expr} {es : List Expr} {f fa fb : Fe} {d da db : Fd} {fs : Fa} {ds : Fds} {pos : Pos} {st : Stmt} {rest sts sts' : List Stmt} {gs h : Fs}
theorem ev_lc {elt tg iter : Expr} {ifs : List Expr} {scope : Scope} {own : List (Str × Nat)} {p : Bool} {fi : Fi} {is : List Nat} {g : Fg} {tst : Ft} {fe : Fe} (hc : X.calm = true) (hN : X.N.Nodup) (hi : EvJ X p tg iter fi) (ok : BlkOk X.N X.env.scope scope own)
    (hg : ∀ (s : Shared) (H : Hp) (C : Addr) (cl : List (Str × Addr)) (fp : List Addr), EvG (X.blk s H scope (compEnvC scope cl C X.env) fp) p tg is g)
    (ht : ∀ (s : Shared) (H : Hp) (C : Addr) (cl : List (Str × Addr)) (fp : List Addr), EvTs (X.blk s H scope (compEnvC scope cl C X.env) fp) ifs tst)
    (he : ∀ (s : Shared) (H : Hp) (C : Addr) (cl : List (Str × Addr)) (fp : List Addr), EvE (X.blk s H scope (compEnvC scope cl C X.env) fp) elt fe)
    (ho : ∀ i ∈ is, i ∈ own.map (·.2) := by decide) (hs : ∀ x, foldedSetIterable iter X.env x = pure x := by intro _; rfl) :
    EvE X (.ListComp elt [⟨tg, iter, ifs, 0⟩] scope pos) (eComp fi g (own.map (·.2)) tst fe) :=
  peI (pe_lc hc hN hi ok hg ht he hs) fun σ H Q h => comp_run ho h
theorem ss_setLcF {i : Nat} {y : Str} {py : Pos} {elt tg iter : Expr} {ifs : List Expr} {scope : Scope} {own : List (Str × Nat)} {spos : Pos} {p : Bool} {fi : Fi} {is : List Nat} {g : Fg} {tst : Ft} {fe : Fe} (hc : X.calm = true) (hN : X.N.Nodup) (hy : X.N[i]? = some y) (hyl : X.env.scope.names.lookup y = some .local)
    (hsw : swapsWith (.ListComp elt [⟨tg, iter, ifs, 0⟩] scope pos) (some (.Name y py)) spos.line X.env = pure true) (hi : EvJ X p tg iter fi) (ok : BlkOk X.N X.env.scope scope own)
    (hg : ∀ (s : Shared) (H : Hp) (C : Addr) (cl : List (Str × Addr)) (fp : List Addr), EvG (X.blk s H scope (compEnvC scope cl C X.env) fp) p tg is g)
    (ht : ∀ (s : Shared) (H : Hp) (C : Addr) (cl : List (Str × Addr)) (fp : List Addr), EvTs (X.blk s H scope (compEnvC scope cl C X.env) fp) ifs tst)
    (he : ∀ (s : Shared) (H : Hp) (C : Addr) (cl : List (Str × Addr)) (fp : List Addr), EvE (X.blk s H scope (compEnvC scope cl C X.env) fp) elt fe)
    (ho : ∀ i ∈ is, i ∈ own.map (·.2) := by decide) (hs : ∀ x, foldedSetIterable iter X.env x = pure x := by intro _; rfl) :
    EvS X (.Assign [.Name y py] (.ListComp elt [⟨tg, iter, ifs, 0⟩] scope pos) spos) (sSet i (eFrz (eComp fi g (own.map (·.2)) tst fe))) :=
  psI (ps_setLc hc hN hy hyl hsw hi ok hg ht he hs) (by
    rintro D σ H ⟨C, O, ρ, n, out, hf, E, np, q⟩
    unfold sSet at hf
    obtain ⟨⟨w, n1⟩, e1, hf⟩ := Option.map_eq_some_iff.mp hf
    cases hf
    unfold eFrz at e1
    obtain ⟨⟨w0, n2⟩, e0, e1⟩ := Option.map_eq_some_iff.mp e1
    cases e1
    refine comp_run ho ⟨C, O, ρ, n, w0, _, e0, E, fun v H1 s t r => ?_⟩
    obtain ⟨O', E', s'⟩ := E.assign (i := i) s t (r.frz E.av)
    exact q O' _ H1 s' E')
/-- a list of one's own is given away -/
def frzAt (i : Nat) (g : Fs) : Fs := fun ρ n => match ρ[i]? with
  | some w => g (ρ.set i w.frz) n
  | none => none
theorem EnvOk.frzAt {C : Cn} {O : Ow} {K : PySem.W.Frag} {σ : St} {H : Hp} {ρ : List W} {n i : Nat} {w : W} (E : EnvOk C O K σ H ρ n) (np : OwnP C O) (e : ρ[i]? = some w) : ∃ O', EnvOk C O' K σ H (ρ.set i w.frz) n ∧ StepS C O O' H H := by
  have same : ∀ w', w' = w → ∃ O', EnvOk C O' K σ H (ρ.set i w') n ∧ StepS C O O' H H := by
    rintro w' rfl
    have h : ρ.set i w' = ρ := by
      apply List.ext_getElem?
      intro j
      by_cases h : i = j
      · subst h
        rw [List.getElem?_set_self (List.getElem?_eq_some_iff.mp e).1, e]
      · rw [List.getElem?_set_ne h]
    rw [h]
    exact ⟨O, E, Step.refl.stepS0⟩
  cases w with
  | no => exact same _ rfl
  | d x => exact same _ rfl
  | town => exact same _ rfl
  | od x => exact same _ rfl
  | oll x => exact same _ rfl
  | ol xs =>
    obtain ⟨a, vs, h1, h2, h3, h4⟩ := E.sl i _ e
    have hi : i < σ.length := (List.getElem?_eq_some_iff.mp h2).1
    have hs : σ.set i (some (.ref a)) = σ := by
      apply List.ext_getElem?
      intro j
      by_cases h : i = j
      · subst h
        rw [List.getElem?_set_self hi, h2]
      · rw [List.getElem?_set_ne h]
    have kp : Keep (Av C O) (Av C (owSet O i none)) H H := fun b u nb r => ⟨fun z => nb (by
      rcases z with z | z | ⟨j, z⟩
      · exact .inl z
      · exact .inr (.inl z)
      · by_cases h : j = i
        · rw [h, owSet_at] at z; cases z
        · rw [owSet_of h] at z; exact .inr (.inr ⟨j, z⟩)), r⟩
    have na : ¬ Av C (owSet O i none) a := by
      rintro (z | z | ⟨j, z⟩)
      · exact np i a h1 z
      · exact (E.own i a h1).1 z
      · by_cases h : j = i
        · rw [h, owSet_at] at z; cases z
        · rw [owSet_of h] at z; exact h (E.inj j i a z h1)
    refine ⟨owSet O i none, ⟨by simpa using E.len, fun j w' e' => ?_, fun j k b h h' => ?_, fun j b h => ?_, E.town, E.base, E.ptr, E.fr⟩, Step.refl.stepS fun j b h => ?_⟩
    · by_cases h : j = i
      · subst h
        rw [List.getElem?_set_self (List.getElem?_eq_some_iff.mp e).1] at e'
        cases e'
        exact ⟨_, h2, .lst (.inl ⟨na, .inl h3⟩) (h4.mono kp)⟩
      · rw [List.getElem?_set_ne (Ne.symm h)] at e'
        rw [owSet_of h]
        have q := E.sl j w' e'
        cases w' with
        | no => trivial
        | d x => obtain ⟨u, h1, h2⟩ := q; exact ⟨u, h1, h2.mono kp⟩
        | town => exact q
        | ol xs => obtain ⟨b, us, h1, h2, h3, h4⟩ := q; exact ⟨b, us, h1, h2, h3, h4.mono kp⟩
        | od kvs => obtain ⟨b, h1, h2, h3⟩ := q; exact ⟨b, h1, h2, h3.mono kp fun o e => e⟩
        | oll xss => obtain ⟨b, bs, h1, h2, h3, h4⟩ := q; exact ⟨b, bs, h1, h2, h3, h4.mono kp (fun x hx => by rw [List.length_set]; exact owSet_of (by have := (List.getElem?_eq_some_iff.mp e).1; omega)) fun _ _ _ _ _ e => e⟩
    · by_cases hj : j = i
      · rw [hj, owSet_at] at h; cases h
      · by_cases hk : k = i
        · rw [hk, owSet_at] at h'; cases h'
        · rw [owSet_of hj] at h; rw [owSet_of hk] at h'; exact E.inj j k b h h'
    · by_cases hj : j = i
      · rw [hj, owSet_at] at h; cases h
      · rw [owSet_of hj] at h; exact E.own j b h
    · by_cases hj : j = i
      · rw [hj, owSet_at] at h; cases h
      · rw [owSet_of hj] at h; exact .inl ⟨j, h⟩
/-! a def by its body -/
def runB (m : Nat) (g : Fs) : Fn := fun ws n => (g (ws ++ List.replicate (m - ws.length) .no) n).bind fun o => match o with
  | .rt w n' => some (w, n')
  | .nx _ n' => some (.d .none, n')
  | .bk _ _ => none
theorem start_env {T : Option Addr} {P : Addr → Prop} {K : PySem.W.Frag} {N : List Str} {H : Hp} {ws : List W} {vs : List V} {n : Nat} (hP : ∀ a, P a → H a ≠ none) (t : TownAt ⟨T, P, H⟩ H n) (ha : ArgsOk (Av ⟨T, P, H⟩ Ow0) T K H vs ws) :
    EnvOk ⟨T, P, H⟩ Ow0 K (start N vs) H (ws ++ List.replicate (N.length - ws.length) .no) n := by
  have hl : vs.length = ws.length := Paired.length ha
  refine ⟨by simp [start, hl], fun i w e => ?_, fun i j a h => (nomatch h), fun i a h => (nomatch h), t, fun a o h _ => h, hP, fun a h => h⟩
  by_cases hi : i < ws.length
  · rw [List.getElem?_append_left hi] at e
    have get : ∀ {vs : List V} {ws : List W} {i : Nat} {w : W}, ArgsOk (Av ⟨T, P, H⟩ Ow0) T K H vs ws → ws[i]? = some w → ∃ v, vs[i]? = some v ∧ ArgOk (Av ⟨T, P, H⟩ Ow0) T K H v w := by
      intro vs ws i w h e
      induction h generalizing i with
      | nil => simp at e
      | cons r t ih =>
        cases i with
        | zero => simp at e; subst e; exact ⟨_, rfl, r⟩
        | succ i =>
          obtain ⟨v, h1, h2⟩ := ih (i := i) (by simpa using e)
          exact ⟨v, by simpa using h1, h2⟩
    obtain ⟨v, h1, h2⟩ := get ha e
    have hs : (start N vs)[i]? = some (some v) := by
      unfold start
      rw [List.getElem?_append_left (by rw [List.length_map, hl]; exact hi), List.getElem?_map, h1]
      rfl
    rw [hs]
    cases w with
    | d x => exact ⟨v, rfl, h2⟩
    | town => obtain ⟨a, z1, z2⟩ := h2; exact ⟨a, z1, by rw [z2]⟩
    | no => trivial
    | ol _ => exact False.elim h2
    | od _ => exact False.elim h2
    | oll _ => exact False.elim h2
  · rw [List.getElem?_append_right (by omega), List.getElem?_replicate] at e
    split at e
    · cases e
      trivial
    · cases e
theorem fn_val {P : Program} {w : World} {K : PySem.W.Frag} {mg : Str → Option Value} {base : Heap} {x qual : Str} {st : Stmt} {f : Addr} {fd : FuncData} {N ps : List Str} {k : Nat} {g : Fs} (F : Fun K x qual st f fd) (S : FnScope N ps (defScope st))
    (hb : ∀ (cdv : Value) (A : Around) (outer : List Env) (s : Shared) (H : Hp) (E : XK), Room k (A.deeper (envOfC qual (defScope st) s.heap.objs.size f cdv)) →
      EvSs (cxOf CX0 P w K mg base N qual (defScope st) f cdv A outer s H E).nox (defBody st) g) : FnOk P w K mg base CX0 (k + 1) f fd ps (spOf K ps.length (runB N.length g)) := by
  refine F.ok S spOf.len fun cdv A outer s H vs Q E hr h => ⟨_, hb cdv A outer s H E hr, ?_⟩
  obtain ⟨T, Pp, ws, n, w, n', hP, t, hl, ha, hf, q⟩ := h
  unfold runB at hf
  obtain ⟨o, e1, hf⟩ := Option.bind_eq_some_iff.mp hf
  refine ⟨⟨T, Pp, H⟩, Ow0, _, n, o, e1, start_env hP t ha, fun i a z => (nomatch z), ?_⟩
  cases o with
  | rt w1 n1 =>
    cases hf
    exact fun v H' r => q v H' ⟨r.base, r.fr⟩ r.town r.res
  | nx ρ1 n1 =>
    cases hf
    exact fun O' σ' H' s E' => q .non H' ⟨E'.base, E'.fr⟩ E'.town .non
  | bk ρ1 n1 => cases hf
end
end L2.Lv
namespace L2.Lv
open PySem PySem.Spec PyProof.Rows
section
variable {X : Cx} {e a b : Expr} {es : List Expr} {f fa fb : Fe} {d da db : Fd} {fs : Fa} {ds : Fds} {pos : Pos}
/-! ints -/
def dI (C : Int → Int → Bool) (g : Int → Int → Int) : PyData → PyData → Option W
  | .int i, .int j => if C i j then some (.d (.int (g i j))) else none
  | _, _ => none
theorem opv_I {f : Value → Value → Sem Value} {Cp : Int → Int → Prop} {C : Int → Int → Bool} {g : Int → Int → Int} (h : OpR X f (rI Cp fun i j => .int (g i j))) (hc : ∀ i j, C i j = true → Cp i j) : OpV X f (dI C g) := ⟨_, h, fun A T x y dx dy w H Q tr rx ry e q => by
  cases dx with
  | int i =>
    cases dy with
    | int j =>
      simp only [dI] at e
      split at e
      · rename_i hC
        cases e
        exact ⟨i, j, rx.int, ry.int, hc i j hC, q _ _ Grow.refl (.int _)⟩
      · cases e
    | _ => cases e
  | _ => cases e⟩
def yesC : Int → Int → Bool := fun _ _ => true
theorem rI_of {f : Value → Value → Sem Value} {g : Int → Int → V} (h : OpR X f (rI0 g)) : OpR X f (rI (fun _ _ => True) g) := fun pins s σ H x y v u Q I rx ry ⟨i, j, h1, h2, _, q⟩ => h pins s σ H x y v u Q I rx ry ⟨i, j, h1, h2, q⟩
abbrev dAddI := dI yesC (· + ·)
abbrev dSub := dI yesC (· - ·)
def mulC (i j : Int) : Bool := decide ((-(2 ^ 64) < i ∧ i < 2 ^ 64) ∨ (-(2 ^ 64) < j ∧ j < 2 ^ 64))
abbrev dMul := dI mulC (· * ·)
def divC (_ j : Int) : Bool := decide (0 < j ∧ j < 1073741824)
abbrev dDiv := dI divC (· / ·)
def modC (_ j : Int) : Bool := decide (0 < j)
abbrev dMod := dI modC (· % ·)
theorem ov_addI : OpV X (binaryOp .Add) dAddI := opv_I (rI_of op_add) fun _ _ _ => trivial
theorem ov_sub : OpV X (binaryOp .Sub) dSub := opv_I (rI_of op_sub) fun _ _ _ => trivial
theorem ov_mul : OpV X (binaryOp .Mult) dMul := opv_I op_mul fun i j h => of_decide_eq_true (p := (-(2 ^ 64) < i ∧ i < 2 ^ 64) ∨ (-(2 ^ 64) < j ∧ j < 2 ^ 64)) h
theorem ov_div : OpV X (binaryOp .FloorDiv) dDiv := opv_I op_fdiv fun i j h => of_decide_eq_true (p := 0 < j ∧ j < 1073741824) h
theorem ov_mod : OpV X (binaryOp .Mod) dMod := opv_I op_mod fun _ _ h => of_decide_eq_true h
/-! t + u, xs + ys, s + t -/
def dCatT : PyData → PyData → Option W
  | .tuple xs, .tuple ys => if xs.length + ys.length ≤ big then some (.d (.tuple (xs ++ ys))) else none
  | _, _ => none
theorem ov_catT : OpV X (binaryOp .Add) dCatT := ⟨_, op_catF, fun A T x y dx dy w H Q tr rx ry e q => by
  cases dx with
  | tuple xs =>
    cases dy with
    | tuple ys =>
      simp only [dCatT] at e
      split at e
      · rename_i hz
        cases e
        obtain ⟨a, vs, rfl, h1, h2, h3⟩ := rx.tup
        obtain ⟨b, us, rfl, k1, k2, k3⟩ := ry.tup
        refine ⟨a, b, vs, us, rfl, rfl, h1, k1, by rw [h2.length, k2.length, big_eq]; exact hz, fun z => ?_, fun z => ?_, fun p o ho hp => q _ _ (Grow.upd hp) (new_tup hp tr ho (h2.append k2))⟩
        · subst z
          cases h2
          exact q _ _ Grow.refl k3
        · subst z
          cases k2
          rw [List.append_nil] at q
          exact q _ _ Grow.refl h3
      · cases e
    | _ => cases e
  | _ => cases e⟩
def rCatR (K : PySem.W.Frag) : R2 := fun x y H Q => ∃ l b xs zs, x = .ref l ∧ y = .ref b ∧ SqL K H l xs ∧ SqL K H b zs ∧ xs.length + zs.length ≤ sizeLine ∧ ∀ p, H p = none → Q (.ref p) (upd H p (.lst (xs ++ zs)))
theorem op_catR : OpR X (binaryOp .Add) (rCatR X.K) := by
  rintro pins s σ H x y v u Q I rx ry ⟨l, b, xs, zs, rfl, rfl, hH, hB, hz, q⟩
  have hv : v = .ref l := rx
  have hu : u = .ref b := ry
  subst hv hu
  obtain ⟨its, r, ⟨⟨cls, dd, data, sl⟩, n, e, hc, hdd, hd⟩, z⟩ := I.list hH
  obtain ⟨its2, r2, ⟨⟨cls2, dd2, data2, sl2⟩, n2, e2, hc2, hdd2, hd2⟩, z2⟩ := I.list hB
  simp only at hc hd hc2 hd2
  subst hc hd hc2 hd2
  have l1 := r.length
  have l2 := r2.length
  refine concat_meets ⟨_, e, rfl⟩ ⟨_, e2, rfl⟩ noFill_list_add seq_list_add PySem.F.slot_list_add PySem.F.entry_list_add (PySem.F.args_list_add_2 _ _) (list_addW l b its.toArray its2.toArray n n2 dd dd2 sl sl2 (by rw [List.size_toArray, List.size_toArray]; omega)) ⟨e, e2, ?_⟩
  rw [show its.toArray ++ its2.toArray = (its ++ its2).toArray by simp]
  exact ⟨.ref _, _, I.lnew (t' := s.toks) (r.append r2) (by rw [List.length_append]; omega), rfl, q _ I.fresh⟩
def dCatL : PyData → PyData → Option W
  | .list xs, .list ys => if xs.length + ys.length ≤ big then some (.ol (xs ++ ys)) else none
  | _, _ => none
theorem ov_catL : OpV X (binaryOp .Add) dCatL := ⟨_, op_catR, fun A T x y dx dy w H Q tr rx ry e q => by
  cases dx with
  | list xs =>
    cases dy with
    | list ys =>
      simp only [dCatL] at e
      split at e
      · rename_i hz
        cases e
        obtain ⟨a, vs, rfl, h1, h2⟩ := rx.lst
        obtain ⟨b, us, rfl, k1, k2⟩ := ry.lst
        exact ⟨a, b, vs, us, rfl, rfl, h1, k1, by rw [h2.length, k2.length, big_eq]; exact hz, fun p hp => q _ _ (Grow.upd hp) (new_lst hp (h2.append k2))⟩
      · cases e
    | _ => cases e
  | _ => cases e⟩
def dCatS : PyData → PyData → Option W
  | .str xs, .str ys => if xs.length + ys.length ≤ big then some (.d (.str (xs ++ ys))) else none
  | _, _ => none
theorem ov_catS : OpV X (binaryOp .Add) dCatS := ⟨_, op_add_str, fun A T x y dx dy w H Q tr rx ry e q => by
  cases dx with
  | str xs =>
    cases dy with
    | str ys =>
      simp only [dCatS] at e
      split at e
      · rename_i hz
        cases e
        exact ⟨xs, ys, rx.str, ry.str, by rw [big_eq]; exact hz, q _ _ Grow.refl (.str _)⟩
      · cases e
    | _ => cases e
  | _ => cases e⟩
/-- + of ints, tuples, lists -/
def dAdd : PyData → PyData → Option W := fun x y => match x, y with
  | .int i, .int j => some (.d (.int (i + j)))
  | .tuple xs, .tuple ys => if xs.length + ys.length ≤ big then some (.d (.tuple (xs ++ ys))) else none
  | .list xs, .list ys => if xs.length + ys.length ≤ big then some (.ol (xs ++ ys)) else none
  | .str xs, .str ys => if xs.length + ys.length ≤ big then some (.d (.str (xs ++ ys))) else none
  | _, _ => none
theorem OpV.cast {f : Value → Value → Sem Value} {g g' : PyData → PyData → Option W} (h : OpV X f g) (e : ∀ x y, g' x y = g x y) : OpV X f g' := by
  have : g' = g := funext fun x => funext fun y => e x y
  rw [this]; exact h
theorem ov_add : OpV X (binaryOp .Add) dAdd := (((ov_addI.or ov_catT).or ov_catL).or ov_catS).cast fun x y => by
  cases x <;> cases y <;> simp [dAdd, dI, yesC, dCatT, dCatL, dCatS]
/-! == and != -/
def shp (x : PyData) : Bool := SeqAt.shaped x
def dEq (x y : PyData) : Option W := if shp x && shp y then some (.d (.bool (PyData.eqv x y))) else none
def dNe (x y : PyData) : Option W := if shp x && shp y then some (.d (.bool (!PyData.eqv x y))) else none
theorem DvB.dp {A : Addr → Prop} {T : Option Addr} {K : PySem.W.Frag} {H : Hp} {v : V} {x : PyData} (h : DvB A T K H v x) (hs : shp x = true) : Dp K H v x := by
  rcases h with h | ⟨a, vs, ds, rfl, rfl, _, h4, h5⟩ | ⟨a, kvs, _, rfl, _⟩
  · exact h.dp
  · exact .lst (SqL.of h4) h5.dp
  · exact absurd hs (by simp [shp, SeqAt.shaped, PyData.canLay0])
theorem ov_eq (hu : X.A.units + 64 < cLine) : OpV X (compareOp .Eq) dEq := ⟨_, op_eqD hu, fun A T x y dx dy w H Q tr rx ry e q => by
  unfold dEq at e
  split at e
  · rename_i hs
    rw [Bool.and_eq_true] at hs
    cases e
    exact ⟨dx, dy, rx.dp hs.1, ry.dp hs.2, hs.1, hs.2, q _ _ Grow.refl (.bl _)⟩
  · cases e⟩
theorem ov_ne (hu : X.A.units + 64 < cLine) : OpV X (compareOp .NotEq) dNe := ⟨_, op_neD hu, fun A T x y dx dy w H Q tr rx ry e q => by
  unfold dNe at e
  split at e
  · rename_i hs
    rw [Bool.and_eq_true] at hs
    cases e
    exact ⟨dx, dy, rx.dp hs.1, ry.dp hs.2, hs.1, hs.2, q _ _ Grow.refl (.bl _)⟩
  · cases e⟩
/-! is None -/
def isNo : PyData → Bool
  | .none => true
  | _ => false
def dIsN : PyData → PyData → Option W
  | x, .none => some (.d (.bool (isNo x)))
  | _, _ => none
def dNotN : PyData → PyData → Option W
  | x, .none => some (.d (.bool (!isNo x)))
  | _, _ => none
theorem DvB.isN {A : Addr → Prop} {T : Option Addr} {K : PySem.W.Frag} {H : Hp} {v : V} {x : PyData} (h : DvB A T K H v x) : decide (v = .non) = isNo x := by
  cases x with
  | none => rw [h.non]; rfl
  | bool b => rw [h.bl]; rfl
  | int b => rw [h.int]; rfl
  | str b => rw [h.str]; rfl
  | list b => obtain ⟨a, vs, rfl, _⟩ := h.lst; rfl
  | tuple b => obtain ⟨a, vs, rfl, _⟩ := h.tup; rfl
  | dict b => obtain ⟨a, rfl, _⟩ := h.dct; rfl
theorem ov_isN : OpV X (compareOp .Is) dIsN := ⟨_, op_isN, fun A T x y dx dy w H Q tr rx ry e q => by
  cases dy with
  | none =>
    cases e
    exact ⟨ry.non, by rw [rx.isN]; exact q _ _ Grow.refl (.bl _)⟩
  | _ => cases e⟩
/-! order -/
def intsOf : List PyData → Option (List Int)
  | [] => some []
  | .int i :: xs => (intsOf xs).map (i :: ·)
  | _ :: _ => none
theorem intsOf_ok : ∀ {xs : List PyData} {ns : List Int}, intsOf xs = some ns → xs = ns.map .int
  | [], _, h => by cases h; rfl
  | x :: xs, ns, h => by
    cases x with
    | int i =>
      obtain ⟨ms, h1, h2⟩ := Option.map_eq_some_iff.mp (show (intsOf xs).map (i :: ·) = some ns from h)
      subst h2
      rw [intsOf_ok h1]
      rfl
    | _ => cases h
@[simp] theorem intsOf_map : ∀ (ns : List Int), intsOf (ns.map .int) = some ns
  | [] => rfl
  | n :: ns => by show (intsOf (ns.map .int)).map (n :: ·) = _; rw [intsOf_map ns]; rfl
theorem DvAll.ints {A : Addr → Prop} {K : PySem.W.Frag} {H : Hp} : ∀ {ns : List Int} {vs : List V}, DvAll A K H vs (ns.map .int) → vs = ns.map V.int
  | [], _, h => by cases h; rfl
  | n :: ns, _, h => by
    cases h with
    | cons h1 h2 => cases h1; rw [DvAll.ints h2]; rfl
def lexB (r : Int → Int → Bool) (z : Nat → Nat → Bool) : List Int → List Int → Bool
  | x :: xs, y :: ys => if x = y then lexB r z xs ys else r x y
  | xs, ys => z xs.length ys.length
theorem lexB_cons {r : Int → Int → Bool} {z : Nat → Nat → Bool} {x y : Int} {xs ys : List Int} : lexB r z (x :: xs) (y :: ys) = if x = y then lexB r z xs ys else r x y := rfl
theorem lexB_at {r : Int → Int → Bool} {z : Nat → Nat → Bool} (hz : ∀ i j, z (i + 1) (j + 1) = z i j) (ns ms : List Int) : ∀ (k i : Nat), i + k = min ns.length ms.length →
    Ob.lexAt (fun j => decide (ns.getD j 0 = ms.getD j 0)) (fun j => r (ns.getD j 0) (ms.getD j 0)) (z ns.length ms.length) i k = lexB r z (ns.drop i) (ms.drop i) := by
  have hzz : ∀ i n m, i ≤ n → i ≤ m → z (n - i) (m - i) = z n m := by
    intro i
    induction i with
    | zero => intro n m _ _; rfl
    | succ i ih =>
      intro n m h1 h2
      obtain ⟨n, rfl⟩ : ∃ n', n = n' + 1 := ⟨n - 1, by omega⟩
      obtain ⟨m, rfl⟩ : ∃ m', m = m' + 1 := ⟨m - 1, by omega⟩
      rw [Nat.add_sub_add_right, Nat.add_sub_add_right, ih n m (by omega) (by omega), hz]
  intro k
  induction k with
  | zero =>
    intro i h
    rw [Ob.lexAt_zero]
    have : lexB r z (ns.drop i) (ms.drop i) = z (ns.drop i).length (ms.drop i).length := by
      rcases Nat.le_total ns.length ms.length with g | g
      · rw [List.drop_eq_nil_of_le (show ns.length ≤ i by omega)]; unfold lexB; rfl
      · rw [List.drop_eq_nil_of_le (show ms.length ≤ i by omega)]
        cases ns.drop i <;> (unfold lexB; rfl)
    rw [this, List.length_drop, List.length_drop]
    exact (hzz i _ _ (by omega) (by omega)).symm
  | succ k ih =>
    intro i h
    rw [Ob.lexAt_succ, ih (i + 1) (by omega)]
    have h1 : i < ns.length := by omega
    have h2 : i < ms.length := by omega
    rw [List.drop_eq_getElem_cons h1, List.drop_eq_getElem_cons h2]
    have g1 : ns.getD i 0 = ns[i] := by simp [h1]
    have g2 : ms.getD i 0 = ms[i] := by simp [h2]
    rw [g1, g2, lexB_cons]
    by_cases he : ns[i] = ms[i]
    · simp [he]
    · simp [he]
def dCmpT (r : Int → Int → Bool) (z : Nat → Nat → Bool) : PyData → PyData → Option W
  | .tuple xs, .tuple ys => (intsOf xs).bind fun ns => (intsOf ys).map fun ms => .d (.bool (lexB r z ns ms))
  | _, _ => none
theorem cmpT {op : CmpOp} {r : Int → Int → Bool} {z : Nat → Nat → Bool} (hz : ∀ i j, z (i + 1) (j + 1) = z i j) (hc : ∀ a b, compareOp op a b = richCompare op a b)
    (hi : ∀ (A : Around) (s : Shared) (i j : Int) (t u : Tok), Ob.RcOp op A s (.int i t) (.int j u) (r i j))
    (ht : ∀ {A : Around} {s : Shared} {l b : Addr} {items items2 : Array Value} {e r : Nat → Bool}, s.heap.IsTuple l items → s.heap.IsTuple b items2 → A.units < cLine →
      (∀ j (h1 : j < items.size) (h2 : j < items2.size), SeqAt.EqAt A.in1 s items[j] items2[j] (e j)) → (∀ j (h1 : j < items.size) (h2 : j < items2.size), e j = false → Ob.RcOp op A.in1 s items[j] items2[j] (r j)) →
      Ob.RcOp op A s (.ref l) (.ref b) (Ob.lexAt e r (z items.size items2.size) 0 (min items.size items2.size)))
    (hu : X.A.units < cLine) : OpV X (compareOp op) (dCmpT r z) := by
  refine ⟨fun x y H Q => ∃ (a b : Addr) (ns ms : List Int), x = .ref a ∧ y = .ref b ∧ SqT X.K H a (ns.map V.int) ∧ SqT X.K H b (ms.map V.int) ∧ Q (.bl (lexB r z ns ms)) H, ?_, ?_⟩
  · rintro pins s σ H x y v u Q I rx ry ⟨a, b, ns, ms, rfl, rfl, ha, hb, q⟩
    have hv : v = .ref a := rx
    have hw : u = .ref b := ry
    subst hv hw
    obtain ⟨its, r1, p1, _⟩ := I.tuple ha
    obtain ⟨its2, r2, p2, _⟩ := I.tuple hb
    have i1 : IntsAre its ns := Vals.ints r1
    have i2 : IntsAre its2 ms := Vals.ints r2
    have e1 : its.toArray.size = ns.length := by rw [List.size_toArray]; exact i1.length
    have e2 : its2.toArray.size = ms.length := by rw [List.size_toArray]; exact i2.length
    have at1 : ∀ j (h1 : j < its.toArray.size), ∃ t, its.toArray[j] = .int (ns.getD j 0) t := fun j h1 => IntsAre.int_at i1 _ _ (by simp at h1; simp [h1])
    have at2 : ∀ j (h1 : j < its2.toArray.size), ∃ t, its2.toArray[j] = .int (ms.getD j 0) t := fun j h1 => IntsAre.int_at i2 _ _ (by simp at h1; simp [h1])
    have R := ht (A := X.A) (s := s) (e := fun j => decide (ns.getD j 0 = ms.getD j 0)) (r := fun j => r (ns.getD j 0) (ms.getD j 0)) p1 p2 hu (fun j h1 h2 => by
      obtain ⟨t, et⟩ := at1 j h1
      obtain ⟨t', et'⟩ := at2 j h2
      have hb : decide (ns.getD j 0 = ms.getD j 0) = (ns.getD j 0 == ms.getD j 0) := by
        by_cases g : ns.getD j 0 = ms.getD j 0
        · rw [decide_eq_true g, g]; simp
        · rw [decide_eq_false g]; exact (beq_eq_false_iff_ne.mpr g).symm
      rw [et, et']
      show SeqAt.EqAt _ _ _ _ (decide (ns.getD j 0 = ms.getD j 0))
      rw [hb]
      exact SeqAt.EqAt.int_int _ _ _ _) (fun j h1 h2 _ => by
      obtain ⟨t, et⟩ := at1 j h1
      obtain ⟨t', et'⟩ := at2 j h2
      rw [et, et']
      exact hi _ _ _ _ _ _)
    rw [e1, e2, lexB_at hz ns ms _ 0 (by omega), List.drop_zero, List.drop_zero] at R
    rw [hc]
    exact R _ _ _ _ ⟨.bl _, H, I, rfl, q⟩
  · intro A T x y dx dy w H Q tr rx ry e q
    cases dx with
    | tuple xs =>
      cases dy with
      | tuple ys =>
        simp only [dCmpT] at e
        obtain ⟨ns, h1, e⟩ := Option.bind_eq_some_iff.mp e
        obtain ⟨ms, h2, e⟩ := Option.map_eq_some_iff.mp e
        subst e
        obtain ⟨a, vs, rfl, k1, k2, _⟩ := rx.tup
        obtain ⟨b, us, rfl, j1, j2, _⟩ := ry.tup
        rw [intsOf_ok h1] at k2
        rw [intsOf_ok h2] at j2
        rw [k2.ints] at k1
        rw [j2.ints] at j1
        exact ⟨a, b, ns, ms, rfl, rfl, k1, j1, q _ _ Grow.refl (.bl _)⟩
      | _ => cases e
    | _ => cases e
def rLt (i j : Int) : Bool := decide (i < j)
def rLe (i j : Int) : Bool := decide (i ≤ j)
def rGt (i j : Int) : Bool := decide (j < i)
def rGe (i j : Int) : Bool := decide (j ≤ i)
def zLt (i j : Nat) : Bool := decide (i < j)
def zLe (i j : Nat) : Bool := decide (i ≤ j)
def zGt (i j : Nat) : Bool := decide (j < i)
def zGe (i j : Nat) : Bool := decide (j ≤ i)
/-- <, <=, >, >= of ints, of tuples of ints -/
def dCmp (r : Int → Int → Bool) (z : Nat → Nat → Bool) : PyData → PyData → Option W
  | .int i, .int j => some (.d (.bool (r i j)))
  | .tuple xs, .tuple ys => (intsOf xs).bind fun ns => (intsOf ys).map fun ms => .d (.bool (lexB r z ns ms))
  | _, _ => none
def dCmpI (r : Int → Int → Bool) : PyData → PyData → Option W
  | .int i, .int j => some (.d (.bool (r i j)))
  | _, _ => none
theorem opv_B {f : Value → Value → Sem Value} {r : Int → Int → Bool} (h : OpR X f (rI0 fun i j => .bl (r i j))) : OpV X f (dCmpI r) := ⟨_, h, fun A T x y dx dy w H Q tr rx ry e q => by
  cases dx with
  | int i =>
    cases dy with
    | int j =>
      cases e
      exact ⟨i, j, rx.int, ry.int, q _ _ Grow.refl (.bl _)⟩
    | _ => cases e
  | _ => cases e⟩
theorem dCmp_eq {r : Int → Int → Bool} {z : Nat → Nat → Bool} (x y : PyData) : dCmp r z x y = (dCmpI r x y).or (dCmpT r z x y) := by
  cases x <;> cases y <;> simp [dCmp, dCmpI, dCmpT]
theorem ov_lt (hu : X.A.units < cLine) : OpV X (compareOp .Lt) (dCmp rLt zLt) := ((opv_B (r := rLt) op_lt).or (cmpT (fun i j => by simp [zLt]) (fun _ _ => rfl) (fun _ _ _ _ _ _ => Ob.RcOp.lt_int _ _ _ _) (fun h1 h2 h3 h4 h5 => Ob.RcOp.tuples_lt h1 h2 h3 h4 h5) hu)).cast dCmp_eq
theorem ov_le (hu : X.A.units < cLine) : OpV X (compareOp .LtE) (dCmp rLe zLe) := ((opv_B (r := rLe) op_le).or (cmpT (fun i j => by simp [zLe]) (fun _ _ => rfl) (fun _ _ _ _ _ _ => Ob.RcOp.le_int _ _ _ _) (fun h1 h2 h3 h4 h5 => Ob.RcOp.tuples_le h1 h2 h3 h4 h5) hu)).cast dCmp_eq
theorem ov_gt (hu : X.A.units < cLine) : OpV X (compareOp .Gt) (dCmp rGt zGt) := ((opv_B (r := rGt) op_gt).or (cmpT (fun i j => by simp [zGt]) (fun _ _ => rfl) (fun _ _ _ _ _ _ => Ob.RcOp.gt_int _ _ _ _) (fun h1 h2 h3 h4 h5 => Ob.RcOp.tuples_gt h1 h2 h3 h4 h5) hu)).cast dCmp_eq
theorem ov_ge (hu : X.A.units < cLine) : OpV X (compareOp .GtE) (dCmp rGe zGe) := ((opv_B (r := rGe) op_ge).or (cmpT (fun i j => by simp [zGe]) (fun _ _ => rfl) (fun _ _ _ _ _ _ => Ob.RcOp.ge_int _ _ _ _) (fun h1 h2 h3 h4 h5 => Ob.RcOp.tuples_ge h1 h2 h3 h4 h5) hu)).cast dCmp_eq
end
end L2.Lv
namespace L2.Lv
open PySem PySem.Spec PyProof.Rows
section
variable {X : Cx} {e a b c : Expr} {es rest : List Expr} {f fa fb : Fe} {d da db dc : Fd} {fs : Fa} {ds : Fds} {pos : Pos}
/-! in, not in -/
def seqOf : PyData → Option (List PyData)
  | .list xs => some xs
  | .tuple xs => some xs
  | _ => none
def memD (x : PyData) (xs : List PyData) : Bool := xs.any fun y => PyData.eqv y x
def dIn (x y : PyData) : Option W := (seqOf y).bind fun xs => if shp x && shp y then some (.d (.bool (memD x xs))) else none
def dNotIn (x y : PyData) : Option W := (seqOf y).bind fun xs => if shp x && shp y then some (.d (.bool (!memD x xs))) else none
theorem room_shp {A : Around} {xs : List PyData} {d : PyData} (hd : SeqAt.shaped d = true) (hu : A.units + 65 < cLine) : A.units + 1 + min (PyData.depthAll xs) d.depth < cLine := by
  have h1 := SeqAt.depth_of_shaped hd
  have h2 : min (PyData.depthAll xs) d.depth ≤ d.depth := Nat.min_le_right _ _
  omega
theorem ov_inG {op : CmpOp} {neg : Bool} (hu : X.A.units + 65 < cLine)
    (rl : ∀ {s : Shared} {c x : Value} {xs : List PyData} {d : PyData} {as bs : List Addr} {Q : Value → Shared → Prop} {E : Value → Shared → Prop}, Reads s.heap c (.list xs) as → Reads s.heap x d bs → PyData.canLayAll0 xs = true → d.canLay0 = true →
      X.A.units + 1 + min (PyData.depthAll xs) d.depth < cLine → Q (.bool (xor neg (memD d xs))) s → wpAny (model X.prog X.w) X.A (compareOp op x c) Q E s)
    (rt : ∀ {s : Shared} {c x : Value} {xs : List PyData} {d : PyData} {as bs : List Addr} {Q : Value → Shared → Prop} {E : Value → Shared → Prop}, Reads s.heap c (.tuple xs) as → Reads s.heap x d bs → PyData.canLayAll0 xs = true → d.canLay0 = true →
      X.A.units + 1 + min (PyData.depthAll xs) d.depth < cLine → Q (.bool (xor neg (memD d xs))) s → wpAny (model X.prog X.w) X.A (compareOp op x c) Q E s) :
    OpV X (compareOp op) (fun x y => (seqOf y).bind fun xs => if shp x && shp y then some (.d (.bool (xor neg (memD x xs)))) else none) := by
  refine ⟨fun x y H Q => ∃ d y', Dp X.K H x d ∧ Dp X.K H y y' ∧ shp d = true ∧ shp y' = true ∧ ∃ xs, seqOf y' = some xs ∧ Q (.bl (xor neg (memD d xs))) H, ?_, ?_⟩
  · rintro pins s σ H x y v u Q I rx ry ⟨d, y', hd, hy, sd, sy, xs, hs, q⟩
    obtain ⟨as, r1⟩ := Dp.reads I d x v hd rx
    obtain ⟨bs, r2⟩ := Dp.reads I y' y u hy ry
    cases y' with
    | list ys => cases hs; exact rl r2 r1 (SeqAt.canLay_of_shaped sy) (SeqAt.canLay_of_shaped sd) (room_shp sd hu) ⟨.bl _, H, I, rfl, q⟩
    | tuple ys => cases hs; exact rt r2 r1 (SeqAt.canLay_of_shaped sy) (SeqAt.canLay_of_shaped sd) (room_shp sd hu) ⟨.bl _, H, I, rfl, q⟩
    | _ => cases hs
  · intro A T x y dx dy w H Q tr rx ry e q
    obtain ⟨xs, h1, e⟩ := Option.bind_eq_some_iff.mp e
    split at e
    · rename_i hs
      rw [Bool.and_eq_true] at hs
      cases e
      exact ⟨dx, dy, rx.dp hs.1, ry.dp hs.2, hs.1, hs.2, xs, h1, q _ _ Grow.refl (.bl _)⟩
    · cases e
theorem ov_in (hu : X.A.units + 65 < cLine) : OpV X (compareOp .In) dIn := (ov_inG (neg := false) hu (fun h1 h2 h3 h4 h5 h6 => SeqAt.in_list_reads h1 h2 h3 h4 h5 (by simpa [memD] using h6)) (fun h1 h2 h3 h4 h5 h6 => SeqAt.in_tuple_reads h1 h2 h3 h4 h5 (by simpa [memD] using h6))).cast fun x y => by simp [dIn]
theorem ov_notIn (hu : X.A.units + 65 < cLine) : OpV X (compareOp .NotIn) dNotIn := (ov_inG (neg := true) hu (fun h1 h2 h3 h4 h5 h6 => SeqAt.notIn_list_reads h1 h2 h3 h4 h5 (by simpa [memD] using h6)) (fun h1 h2 h3 h4 h5 h6 => SeqAt.notIn_tuple_reads h1 h2 h3 h4 h5 (by simpa [memD] using h6))).cast fun x y => by simp [dNotIn]
/-! -x -/
def dNeg : PyData → Option W
  | .int i => some (.d (.int (-i)))
  | _ => none
def eUn (g : PyData → Option W) (d : Fd) : Fe := fun ρ n => (d ρ n).bind fun p => (g p.1).map (·, p.2)
theorem ev_neg (ha : EvB X a d) : EvE X (.UnaryOp .USub a pos) (eUn dNeg d) := peI (pe_un un_neg ha) (by
  rintro σ H Q ⟨C, O, ρ, n, w, n', hf, E, q⟩
  unfold eUn at hf
  obtain ⟨⟨x, n1⟩, e1, hf⟩ := Option.bind_eq_some_iff.mp hf
  obtain ⟨z, e2, hf⟩ := Option.map_eq_some_iff.mp hf
  cases hf
  refine ⟨C, O, ρ, n, x, _, e1, E, fun v H1 s t r => ?_⟩
  cases x with
  | int i =>
    cases e2
    exact ⟨i, r.int, q _ H1 s t (.int _)⟩
  | _ => cases e2)
/-- not x as a value -/
def eNotD (d : Fd) : Fe := fun ρ n => (d ρ n).bind fun p => (dTru p.1).map fun c => (.d (.bool (!c)), p.2)
theorem ev_notD (ha : EvB X a d) : EvE X (.UnaryOp .Not a pos) (eNotD d) := peI (pe_notT ha) (by
  rintro σ H Q ⟨C, O, ρ, n, w, n', hf, E, q⟩
  unfold eNotD at hf
  obtain ⟨⟨x, n1⟩, e1, hf⟩ := Option.bind_eq_some_iff.mp hf
  obtain ⟨z, e2, hf⟩ := Option.map_eq_some_iff.mp hf
  cases hf
  exact ⟨C, O, ρ, n, x, _, e1, E, fun v H1 s t r => ⟨z, dTru_ok r e2, q _ H1 s t (.bl _)⟩⟩)
/-- x or y by truth -/
def eOrD (fa fb : Fe) : Fe := fun ρ n => (fa ρ n).bind fun p => p.1.val.bind fun x => (dTru x).bind fun c => if c then some (.d x, p.2) else fb ρ p.2
/-! a op b op' c -/
def eChain (g g' : PyData → PyData → Option W) (da db dc : Fd) : Fe := fun ρ n => (da ρ n).bind fun p => (db ρ p.2).bind fun q => (g p.1 q.1).bind fun w => match w with
  | .d (.bool true) => (dc ρ q.2).bind fun r => (g' q.1 r.1).map (·, r.2)
  | .d (.bool false) => some (.d (.bool false), q.2)
  | _ => none
theorem chain_run {fo fo' : Value → Value → Sem Value} {g g' : PyData → PyData → Option W} {r r' : R2} {σ : St} {H : Hp} {Q : VK}
    (h2 : ∀ (A : Addr → Prop) (T : Option Addr) (x y : V) (dx dy : PyData) (w : W) (H : Hp) (Q : VK), (∀ a, A a → H a ≠ none) → DvB A T X.K H x dx → DvB A T X.K H y dy → g dx dy = some w → (∀ v H', Grow H H' → Res A none X.K H H' v w → Q v H') → r x y H Q)
    (h2' : ∀ (A : Addr → Prop) (T : Option Addr) (x y : V) (dx dy : PyData) (w : W) (H : Hp) (Q : VK), (∀ a, A a → H a ≠ none) → DvB A T X.K H x dx → DvB A T X.K H y dy → g' dx dy = some w → (∀ v H', Grow H H' → Res A none X.K H H' v w → Q v H') → r' x y H Q)
    (h : tV X.K (eChain g g' da db dc) σ H Q) : tChain r r' (tVB X.K da) (tVB X.K db) (tVB X.K dc) σ H Q := by
  obtain ⟨C, O, ρ, n, w, n', hf, E, q⟩ := h
  unfold eChain at hf
  obtain ⟨⟨x, n1⟩, e1, hf⟩ := Option.bind_eq_some_iff.mp hf
  obtain ⟨⟨y, n2⟩, e2, hf⟩ := Option.bind_eq_some_iff.mp hf
  obtain ⟨z, e3, hf⟩ := Option.bind_eq_some_iff.mp hf
  refine ⟨C, O, ρ, n, x, n1, e1, E, fun vx H1 s1 t1 r1 => ?_⟩
  have E1 := E.step s1 t1
  refine ⟨C, O, ρ, n1, y, n2, e2, E1, fun vy H2 s2 t2 r2 => ?_⟩
  have E2 := E1.step s2 t2
  refine h2 (Av C O) C.T vx vy x y z H2 _ E2.av (r1.step s2 Av.t) r2 e3 fun v H3 g3 r3 => ?_
  have r3 := r3.none_any (T := C.T)
  have E3 := E2.step g3.step (g3.town t2)
  have S3 : Step C H H3 := (s1.trans s2).trans g3.step
  cases z with
  | d zd =>
    cases zd with
    | bool cc =>
      have r3 : Dv (Av C O) X.K H3 v (.bool cc) := r3
      cases r3
      refine ⟨cc, rfl, ?_⟩
      cases cc with
      | true =>
        rw [if_pos rfl]
        obtain ⟨⟨u, n3⟩, e4, hf⟩ := Option.bind_eq_some_iff.mp hf
        obtain ⟨z', e5, hf⟩ := Option.map_eq_some_iff.mp hf
        cases hf
        refine ⟨C, O, ρ, n2, u, _, e4, E3, fun vu H4 s4 t4 r4 => ?_⟩
        refine h2' (Av C O) C.T vy vu y u _ H4 Q (E3.step s4 t4).av ((r2.step g3.step Av.t).step s4 Av.t) r4 e5 fun v H5 g5 r5 => ?_
        exact q v H5 ((S3.trans s4).trans g5.step) (g5.town t4) (r5.none_any.back fun a ha => (S3.trans s4).fr a ha)
      | false =>
        rw [if_neg (by simp)]
        cases hf
        exact q _ H3 S3 (g3.town t2) (.bl _)
    | _ => cases hf
  | _ => cases hf
theorem ev_chain {op op' : CmpOp} {g g' : PyData → PyData → Option W} (ho : OpV X (compareOp op) g) (ho' : OpV X (compareOp op') g') (ha : EvB X a da) (hb : EvB X b db) (hc : EvB X c dc)
    (hm : lastMarks [op, op'] [b, c] = false := by with_unfolding_all rfl) : EvE X (.Compare a [op, op'] [b, c] pos) (eChain g g' da db dc) := by
  obtain ⟨r, h1, h2⟩ := ho
  obtain ⟨r', h1', h2'⟩ := ho'
  exact peI (pe_chain h1 h1' ha hb hc hm) fun σ H Q h => chain_run (fo := compareOp op) (fo' := compareOp op') h2 h2' h
theorem et_chain {op op' : CmpOp} {g g' : PyData → PyData → Option W} (ho : OpV X (compareOp op) g) (ho' : OpV X (compareOp op') g') (ha : EvB X a da) (hb : EvB X b db) (hc : EvB X c dc)
    (hm : lastMarks [op, op'] [b, c] = false := by with_unfolding_all rfl) : EvT X (.Compare a [op, op'] [b, c] pos) (bTest (eChain g g' da db dc)) := by
  obtain ⟨r, h1, h2⟩ := ho
  obtain ⟨r', h1', h2'⟩ := ho'
  exact ptI (pt_chain h1 h1' ha hb hc hm) fun σ H Q h => chain_run (fo := compareOp op) (fo' := compareOp op') h2 h2' (tV_bool h)
/-! built-ins -/
theorem DvBs.one {A : Addr → Prop} {T : Option Addr} {K : PySem.W.Frag} {H : Hp} {vs : List V} {x : PyData} (h : DvBs A T K H vs [x]) : ∃ v, vs = [v] ∧ DvB A T K H v x := by
  cases h with
  | cons h t => cases t; exact ⟨_, rfl, h⟩
theorem DvBs.two {A : Addr → Prop} {T : Option Addr} {K : PySem.W.Frag} {H : Hp} {vs : List V} {x y : PyData} (h : DvBs A T K H vs [x, y]) : ∃ v u, vs = [v, u] ∧ DvB A T K H v x ∧ DvB A T K H u y := by
  cases h with
  | cons h t =>
    cases t with
    | cons h' t => cases t; exact ⟨_, _, rfl, h, h'⟩
def gLen : List PyData → Option W
  | [.list xs] => some (.d (.int xs.length))
  | [.tuple xs] => some (.d (.int xs.length))
  | _ => none
theorem cv_len : CallV X (.builtin "len") gLen := ⟨_, call_len_seq, fun A T vs xs w H Q tr rx e q => by
  unfold gLen at e
  split at e
  · cases e
    obtain ⟨v, rfl, r⟩ := rx.one
    obtain ⟨a, us, rfl, h1, h2⟩ := r.lst
    exact ⟨a, us, rfl, .inl h1, by rw [h2.length]; exact q _ _ Grow.refl (.int _)⟩
  · cases e
    obtain ⟨v, rfl, r⟩ := rx.one
    obtain ⟨a, us, rfl, h1, h2, _⟩ := r.tup
    exact ⟨a, us, rfl, .inr h1, by rw [h2.length]; exact q _ _ Grow.refl (.int _)⟩
  · cases e⟩
def gAbs : List PyData → Option W
  | [.int i] => some (.d (.int (if i < 0 then -i else i)))
  | _ => none
def gMax2 : List PyData → Option W
  | [.int i, .int j] => some (.d (.int (if j > i then j else i)))
  | _ => none
def gMin2 : List PyData → Option W
  | [.int i, .int j] => some (.d (.int (if j < i then j else i)))
  | _ => none
theorem cv_min2 (hc : X.calm = true) : CallV X (.builtin "min") gMin2 := ⟨_, call_min2 hc, fun A T vs xs w H Q tr rx e q => by
  unfold gMin2 at e
  split at e
  · cases e
    obtain ⟨v, u, rfl, r, r'⟩ := rx.two
    exact ⟨_, _, by rw [r.int, r'.int], q _ _ Grow.refl (.int _)⟩
  · cases e⟩
def gInt : List PyData → Option W
  | [.int i] => some (.d (.int i))
  | [.bool b] => some (.d (.int (if b then 1 else 0)))
  | _ => none
def gTup : List PyData → Option W
  | [.list xs] => some (.d (.tuple xs))
  | [.tuple xs] => some (.d (.tuple xs))
  | _ => none
theorem cv_tup : CallV X (.type "tuple") gTup := ⟨_, call_tupF, fun A T vs xs w H Q tr rx e q => by
  unfold gTup at e
  split at e
  · cases e
    obtain ⟨v, rfl, r⟩ := rx.one
    obtain ⟨a, us, rfl, h1, h2⟩ := r.lst
    exact ⟨a, us, rfl, .inl ⟨h1, fun p o ho hp => q _ _ (Grow.upd hp) (new_tup hp tr ho h2)⟩⟩
  · cases e
    obtain ⟨v, rfl, r⟩ := rx.one
    obtain ⟨a, us, rfl, h1, h2, h3⟩ := r.tup
    exact ⟨a, us, rfl, .inr ⟨h1, q _ _ Grow.refl h3⟩⟩
  · cases e⟩
def gList : List PyData → Option W
  | [.list xs] => some (.ol xs)
  | [.tuple xs] => some (.ol xs)
  | _ => none
theorem cv_list : CallV X (.type "list") gList := ⟨_, call_list_of, fun A T vs xs w H Q tr rx e q => by
  unfold gList at e
  split at e
  · cases e
    obtain ⟨v, rfl, r⟩ := rx.one
    obtain ⟨a, us, rfl, h1, h2⟩ := r.lst
    exact ⟨a, us, rfl, .inl h1, fun p hp => q _ _ (Grow.upd hp) (new_lst hp h2)⟩
  · cases e
    obtain ⟨v, rfl, r⟩ := rx.one
    obtain ⟨a, us, rfl, h1, h2, h3⟩ := r.tup
    exact ⟨a, us, rfl, .inr h1, fun p hp => q _ _ (Grow.upd hp) (new_lst hp h2)⟩
  · cases e⟩
def boolsOf : List PyData → Option (List Bool)
  | [] => some []
  | .bool i :: xs => (boolsOf xs).map (i :: ·)
  | _ :: _ => none
theorem boolsOf_ok : ∀ {xs : List PyData} {ns : List Bool}, boolsOf xs = some ns → xs = ns.map .bool
  | [], _, h => by cases h; rfl
  | x :: xs, ns, h => by
    cases x with
    | bool i =>
      obtain ⟨ms, h1, h2⟩ := Option.map_eq_some_iff.mp (show (boolsOf xs).map (i :: ·) = some ns from h)
      subst h2
      rw [boolsOf_ok h1]
      rfl
    | _ => cases h
@[simp] theorem boolsOf_map : ∀ (ns : List Bool), boolsOf (ns.map .bool) = some ns
  | [] => rfl
  | n :: ns => by show (boolsOf (ns.map .bool)).map (n :: ·) = _; rw [boolsOf_map ns]; rfl
theorem DvAll.bools {A : Addr → Prop} {K : PySem.W.Frag} {H : Hp} : ∀ {ns : List Bool} {vs : List V}, DvAll A K H vs (ns.map .bool) → vs = ns.map V.bl
  | [], _, h => by cases h; rfl
  | n :: ns, _, h => by
    cases h with
    | cons h1 h2 => cases h1; rw [DvAll.bools h2]; rfl
def gAll : List PyData → Option W
  | [.list xs] => (boolsOf xs).map fun bs => .d (.bool (bs.all id))
  | _ => none
theorem cv_all (hc : X.calm = true) : CallV X (.builtin "all") gAll := ⟨_, cr_all hc, fun A T vs xs w H Q tr rx e q => by
  unfold gAll at e
  split at e
  · rename_i ys
    obtain ⟨bs, h, e⟩ := Option.map_eq_some_iff.mp e
    subst e
    obtain ⟨v, rfl, r⟩ := rx.one
    obtain ⟨a, us, rfl, h1, h2⟩ := r.lst
    rw [boolsOf_ok h] at h2
    rw [h2.bools] at h1
    exact ⟨a, bs, rfl, h1, q _ _ Grow.refl (.bl _)⟩
  · cases e⟩
def gAny : List PyData → Option W
  | [.list xs] => (boolsOf xs).map fun bs => .d (.bool (bs.any id))
  | _ => none
def gSum : List PyData → Option W
  | [.list xs] => (intsOf xs).map fun bs => .d (.int bs.sum)
  | _ => none
/-! list(range(..)) -/
def eListRg1 (d : Fd) : Fe := fun ρ n => (d ρ n).bind fun p => match p.1 with
  | .int j => if 0 ≤ j ∧ j ≤ big then some (.ol (rangeD 0 j.toNat), p.2) else none
  | _ => none
theorem DvAll.rg {A : Addr → Prop} {K : PySem.W.Frag} {H : Hp} {a b : Int} : DvAll A K H (rgV a b) (rangeD a (b - a).toNat) := by
  unfold rgV rangeD
  generalize List.range (b - a).toNat = l
  induction l with
  | nil => exact .nil
  | cons x xs ih => exact .cons (.int _) ih
/-! isinstance -/
def tyN : PyData → String
  | .none => "NoneType"
  | .bool _ => "bool"
  | .int _ => "int"
  | .str _ => "str"
  | .list _ => "list"
  | .tuple _ => "tuple"
  | .dict _ => "dict"
/-- whether a thing is of one of the five types asked here -/
def isa (T : String) (x : PyData) : Bool := T == tyN x || (T == "int" && tyN x == "bool")
def eIsa (T : String) (d : Fd) : Fe := fun ρ n => (d ρ n).bind fun p => match p.1 with
  | .dict _ => none
  | x => some (.d (.bool (isa T x)), p.2)
theorem dv_ty {A : Addr → Prop} {T : Option Addr} {K : PySem.W.Frag} {H : Hp} {v : V} {x : PyData} (h : DvB A T K H v x) (hx : ∀ kvs, x ≠ .dict kvs) : TyX K H v (.type (tyN x)) := by
  cases x with
  | none => rw [h.non]; exact .base .non
  | bool b => rw [h.bl]; exact .base (.bl b)
  | int b => rw [h.int]; exact .base (.int b)
  | str b => rw [h.str]; exact .base (.str b)
  | list b =>
    obtain ⟨a, vs, rfl, h1, _⟩ := h.lst
    rcases h1 with (h1 | ⟨o, h1⟩) | ⟨o, _, _, h1, h2, _⟩
    · exact .base (.lst h1)
    · exact .base (.frz h1)
    · exact .kList h1 h2
  | tuple b =>
    rcases h with h | ⟨a, vs, ds, _, h2, _⟩ | ⟨a, kvs, _, h2, _⟩
    · cases h with
      | tup hs ha =>
        rcases hs with ⟨_, o, h1, _⟩ | ⟨_, o, h1, h2, _⟩
        · exact .fTuple h1
        · exact .kTuple h1 h2
    · cases h2
    · cases h2
  | dict kvs => exact absurd rfl (hx kvs)
theorem ev_isa {T : String} {p : Pos} (hT : ∀ (K : PySem.W.Frag) (x : PyData), (∀ kvs, x ≠ .dict kvs) → PySem.W.kitOne K (.type (tyN x)) (.type T) = some (isa T x))
    (hg : Gl X "isinstance") (hm : X.mg "isinstance" = none) (hv : bootBuiltins "isinstance" = some (.builtin "isinstance")) (ha : EvB X a d) (hb : PE X b (tC (.ty T))) (he : starEach [a, b] X.env = (false, eval a X.env) :: starEach [b] X.env := by rfl) (he2 : starEach [b] X.env = (false, eval b X.env) :: starEach [] X.env := by rfl) (hpl : (backTo pos (starEach [b] X.env)).any (·.1) = false := by rfl) :
    EvE X (.Call (.Name "isinstance" p) [a, b] [] pos) (eIsa T d) := by
  refine peI (pe_callB call_isi hg hm hv (pa_cons ha (pa_cons hb pa_nil he2) he) (by decide) (by decide) he hpl) ?_
  rintro σ H Q ⟨C, O, ρ, n, w, n', hf, E, q⟩
  unfold eIsa at hf
  obtain ⟨⟨x, n1⟩, e1, hf⟩ := Option.bind_eq_some_iff.mp hf
  refine ⟨C, O, ρ, n, x, n1, e1, E, fun v H1 s t r => ?_⟩
  have key : (∀ kvs, x ≠ .dict kvs) → w = .d (.bool (isa T x)) → n1 = n' → rIsi X.K [v, .ty T] H1 Q := by
    rintro hx rfl rfl
    exact ⟨v, .ty T, _, _, _, rfl, .ty T, dv_ty r hx, hT X.K x hx, q _ H1 s t (.bl _)⟩
  cases x with
  | dict kvs => cases hf
  | none => cases hf; exact key (fun _ z => nomatch z) rfl rfl
  | bool _ => cases hf; exact key (fun _ z => nomatch z) rfl rfl
  | int _ => cases hf; exact key (fun _ z => nomatch z) rfl rfl
  | str _ => cases hf; exact key (fun _ z => nomatch z) rfl rfl
  | list _ => cases hf; exact key (fun _ z => nomatch z) rfl rfl
  | tuple _ => cases hf; exact key (fun _ z => nomatch z) rfl rfl
theorem isa_int (K : PySem.W.Frag) (x : PyData) (h : ∀ kvs, x ≠ .dict kvs) : PySem.W.kitOne K (.type (tyN x)) (.type "int") = some (isa "int" x) := by
  cases x with
  | dict kvs => exact absurd rfl (h kvs)
  | _ => rfl
theorem isa_bool (K : PySem.W.Frag) (x : PyData) (h : ∀ kvs, x ≠ .dict kvs) : PySem.W.kitOne K (.type (tyN x)) (.type "bool") = some (isa "bool" x) := by
  cases x with
  | dict kvs => exact absurd rfl (h kvs)
  | _ => rfl
theorem isa_str (K : PySem.W.Frag) (x : PyData) (h : ∀ kvs, x ≠ .dict kvs) : PySem.W.kitOne K (.type (tyN x)) (.type "str") = some (isa "str" x) := by
  cases x with
  | dict kvs => exact absurd rfl (h kvs)
  | _ => rfl
theorem isa_tuple (K : PySem.W.Frag) (x : PyData) (h : ∀ kvs, x ≠ .dict kvs) : PySem.W.kitOne K (.type (tyN x)) (.type "tuple") = some (isa "tuple" x) := by
  cases x with
  | dict kvs => exact absurd rfl (h kvs)
  | _ => rfl
end
end L2.Lv
namespace L2.Lv
open PySem PySem.Spec PyProof.Rows
/-! sorted of a list or a tuple, at the library's level -/
section
variable {prog : Program} {w : World} {A : Around} {E : Value → Shared → Prop} {s : Shared}
end
section
open PySem.W
/-- what sorted can put in order here -/
def srtOk (xs : List PyData) : Bool := (xs.all fun x => xs.all fun y => alike x y) && ((xs.all fun x => match x with | .tuple (_ :: _) => true | _ => false) || (xs.all fun x => match x with | .none => false | .tuple _ => false | _ => true)) && xs.all fun x => decide (x.depth ≤ 64)
def srt (xs : List PyData) : List PyData := xs.mergeSort (dataLe false fun x => x)
def gSorted : List PyData → Option W
  | [x] => (seqOf x).bind fun xs => if srtOk xs then some (.ol (srt xs)) else none
  | _ => none
variable {X : Cx}
end
/-! methods of tuples -/
section
variable {X : Cx} {o e a b : Expr} {es : List Expr} {d da db : Fd} {ds : Fds} {name : Str} {apos cpos : Pos} {id : String}
/-- a method that looks: by values -/
def MtV (X : Cx) (id : String) (g : PyData → List PyData → Option W) : Prop := ∃ r, MtR X id r ∧
  ∀ (A : Addr → Prop) (T : Option Addr) (x : V) (vs : List V) (dx : PyData) (xs : List PyData) (w : W) (H : Hp) (Q : VK), (∀ a, A a → H a ≠ none) → DvB A T X.K H x dx → DvBs A T X.K H vs xs → g dx xs = some w →
    (∀ v H', Grow H H' → Res A none X.K H H' v w → Q v H') → r x vs H Q
def eMt (p : PyData → Bool) (g : PyData → List PyData → Option W) (d : Fd) (ds : Fds) : Fe := fun ρ n => (d ρ n).bind fun x => if p x.1 then (ds ρ x.2).bind fun q => (g x.1 q.1).map (·, q.2) else none
def isTupD : PyData → Bool
  | .tuple _ => true
  | _ => false
def isLstD : PyData → Bool
  | .list _ => true
  | _ => false
/-- x.index(k), ints -/
def gIndexT (x : PyData) (ys : List PyData) : Option W := match x, ys with
  | .tuple xs, [.int k] => (intsOf xs).bind fun ns => if k ∈ ns then some (.d (.int (ns.idxOf k : Nat))) else none
  | _, _ => none
def gIndexL (x : PyData) (ys : List PyData) : Option W := match x, ys with
  | .list xs, [.int k] => (intsOf xs).bind fun ns => if k ∈ ns then some (.d (.int (ns.idxOf k : Nat))) else none
  | _, _ => none
end
end L2.Lv
namespace L2.Lv
open PySem PySem.Spec PyProof.Rows
/-! enumerate of a tuple -/
section
variable {X : Cx} {e a b : Expr} {d da db : Fd} {pos : Pos}
/-! enumerate, zip: by values -/
def enumD (xs : List PyData) : List PyData := xs.mapIdx fun i x => .tuple [.int i, x]
def zipD : List PyData → List PyData → List PyData
  | x :: xs, y :: ys => .tuple [x, y] :: zipD xs ys
  | _, _ => []
def iEnumV (d : Fd) : Fi := fun ρ n => (d ρ n).bind fun p => (seqOf p.1).map fun xs => (enumD xs, p.2)
theorem pair_ok {A : Addr → Prop} {K : PySem.W.Frag} {H : Hp} {T : Addr} {vs : List V} {ds : List PyData} (hT : H T = none) (h : DvAll A K H vs ds) : DvI true A K (upd H T (.tup vs)) (.ref T) (.tuple ds) :=
  .inr ⟨rfl, T, vs, ds, rfl, rfl, .inl (.inl upd_same), h.mono (Grow.upd hT).keep⟩
section
variable {K : PySem.W.Frag} {A B : Addr → Prop} {H1 : Hp} {vs us : List V} {xs ys : List PyData} {l m : Addr}
theorem sqL_keep {H2 : Hp} (hs : (¬ A l ∧ Rd H1 l (.lst vs)) ∨ SqL K Hz l vs) (k : ∀ a o, H1 a = some o → ¬ A a → H2 a = some o) : SqL K H2 l vs := hs.elim (fun ⟨na, r⟩ => .inl (r.imp (fun z => k _ _ z na) fun ⟨o, z⟩ => ⟨o, k _ _ z na⟩)) sqLz
theorem sqT_keep {H2 : Hp} (hs : (¬ A l ∧ Rd H1 l (.tup vs)) ∨ SqT K Hz l vs) (k : ∀ a o, H1 a = some o → ¬ A a → H2 a = some o) : SqT K H2 l vs := hs.elim (fun ⟨na, r⟩ => .inl (r.imp (fun z => k _ _ z na) fun ⟨o, z⟩ => ⟨o, k _ _ z na⟩)) sqTz
theorem zipD_length : ∀ (xs ys : List PyData), (zipD xs ys).length = min xs.length ys.length
  | [], _ => by simp [zipD]
  | _ :: _, [] => by simp [zipD]
  | x :: xs, y :: ys => by simp [zipD, zipD_length xs ys, Nat.succ_min_succ]
theorem zipD_get : ∀ {xs ys : List PyData} {i : Nat} {x : PyData}, (zipD xs ys)[i]? = some x → ∃ y z, xs[i]? = some y ∧ ys[i]? = some z ∧ x = .tuple [y, z]
  | [], _, _, _, h => by simp [zipD] at h
  | _ :: _, [], _, _, h => by simp [zipD] at h
  | a :: xs, b :: ys, 0, x, h => by simp [zipD] at h; exact ⟨a, b, rfl, rfl, h.symm⟩
  | a :: xs, b :: ys, i + 1, x, h => by
    obtain ⟨y, z, h1, h2, h3⟩ := zipD_get (xs := xs) (ys := ys) (i := i) (by simpa [zipD] using h)
    exact ⟨y, z, by simpa using h1, by simpa using h2, h3⟩
end
theorem dv_seq {A : Addr → Prop} {C : Cn} {K : PySem.W.Frag} {H : Hp} {v : V} {x : PyData} {xs : List PyData} (ta : ∀ a, C.T = some a → A a) (h : DvB A C.T K H v x) (e : seqOf x = some xs) :
    ∃ a vs, v = .ref a ∧ DvAll A K H vs xs ∧ ((x = .list xs ∧ ((¬ TA C a ∧ Rd H a (.lst vs)) ∨ SqL K Hz a vs)) ∨ (x = .tuple xs ∧ ((¬ TA C a ∧ Rd H a (.tup vs)) ∨ SqT K Hz a vs))) := by
  cases x with
  | list zs =>
    cases e
    rcases h with h | ⟨a, vs, ds, rfl, h2, h3, h4, h5⟩ | ⟨a, kvs, _, h2, _⟩
    · cases h with
      | lst hs ha => exact ⟨_, _, rfl, ha, .inl ⟨rfl, hs.imp (fun z => ⟨fun q => z.1 (ta _ q), z.2⟩) id⟩⟩
    · cases h2
      exact ⟨a, vs, rfl, h5, .inl ⟨rfl, .inl ⟨h3, .inl h4⟩⟩⟩
    · cases h2
  | tuple zs =>
    cases e
    rcases h with h | ⟨a, vs, ds, _, h2, _⟩ | ⟨a, kvs, _, h2, _⟩
    · cases h with
      | tup hs ha => exact ⟨_, _, rfl, ha, .inr ⟨rfl, hs.imp (fun z => ⟨fun q => z.1 (ta _ q), let ⟨o, z, _⟩ := z.2; .inr ⟨o, z⟩⟩) (·.1)⟩⟩
    · cases h2
    · cases h2
  | _ => cases e
theorem sqL_of {A : Addr → Prop} {K : PySem.W.Frag} {H : Hp} {l : Addr} {vs : List V} (hs : (¬ A l ∧ Rd H l (.lst vs)) ∨ SqL K Hz l vs) : SqL K H l vs := hs.elim (fun z => .inl z.2) sqLz
theorem sqT_of' {A : Addr → Prop} {K : PySem.W.Frag} {H : Hp} {l : Addr} {vs : List V} (hs : (¬ A l ∧ Rd H l (.tup vs)) ∨ SqT K Hz l vs) : SqT K H l vs := hs.elim (fun z => .inl z.2) sqTz
def iEnumF (f : Fe) : Fi := fun ρ n => (f ρ n).bind fun p => p.1.frz.val.bind fun x => (seqOf x).map fun xs => (enumD xs, p.2)
/-- both lists, or both tuples -/
def zipOk : PyData → PyData → Option (List PyData)
  | .list xs, .list ys => some (zipD xs ys)
  | .tuple xs, .tuple ys => some (zipD xs ys)
  | _, _ => none
theorem it_zipL {K : PySem.W.Frag} {A B : Addr → Prop} {H1 : Hp} {vs us : List V} {xs ys : List PyData} {l m : Addr} (hs : (¬ A l ∧ Rd H1 l (.lst vs)) ∨ SqL K Hz l vs) (hd : DvAll B K H1 vs xs) (hs2 : (¬ A m ∧ Rd H1 m (.lst us)) ∨ SqL K Hz m us) (hd2 : DvAll B K H1 us ys) :
    ItOk true K (Itz K l m) (zipD xs ys) A B H1 := fun H2 k f => by
  have h2 : SqL K H2 l vs := sqL_keep hs k
  have h3 : SqL K H2 m us := sqL_keep hs2 k
  refine ⟨fun i x hx => ?_, ?_⟩
  · obtain ⟨y, z, hy, hz, rfl⟩ := zipD_get hx
    obtain ⟨v, e1, e2⟩ := hd.get hy
    obtain ⟨u, g1, g2⟩ := hd2.get hz
    refine ⟨⟨vs, us, v, u, h2, h3, e1, g1⟩, ?_⟩
    rintro v' H' ⟨T, p, r, rfl, hT, rfl, fp, fr⟩
    refine ⟨Grow.upd hT, fun B' kp _ => ?_⟩
    have z1 := fp vs h2
    have z2 := fr us h3
    rw [e1] at z1
    rw [g1] at z2
    cases z1
    cases z2
    exact pair_ok hT (.cons (e2.mono kp) (.cons (g2.mono kp) .nil))
  · refine ⟨vs, us, h2, h3, ?_⟩
    rw [hd.length, hd2.length, zipD_length]
    omega
theorem it_zipT {K : PySem.W.Frag} {A B : Addr → Prop} {H1 : Hp} {vs us : List V} {xs ys : List PyData} {l m : Addr} (hs : (¬ A l ∧ Rd H1 l (.tup vs)) ∨ SqT K Hz l vs) (hd : DvAll B K H1 vs xs) (hs2 : (¬ A m ∧ Rd H1 m (.tup us)) ∨ SqT K Hz m us) (hd2 : DvAll B K H1 us ys) :
    ItOk true K (RZ.ItzT K l m) (zipD xs ys) A B H1 := fun H2 k f => by
  have h2 : SqT K H2 l vs := sqT_keep hs k
  have h3 : SqT K H2 m us := sqT_keep hs2 k
  refine ⟨fun i x hx => ?_, ?_⟩
  · obtain ⟨y, z, hy, hz, rfl⟩ := zipD_get hx
    obtain ⟨v, e1, e2⟩ := hd.get hy
    obtain ⟨u, g1, g2⟩ := hd2.get hz
    refine ⟨⟨vs, us, v, u, h2, h3, e1, g1⟩, ?_⟩
    rintro v' H' ⟨T, p, r, rfl, hT, rfl, fp, fr⟩
    refine ⟨Grow.upd hT, fun B' kp _ => ?_⟩
    have z1 := fp vs h2
    have z2 := fr us h3
    rw [e1] at z1
    rw [g1] at z2
    cases z1
    cases z2
    exact pair_ok hT (.cons (e2.mono kp) (.cons (g2.mono kp) .nil))
  · refine ⟨vs, us, h2, h3, ?_⟩
    rw [hd.length, hd2.length, zipD_length]
    omega
def iZipV (da db : Fd) : Fi := fun ρ n => (da ρ n).bind fun p => (db ρ p.2).bind fun q => (zipOk p.1 q.1).map (·, q.2)
theorem zipOk_seq {x y : PyData} {zs : List PyData} (h : zipOk x y = some zs) : ∃ xs ys, seqOf x = some xs ∧ seqOf y = some ys ∧ zs = zipD xs ys ∧ ((x = .list xs ∧ y = .list ys) ∨ (x = .tuple xs ∧ y = .tuple ys)) := by
  cases x <;> cases y <;> simp [zipOk] at h
  · exact ⟨_, _, rfl, rfl, h.symm, .inl ⟨rfl, rfl⟩⟩
  · exact ⟨_, _, rfl, rfl, h.symm, .inr ⟨rfl, rfl⟩⟩
theorem ej_zip {p tpos : Pos} {elts : List Expr} {kk : Nat} (hg : Gl X "zip") (hm : X.mg "zip" = none) (ha : EvB X a da) (hb : EvB X b db) (hs : starEach [a, b] X.env = (false, eval a X.env) :: starEach [b] X.env := by rfl) (hs2 : starEach [b] X.env = (false, eval b X.env) :: starEach [] X.env := by rfl)
    (hpl : (backTo pos (starEach [b] X.env)).any (·.1) = false := by rfl) : EvJ X true (.Tuple elts kk tpos) (.Call (.Name "zip" p) [a, b] [] pos) (iZipV da db) := piI (RZ.pi_zipA hg hm (pa_cons ha (pa_cons hb pa_nil hs2) hs) hs hpl) (by
  rintro σ H R ⟨C, O, ρ, n, xs, n', hf, E, q⟩
  unfold iZipV at hf
  obtain ⟨⟨x, n1⟩, e1, hf⟩ := Option.bind_eq_some_iff.mp hf
  obtain ⟨⟨y, n2⟩, e2, hf⟩ := Option.bind_eq_some_iff.mp hf
  obtain ⟨zs, e3, hf⟩ := Option.map_eq_some_iff.mp hf
  cases hf
  obtain ⟨ps, qs, h1, h2, rfl, hk⟩ := zipOk_seq e3
  refine ⟨C, O, ρ, n, x, n1, e1, E, fun v H1 s t r => ⟨C, O, ρ, n1, y, _, e2, E.step s t, fun u H2 s2 t2 r2 => ?_⟩⟩
  obtain ⟨a1, vs, rfl, hd, k1⟩ := dv_seq Av.t (r.step s2 Av.t) h1
  obtain ⟨b1, us, rfl, hd2, k2⟩ := dv_seq Av.t r2 h2
  rcases hk with ⟨rfl, rfl⟩ | ⟨rfl, rfl⟩
  · rcases k1 with ⟨_, k1⟩ | ⟨z, _⟩
    · rcases k2 with ⟨_, k2⟩ | ⟨z, _⟩
      · exact ⟨a1, b1, vs, us, rfl, .inl ⟨sqL_of k1, sqL_of k2, q _ H2 (s.trans s2) t2 (it_zipL k1 hd k2 hd2)⟩⟩
      · cases z
    · cases z
  · rcases k1 with ⟨z, _⟩ | ⟨_, k1⟩
    · cases z
    · rcases k2 with ⟨z, _⟩ | ⟨_, k2⟩
      · cases z
      · exact ⟨a1, b1, vs, us, rfl, .inr ⟨sqT_of' k1, sqT_of' k2, q _ H2 (s.trans s2) t2 (it_zipT k1 hd k2 hd2)⟩⟩)
def iZipF (fa fb : Fe) : Fi := fun ρ n => (fa ρ n).bind fun p => p.1.frz.val.bind fun x => (fb ρ p.2).bind fun q => q.1.frz.val.bind fun y => (zipOk x y).map (·, q.2)
end
end L2.Lv
namespace L2.Lv
open PySem PySem.Spec PyProof.Rows
/-! what a module's name is -/
theorem bt_len : bootBuiltins "len" = some (.builtin "len") := by decide +kernel
theorem bt_min : bootBuiltins "min" = some (.builtin "min") := by decide +kernel
theorem bt_all : bootBuiltins "all" = some (.builtin "all") := by decide +kernel
theorem bt_isinstance : bootBuiltins "isinstance" = some (.builtin "isinstance") := by decide +kernel
theorem bt_int : bootBuiltins "int" = some (.type "int") := by decide +kernel
theorem bt_tuple : bootBuiltins "tuple" = some (.type "tuple") := by decide +kernel
theorem bt_list : bootBuiltins "list" = some (.type "list") := by decide +kernel
theorem bt_bool : bootBuiltins "bool" = some (.type "bool") := by decide +kernel
theorem bt_str : bootBuiltins "str" = some (.type "str") := by decide +kernel
structure DF (K : PySem.W.Frag) (mg : Str → Option Value) (x : Str) (st : Stmt) (ps : List Str) where
  f : Addr
  fd : FuncData
  F : Fun K x x st f fd
  b : Binds K fd ps []
  g : mg x = some (.ref f)
section
variable {X : Cx} {e a b : Expr} {es : List Expr} {f fa fb : Fe} {d da db : Fd} {fs : Fa} {ds : Fds} {pos : Pos} {st : Stmt} {rest sts sts' : List Stmt} {gs h : Fs} {ps : List Str}
theorem ev_callD {k j l : Nat} {F : Fn} {x : Str} {p : Pos} (D : DF X.K X.mg x st ps) (G : FnOk X.prog X.w X.K X.mg X.base CX0 j D.f D.fd ps (spOf X.K k F)) (hr : Room l X.A) (hj : j ≤ l) (hg : Gl X x) (ha : EvA X (e :: es) fs)
    (hl : (e :: es).length = k := by rfl) (hdb : (x == ("__debug__" : Str)) = false := by decide) (he : starEach (e :: es) X.env = (false, eval e X.env) :: starEach es X.env := by rfl) (hpl : (backTo pos (starEach es X.env)).any (·.1) = false := by rfl) :
    EvE X (.Call (.Name x p) (e :: es) [] pos) (eCall F fs) := ev_call G (hr.mono hj) hg D.g D.F.kp D.b ha hl hdb he hpl
/-- len of the town -/
def eTLen (i : Nat) : Fe := fun ρ n => match ρ[i]? with
  | some .town => some (.d (.int n), n)
  | _ => none
theorem ev_tlen {i : Nat} {p : Pos} (hg : Gl X "len") (hm : X.mg "len" = none) (hb : PE X a (tVar i)) (he : starEach [a] X.env = (false, eval a X.env) :: starEach [] X.env := by rfl) (hpl : (backTo pos (starEach [] X.env)).any (·.1) = false := by rfl) :
    EvE X (.Call (.Name "len" p) [a] [] pos) (eTLen i) := peI (pe_callB call_len_seq hg hm bt_len (pa_cons hb pa_nil he) (by decide) (by decide) he hpl) (by
  rintro σ H Q ⟨C, O, ρ, n, w, n', hf, E, q⟩
  unfold eTLen at hf
  split at hf
  · rename_i hx
    cases hf
    obtain ⟨l, h1, h2⟩ := E.sl _ _ hx
    have h3 := E.town l h1
    refine ⟨_, h2, l, _, rfl, .inl (SqL.of h3), ?_⟩
    rw [List.length_replicate]
    exact q _ _ Step.refl E.town (.int _)
  · cases hf)
theorem hu64 {l : Nat} {A : Around} (r : Room l A) : A.units + 64 < cLine := by have := r.un; omega
theorem hu65 {l : Nat} {A : Around} (r : Room l A) : A.units + 65 < cLine := by have := r.un; omega
theorem hu0 {l : Nat} {A : Around} (r : Room l A) : A.units < cLine := by have := r.un; omega
end
theorem fn_none {P : Program} {w : World} {K : PySem.W.Frag} {mg : Str → Option Value} {base : Heap} {f : Addr} {fd : FuncData} {ps : List Str} {j : Nat} : FnOk P w K mg base CX0 j f fd ps (spOf K ps.length fun _ _ => none) :=
  ⟨spOf.len, fun A outer s H args us vs Q E _ _ _ _ h => by obtain ⟨T, Pp, ws, n, w, n', _, _, _, _, hf, _⟩ := h; cases hf⟩
/-! the law -/
def spLaw (K : PySem.W.Frag) (m : Nat) : Sp := fun vs H Q _ => ∃ (a : Addr) (ns : List Int), vs = [.ref a] ∧ Only H ∧ SqL K H a (ns.map V.int) ∧ ns.length ≤ m ∧ ∀ H', Q (.bl true) H'
theorem dv_ints {A : Addr → Prop} {K : PySem.W.Frag} {H : Hp} : ∀ ns : List Int, DvAll A K H (ns.map V.int) (ns.map PyData.int)
  | [] => .nil
  | n :: ns => .cons (.int n) (dv_ints ns)
theorem fn_law {P : Program} {w : World} {K : PySem.W.Frag} {mg : Str → Option Value} {base : Heap} {st : Stmt} {f : Addr} {fd : FuncData} {N : List Str} {x y : Str} {k m : Nat} {g : Fs} {p p2 p3 : Pos} {rest : List Stmt} (F : Fun K "law" "law" st f fd) (S : FnScope N [x] (defScope st))
    (hbd : defBody st = .Assign [.Name y p] (.List [] p2) p3 :: rest) (hy : N[1]? = some y) (hyl : Loc (defScope st) y)
    (hb : ∀ (cdv : Value) (A : Around) (outer : List Env) (s : Shared) (H : Hp) (E : XK), Room k (A.deeper (envOfC "law" (defScope st) s.heap.objs.size f cdv)) →
      EvSs (cxOf CX0 P w K mg base N "law" (defScope st) f cdv A outer s H E).nox rest g)
    (hm : ∀ ns : List Int, ns.length ≤ m → ∃ n', g (.d (.list (ns.map .int)) :: .town :: List.replicate (N.length - 2) .no) 0 = some (.rt (.d (.bool true)) n')) :
    FnOk P w K mg base CX0 (k + 1) f fd [x] (spLaw K m) := by
  refine F.ok S (fun vs H Q E h => by obtain ⟨a, ns, rfl, _⟩ := h; rfl) fun cdv A outer s H vs Q E hr h => ?_
  obtain ⟨a, ns, rfl, hO, hS, hlen, q⟩ := h
  rw [hbd]
  have hN : ∃ N', N = x :: y :: N' := by
    have h1 := S.pre
    match N, h1, hy with
    | [], h1, _ => simp at h1
    | [_], _, hy => simp at hy
    | x' :: y' :: N', h1, hy =>
      simp at h1 hy
      exact ⟨N', by rw [h1, hy]⟩
  obtain ⟨N', rfl⟩ := hN
  refine ⟨_, pss_cons (ps_set (i := 1) S.nd rfl hyl (pe_lst pa_nil)) (hb cdv A outer s H E hr), Nat.zero_le _, fun p np => ?_⟩
  obtain ⟨n', e⟩ := hm ns hlen
  refine ⟨⟨some p, fun _ => False, upd H p (.lst [])⟩, Ow0, _, 0, _, e, ⟨by simp [start], fun i w hw => ?_, fun _ _ _ z => (nomatch z), fun _ _ z => (nomatch z), fun b z => ?_, fun _ _ z _ => z, fun _ z => z.elim, fun _ z => z⟩, fun _ _ z => (nomatch z), fun v H' r => ?_⟩
  · match i with
    | 0 =>
      cases hw
      refine ⟨.ref a, rfl, .lst ?_ (dv_ints ns)⟩
      rcases hS with hS | hS
      · have ne : a ≠ p := fun z => by subst z; exact Rd.there hS np
        refine .inl ⟨?_, ?_⟩
        · rintro (z | z | ⟨_, z⟩)
          · exact z
          · exact ne (Option.some.inj z).symm
          · cases z
        · rcases hS with hS | ⟨o, hS⟩
          · exact .inl (by rw [upd_ne ne]; exact hS)
          · exact .inr ⟨o, by rw [upd_ne ne]; exact hS⟩
      · exact .inr (.inr hS)
    | 1 =>
      cases hw
      exact ⟨p, rfl, rfl⟩
    | i + 2 =>
      simp only [List.getElem?_cons_succ, List.getElem?_replicate] at hw
      split at hw
      · cases hw; trivial
      · cases hw
  · cases z
    exact upd_same
  · have r' : Dv _ K H' v (.bool true) := r.res
    cases r'
    exact q H'
end L2.Lv
namespace L2.Lv
open PySem PySem.Spec PyProof.Rows
/-! ranges with a step -/
def rangeC (lo c : Int) (n : Nat) : List PyData := (List.range n).map fun (i : Nat) => .int (lo + (i : Nat) * c)
def rng3 : PyData → PyData → PyData → Option (List PyData)
  | .int i, .int j, .int c => if c ≠ 0 ∧ c.natAbs < 1073741824 ∧ Builtin.Range.small i j c = true ∧ 0 ≤ Builtin.Range.rangeSize i j c then some (rangeC i c (Builtin.Range.rangeSize i j c).toNat) else none
  | _, _, _ => none
def iRng3D (da db dc : Fd) : Fi := fun ρ n => (da ρ n).bind fun p => (db ρ p.2).bind fun q => (dc ρ q.2).bind fun r => (rng3 p.1 q.1 r.1).map (·, r.2)
section
variable {X : Cx} {a b c : Expr} {da db dc : Fd} {pos : Pos}
end
end L2.Lv
namespace HT
open PySem PySem.Spec PyProof.Rows
section
variable {prog : Program} {w : World} {A : Around} {E : Value → Shared → Prop} {s : Shared}
end
end HT
namespace L2.Lv
open PySem PySem.Spec PyProof.Rows
/-! what no one reads any more is forgotten -/
def Out.kill (is : List Nat) : Out → Out
  | .nx ρ n => .nx (wipeW ρ is) n
  | o => o
def sEnd (is : List Nat) (g : Fs) : Fs := fun ρ n => (g ρ n).map (Out.kill is)
theorem EnvOk.wipe {C : Cn} {O : Ow} {K : PySem.W.Frag} {σ : St} {H : Hp} {ρ : List W} {n : Nat} (is : List Nat) (E : EnvOk C O K σ H ρ n) : EnvOk C O K σ H (wipeW ρ is) n := by
  refine ⟨by rw [wipeW_length]; exact E.len, fun i w hw => ?_, E.inj, E.own, E.town, E.base, E.ptr, E.fr⟩
  rw [wipeW_get] at hw
  split at hw
  · cases hw; trivial
  · have q := E.sl i w hw
    rw [wipeW_length]
    exact q
theorem ss_end {X : Cx} {st : Stmt} {g : Fs} (is : List Nat) (h : EvS X st g) : EvS X st (sEnd is g) := psI h (by
  rintro D σ H ⟨C, O, ρ, n, out, hf, E, np, q⟩
  obtain ⟨o, e1, e2⟩ := Option.map_eq_some_iff.mp hf
  refine ⟨C, O, ρ, n, o, e1, E, np, ?_⟩
  cases o with
  | nx ρ1 n1 => cases e2; exact fun O' σ' H' s E' => q O' σ' H' s (E'.wipe is)
  | bk ρ1 n1 => cases e2; exact q
  | rt w n1 => cases e2; exact q)
/-! slices with a step -/
section
variable {X : Cx} {e a b : Expr} {d da : Fd} {pos p2 : Pos}
def eSs (g : PyData → Option Int → Option Int → Int → Option W) (d : Fd) (o o' o'' : Fo) : Fe := fun ρ n => (d ρ n).bind fun p => (o ρ p.2).bind fun q => (o' ρ q.2).bind fun r => (o'' ρ r.2).bind fun s => s.1.bind fun c => (g p.1 q.1 r.1 c).map (·, s.2)
/-! x.count(k), ints -/
end
end L2.Lv
namespace L2.Lv
open PySem PySem.Spec PyProof.Rows
section
variable {X : Cx} {e a b c : Expr} {es : List Expr} {f fa fb fc : Fe} {d da db : Fd} {fs : Fa} {ds : Fds} {pos : Pos} {st : Stmt} {rest sts sts' : List Stmt} {g h : Fs}
/-! x.insert(k, e) -/
/-! is True, is not True -/
/-! a, b, c = x, y, z -/
def sPar3 (i j l : Nat) (fs : Fa) : Fs := fun ρ n => (fs ρ n).bind fun p => match p.1 with
  | [w, w', w''] => some (.nx (((ρ.set i w).set j w').set l w'') p.2)
  | _ => none
/-! an expression that takes an item out of a list of ours -/
abbrev Fx := List W → Nat → Option (PyData × List W × Nat)
def xPop (i : Nat) (d : Fd) : Fx := fun ρ n => (d ρ n).bind fun k => match k.1, ρ[i]? with
  | .int z, some (.ol xs) => if xs.length ≤ big then (ixN xs.length z).bind fun j => (xs[j]?).map fun x => (x, ρ.set i (.ol (xs.eraseIdx j)), k.2) else none
  | _, _ => none
def xTup1 (f : Fx) : Fx := fun ρ n => (f ρ n).map fun p => (.tuple [p.1], p.2.1, p.2.2)
/-- a + (the taken one) -/
def xCat (fa : Fe) (f : Fx) : Fx := fun ρ n => (fa ρ n).bind fun p => p.1.val.bind fun x => (f ρ p.2).bind fun q => match dAdd x q.1 with
  | some (.d z) => some (z, q.2.1, q.2.2)
  | _ => none
def sSetX (i : Nat) (f : Fx) : Fs := fun ρ n => (f ρ n).map fun p => .nx (p.2.1.set i (.d p.1)) p.2.2
/-- x.append(the taken one) -/
def sAppX (i : Nat) (f : Fx) : Fs := fun ρ n => match ρ[i]? with
  | some (.ol _) => (f ρ n).bind fun p => match p.2.1[i]? with
    | some (.ol xs) => if xs.length < big then some (.nx (p.2.1.set i (.ol (xs ++ [p.1]))) p.2.2) else none
    | _ => none
  | _ => none
end
end L2.Lv
namespace L2.Lv
open PySem PySem.Spec PyProof.Rows
/-! a, b = x, y where they may be ours -/
section
variable {X : Cx} {e a b : Expr} {es : List Expr} {f fa fb : Fe} {d da db : Fd} {fs : Fa} {ds : Fds} {pos : Pos} {st : Stmt} {rest sts sts' : List Stmt} {gs h : Fs}
def sParO (i j : Nat) (fa fb : Fe) : Fs := fun ρ n => (fa ρ n).bind fun p => (fb ρ p.2).bind fun q => some (.nx ((ρ.set i p.1).set j q.1) q.2)
end
end L2.Lv
namespace L2.Lv
open PySem PySem.Spec PyProof.Rows
/-! for p, q in enumerate(a list of ours): if test: y = e -/
def loopI (p q : Nat) (tst : Ft) (y : Nat) (fe : Fe) : List (Nat × PyData) → List W → Nat → Option (List W × Nat)
  | [], ρ, n => some (ρ, n)
  | x :: xs, ρ, n => (tst ((ρ.set p (.d (.int (x.1 : Nat)))).set q (.d x.2)) n).bind fun c => if c.1 then (fe ((ρ.set p (.d (.int (x.1 : Nat)))).set q (.d x.2)) c.2).bind fun w => w.1.val.bind fun z => loopI p q tst y fe xs (((ρ.set p (.d (.int (x.1 : Nat)))).set q (.d x.2)).set y (.d z)) w.2
      else loopI p q tst y fe xs ((ρ.set p (.d (.int (x.1 : Nat)))).set q (.d x.2)) c.2
def enumN (xs : List PyData) : List (Nat × PyData) := xs.mapIdx fun i x => (i, x)
def sForEI (i p q : Nat) (tst : Ft) (y : Nat) (fe : Fe) : Fs := fun ρ n => match ρ[i]? with
  | some (.ol xs) => (loopI p q tst y fe (enumN xs) ρ n).map fun r => .nx r.1 r.2
  | _ => none
section
variable {X : Cx} {e a b : Expr} {es : List Expr} {f fa fb fe : Fe} {d da db : Fd} {fs : Fa} {ds : Fds} {pos : Pos} {st : Stmt} {rest sts sts' : List Stmt} {gs h : Fs} {tst : Ft}
end
end L2.Lv
namespace L2.Lv
open PySem PySem.Spec PyProof.Rows
/-! a for whose walked thing is forgotten -/
def sForK (ks : List Nat) (fi : Fi) (g : Fg) (body : Fs) : Fs := fun ρ n => (fi ρ n).bind fun p => loopF g body p.1 (wipeW ρ ks) p.2
section
variable {X : Cx} {e a b : Expr} {es : List Expr} {f fa fb : Fe} {d da db : Fd} {fs : Fa} {ds : Fds} {pos : Pos} {st : Stmt} {rest sts sts' : List Stmt} {gs h : Fs}
theorem ss_forK (ks : List Nat) {p : Bool} {tg : Expr} {fi : Fi} {is : List Nat} {g : Fg} {body : Fs} (hp : PassesOwn (model X.prog X.w) X.A X.env X.xe) (hc : X.calm = true) (hi : EvI X p tg e fi) (hg : EvG X p tg is g) (hb : EvSs X sts body)
    (hs : ∀ x, foldedSetIterable e X.env x = pure x := by intro _; rfl) : EvS X (.For tg e sts [] pos) (sForK ks fi g body) := psI (ps_for hp hc hi hg hb hs) (by
  rintro D σ H ⟨C, O, ρ, n, out, hf, E, np, q⟩
  unfold sForK at hf
  obtain ⟨⟨xs, n1⟩, e1, hf⟩ := Option.bind_eq_some_iff.mp hf
  refine ⟨C, O, ρ, n, xs, n1, e1, E, fun J H1 s t it => ?_⟩
  refine ⟨fun i m σ' H' => ∃ O' ρ' n', m = xs.length - i ∧ i ≤ xs.length ∧ StepS C O O' H1 H' ∧ EnvOk C O' X.K σ' H' ρ' n' ∧ loopF g body (xs.drop i) ρ' n' = some out,
    ⟨_, O, wipeW ρ ks, n1, rfl, Nat.zero_le _, Step.refl.stepS0, (E.step s t).wipe ks, hf⟩, ?_⟩
  rintro i m σ' H' ⟨O', ρ', n', rfl, hi, S', E', hl⟩
  obtain ⟨items, stop⟩ := it H' (fun a o e na => S'.st a o e (fun z => na (.inr (.inl z))) fun j z => na (.inr (.inr ⟨j, z⟩))) S'.fr
  by_cases hlt : i < xs.length
  · obtain ⟨go, yl⟩ := items i xs[i] (List.getElem?_eq_getElem hlt)
    rw [List.drop_eq_getElem_cons hlt] at hl
    unfold loopF at hl
    obtain ⟨ρ1, e2, hl⟩ := Option.bind_eq_some_iff.mp hl
    obtain ⟨o, e3, hl⟩ := Option.bind_eq_some_iff.mp hl
    refine .inr ⟨go, fun σ'' H'' => ∃ O'' ρ'' n'', StepS C O O'' H1 H'' ∧ EnvOk C O'' X.K σ'' H'' ρ'' n'' ∧ loopF g body (xs.drop (i + 1)) ρ'' n'' = some out, ?_, fun v H2 y => ?_⟩
    · rintro σ'' H'' ⟨O'', ρ'', n'', S'', E'', hl''⟩
      exact ⟨xs.length - (i + 1), by omega, O'', ρ'', n'', rfl, hlt, S'', E'', hl''⟩
    · obtain ⟨gr, it2⟩ := yl v H2 y
      have r := it2 (Av C O') S'.keep E'.av
      have E2 := E'.step gr.step (gr.town E'.town)
      have S2 : StepS C O O' H1 H2 := S'.trans gr.step.stepS0
      refine ⟨C, O', ρ', n', xs[i], ρ1, e2, E2, r, fun O3 vs s3 E3 => ⟨C, O3, ρ1, n', o, e3, E3, np.step E (s.stepS0.trans (S2.trans s3)), ?_⟩⟩
      cases o with
      | nx ρ4 n4 => exact fun O4 σ4 H4 s4 E4 => ⟨O4, ρ4, n4, (S2.trans s3).trans s4, E4, hl⟩
      | bk ρ4 n4 =>
        cases hl
        exact fun O4 σ4 H4 s4 E4 => q O4 σ4 H4 (s.stepS0.trans ((S2.trans s3).trans s4)) E4
      | rt w n4 =>
        cases hl
        exact q
  · have hie : i = xs.length := by omega
    subst hie
    rw [List.drop_length] at hl
    cases hl
    exact .inl ⟨stop, q O' σ' H' (s.stepS0.trans S') E'⟩)
end
end L2.Lv
namespace L2.Lv
open PySem PySem.Spec PyProof.Rows
/-! [..] * k -/
def eRep (fa : Fe) (db : Fd) : Fe := fun ρ n => (fa ρ n).bind fun p => match p.1 with
  | .ol xs => (db ρ p.2).bind fun q => match q.1 with
    | .int k => if -1000000 ≤ k ∧ k ≤ 1000000 ∧ xs.length * k.toNat ≤ big then some (.ol (List.replicate k.toNat xs).flatten, q.2) else none
    | _ => none
  | _ => none
theorem DvAll.rep {A : Addr → Prop} {K : PySem.W.Frag} {H : Hp} {vs : List V} {xs : List PyData} (h : DvAll A K H vs xs) : ∀ k : Nat, DvAll A K H (List.replicate k vs).flatten (List.replicate k xs).flatten
  | 0 => .nil
  | k + 1 => by
    rw [List.replicate_succ, List.replicate_succ, List.flatten_cons, List.flatten_cons]
    exact h.append (DvAll.rep h k)
section
variable {X : Cx} {a b : Expr} {fa : Fe} {db : Fd} {pos : Pos}
end
end L2.Lv
namespace L2.Lv
open PySem PySem.Spec PyProof.Rows
/-! any(xs), ints -/
def gAnyI : List PyData → Option W
  | [.list xs] => (intsOf xs).map fun ns => .d (.bool (ns.any fun k => k != 0))
  | _ => none
def gAnyX : List PyData → Option W := fun xs => (gAny xs).or (gAnyI xs)
end L2.Lv
namespace L2.Lv
open PySem PySem.Spec PyProof.Rows
/-! x.index(y), any data -/
section
variable {prog : Program} {w : World} {A : Around} {E : Value → Shared → Prop} {s : Shared}
end
section
variable {X : Cx}
def gIndexD (x : PyData) (ys : List PyData) : Option W := match x, ys with
  | .list xs, [y] => if shp y && shp (.list xs) then (SeqAt.dataPlace xs y).map fun j => .d (.int (j : Nat)) else none
  | _, _ => none
theorem MtV.or {id : String} {g g' : PyData → List PyData → Option W} (hg : MtV X id g) (hh : MtV X id g') : MtV X id (fun x xs => (g x xs).or (g' x xs)) := by
  obtain ⟨r, h1, h2⟩ := hg
  obtain ⟨r', h1', h2'⟩ := hh
  refine ⟨fun x vs H Q => r x vs H Q ∨ r' x vs H Q, ?_, fun A T x vs dx xs w H Q tr rx rxs e q => ?_⟩
  · intro pins s σ H x xs v us Q I rx rxs h
    rcases h with h | h
    · exact h1 pins s σ H x xs v us Q I rx rxs h
    · exact h1' pins s σ H x xs v us Q I rx rxs h
  · have e : (g dx xs).or (g' dx xs) = some w := e
    cases hq : g dx xs with
    | some z =>
      rw [hq] at e
      cases e
      exact .inl (h2 A T x vs dx xs _ H Q tr rx rxs hq q)
    | none =>
      rw [hq, Option.none_or] at e
      exact .inr (h2' A T x vs dx xs _ H Q tr rx rxs e q)
def gIndexLX (x : PyData) (xs : List PyData) : Option W := (gIndexL x xs).or (gIndexD x xs)
end
end L2.Lv
namespace L2.Lv
open PySem PySem.Spec PyProof.Rows
/-! set(xs), xs a list of ints -/
section
variable {P : Program} {w : World} {A : Around} {E : Value → Shared → Prop} {s : Shared}
end
/-- the distinct ones, in order -/
def insS (x : Int) : List Int → List Int
  | [] => [x]
  | y :: ys => if x < y then x :: y :: ys else if x = y then y :: ys else y :: insS x ys
def ssetI : List Int → List Int
  | [] => []
  | x :: xs => insS x (ssetI xs)
def gSortSet : List PyData → Option W
  | [.list xs] => (intsOf xs).bind fun ns => if ns.length < 64 then some (.ol ((ssetI ns).map .int)) else none
  | _ => none
end L2.Lv
namespace L2.Lv
open PySem PySem.Spec PyProof.Rows
/-! max(xs), min(xs), ints -/
def topI : Int → List Int → Int
  | x, [] => x
  | x, y :: ys => topI (if x < y then y else x) ys
section
variable {X : Cx}
def gMaxL : List PyData → Option W
  | [.list xs] => (intsOf xs).bind fun ns => match ns with
    | [] => none
    | n :: ns => some (.d (.int (topI n ns)))
  | _ => none
def gMaxT : List PyData → Option W
  | [.tuple xs] => (intsOf xs).bind fun ns => match ns with
    | [] => none
    | n :: ns => some (.d (.int (topI n ns)))
  | _ => none
def gMax1 : List PyData → Option W := fun xs => (gMaxL xs).or (gMaxT xs)
end
end L2.Lv
namespace L2.Lv
open PySem PySem.Spec PyProof.Rows
/-! sorted(dict([(k, ..), ..])), ints -/
def pairKs : List PyData → Option (List Int)
  | [] => some []
  | .tuple [.int k, _] :: xs => (pairKs xs).map (k :: ·)
  | _ :: _ => none
def gSortDict : List PyData → Option W
  | [.list xs] => (pairKs xs).bind fun ks => if ks.length < 64 then some (.ol ((ssetI ks).map .int)) else none
  | _ => none
end L2.Lv
namespace L2.Lv
open PySem PySem.Spec PyProof.Rows
/-! len(set(xs)), ints -/
/-! a tuple of texts that the module holds -/
/-! (..) * k -/
def rRepF (K : PySem.W.Frag) : R2 := fun x y H Q => ∃ (l : Addr) (k : Nat) (vs : List V), x = .ref l ∧ y = .int k ∧ SqT K H l vs ∧ vs ≠ [] ∧ 1 < k ∧ k < 101 ∧ vs.length < 101 ∧ rNewT (List.replicate k vs).flatten H Q
theorem op_repF {X : Cx} : OpR X (binaryOp .Mult) (rRepF X.K) := by
  rintro pins s σ H x y v u Q I rx ry ⟨l, k, vs, rfl, rfl, hx, ne, k1, k2, hz, q⟩
  have hv : v = .ref l := rx
  obtain ⟨t, hu⟩ : ∃ t, u = .int (k : Int) t := ry
  subst hv hu
  obtain ⟨us, r, ⟨⟨cl, dc, da, so⟩, e1, e2, m, e3⟩, _⟩ := I.tuple hx
  simp only at e2 e3
  subst e2 e3
  have len : us.toArray.size = vs.length := by rw [List.size_toArray, r.length]
  have full : us.toArray.isEmpty = false := by
    cases us with
    | nil => cases r; exact absurd rfl ne
    | cons _ _ => rfl
  have few : k * vs.length ≤ 100 * 100 := Nat.mul_le_mul (by omega) (by omega)
  have few2 : ((us.toArray.size : Nat) : Int) * (k : Int) ≤ 10000 := by rw [len, Int.mul_comm]; exact_mod_cast few
  have p1 : (decide ((k : Int) < -(2 ^ 63)) || decide ((k : Int) ≥ 2 ^ 63)) = false := by
    have a : ¬ (k : Int) < -(2 ^ 63) := by omega
    have b : ¬ (k : Int) ≥ 2 ^ 63 := by omega
    rw [decide_eq_false a, decide_eq_false b]; rfl
  have p2 : (us.toArray.isEmpty || (k : Int) == 1) = false := by
    have : ((k : Int) == 1) = false := by simp; omega
    rw [full, this]; rfl
  have p3 : (decide ((k : Int) ≤ 0) || us.toArray.isEmpty) = false := by
    have : ¬ (k : Int) ≤ 0 := by omega
    rw [decide_eq_false this, full]; rfl
  have p4 : Builtin.Tuple.tupleTooMany (((us.toArray.size : Nat) : Int) * (k : Int)) = false := by
    rw [Builtin.Tuple.tupleTooMany, sizeLine_eq]
    exact decide_eq_false (by omega)
  have flat : (List.replicate k us).flatten.length ≤ sizeLine := by
    rw [PyProof.Rows.lm_len_rep_flat, ← r.length, sizeLine_eq]; omega
  have fold : List.foldl (fun x1 x2 => x1 ++ x2) #[] (List.replicate ((k : Int)).toNat us.toArray) = (List.replicate k us).flatten.toArray := by
    rw [size_rep]; rfl
  have inner := tuple_mulW l us.toArray m dc so (k : Int) t p1 p2 p3 (by omega) p4 (by rw [fold, List.size_toArray]; exact flat)
  have T0 : s.TypeIs (.ref l) "tuple" := ⟨_, e1, rfl⟩
  refine wpAny_binaryOp_repeat_ref (T := "tuple") (U := "int") (by decide) T0 (fun z => typeIs_int z k t) noFill_tuple_mul F.fills_int_mul F.slot_int_rmul repeat_tuple F.slot_int_index.lookup ?_
  refine call_meets F.slot_int_rmul (typeIs_int s k t) F.entry_int_rmul (F.args_int_rmul_2 _ _) (int_rmul_tuple k t l us.toArray m dc so) ⟨e1, rfl, T0, ?_⟩
  refine call_meets F.slot_tuple_mul T0 F.entry_tuple_mul (F.args_tuple_mul_2 _ _) inner ⟨e1, ?_⟩
  rw [fold]
  have z := Inv.newT I (r.rep k) (by rw [PyProof.Rows.lm_len_rep_flat, sizeLine_eq]; omega) q
  exact z
def dRepT : PyData → PyData → Option W
  | .tuple xs, .int k => if xs ≠ [] ∧ 1 < k ∧ k < 101 ∧ xs.length < 101 then some (.d (.tuple (List.replicate k.toNat xs).flatten)) else none
  | _, _ => none
theorem ov_repT {X : Cx} : OpV X (binaryOp .Mult) dRepT := ⟨_, op_repF, fun A T x y dx dy w H Q tr rx ry e q => by
  cases dx with
  | tuple xs =>
    cases dy with
    | int k =>
      simp only [dRepT] at e
      split at e
      · rename_i hz
        cases e
        obtain ⟨h1, h2, h3, h4⟩ := hz
        obtain ⟨a, vs, rfl, g1, g2, _⟩ := rx.tup
        obtain ⟨j, rfl⟩ : ∃ j : Nat, k = j := ⟨k.toNat, by omega⟩
        have hne : vs ≠ [] := fun z => by
          subst z; cases g2; exact h1 rfl
        refine ⟨a, j, vs, rfl, ry.int, g1, hne, by omega, by omega, by rw [g2.length]; omega, fun p o ho hp => q _ _ (Grow.upd hp) (new_tup hp tr ho (g2.rep j))⟩
      · cases e
    | _ => cases e
  | _ => cases e⟩
end L2.Lv
namespace L2.Lv
open PySem PySem.Spec PyProof.Rows
/-! dicts: the keys ints, or tuples of ints -/
theorem DTat.full {P : Program} {w : World} {h : Heap} {a : Addr} {xs : List (List Int × Addr × Value)} (d : DTat h a xs) (hk : ∀ x ∈ xs, IsTupleKey (intKind P w) h x.1 x.2.1) : h.DictOfH (tupleKind (intKind P w)) a xs := by
  obtain ⟨_, _, P', w', o, es, ep, h1, h2, h3, h4, h5⟩ := d
  exact ⟨o, es, ep, h1, h2, h3, h4.trans (List.map_congr_left fun x _ => rfl), hk, h5⟩
theorem DTat.of {P : Program} {w : World} {h : Heap} {a : Addr} {xs : List (List Int × Addr × Value)} (hz : xs.length ≤ sizeLine) (hs : (a == sysModules) = false) (d : h.DictOfH (tupleKind (intKind P w)) a xs) : DTat h a xs := by
  obtain ⟨o, es, ep, h1, h2, h3, h4, _, h5⟩ := d
  exact ⟨hz, hs, P, w, o, es, ep, h1, h2, h3, h4, h5⟩
section
variable {X : Cx} {pins : List (Addr × Obj)} {σ : St} {H : Hp} {s : Shared} {a b : Addr} {A : Addr → Prop}
/-- a key, as the model sees it -/
def KeyAt (A : Addr → Prop) (K : PySem.W.Frag) (H : Hp) (b : Addr) (ns : List Int) : Prop := (¬ A b ∧ TupAt H b (ns.map V.int)) ∨ KTup K b (ns.map V.int)
theorem _root_.L2.Inv.keyT (I : Inv X pins σ H s) {ns : List Int} (h : KeyAt A X.K H b ns) : IsTupleKey (intKind X.prog X.w) s.heap ns b := L2.Inv.isT I (sqT_of h)
theorem _root_.L2.Inv.dct (I : Inv X pins σ H s) {xs : List (List Int × Addr × Value)} {rest : List (PyData × PyData)} (e : H a = some (DO a xs)) (r : Paired (DRel A X.K H) xs rest) : DTat s.heap a xs ∧ s.heap.DictOfH (tupleKind (intKind X.prog X.w)) a xs := by
  have d : DTat s.heap a xs := (I.hok a _ e).1
  refine ⟨d, d.full fun x hx => ?_⟩
  clear e d
  induction r with
  | nil => cases hx
  | cons h t ih =>
    rcases List.mem_cons.mp hx with rfl | hx
    · exact I.keyT h.2.1
    · exact ih hx
end
/-- what stands at a key -/
def lookT : List (PyData × PyData) → List Int → Option PyData
  | [], _ => none
  | kv :: r, ns => match kv.1 with
    | .tuple ks => if intsOf ks = some ns then some kv.2 else lookT r ns
    | _ => lookT r ns
def lookI : List (PyData × PyData) → Int → Option PyData
  | [], _ => none
  | kv :: r, i => match kv.1 with
    | .int j => if j = i then some kv.2 else lookI r i
    | _ => lookI r i
/-- the key's int, the key's ints -/
def isFz : PyData × PyData → Bool
  | (.none, .bool true) => true
  | _ => false
def isMk : PyData × PyData → Bool
  | (.none, .none) => true
  | _ => false
def lookD : List (PyData × PyData) → PyData → Option (Option PyData)
  | kv :: rest, .tuple ks => if isMk kv then (intsOf ks).map (lookT rest) else none
  | kvs, .int i => match kvs with
    | kv :: _ => if isMk kv then none else some (lookI kvs i)
    | [] => some none
  | _, _ => none
section
variable {X : Cx} {A : Addr → Prop} {T : Option Addr} {H : Hp} {x y : V} {kvs : List (PyData × PyData)} {dy : PyData} {r : Option PyData}
theorem DvAll.ints_inv {A : Addr → Prop} {K : PySem.W.Frag} {H : Hp} : ∀ {vs : List V} {ns : List Int}, DvAll A K H vs (ns.map .int) → vs = ns.map V.int
  | _, [], .nil => rfl
  | _, n :: ns, h => by
    cases h with
    | cons h1 h2 => cases h1; rw [DvAll.ints_inv h2, List.map_cons]
theorem DvB.key {ks : List PyData} {ns : List Int} (h : DvB A T X.K H y (.tuple ks)) (e : intsOf ks = some ns) : ∃ b, y = .ref b ∧ KeyAt A X.K H b ns := by
  rw [intsOf_ok e] at h
  rcases h with h | ⟨a, vs, ds, _, h2, _⟩ | ⟨a, kvs, _, h2, _⟩
  · cases h with
    | tup hs ha =>
      rw [ha.ints_inv] at hs
      exact ⟨_, rfl, hs⟩
  · cases h2
  · cases h2
end
/-! the rules -/
section
variable {X : Cx} {pins : List (Addr × Obj)} {σ : St} {H : Hp} {s : Shared} {x y : V} {u v : Value} {E : Value → Shared → Prop}
end
section
variable {X : Cx}
/-- d[k] -/
def dIxD (x y : PyData) : Option W := match x with
  | .dict kvs => (lookD kvs y).bind fun r => r.map .d
  | _ => none
def dNotInD (x y : PyData) : Option W := match y with
  | .dict kvs => (lookD kvs x).map fun r => .d (.bool (!r.isSome))
  | _ => none
end
/-! {} -/
def eDicK : Fe := fun _ n => some (.od [], n)
def eDicT : Fe := fun _ n => some (.od [markT], n)
section
variable {X : Cx} {pos : Pos}
end
/-! d[k] = e -/
def putT : List (PyData × PyData) → List Int → PyData → List (PyData × PyData)
  | [], ns, y => [(.tuple (ns.map .int), y)]
  | kv :: r, ns, y => if (match kv.1 with | .tuple ks => intsOf ks | _ => none) = some ns then (kv.1, y) :: r else kv :: putT r ns y
def putI : List (PyData × PyData) → Int → PyData → List (PyData × PyData)
  | [], i, y => [(.int i, y)]
  | kv :: r, i, y => if (match kv.1 with | .int j => some j | _ => none) = some i then (kv.1, y) :: r else kv :: putI r i y
def putD : List (PyData × PyData) → PyData → PyData → Option (List (PyData × PyData))
  | kv :: rest, .tuple ks, y => if isMk kv then (intsOf ks).bind fun ns => if rest.length < big then some (markT :: putT rest ns y) else none else none
  | kvs, .int i, y => match kvs with
    | kv :: _ => if isMk kv || isFz kv then none else if kvs.length < big then some (putI kvs i y) else none
    | [] => some [(.int i, y)]
  | _, _, _ => none
def sPut (i : Nat) (d : Fd) (f : Fe) : Fs := fun ρ n => (f ρ n).bind fun p => p.1.frz.val.bind fun x => (d ρ p.2).bind fun k => match ρ[i]? with
  | some (.od kvs) => (putD kvs k.1 x).map fun m => .nx (ρ.set i (.od m)) k.2
  | _ => none
section
variable {X : Cx} {A : Addr → Prop} {K : PySem.W.Frag} {H : Hp}
end
section
variable {X : Cx}
end
end L2.Lv
namespace L2.Lv
open PySem PySem.Spec PyProof.Rows
section
variable {X : Cx} {e a b : Expr} {f : Fe} {d : Fd} {pos : Pos}
end
/-! len(d), list(d), sorted(d) -/
section
variable {X : Cx}
def lenDk : List (PyData × PyData) → Nat
  | [] => 0
  | kv :: rest => if isMk kv then rest.length else rest.length + 1
def hdF : List (PyData × PyData) → Bool
  | kv :: _ => isFz kv
  | [] => false
def gLenD : List PyData → Option W
  | [.dict kvs] => if hdF kvs = true then none else some (.d (.int (lenDk kvs)))
  | _ => none
def gListD : List PyData → Option W
  | [.dict (kv :: rest)] => if isMk kv then some (.ol (rest.map (·.1))) else none
  | _ => none
def gSortedD : List PyData → Option W
  | [.dict (kv :: rest)] => if isMk kv && srtOk (rest.map (·.1)) then some (.ol (srt (rest.map (·.1)))) else none
  | _ => none
end
end L2.Lv
namespace L2.Lv
open PySem PySem.Spec PyProof.Rows
/-! dict([(k, v), ..]) -/
section
variable {X : Cx} {A : Addr → Prop} {H : Hp}
end
/-! len(dict([(k, ..), ..])), ints -/
/-- by the one road, or by the other -/
def eAlt (f g : Fe) : Fe := fun ρ n => (f ρ n).or (g ρ n)
end L2.Lv
namespace L2.Lv
open PySem PySem.Spec PyProof.Rows PySem.W
/-! min of a list of alike data -/
section
variable {X : Cx}
end
end L2.Lv
namespace L2.Lv
open PySem PySem.Spec PyProof.Rows
/-! what may be raised: classes by number -/
abbrev Fex := List W → Nat → Option ((W × Nat) ⊕ (Nat × Nat))
abbrev Fnx := List W → Nat → Option ((W × Nat) ⊕ (Nat × Nat))
abbrev Fsx := List W → Nat → Option (Out ⊕ (Nat × List W × Nat))
def spX (K : PySem.W.Frag) (cls : Nat → Addr) (k : Nat) (F : Fnx) : Sp := fun vs H Q E => ∃ (T : Option Addr) (P : Addr → Prop) (ws : List W) (n : Nat) (r : (W × Nat) ⊕ (Nat × Nat)),
  (∀ a, P a → H a ≠ none) ∧ TownAt ⟨T, P, H⟩ H n ∧ ws.length = k ∧ ArgsOk (Av ⟨T, P, H⟩ Ow0) T K H vs ws ∧ F ws n = some r ∧
  match r with
  | .inl (w, n') => ∀ v H', Step ⟨T, P, H⟩ H H' → TownAt ⟨T, P, H⟩ H' n' → Res (Av ⟨T, P, H⟩ Ow0) T K H H' v w → Q v H'
  | .inr (c, n') => ∀ H', Step ⟨T, P, H⟩ H H' → TownAt ⟨T, P, H⟩ H' n' → E (.ref (cls c)) none H'
theorem spX.len {K : PySem.W.Frag} {cls : Nat → Addr} {k : Nat} {F : Fnx} : ∀ vs H Q E, spX K cls k F vs H Q E → vs.length = k := by
  rintro vs H Q E ⟨T, P, ws, n, r, _, _, hl, ha, _⟩
  rw [← hl]
  exact Paired.length ha
section
variable {X : Cx} {cls : Nat → Addr} {V : WX} {e : Expr} {es : List Expr} {fs : Fa} {st : Stmt} {sts sts' rest : List Stmt} {pos : Pos} {f : Fex} {g h : Fs} {r r1 r2 : Fsx}
/-- a call that may raise -/
def xCall (F : Fnx) (fs : Fa) : Fex := fun ρ n => (fs ρ n).bind fun p => F p.1 p.2
def lft (g : Fs) : Fsx := fun ρ n => (g ρ n).map .inl
def sSeqX (r1 r2 : Fsx) : Fsx := fun ρ n => (r1 ρ n).bind fun o => match o with
  | .inl (.nx ρ' n') => r2 ρ' n'
  | o => some o
def sEndX (is : List Nat) (r : Fsx) : Fsx := fun ρ n => (r ρ n).map fun o => match o with
  | .inl (.nx ρ' n') => .inl (.nx (wipeW ρ' is) n')
  | o => o
def sIfX (c : Ft) (r1 r2 : Fsx) : Fsx := fun ρ n => (c ρ n).bind fun p => if p.1 then r1 ρ p.2 else r2 ρ p.2
def sDropX (f : Fex) : Fsx := fun ρ n => (f ρ n).map fun r => match r with
  | .inl (_, n') => .inl (.nx ρ n')
  | .inr (c, n') => .inr (c, ρ, n')
def sRz (c : Nat) : Fsx := fun ρ n => some (.inr (c, ρ, n))
/-- try: .. except X: .. -/
def sTry (r : Fsx) (g : Fs) : Fs := fun ρ n => (r ρ n).bind fun o => match o with
  | .inl out => some out
  | .inr (_, ρ', n') => g ρ' n'
end
/-- a def that may raise -/
def runX (m : Nat) (r : Fsx) : Fnx := fun ws n => (r (ws ++ List.replicate (m - ws.length) .no) n).bind fun o => match o with
  | .inl (.rt w n') => some (.inl (w, n'))
  | .inl (.nx _ n') => some (.inl (.d .none, n'))
  | .inl (.bk _ _) => none
  | .inr (c, _, n') => some (.inr (c, n'))
end L2.Lv
set_option maxHeartbeats 1000000
namespace L2.Lv.Tb
open PySem PySem.Spec PyProof.Rows L2
/-! tables of sets, up to 511 -/
def Msk (m : Nat) : Prop := m = 7 ∨ m = 31 ∨ m = 127 ∨ m = 511
theorem lcg_shift (m i : Nat) : ∀ k, lcgI m ((i * 5 + 1) % (m + 1)) k = lcgI m i (k + 1)
  | 0 => rfl
  | k + 1 => by
    have ih := lcg_shift m i k
    show (lcgI m ((i * 5 + 1) % (m + 1)) k * 5 + 1) % (m + 1) = (lcgI m i (k + 1) * 5 + 1) % (m + 1)
    rw [ih]
def orbit : Nat → Nat → List Nat
  | 0, _ => []
  | n + 1, x => x :: orbit n ((x * 5 + 1) % (511 + 1))
theorem orbit_at : ∀ (n x k : Nat), k < n → (orbit n x)[k]? = some (lcgI 511 x k)
  | 0, _, _, h => by omega
  | n + 1, x, 0, _ => rfl
  | n + 1, x, k + 1, h => by
    show (orbit n ((x * 5 + 1) % (511 + 1)))[k]? = _
    rw [orbit_at n _ k (by omega), lcg_shift]
theorem orbit_all : ((List.range 512).all fun j => (orbit 512 0).contains j) = true := by decide +kernel
theorem orbit_back : (orbit 513 0)[512]? = some 0 := by decide +kernel
theorem from0 {j : Nat} (hj : j ≤ 511) : ∃ k, k ≤ 511 ∧ lcgI 511 0 k = j := by
  have h := List.all_eq_true.mp orbit_all j (List.mem_range.mpr (by omega))
  have h : j ∈ orbit 512 0 := by simpa using h
  obtain ⟨k, hk, e⟩ := List.getElem_of_mem h
  have hl : ∀ n x, (orbit n x).length = n := by
    intro n
    induction n with
    | zero => intro x; rfl
    | succ n ih => intro x; show (orbit n _).length + 1 = _; rw [ih]
  have hk' : k < 512 := by rw [hl] at hk; exact hk
  have a := orbit_at 512 0 k hk'
  rw [List.getElem?_eq_getElem hk, e] at a
  exact ⟨k, by omega, (Option.some.inj a).symm⟩
theorem lcg_plus (m i a : Nat) : ∀ k, lcgI m (lcgI m i a) k = lcgI m i (a + k)
  | 0 => rfl
  | k + 1 => by
    have ih := lcg_plus m i a k
    show (lcgI m (lcgI m i a) k * 5 + 1) % (m + 1) = (lcgI m i (a + k) * 5 + 1) % (m + 1)
    rw [ih]
theorem lcg_meets {m : Nat} (hm : Msk m) {i j : Nat} (hi : i ≤ m) (hj : j ≤ m) : ∃ k, k ≤ m ∧ lcgI m i k = j := by
  rcases hm with e | e | e | e
  · exact lcgI_all (.inl e) hi hj
  · exact lcgI_all (.inr (.inl e)) hi hj
  · exact lcgI_all (.inr (.inr e)) hi hj
  · subst e
    obtain ⟨a, la, ea⟩ := from0 hi
    obtain ⟨b, lb, eb⟩ := from0 hj
    have back : lcgI 511 0 512 = 0 := by
      have := orbit_at 513 0 512 (by omega)
      rw [orbit_back] at this
      exact (Option.some.inj this).symm
    subst ea
    by_cases c : a ≤ b
    · refine ⟨b - a, by omega, ?_⟩
      have s : a + (b - a) = b := by omega
      rw [lcg_plus, s, eb]
    · refine ⟨512 + b - a, by omega, ?_⟩
      have s : a + (512 + b - a) = 512 + b := by omega
      rw [lcg_plus, s, ← lcg_plus, back, eb]
theorem run_hits {m : Nat} (hm : Msk m) (h : Int) {j : Nat} (hj : j ≤ m) : ∃ n, n ≤ m + 12 ∧ runI m (SetTable.bits h) n = j := by
  obtain ⟨k, l, e⟩ := lcg_meets hm (runI_le m (SetTable.bits h) 12) hj
  refine ⟨12 + k, by omega, ?_⟩
  rw [runI_tail (bits_lt h), e]
theorem way_hits {m : Nat} (hm : Msk m) (h : Int) {j : Nat} (hj : j ≤ m) : ∃ k, k < 10 * SetTable.turns m ∧ way m h k = j := by
  obtain ⟨n, l, e⟩ := run_hits hm h hj
  obtain ⟨k, lk, ek⟩ := run_nth m (SetTable.bits h) n
  have tn : SetTable.turns m = m + 15 := rfl
  refine ⟨k, by omega, ?_⟩
  unfold way
  rw [ek]
  exact e
/-- a table whose places are found again -/
structure TabQ (t : SetTable) (hs : List Int) : Prop where
  up : Ris t.place.toList
  nodum : t.dummies = #[]
  cnt : t.place.size = hs.length
  msk : Msk t.mask
  low : ∀ x ∈ t.place.toList, x ≤ t.mask
  find : ∀ (i : Nat) (h : Int) (j : Nat), hs[i]? = some h → t.place.toList[i]? = some j → ∃ k, way t.mask h k = j ∧ ∀ k', k' < k → way t.mask h k' ∈ t.place.toList
theorem TabQ.of {t : SetTable} {hs : List Int} (T : TabOk t hs) : TabQ t hs := ⟨T.ris, T.dm, T.sz, by
  rcases T.mok with e | e | e
  · exact .inl e
  · exact .inr (.inl e)
  · exact .inr (.inr (.inl e)), T.bd, T.reach⟩
section
variable {t : SetTable} {hs : List Int}
theorem TabQ.plen (T : TabQ t hs) : t.place.toList.length = hs.length := by rw [Array.length_toList, T.cnt]
theorem TabQ.gap (T : TabQ t hs) (room : hs.length ≤ t.mask) (h : Int) : ∃ K, K < 10 * SetTable.turns t.mask ∧ way t.mask h K ∉ t.place.toList ∧ ∀ k, k < K → way t.mask h k ∈ t.place.toList := by
  obtain ⟨j, lj, nj⟩ := st_missing t.place.toList (t.mask + 1) (by rw [T.plen]; omega)
  obtain ⟨k, lk, ek⟩ := way_hits T.msk h (j := j) (by omega)
  obtain ⟨K, a, b, c⟩ := st_least (p := fun k => way t.mask h k ∉ t.place.toList) k (by
    show way t.mask h k ∉ t.place.toList
    rw [ek]; exact nj)
  exact ⟨K, by omega, b, fun k' l => Classical.not_not.mp (c k' l)⟩
theorem TabQ.ahead (T : TabQ t hs) {h : Int} {K i j : Nat} (out : way t.mask h K ∉ t.place.toList) (e1 : hs[i]? = some h) (e2 : t.place.toList[i]? = some j) : ∃ k, k < K ∧ way t.mask h k = j := by
  obtain ⟨k, a, b⟩ := T.find i h j e1 e2
  refine ⟨k, ?_, a⟩
  refine Classical.byContradiction fun c => ?_
  by_cases d : K = k
  · subst d
    rw [a] at out
    exact out (List.mem_of_getElem? e2)
  · exact out (b K (by omega))
end
/-! laid anew -/
end L2.Lv.Tb
set_option maxHeartbeats 1000000
namespace L2.Lv.Tb
open PySem PySem.Spec PyProof.Rows L2
/-! sets of many tuples of ints -/
structure SetQ (P : Program) (w : World) (h : Heap) (a : Addr) (L : List (Addr × List Int)) (es : Array (Int × Value)) (ep : Nat) (t : SetTable) : Prop where
  obj : ∃ o, h.get? a = some o ∧ o.ExactSet ∧ o.data = .set es ep t
  row : es.toList = rowsOf P w L
  tab : TabQ t (L.map fun p => thash P w p.2)
  once : (L.map (·.2)).Nodup
  keys : ∀ p ∈ L, IsT P w h p.2 p.1
  pln : t.plain = true
  byP : w.params.followText "set-order" = true ∨ t.led = true
  spare : L.length * 5 < t.mask * 3
  less : L.length ≤ 300
section
variable {P : Program} {w : World} {A : Around} {E : Value → Shared → Prop} {s : Shared}
variable {a : Addr} {L : List (Addr × List Int)} {es : Array (Int × Value)} {ep : Nat} {t : SetTable}
theorem rows_len {L : List (Addr × List Int)} {es : Array (Int × Value)} (e : es.toList = rowsOf P w L) : es.size = L.length := by
  rw [← Array.length_toList, e]
  unfold rowsOf
  rw [List.length_map]
theorem SetQ.size (R : SetQ P w s.heap a L es ep t) : es.size = L.length := rows_len R.row
theorem SetQ.at_ (R : SetQ P w s.heap a L es ep t) {i : Nat} {p : Addr × List Int} (e : L[i]? = some p) : es[i]? = some (thash P w p.2, Value.ref p.1) := by
  have : es.toList[i]? = some (thash P w p.2, Value.ref p.1) := by
    rw [R.row]
    unfold rowsOf
    rw [List.getElem?_map, e]; rfl
  rwa [Array.getElem?_toList] at this
end
end L2.Lv.Tb
set_option maxHeartbeats 2000000
namespace L2.Lv.Tb
open PySem PySem.Spec PyProof.Rows L2
/-! set(xs), xs a list of tuples of ints -/
section
variable {P : Program} {w : World} {A : Around} {E : Value → Shared → Prop} {s : Shared}
theorem SetQ.over {h h' : Heap} {a : Addr} {L : List (Addr × List Int)} {es : Array (Int × Value)} {ep : Nat} {t : SetTable} (R : SetQ P w h a L es ep t) (e : ∀ o, h.get? a = some o → h'.get? a = some o) (ks : ∀ p ∈ L, IsT P w h' p.2 p.1) : SetQ P w h' a L es ep t := by
  obtain ⟨o, q, r⟩ := R.obj
  exact ⟨⟨o, e o q, r⟩, R.row, R.tab, R.once, ks, R.pln, R.byP, R.spare, R.less⟩
end
/-! as an object -/
structure SetQ0 (P : Program) (w : World) (h : Heap) (a : Addr) (L : List (Addr × List Int)) : Prop where
  ex : ∃ (es : Array (Int × Value)) (ep : Nat) (t : SetTable), (∃ o, h.get? a = some o ∧ o.ExactSet ∧ o.data = .set es ep t) ∧ es.toList = rowsOf P w L ∧ TabQ t (L.map fun p => thash P w p.2) ∧ (L.map (·.2)).Nodup ∧ t.plain = true ∧
    (w.params.followText "set-order" = true ∨ t.led = true) ∧ L.length * 5 < t.mask * 3 ∧ L.length ≤ 300
theorem SetQ.part {P : Program} {w : World} {h : Heap} {a : Addr} {L : List (Addr × List Int)} {es : Array (Int × Value)} {ep : Nat} {t : SetTable} (R : SetQ P w h a L es ep t) : SetQ0 P w h a L := ⟨es, ep, t, R.obj, R.row, R.tab, R.once, R.pln, R.byP, R.spare, R.less⟩
theorem SetQ0.whole {P : Program} {w : World} {h : Heap} {a : Addr} {L : List (Addr × List Int)} (R : SetQ0 P w h a L) (ks : ∀ p ∈ L, IsT P w h p.2 p.1) : ∃ es ep t, SetQ P w h a L es ep t := by
  obtain ⟨es, ep, t, a1, a2, a3, a4, a5, a6, a7, a8⟩ := R.ex
  exact ⟨es, ep, t, a1, a2, a3, a4, ks, a5, a6, a7, a8⟩
end L2.Lv.Tb
set_option maxHeartbeats 2000000
namespace L2.Lv
open PySem PySem.Spec PyProof.Rows L2.Lv.Tb
/-! sorted(set(xs)), xs a list of tuples of ints -/
def tI (k : List Int) : PyData := .tuple (k.map .int)
def sortI (ks : List (List Int)) : List (List Int) := ks.mergeSort fun a b => !decide (b < a)
def ddup : List (List Int) → List (List Int)
  | [] => []
  | x :: xs => if x ∈ xs then ddup xs else x :: ddup xs
def keysT : List PyData → Option (List (List Int))
  | [] => some []
  | .tuple ys :: r => (intsOf ys).bind fun ns => (keysT r).map (ns :: ·)
  | _ => none
def okK (ks : List (List Int)) : Bool := (ks.all fun k => !k.isEmpty) || ks.all fun k => k.isEmpty
def gSortSetT : List PyData → Option W
  | [.list xs] => (keysT xs).bind fun ks => if okK ks && decide (ks.length ≤ 300) then some (.ol ((sortI (ddup ks)).map tI)) else none
  | _ => none
/-! the model -/
section
variable {X : Cx}
end
end L2.Lv
set_option maxHeartbeats 1000000
namespace L2.Lv
open PySem PySem.Spec PyProof.Rows
/-! d.get(k, x) -/
section
variable {X : Cx} {pins : List (Addr × Obj)} {σ : St} {H : Hp} {s : Shared} {x y z : V} {u v r : Value} {E : Value → Shared → Prop}
end
def dGet3 (x y z : PyData) : Option W := match x, z with
  | .dict kvs, .int i => (lookD kvs y).map fun r => .d (r.getD (.int i))
  | _, _ => none
def eGetD (da db dc : Fd) : Fe := fun ρ n => (da ρ n).bind fun p => (db ρ p.2).bind fun q => (dc ρ q.2).bind fun r => (dGet3 p.1 q.1 r.1).map (·, r.2)
end L2.Lv
set_option maxHeartbeats 1000000
namespace L2.Lv
open PySem PySem.Spec PyProof.Rows PySem.W
/-! sorted(xs), xs empty tuples -/
section
variable {prog : Program} {w : World} {A : Around} {E : Value → Shared → Prop} {s : Shared}
end
section
variable {X : Cx}
end
end L2.Lv
namespace L2.Lv
open PySem PySem.Spec PyProof.Rows
/-! an int, reckoned while a dict is gone through -/
def hdM : List (PyData × PyData) → Bool
  | kv :: _ => isMk kv || isFz kv
  | [] => false
def eLockI (i : Nat) (f : Fe) : Fe := fun ρ n => match ρ[i]? with
  | some (.od kvs) => if hdM kvs = true then none else (f (ρ.set i (.od (markF :: kvs))) n).bind fun p => match p.1 with
    | .d (.int z) => some (.d (.int z), p.2)
    | _ => none
  | _ => none
def iKeyF (i : Nat) : Fi := fun ρ n => match ρ[i]? with
  | some (.od (kv :: rest)) => if isFz kv = true then some (rest.map (·.1), n) else none
  | _ => none
section
variable {X : Cx} {e : Expr} {f : Fe}
end
end L2.Lv
namespace L2.Lv
open PySem PySem.Spec PyProof.Rows
/-! sum and min of a tuple of ints -/
section
variable {X : Cx}
end
end L2.Lv
namespace L2.Lv
open PySem PySem.Spec PyProof.Rows
/-! len(dict([(b, v), ..])), b bools -/
def pairsB : List PyData → Option (List Bool)
  | [] => some []
  | .tuple [.bool b, _] :: xs => (pairsB xs).map (b :: ·)
  | _ :: _ => none
def bcnt (bs : List Bool) : Nat := (if true ∈ bs then 1 else 0) + if false ∈ bs then 1 else 0
def gLenDictB : List PyData → Option W
  | [.list xs] => (pairsB xs).bind fun bs => if bs.length ≤ 100000 then some (.d (.int (bcnt bs : Nat))) else none
  | _ => none
section
variable {X : Cx} {A : Addr → Prop} {H : Hp}
end
end L2.Lv
namespace L2.Lv
open PySem PySem.Spec PyProof.Rows
/-! d.setdefault(k, v), keys tuples of ints -/
def sSetDef (i : Nat) (d : Fd) (f : Fe) : Fs := fun ρ n => (d ρ n).bind fun k => (f ρ k.2).bind fun p => p.1.frz.val.bind fun x => match k.1, ρ[i]? with
  | .tuple ks, some (.od (kv :: rest)) => if isMk kv = true then (intsOf ks).bind fun ns => if rest.length < big then some (.nx (ρ.set i (.od (markT :: (if (lookT rest ns).isSome = true then rest else putT rest ns x)))) p.2) else none else none
  | _, _ => none
section
variable {X : Cx} {e b f : Expr} {fe : Fe} {d : Fd} {pos cpos apos : Pos}
end
end L2.Lv
namespace L2.Lv
open PySem PySem.Spec PyProof.Rows
/-! tuple(d.values()), keys tuples of ints -/
section
variable {prog : Program} {w : World} {A : Around} {E : Value → Shared → Prop} {s : Shared} {r d : Addr} {n : Nat} {P : Nat → Value → Prop} {OK : Heap → Prop}
end
def eTupVals (da : Fd) : Fe := fun ρ n => (da ρ n).bind fun p => match p.1 with
  | .dict (kv :: rest) => if isMk kv = true then some (.d (.tuple (rest.map (·.2))), p.2) else none
  | _ => none
section
variable {X : Cx} {o : Expr} {td : TE}
end
end L2.Lv
namespace L2.Lv
open PySem PySem.Spec PyProof.Rows
/-! len(dict([(k, v), ..])), k tuples of texts, ints and such tuples -/
mutual
def nkOf : PyData → Option NestedKey
  | .int i => some (.num i)
  | .str x => some (.text x)
  | .tuple xs => (nkAll xs).map .tup
  | _ => none
def nkAll : List PyData → Option (List NestedKey)
  | [] => some []
  | x :: xs => (nkOf x).bind fun k => (nkAll xs).map (k :: ·)
end
section
variable {X : Cx} {A : Addr → Prop} {H : Hp}
mutual
theorem nest_of {pins : List (Addr × Obj)} {σ : St} {s : Shared} (I : Inv X pins σ H s) : ∀ (d : PyData) (v : V) (u : Value) (k : NestedKey), Dv A X.K H v d → RelV v u → nkOf d = some k → NestedIs s.heap k u
  | .int i, v, u, k, h, r, e => by
    cases h
    obtain ⟨t, rfl⟩ := r
    cases e
    exact .int _ _
  | .str x, v, u, k, h, r, e => by
    cases h
    obtain ⟨t, rfl⟩ := r
    cases e
    exact .text _ _
  | .tuple ds, v, u, k, h, r, e => by
    unfold nkOf at e
    obtain ⟨ks, e1, rfl⟩ := Option.map_eq_some_iff.mp e
    cases h with
    | tup hs ha =>
      cases r
      obtain ⟨its, r2, ht, _⟩ := I.tuple (sqT_of hs)
      obtain ⟨o, ho, hc, n, hd⟩ := ht
      exact .tup ho hc hd (nest_all I ds _ _ ks ha r2 e1)
  | .none, v, u, k, h, r, e => by cases e
  | .bool _, v, u, k, h, r, e => by cases e
  | .list _, v, u, k, h, r, e => by cases e
  | .dict _, v, u, k, h, r, e => by cases e
theorem nest_all {pins : List (Addr × Obj)} {σ : St} {s : Shared} (I : Inv X pins σ H s) : ∀ (ds : List PyData) (vs : List V) (us : List Value) (ks : List NestedKey), DvAll A X.K H vs ds → Vals vs us → nkAll ds = some ks → NestedAll s.heap ks us
  | [], _, _, ks, h, r, e => by
    cases h
    cases r
    cases e
    exact .nil
  | d :: ds, _, _, ks, h, r, e => by
    unfold nkAll at e
    obtain ⟨k, e1, e⟩ := Option.bind_eq_some_iff.mp e
    obtain ⟨ks', e2, rfl⟩ := Option.map_eq_some_iff.mp e
    cases h with
    | cons h1 h2 =>
      cases r with
      | cons r1 r2 => exact .cons (nest_of I d _ _ k h1 r1 e1) (nest_all I ds _ _ ks' h2 r2 e2)
end
end
end L2.Lv
namespace L2.Lv
open PySem PySem.Spec PyProof.Rows PySem.W
open PySem.SeqAt (RcLt EqAt firstLt firstLt_yes firstLt_no pairEq room_here room_in room_head room_tail)
/-! sorted of tuples whose items may be of unlike kinds behind the first place that differs -/
mutual
def aLz : PyData → PyData → Bool
  | .int _, .int _ => true
  | .str _, .str _ => true
  | .tuple xs, .tuple ys => aLzAll xs ys
  | _, _ => false
def aLzAll : List PyData → List PyData → Bool
  | x :: xs, y :: ys => if PyData.eqv x y = true then W.alike x y && aLzAll xs ys else aLz x y
  | [], _ => true
  | _ :: _, [] => true
end
theorem lz_yes {x y : PyData} {xs ys : List PyData} (h : aLzAll (x :: xs) (y :: ys) = true) (e : PyData.eqv x y = true) : W.alike x y = true ∧ aLzAll xs ys = true := by
  rw [aLzAll, if_pos e, Bool.and_eq_true] at h
  exact h
theorem lz_no {x y : PyData} {xs ys : List PyData} (h : aLzAll (x :: xs) (y :: ys) = true) (e : PyData.eqv x y = false) : aLz x y = true := by
  rw [aLzAll, if_neg (by rw [e]; decide)] at h
  exact h
mutual
theorem lz_refl : ∀ d : PyData, aLz d d = true → PyData.eqv d d = true
  | .int _, _ => by simp [PyData.eqv]
  | .str _, _ => by simp [PyData.eqv]
  | .tuple zs, h => by rw [PyData.eqv]; exact lzAll_refl zs (by simpa [aLz] using h)
  | .none, h => absurd h (by simp [aLz])
  | .bool _, h => absurd h (by simp [aLz])
  | .list _, h => absurd h (by simp [aLz])
  | .dict _, h => absurd h (by simp [aLz])
theorem lzAll_refl : ∀ zs : List PyData, aLzAll zs zs = true → PyData.eqvAll zs zs = true
  | [], _ => by simp [PyData.eqvAll]
  | z :: zs, h => by
    have hz : PyData.eqv z z = true := by
      cases q : PyData.eqv z z with
      | true => rfl
      | false => rw [← q]; exact lz_refl z (lz_no h q)
    rw [PyData.eqvAll, hz, lzAll_refl zs (lz_yes h hz).2]; rfl
end
mutual
theorem lz_one {h : Heap} : ∀ (d e : PyData) (v : Value) (as bs : List Addr), aLz d e = true → Reads h v d as → Reads h v e bs → d = e
  | .int _, e, _, _, _, q, r, r' => by
    cases e with
    | int _ => cases r; cases r'; rfl
    | _ => exact absurd q (by simp [aLz])
  | .str _, e, _, _, _, q, r, r' => by
    cases e with
    | str _ => cases r; cases r'; rfl
    | _ => exact absurd q (by simp [aLz])
  | .tuple xs, e, _, _, _, q, r, r' => by
    cases e with
    | tuple ys =>
      cases r with
      | tuple g1 g2 g3 g4 =>
        cases r' with
        | tuple k1 k2 k3 k4 =>
          rw [g1] at k1
          cases k1
          rw [g3] at k3
          cases k3
          rw [lz_ones xs ys _ _ _ (by simpa [aLz] using q) g4 k4]
    | _ => exact absurd q (by simp [aLz])
  | .none, e, _, _, _, q, _, _ => absurd q (by cases e <;> simp [aLz])
  | .bool _, e, _, _, _, q, _, _ => absurd q (by cases e <;> simp [aLz])
  | .list _, e, _, _, _, q, _, _ => absurd q (by cases e <;> simp [aLz])
  | .dict _, e, _, _, _, q, _, _ => absurd q (by cases e <;> simp [aLz])
theorem lz_ones {h : Heap} : ∀ (ds es : List PyData) (vs : List Value) (as bs : List Addr), aLzAll ds es = true → ReadsAll h vs ds as → ReadsAll h vs es bs → ds = es
  | [], es, _, _, _, _, r, r' => by cases r; cases r'; rfl
  | d :: ds, [], _, _, _, _, r, r' => by cases r; cases r'
  | d :: ds, e :: es, _, _, _, q, r, r' => by
    cases r with
    | cons r1 r2 =>
      cases r' with
      | cons k1 k2 =>
        cases z : PyData.eqv d e with
        | true =>
          rw [alike_unique _ _ _ _ _ (lz_yes q z).1 r1 k1, lz_ones ds es _ _ _ (lz_yes q z).2 r2 k2]
        | false =>
          have l := lz_no q z
          have de := lz_one d e _ _ _ l r1 k1
          subst de
          rw [lz_refl d l] at z
          cases z
end
mutual
theorem lz_toks : ∀ (d e : PyData), aLz d e = true → (PyData.eqv d e = true → keyToks d = keyToks e) ∧ (PyData.eqv d e = false → ∀ l m, lexLt itemOrd (keyToks d ++ l) (keyToks e ++ m) = lexLt itemOrd (keyToks d) (keyToks e))
  | .int a, e, q => toks_eqv (.int a) e (by cases e <;> first | rfl | exact absurd q (by simp [aLz]))
  | .str a, e, q => toks_eqv (.str a) e (by cases e <;> first | rfl | exact absurd q (by simp [aLz]))
  | .tuple xs, e, q => by
    cases e with
    | tuple ys =>
      have t := lz_toksAll xs ys (by simpa [aLz] using q)
      simp only [keyToks, PyData.eqv]
      exact t
    | _ => exact absurd q (by simp [aLz])
  | .none, e, q => absurd q (by cases e <;> simp [aLz])
  | .bool _, e, q => absurd q (by cases e <;> simp [aLz])
  | .list _, e, q => absurd q (by cases e <;> simp [aLz])
  | .dict _, e, q => absurd q (by cases e <;> simp [aLz])
theorem lz_toksAll : ∀ (ds es : List PyData), aLzAll ds es = true → (PyData.eqvAll ds es = true → keyToksAll ds = keyToksAll es) ∧ (PyData.eqvAll ds es = false → ∀ l m, lexLt itemOrd (keyToksAll ds ++ l) (keyToksAll es ++ m) = lexLt itemOrd (keyToksAll ds) (keyToksAll es))
  | [], [], _ => ⟨fun _ => rfl, fun z => absurd z (by simp [PyData.eqvAll])⟩
  | [], e :: es, _ => ⟨fun z => absurd z (by simp [PyData.eqvAll]), fun _ l m => by
      simp only [keyToksAll, List.cons_append, List.nil_append]
      exact (lex_atom (by simp) l _).trans (lex_atom (by simp) [] _).symm⟩
  | d :: ds, [], _ => ⟨fun z => absurd z (by simp [PyData.eqvAll]), fun _ l m => by
      simp only [keyToksAll, List.cons_append, List.nil_append]
      exact (lex_atom (by simp) _ m).trans (lex_atom (by simp) _ []).symm⟩
  | d :: ds, e :: es, q => by
    rw [eqv_all_cons, toks_all_cons, toks_all_cons]
    cases z : PyData.eqv d e with
    | true =>
      obtain ⟨b1, b2⟩ := lz_toksAll ds es (lz_yes q z).2
      rw [(toks_eqv d e (lz_yes q z).1).1 z, Bool.true_and]
      refine ⟨fun y => by rw [b1 y], fun y l m => ?_⟩
      simp only [List.cons_append, List.append_assoc]
      have t1 := lex_self (O := itemOrd) (Sum.inl 1) (keyToks e ++ (keyToksAll ds ++ l)) (keyToks e ++ (keyToksAll es ++ m))
      have t2 := lex_self (O := itemOrd) (Sum.inl 1) (keyToks e ++ keyToksAll ds) (keyToks e ++ keyToksAll es)
      exact t1.trans (((lex_pre _ _ _).trans (b2 y l m)).trans ((lex_pre _ _ _).symm.trans t2.symm))
    | false =>
      obtain ⟨_, a2⟩ := lz_toks d e (lz_no q z)
      rw [Bool.false_and]
      refine ⟨fun y => (by cases y), fun _ l m => ?_⟩
      simp only [List.cons_append, List.append_assoc]
      have t1 := lex_self (O := itemOrd) (Sum.inl 1) (keyToks d ++ (keyToksAll ds ++ l)) (keyToks e ++ (keyToksAll es ++ m))
      have t2 := lex_self (O := itemOrd) (Sum.inl 1) (keyToks d ++ keyToksAll ds) (keyToks e ++ keyToksAll es)
      exact (t1.trans (a2 z _ _)).trans (t2.trans (a2 z _ _)).symm
end
theorem lz_lex_no {x y : PyData} {xs ys : List PyData} (h : aLz x y = true) (e : PyData.eqv x y = false) : lexLt itemOrd (keyToksAll (x :: xs)) (keyToksAll (y :: ys)) = dataLt x y := by
  rw [toks_all_cons, toks_all_cons, lex_self (O := itemOrd)]
  exact (lz_toks x y h).2 e _ _
theorem lz_first : ∀ (ds es : List PyData), aLzAll ds es = true →
    firstLt (pairEq ds es) (fun j => dataLt (ds.getD j .none) (es.getD j .none)) (decide (ds.length < es.length)) (List.range (min ds.length es.length)) = lexLt itemOrd (keyToksAll ds) (keyToksAll es)
  | [], [], _ => by simp [firstLt, keyToksAll, lex_irrefl]
  | [], e :: es, _ => by
    simp only [toks_all_cons, keyToksAll]
    rw [lex_diff (O := itemOrd) (by simp)]
    simp [firstLt, itemLt]
  | d :: ds, [], _ => by
    simp only [toks_all_cons, keyToksAll]
    rw [lex_diff (O := itemOrd) (by simp)]
    simp [firstLt, itemLt]
  | d :: ds, e :: es, q => by
    have e1 : min (ds.length + 1) (es.length + 1) = min ds.length es.length + 1 := by omega
    have e2 : decide (ds.length + 1 < es.length + 1) = decide (ds.length < es.length) := by simp
    simp only [List.length_cons]
    rw [e1, e2, List.range_succ_eq_map]
    cases z : PyData.eqv d e with
    | true =>
      have ih := lz_first ds es (lz_yes q z).2
      rw [firstLt_yes (show pairEq (d :: ds) (e :: es) 0 = true from z), firstLt_map, dataLt_all_yes (lz_yes q z).1 z]
      exact ih
    | false =>
      rw [firstLt_no (show pairEq (d :: ds) (e :: es) 0 = false from z), lz_lex_no (lz_no q z) z]
      rfl
end L2.Lv
namespace PySem.SeqAt
open MeetsSeq MeetsSeq2 MeetsSeq3 SeqRoads2
/-- as tuple_ltAt, but < is asked at the first place alone that differs -/
theorem tuple_ltLz (p q : Addr) (us ws : Array Value) (k1 k2 : Nat) (c1 c2 : Option Addr) (t1 t2 : Array (Option Value)) (e r : Nat → Bool) :
    Meets (Builtin.«tuple.__lt__» ⟨[.ref p, .ref q], []⟩)
      (fun A R s => s.heap.get? p = some { cls := .type "tuple", dict := c1, data := .seq us k1, slots := t1 } ∧ s.heap.get? q = some { cls := .type "tuple", dict := c2, data := .seq ws k2, slots := t2 } ∧
        (∀ j (g1 : j < us.size) (g2 : j < ws.size), EqAt A.in1 s us[j] ws[j] (e j)) ∧ (∀ j (g1 : j < us.size) (g2 : j < ws.size), e j = false → (∀ i, i < j → e i = true) → RcLt A.in1 s us[j] ws[j] (r j)) ∧
        R (.ok (.ret (.bool (firstLt e r (decide (us.size < ws.size)) (List.range (min us.size ws.size)))))) s) :=
  .of_wp fun prog w A R s z => by
    obtain ⟨hp, g, d, tk, os⟩ := s
    obtain ⟨z1, z2, he, hr, z⟩ := z
    have f2 := AutoSeq1.sub_tuple_tuple
    have lz : (us.toList.zip ws.toList).length = min us.size ws.size := by simp
    wp_walk using AutoSeq1.wpAny_loadPart' z1, AutoSeq1.wpAny_loadPart' z2, wpAny_forIn_list _ (fun rest b s' => b.1 = none ∧ s' = ⟨hp, g, d, tk, os⟩ ∧ ∃ i, (∀ j, j < i → e j = true) ∧ rest = (us.toList.zip ws.toList).drop i ∧
      R (.ok (.ret (.bool (firstLt e r (decide (us.size < ws.size)) ((List.range (min us.size ws.size)).drop i))))) ⟨hp, g, d, tk, os⟩) _
    case turn =>
      rintro ⟨y, x⟩ rest b s' ⟨b0, rfl, i, pre, hz, hR⟩
      have lt : i < (us.toList.zip ws.toList).length := by
        rcases Nat.lt_or_ge i (us.toList.zip ws.toList).length with q | q
        · exact q
        · rw [List.drop_of_length_le q] at hz; cases hz
      have g1 : i < us.size := by omega
      have g2 : i < ws.size := by omega
      rw [List.drop_eq_getElem_cons lt] at hz
      injection hz with pr tl
      have ey : y = us[i] := by have := congrArg Prod.fst pr; simpa using this
      have ex : x = ws[i] := by have := congrArg Prod.snd pr; simpa using this
      subst ey ex
      rw [show (List.range (min us.size ws.size)).drop i = i :: (List.range (min us.size ws.size)).drop (i + 1) by simp [List.drop_eq_getElem_cons, show i < min us.size ws.size by omega]] at hR
      refine wpAny_bind (he i g1 g2 prog w _ _ ?_)
      cases ei : e i with
      | true =>
        rw [firstLt_yes ei] at hR
        wp_walk
        refine ⟨rfl, rfl, i + 1, fun j hj => ?_, tl, hR⟩
        rcases Nat.lt_succ_iff_lt_or_eq.mp hj with q | q
        · exact pre j q
        · rw [q]; exact ei
      | false =>
        rw [firstLt_no ei] at hR
        have key : ∀ (E' : Value → Shared → Prop) (Q' : Value → Shared → Prop), Q' (.bool (r i)) ⟨hp, g, d, tk, os⟩ → wpAny (model prog w) A.in1 (PySem.richCompare .Lt us[i] ws[i]) Q' E' ⟨hp, g, d, tk, os⟩ := fun E' Q' q => hr i g1 g2 ei pre prog w E' Q' q
        wp_walk using key _ _
        exact ⟨_, rfl, hR⟩
    case fin =>
      rintro ⟨b1, b2⟩ s' ⟨b0, rfl, i, pre, hz, hR⟩
      simp only at b0
      subst b0
      have ge : min us.size ws.size ≤ i := by
        rcases Nat.lt_or_ge i (us.toList.zip ws.toList).length with q | q
        · rw [List.drop_eq_getElem_cons q] at hz; cases hz
        · exact lz ▸ q
      rw [List.drop_of_length_le (by simpa using ge)] at hR
      wp_walk
      exact ⟨_, rfl, by simpa [Builtin.Tuple.tupleCompareSizes, firstLt] using hR⟩
    case h =>
      exact ⟨rfl, rfl, 0, fun j q => absurd q (Nat.not_lt_zero _), rfl, by simpa using z⟩
theorem RcLt.tuplesLz {A : Around} {s : Shared} {p q : Addr} {us ws : Array Value} {e r : Nat → Bool} (hl : s.heap.IsTuple p us) (hb : s.heap.IsTuple q ws) (hu : A.units < cLine)
    (he : ∀ j (g1 : j < us.size) (g2 : j < ws.size), EqAt A.in1 s us[j] ws[j] (e j)) (hr : ∀ j (g1 : j < us.size) (g2 : j < ws.size), e j = false → (∀ i, i < j → e i = true) → RcLt A.in1 s us[j] ws[j] (r j)) :
    RcLt A s (.ref p) (.ref q) (firstLt e r (decide (us.size < ws.size)) (List.range (min us.size ws.size))) := fun prog w E Q h => by
  obtain ⟨⟨cl1, c1, da1, t1⟩, o1, rfl, k1, rfl⟩ := id hl
  obtain ⟨⟨cl2, c2, da2, t2⟩, o2, rfl, k2, rfl⟩ := id hb
  refine richCompare_meets_room (op := .Lt) ⟨_, o1, rfl⟩ ⟨_, o2, rfl⟩ F.slot_tuple_lt F.entry_tuple_lt (F.args_tuple_lt_2 _ _) (tuple_ltLz p q us ws k1 k2 c1 c2 t1 t2 e r) ⟨o1, o2, he, hr, ?_⟩ (hu := hu)
  exact ⟨(fun x => nomatch x), h⟩
end PySem.SeqAt
namespace L2.Lv
open PySem PySem.Spec PyProof.Rows PySem.W
open PySem.SeqAt (RcLt EqAt firstLt firstLt_yes firstLt_no pairEq room_here room_in room_head room_tail)
theorem plain_cons {x : PyData} {xs : List PyData} (h : PyData.plainAll (x :: xs) = true) : x.plain = true ∧ PyData.plainAll xs = true := by simpa [PyData.plainAll] using h
mutual
theorem rcLt_lz : ∀ (d e : PyData) (A : Around) (s : Shared) (a b : Value) (as bs : List Addr), Reads s.heap a d as → Reads s.heap b e bs → aLz d e = true → d.plain = true → e.plain = true → A.units + min d.depth e.depth < cLine → RcLt A s a b (dataLt d e)
  | .int i, e, A, s, a, b, as, bs, r1, r2, q, _, _, hu => rcLt_alike (.int i) e A s a b as bs r1 r2 (by cases e <;> first | rfl | exact absurd q (by simp [aLz])) (by simp) hu
  | .str i, e, A, s, a, b, as, bs, r1, r2, q, _, _, hu => rcLt_alike (.str i) e A s a b as bs r1 r2 (by cases e <;> first | rfl | exact absurd q (by simp [aLz])) (by simp) hu
  | .tuple ds, e, A, s, a, b, as, bs, r1, r2, q, p1, p2, hu => by
    cases e with
    | tuple es =>
      have q : aLzAll ds es = true := by simpa [aLz] using q
      have p1 : PyData.plainAll ds = true := by simpa [PyData.plain] using p1
      have p2 : PyData.plainAll es = true := by simpa [PyData.plain] using p2
      cases r1 with
      | @tuple l o us n _ as1 g1 g2 g3 g4 =>
        cases r2 with
        | @tuple l' o' ws n' _ bs1 k1 k2 k3 k4 =>
          have m1 : us.size = ds.length := by simpa using SeqAt.ReadsAll.length _ _ _ g4
          have m2 : ws.size = es.length := by simpa using SeqAt.ReadsAll.length _ _ _ k4
          rw [dataLt_tuple, ← lz_first ds es q, ← m1, ← m2]
          refine RcLt.tuplesLz ⟨_, g1, g2, _, g3⟩ ⟨_, k1, k2, _, k3⟩ (room_here hu) (fun j j1 j2 => ?_) fun j j1 j2 hj hp => ?_
          · have := SeqAt.eqAt_plainAll ds es A.in1 s us.toList ws.toList _ _ g4 k4 p1 p2 (room_in hu) j (by simpa using j1) (by simpa using j2)
            simpa using this
          · have := rcLt_lzs ds es A.in1 s us.toList ws.toList _ _ g4 k4 q p1 p2 (room_in hu) j (by simpa using j1) (by simpa using j2) hj hp
            simpa using this
    | _ => exact absurd q (by simp [aLz])
  | .none, e, _, _, _, _, _, _, _, _, q, _, _, _ => absurd q (by cases e <;> simp [aLz])
  | .bool _, e, _, _, _, _, _, _, _, _, q, _, _, _ => absurd q (by cases e <;> simp [aLz])
  | .list _, e, _, _, _, _, _, _, _, _, q, _, _, _ => absurd q (by cases e <;> simp [aLz])
  | .dict _, e, _, _, _, _, _, _, _, _, q, _, _, _ => absurd q (by cases e <;> simp [aLz])
theorem rcLt_lzs : ∀ (ds es : List PyData) (A : Around) (s : Shared) (us ws : List Value) (as bs : List Addr), ReadsAll s.heap us ds as → ReadsAll s.heap ws es bs → aLzAll ds es = true → PyData.plainAll ds = true → PyData.plainAll es = true →
    A.units + min (PyData.depthAll ds) (PyData.depthAll es) < cLine → ∀ j (g1 : j < us.length) (g2 : j < ws.length), pairEq ds es j = false → (∀ i, i < j → pairEq ds es i = true) → RcLt A s us[j] ws[j] (dataLt (ds.getD j .none) (es.getD j .none))
  | [], _, _, _, _, _, _, _, r, _, _, _, _, _, j, g1, _, _, _ => by cases r; exact absurd g1 (Nat.not_lt_zero _)
  | _ :: _, [], _, _, _, _, _, _, _, r, _, _, _, _, j, _, g2, _, _ => by cases r; exact absurd g2 (Nat.not_lt_zero _)
  | d :: ds, e :: es, A, s, _, _, _, _, r1, r2, q, p1, p2, hu, j, g1, g2, hj, hp => by
    cases r1 with
    | cons x1 x2 =>
      cases r2 with
      | cons y1 y2 =>
        cases j with
        | zero => exact rcLt_lz d e A s _ _ _ _ x1 y1 (lz_no q hj) (plain_cons p1).1 (plain_cons p2).1 (room_head hu)
        | succ j => exact rcLt_lzs ds es A s _ _ _ _ x2 y2 (lz_yes q (hp 0 (Nat.succ_pos j))).2 (plain_cons p1).2 (plain_cons p2).2 (room_tail hu) j (Nat.lt_of_succ_lt_succ g1) (Nat.lt_of_succ_lt_succ g2) hj fun i hi => hp (i + 1) (Nat.succ_lt_succ hi)
end
section
variable {prog : Program} {w : World} {A : Around} {s : Shared}
theorem katLex_lz {fin : Bool} {Q : Bool → Shared → Prop} : ∀ (ds es : List PyData) (i : Nat) (us ws : List Value) (as bs : List Addr), ReadsAll s.heap us ds as → ReadsAll s.heap ws es bs → aLzAll ds es = true → PyData.plainAll ds = true → PyData.plainAll es = true →
    A.units + min (PyData.depthAll ds) (PyData.depthAll es) < cLine → fin = decide (ds.length < es.length) → Q (lexLt itemOrd (keyToksAll ds) (keyToksAll es)) s → KatLex prog w A false fin Q (us.zip ws) i s
  | [], [], i, _, _, _, _, r1, r2, _, _, _, _, hf, hq => by
    cases r1
    cases r2
    rw [lex_irrefl] at hq
    exact kat_nil (by rw [hf]; simpa using hq)
  | [], e :: es, i, _, _, _, _, r1, r2, _, _, _, _, hf, hq => by
    cases r1
    simp only [toks_all_cons, keyToksAll] at hq
    rw [lex_diff (O := itemOrd) (by simp)] at hq
    rw [List.zip_nil_left]
    exact kat_nil (by rw [hf]; simpa [itemLt] using hq)
  | d :: ds, [], i, _, _, _, _, r1, r2, _, _, _, _, hf, hq => by
    cases r2
    simp only [toks_all_cons, keyToksAll] at hq
    rw [lex_diff (O := itemOrd) (by simp)] at hq
    rw [List.zip_nil_right]
    exact kat_nil (by rw [hf]; simpa [itemLt] using hq)
  | d :: ds, e :: es, i, _, _, _, _, r1, r2, q, p1, p2, hu, hf, hq => by
    have hf2 : fin = decide (ds.length < es.length) := by rw [hf]; simp
    cases r1 with
    | cons x1 x2 =>
      cases r2 with
      | cons y1 y2 =>
        rw [List.zip_cons_cons]
        refine kat_cons (SeqAt.eqAt_plain d e A s _ _ _ _ x1 y1 (plain_cons p1).1 (plain_cons p2).1 (room_head hu) prog w _ _ ?_)
        cases z : PyData.eqv d e with
        | true =>
          rw [dataLt_all_yes (lz_yes q z).1 z] at hq
          exact kat_yes (katLex_lz ds es (i + 1) _ _ _ _ x2 y2 (lz_yes q z).2 (plain_cons p1).2 (plain_cons p2).2 (room_tail hu) hf2 hq)
        | false =>
          rw [lz_lex_no (lz_no q z) z] at hq
          refine kat_no ?_
          rw [Bool.false_and, oneLt'_eq]
          simp only [Bool.false_eq_true, if_false]
          exact wpAny_bind (rcLt_lz d e A s _ _ _ _ x1 y1 (lz_no q z) (plain_cons p1).1 (plain_cons p2).1 (room_head hu) prog w _ _ (wpAny_truthy_bool hq))
def AllLz (ds : List PyData) : Prop := ∀ d, d ∈ ds → ∀ e, e ∈ ds → aLz d e = true
theorem lzKey {h : Heap} {ds : List PyData} (hal : AllLz ds) {v : Value} {d : PyData} {as : List Addr} (hd : d ∈ ds) (r : Reads h v d as) : (dataKind h ds).keyOf v = some (keyToks d) := by
  have q : ∃ d, d ∈ ds ∧ ∃ as, Reads h v d as := ⟨d, hd, as, r⟩
  obtain ⟨e, he⟩ : ∃ k, (dataKind h ds).keyOf v = some k := by
    refine ⟨keyToks q.choose, ?_⟩
    show (open Classical in if q : ∃ d, d ∈ ds ∧ ∃ as, Reads h v d as then some (keyToks q.choose) else none) = _
    rw [dif_pos q]
    rfl
  obtain ⟨d', as', h1, h2, h3⟩ := dataKind_inv he
  rw [he, h3, lz_one d' d v _ _ (hal _ h1 _ hd) h2 r]
  rfl
theorem SortsAt.lz {vs : List Value} {ds : List PyData} (e : EachIs (fun v d => ∃ as, Reads s.heap v d as) vs ds) (hal : AllLz ds) (hp : ∀ d, d ∈ ds → d.plain = true) (ht : ∀ d, d ∈ ds → ∃ t r, d = .tuple (.tuple t :: r)) (hu : ∀ d, d ∈ ds → A.units + d.depth < cLine) :
    SortsAt prog w A s (dataKind s.heap ds) vs := by
  refine ⟨fun v hv => ?_, tuples' false, fun E x y a b Q ha hb hq => ?_, fun h2 E Q hq => ?_⟩
  · obtain ⟨d, hd, as, r⟩ := e.left v hv
    exact ⟨_, lzKey hal hd r⟩
  · obtain ⟨d, as, hd, ra, rfl⟩ := dataKind_inv ha
    obtain ⟨d', as', hd', rb, rfl⟩ := dataKind_inv hb
    have q := hal d hd d' hd'
    have p1 := hp d hd
    have p2 := hp d' hd'
    have room : A.units + min d.depth d'.depth < cLine := by have := hu d hd; omega
    obtain ⟨t1, r1, rfl⟩ := ht d hd
    obtain ⟨t2, r2, rfl⟩ := ht d' hd'
    have hq : Q (dataLt (.tuple (.tuple t1 :: r1)) (.tuple (.tuple t2 :: r2))) s := hq
    rw [dataLt_tuple] at hq
    cases ra with
    | @tuple l o us n _ _ g1 g2 g3 g4 =>
      cases rb with
      | @tuple l' o' ws n' _ _ k1 k2 k3 k4 =>
        have m1 : us.size = (PyData.tuple t1 :: r1).length := by simpa using SeqAt.ReadsAll.length _ _ _ g4
        have m2 : ws.size = (PyData.tuple t2 :: r2).length := by simpa using SeqAt.ReadsAll.length _ _ _ k4
        exact kat_lt g1 g3 k1 k3 (katLex_lz _ _ 0 _ _ _ _ g4 k4 (by simpa [aLz] using q) (by simpa [PyData.plain] using p1) (by simpa [PyData.plain] using p2) (by have := SeqAt.room_in room; omega) (by rw [m1, m2]) hq)
  · obtain ⟨fs, f1, f2, f3⟩ := each_katTups e fun d hd => let ⟨t, r, q⟩ := ht d hd; ⟨_, r, q⟩
    refine kat_kind (T := .type "tuple") f1 (by omega) (fun f hf => ?_) (beq_self_eq_true _) (by rw [show (Value.type "tuple" != Value.type "tuple") = false by rw [bne, beq_self_eq_true]; rfl]; exact hq)
    obtain ⟨x, r, as, n1, n2⟩ := f3 f hf
    obtain ⟨t, r', z⟩ := ht _ n1
    cases z
    exact looks_reads n2
end
variable {X : Cx}
end L2.Lv
namespace L2.Lv
open PySem PySem.Spec PyProof.Rows
/-! a list of lists of one's own -/
theorem SlOk.mono {A A' : Addr → Prop} {T : Option Addr} {K : PySem.W.Frag} {H H' : Hp} {v : Option (Option V)} {o : Option Addr} {hd hd' : Nat → Option Addr} {w : W} (q : SlOk A T K H v o hd w) (m : Keep A A' H H') (k : ∀ a u, o = some a → H a = some u → H' a = some u)
    (eh : ∀ j, j < 1000 → hd' j = hd j) (kh : ∀ j a u, j < 1000 → hd j = some a → H a = some u → H' a = some u) : SlOk A' T K H' v o hd' w := by
  cases w with
  | no => trivial
  | d x => obtain ⟨u, h1, h2⟩ := q; exact ⟨u, h1, h2.mono m⟩
  | town => exact q
  | ol xs => obtain ⟨a, vs, h1, h2, h3, h4⟩ := q; exact ⟨a, vs, h1, h2, k _ _ h1 h3, h4.mono m⟩
  | od kvs => obtain ⟨a, h1, h2, h3⟩ := q; exact ⟨a, h1, h2, h3.mono m fun o e => k _ _ h1 e⟩
  | oll xss =>
    obtain ⟨a, bs, h1, h2, h3, h4⟩ := q
    exact ⟨a, bs, h1, h2, k _ _ h1 h3, h4.mono m (fun j hj => eh j (by have := h4.2.1; omega)) fun j b u hj g e => kh j b u (by have := h4.2.1; omega) g e⟩
section
variable {C : Cn} {O : Ow} {K : PySem.W.Frag} {σ : St} {H H1 : Hp} {ρ : List W} {n n' i : Nat} {w w' : W}
theorem EnvOk.reslot (E : EnvOk C O K σ H ρ n) (hx : ρ[i]? = some w) (h : SlOk (Av C O) C.T K H σ[i]? (O i) (hid O ρ.length i) w → SlOk (Av C O) C.T K H σ[i]? (O i) (hid O ρ.length i) w') : EnvOk C O K σ H (ρ.set i w') n := by
  refine ⟨by simpa using E.len, fun j u e => ?_, E.inj, E.own, E.town, E.base, E.ptr, E.fr⟩
  rw [List.length_set]
  by_cases z : j = i
  · subst z
    rw [List.getElem?_set_self (lt_of_get hx)] at e
    cases e
    exact h (E.sl j w hx)
  · rw [List.getElem?_set_ne (Ne.symm z)] at e
    exact E.sl j u e
theorem EnvOk.nst (E : EnvOk C O K σ H ρ n) (hx : ρ[i]? = some (.ol [])) : EnvOk C O K σ H (ρ.set i (.oll [])) n := E.reslot hx (by
  rintro ⟨a, vs, h1, h2, h3, h4⟩
  cases h4
  exact ⟨a, [], h1, h2, h3, rfl, Nat.zero_le _, fun j b xs e _ => by simp at e⟩)
end
def nstO (i : Nat) : Out → Option Out
  | .nx ρ n => match ρ[i]? with
    | some (.ol []) => some (.nx (ρ.set i (.oll [])) n)
    | _ => none
  | o => some o
/-- the empty list that was just stored is to hold lists -/
def sNst (i : Nat) (g : Fs) : Fs := fun ρ n => (g ρ n).bind (nstO i)
theorem ss_nst {X : Cx} {st : Stmt} {g : Fs} (i : Nat) (h : EvS X st g) : EvS X st (sNst i g) := psI h (by
  rintro D σ H ⟨C, O, ρ, n, out, hf, E, np, q⟩
  obtain ⟨o, e1, e2⟩ := Option.bind_eq_some_iff.mp hf
  refine ⟨C, O, ρ, n, o, e1, E, np, ?_⟩
  cases o with
  | nx ρ1 n1 =>
    simp only [nstO] at e2
    split at e2
    · rename_i hx
      cases e2
      exact fun O' σ' H' s E' => q O' σ' H' s (E'.nst hx)
    · cases e2
  | bk ρ1 n1 => cases e2; exact q
  | rt w n1 => cases e2; exact q)
/-! a new list behind the others -/
section
variable {C : Cn} {O : Ow} {K : PySem.W.Frag} {σ : St} {H H1 : Hp} {ρ : List W} {n n' i : Nat}
theorem EnvOk.appN {xss : List (List PyData)} {xs : List PyData} {l b : Addr} {bs : List Addr} {us : List V} (E : EnvOk C O K σ H ρ n) (s : Step C H H1) (t : TownAt C H1 n') (hx : ρ[i]? = some (.oll xss)) (h1 : O i = some l) (h2 : σ[i]? = some (some (.ref l)))
    (h3 : H l = some (.lst (bs.map V.ref))) (h4 : NstAt (Av C O) K H (hid O ρ.length i) xss bs) (hl : xss.length < 1000) (b0 : H b = none) (b1 : H1 b = some (.lst us)) (d : DvAll (fun a => Av C O a ∨ a = b) K H1 us xs) :
    EnvOk C (owSet O (ρ.length + 1000 * i + xss.length) (some b)) K σ (upd H1 l (.lst (bs.map V.ref ++ [.ref b]))) (ρ.set i (.oll (xss ++ [xs]))) n' ∧
      StepS C O (owSet O (ρ.length + 1000 * i + xss.length) (some b)) H (upd H1 l (.lst (bs.map V.ref ++ [.ref b]))) := by
  have E1 := E.step s t
  have hi := lt_of_get hx
  have bl : bs.length = xss.length := h4.1
  obtain ⟨o1, o2, o3⟩ := E.own i l h1
  have nl : b ≠ l := fun z => by rw [z] at b0; exact o3 b0
  have hb : ∀ k, O k ≠ some b := fun k z => (E.own k b z).2.2 b0
  have hav : Av C O l := .inr (.inr ⟨i, h1⟩)
  have at_ : ∀ a, a ≠ l → upd H1 l (.lst (bs.map V.ref ++ [.ref b])) a = H1 a := fun a z => upd_ne z
  have av' : ∀ a, Av C (owSet O (ρ.length + 1000 * i + xss.length) (some b)) a → Av C O a ∨ a = b := by
    rintro a (z | z | ⟨j, z⟩)
    · exact .inl (.inl z)
    · exact .inl (.inr (.inl z))
    · by_cases h : j = ρ.length + 1000 * i + xss.length
      · rw [h, owSet_at] at z; cases z; exact .inr rfl
      · rw [owSet_of h] at z; exact .inl (.inr (.inr ⟨j, z⟩))
  have kp : Keep (Av C O) (Av C (owSet O (ρ.length + 1000 * i + xss.length) (some b))) H (upd H1 l (.lst (bs.map V.ref ++ [.ref b]))) := fun a u na r => by
    refine ⟨fun z => (av' a z).elim na fun e => (by rw [e, b0] at r; cases r), ?_⟩
    rw [at_ a fun z => na (by rw [z]; exact hav)]
    exact s.st _ _ r fun e => na (.inr (.inl e))
  have kb : Keep (fun a => Av C O a ∨ a = b) (Av C (owSet O (ρ.length + 1000 * i + xss.length) (some b))) H1 (upd H1 l (.lst (bs.map V.ref ++ [.ref b]))) := fun a u na r => by
    refine ⟨fun z => na (av' a z), ?_⟩
    rw [at_ a fun z => na (.inl (by rw [z]; exact hav))]
    exact r
  have nn : ∀ a, upd H1 l (.lst (bs.map V.ref ++ [.ref b])) a = none → H1 a = none := fun a e => by
    by_cases h : a = l
    · rw [h, upd_same] at e; cases e
    · rw [at_ a h] at e; exact e
  refine ⟨⟨by simpa using E.len, fun j w e => ?_, fun j k a g1 g2 => ?_, fun j a g => ?_, fun a e => ?_, fun a u g ht => ?_, fun a g e => E1.ptr a g (nn a e), fun a e => E1.fr a (nn a e)⟩, fun a u r ht no => ?_, fun a e => s.fr a (nn a e), fun j a g => ?_⟩
  · rw [List.length_set]
    by_cases z : j = i
    · subst z
      rw [List.getElem?_set_self hi] at e
      cases e
      refine ⟨l, bs ++ [b], by rw [owSet_of (by omega)]; exact h1, h2, by rw [upd_same, List.map_append]; rfl, by simp [bl], by simp; omega, fun x c ys g1 g2 => ?_⟩
      by_cases c1 : x < bs.length
      · rw [List.getElem?_append_left c1] at g1
        rw [List.getElem?_append_left (by omega)] at g2
        obtain ⟨g3, vs, g4, g5⟩ := h4.2.2 x c ys g1 g2
        refine ⟨?_, vs, ?_, g5.mono kp⟩
        · show owSet O _ _ _ = _
          rw [owSet_of (by omega)]
          exact g3
        · have ne : c ≠ l := fun z => by
            rw [z] at g3
            have := E.inj _ j l g3 h1
            omega
          rw [at_ c ne]
          exact s.st _ _ g4 (E.own _ c g3).1
      · have hx2 : x = bs.length := by
          have := (List.getElem?_eq_some_iff.mp g1).1
          rw [List.length_append, List.length_singleton] at this
          omega
        subst hx2
        rw [List.getElem?_append_right (Nat.le_refl _), Nat.sub_self] at g1
        rw [bl, List.getElem?_append_right (Nat.le_refl _), Nat.sub_self] at g2
        cases g1
        cases g2
        refine ⟨?_, us, by rw [at_ b nl]; exact b1, d.mono kb⟩
        show owSet O _ _ _ = _
        rw [bl, owSet_at]
    · rw [List.getElem?_set_ne (Ne.symm z)] at e
      have hj := lt_of_get e
      rw [owSet_of (by omega)]
      refine (E.sl j w e).mono kp (fun a u g r => ?_) (fun x hx => owSet_of (by omega)) fun x a u hx g r => ?_
      · have ne : a ≠ l := fun q => z (E.inj j i a g (by rw [h1, q]))
        rw [at_ a ne]
        exact s.st _ _ r (E.own j a g).1
      · have ne : a ≠ l := fun q => by
          have := E.inj _ i a g (by rw [h1, q])
          omega
        rw [at_ a ne]
        exact s.st _ _ r (E.own _ a g).1
  · by_cases hj : j = ρ.length + 1000 * i + xss.length
    · rw [hj, owSet_at] at g1
      cases g1
      by_cases hk : k = ρ.length + 1000 * i + xss.length
      · rw [hj, hk]
      · rw [owSet_of hk] at g2
        exact absurd g2 (hb k)
    · rw [owSet_of hj] at g1
      by_cases hk : k = ρ.length + 1000 * i + xss.length
      · rw [hk, owSet_at] at g2
        cases g2
        exact absurd g1 (hb j)
      · rw [owSet_of hk] at g2
        exact E.inj j k a g1 g2
  · by_cases hj : j = ρ.length + 1000 * i + xss.length
    · rw [hj, owSet_at] at g
      cases g
      exact ⟨fun z => E.tr b z b0, E.fr b b0, by rw [at_ b nl, b1]; simp⟩
    · rw [owSet_of hj] at g
      exact ⟨(E1.own j a g).1, (E1.own j a g).2.1, fun e => (E1.own j a g).2.2 (nn a e)⟩
  · rw [at_ a (fun z => o1 (by rw [← z]; exact e))]
    exact t a e
  · rw [at_ a (fun z => by rw [z, o2] at g; cases g)]
    exact E1.base a u g ht
  · rw [at_ a (fun z => no i (by rw [z]; exact h1))]
    exact s.st _ _ r ht
  · by_cases hj : j = ρ.length + 1000 * i + xss.length
    · rw [hj, owSet_at] at g
      cases g
      exact .inr b0
    · rw [owSet_of hj] at g
      exact .inl ⟨j, g⟩
/-- one of the lists is changed -/
theorem EnvOk.writeN {xss : List (List PyData)} {ys : List PyData} {b : Addr} {j1 : Nat} {us : List V} (E : EnvOk C O K σ H ρ n) (hx : ρ[i]? = some (.oll xss)) (hj : j1 < xss.length) (hb : hid O ρ.length i j1 = some b) (d : DvAll (Av C O) K H us ys) :
    EnvOk C O K σ (upd H b (.lst us)) (ρ.set i (.oll (xss.set j1 ys))) n ∧ StepS C O O H (upd H b (.lst us)) := by
  have hi := lt_of_get hx
  obtain ⟨o1, o2, o3⟩ := E.own _ b hb
  have hav : Av C O b := .inr (.inr ⟨_, hb⟩)
  have at_ : ∀ a, a ≠ b → upd H b (.lst us) a = H a := fun a z => upd_ne z
  have kp : Keep (Av C O) (Av C O) H (upd H b (.lst us)) := keep_upd hav
  have nn : ∀ a, upd H b (.lst us) a = none → H a = none := fun a e => by
    by_cases h : a = b
    · rw [h, upd_same] at e; cases e
    · rw [at_ a h] at e; exact e
  refine ⟨⟨by simpa using E.len, fun j w e => ?_, E.inj, fun j a g => ⟨(E.own j a g).1, (E.own j a g).2.1, fun e => (E.own j a g).2.2 (nn a e)⟩, fun a e => ?_, fun a u g ht => ?_, fun a g e => E.ptr a g (nn a e), fun a e => E.fr a (nn a e)⟩, fun a u r ht no => ?_, fun a e => nn a e, fun j a g => .inl ⟨j, g⟩⟩
  · rw [List.length_set]
    by_cases z : j = i
    · subst z
      rw [List.getElem?_set_self hi] at e
      cases e
      obtain ⟨l, bs, h1, h2, h3, h4⟩ := E.sl j _ hx
      have ne : l ≠ b := fun q => by
        have := E.inj _ j b hb (by rw [h1, q])
        omega
      refine ⟨l, bs, h1, h2, by rw [at_ l ne]; exact h3, by rw [h4.1, List.length_set], h4.2.1, fun x c zs g1 g2 => ?_⟩
      by_cases c1 : j1 = x
      · subst c1
        rw [List.getElem?_set_self hj] at g2
        cases g2
        have g3 := (h4.2.2 j1 c _ g1 (List.getElem?_eq_getElem hj)).1
        have : c = b := Option.some.inj (g3.symm.trans hb)
        subst this
        exact ⟨g3, us, upd_same, d.mono kp⟩
      · rw [List.getElem?_set_ne c1] at g2
        obtain ⟨g3, vs, g4, g5⟩ := h4.2.2 x c zs g1 g2
        have ne : c ≠ b := fun q => by
          have := E.inj _ _ b hb (by rw [q] at g3; exact g3)
          omega
        exact ⟨g3, vs, by rw [at_ c ne]; exact g4, g5.mono kp⟩
    · rw [List.getElem?_set_ne (Ne.symm z)] at e
      have hjl := lt_of_get e
      have hj1 : j1 < 1000 := by
        obtain ⟨l, bs, _, _, _, h4⟩ := E.sl i _ hx
        have := h4.1
        have := h4.2.1
        omega
      refine (E.sl j w e).mono kp (fun a u g r => ?_) (fun _ _ => rfl) fun x a u hx g r => ?_
      · have ne : a ≠ b := fun q => by
          have := E.inj _ j b hb (by rw [g, q])
          omega
        rw [at_ a ne]; exact r
      · have ne : a ≠ b := fun q => by
          have := E.inj _ _ b hb (by rw [q] at g; exact g)
          omega
        rw [at_ a ne]; exact r
  · rw [at_ a (fun z => o1 (by rw [← z]; exact e))]
    exact E.town a e
  · rw [at_ a (fun z => by rw [z, o2] at g; cases g)]
    exact E.base a u g ht
  · rw [at_ a (fun z => no _ (by rw [z]; exact hb))]
    exact r
/-- the list of lists is given away -/
theorem EnvOk.frzN {xss : List (List PyData)} (E : EnvOk C O K σ H ρ n) (np : OwnP C O) (hx : ρ[i]? = some (.oll xss)) : ∃ O', EnvOk C O' K σ H (ρ.set i (.d (.list (xss.map .list)))) n ∧ StepS C O O' H H := by
  have hi := lt_of_get hx
  obtain ⟨l, bs, h1, h2, h3, h4⟩ := E.sl i _ hx
  let O' : Ow := fun k => if k = i ∨ (ρ.length + 1000 * i ≤ k ∧ k < ρ.length + 1000 * i + 1000) then none else O k
  have le : ∀ k a, O' k = some a → O k = some a ∧ ¬ (k = i ∨ (ρ.length + 1000 * i ≤ k ∧ k < ρ.length + 1000 * i + 1000)) := fun k a e => by
    by_cases c : k = i ∨ (ρ.length + 1000 * i ≤ k ∧ k < ρ.length + 1000 * i + 1000)
    · have : O' k = none := if_pos c
      rw [this] at e; cases e
    · have : O' k = O k := if_neg c
      rw [this] at e
      exact ⟨e, c⟩
  have eq : ∀ k, ¬ (k = i ∨ (ρ.length + 1000 * i ≤ k ∧ k < ρ.length + 1000 * i + 1000)) → O' k = O k := fun k c => if_neg c
  have av : ∀ a, Av C O' a → Av C O a := by
    rintro a (z | z | ⟨j, z⟩)
    · exact .inl z
    · exact .inr (.inl z)
    · exact .inr (.inr ⟨j, (le j a z).1⟩)
  have kp : Keep (Av C O) (Av C O') H H := fun a u na r => ⟨fun z => na (av a z), r⟩
  have no : ∀ k a, O k = some a → (k = i ∨ (ρ.length + 1000 * i ≤ k ∧ k < ρ.length + 1000 * i + 1000)) → ¬ Av C O' a := by
    rintro k a e c (z | z | ⟨j, z⟩)
    · exact np k a e z
    · exact (E.own k a e).1 z
    · obtain ⟨z1, z2⟩ := le j a z
      have := E.inj k j a e z1
      exact z2 (this ▸ c)
  have all : ∀ (bs : List Addr) (xss : List (List PyData)), bs.length = xss.length → (∀ (j : Nat) (b : Addr) (xs : List PyData), bs[j]? = some b → xss[j]? = some xs → ¬ Av C O' b ∧ ∃ vs, H b = some (.lst vs) ∧ DvAll (Av C O) K H vs xs) → DvAll (Av C O') K H (bs.map V.ref) (xss.map .list) := by
    intro bs
    induction bs with
    | nil => intro xss hl _; cases xss with | nil => exact .nil | cons _ _ => cases hl
    | cons b bs ih =>
      intro xss hl h
      cases xss with
      | nil => cases hl
      | cons xs xss =>
        obtain ⟨g1, vs, g2, g3⟩ := h 0 b xs rfl rfl
        exact .cons (.lst (.inl ⟨g1, .inl g2⟩) (g3.mono kp)) (ih xss (by simpa using hl) fun j b xs e1 e2 => h (j + 1) b xs e1 e2)
  have dl := all bs xss h4.1 fun j b xs e1 e2 => by
    obtain ⟨g1, vs, g2, g3⟩ := h4.2.2 j b xs e1 e2
    have := (List.getElem?_eq_some_iff.mp e1).1
    have := h4.2.1
    exact ⟨no _ b g1 (.inr ⟨by omega, by omega⟩), vs, g2, g3⟩
  refine ⟨O', ⟨by simpa using E.len, fun j w e => ?_, fun j k a g1 g2 => E.inj j k a (le j a g1).1 (le k a g2).1, fun j a g => E.own j a (le j a g).1, E.town, E.base, E.ptr, E.fr⟩, Step.refl.stepS fun j a g => .inl ⟨j, (le j a g).1⟩⟩
  rw [List.length_set]
  by_cases z : j = i
  · subst z
    rw [List.getElem?_set_self hi] at e
    cases e
    exact ⟨_, h2, .lst (.inl ⟨no _ l h1 (.inl rfl), .inl h3⟩) dl⟩
  · rw [List.getElem?_set_ne (Ne.symm z)] at e
    have hjl := lt_of_get e
    rw [eq j (by omega)]
    exact (E.sl j w e).mono kp (fun _ _ _ r => r) (fun x hx => eq _ (by omega)) fun _ _ _ _ _ r => r
end
def frzNAt (i : Nat) (g : Fs) : Fs := fun ρ n => match ρ[i]? with
  | some (.oll xss) => g (ρ.set i (.d (.list (xss.map .list)))) n
  | _ => none
theorem ss_frzN {X : Cx} {st : Stmt} {g : Fs} {i : Nat} (h : EvS X st g) : EvS X st (frzNAt i g) := psI h (by
  rintro D σ H ⟨C, O, ρ, n, out, hf, E, np, q⟩
  unfold frzNAt at hf
  split at hf
  · rename_i xss hx
    obtain ⟨O', E', s⟩ := E.frzN np hx
    exact ⟨C, O', _, n, out, hf, E', np.step E s, q.after s⟩
  · cases hf)
section
variable {X : Cx} {e a b b1 b2 : Expr} {es : List Expr} {f fa fb : Fe} {d d1 d2 da db : Fd} {pos : Pos} {st : Stmt}
/-- x.append(a new list) -/
def sAppN (i : Nat) (f : Fe) : Fs := fun ρ n => (f ρ n).bind fun p => match p.1, ρ[i]? with
  | .ol xs, some (.oll xss) => if xss.length < 1000 then some (.nx (ρ.set i (.oll (xss ++ [xs]))) p.2) else none
  | _, _ => none
theorem ss_appendN {i : Nat} {p2 p3 : Pos} (hb : PE X b (tVar i)) (ha : EvE X e f) (hbase : attributeBase b "append" X.env (eval b X.env) = eval b X.env := by rfl)
    (hfew : ((backTo p3 (starEach [e] X.env)).all (fun x => !x.1) && (backToKw p3 (keywordEach [] X.env)).all (fun x => x.1.isSome)
      && decide ([e].length + ([] : List Keyword).length + (if ([] : List Keyword).isEmpty then 0 else 1) < 30)) = true := by rfl)
    (hline : (p2.endLine == p3.line) = true := by rfl) (hs : starEach [e] X.env = (false, eval e X.env) :: starEach [] X.env := by rfl)
    (hsw : swapsWith (.Call (.Attribute b "append" p2) [e] [] p3) none pos.line X.env = pure false := by rfl) :
    EvS X (.Expr (.Call (.Attribute b "append" p2) [e] [] p3) pos) (sAppN i f) := psI (ps_expr (pe_bm PySem.F.plainAttrs_list PySem.F.slot_list_append PySem.F.type_list_append mt_append hb (pa_cons ha pa_nil hs) hbase hfew hline hs rfl) hsw) (by
  rintro D σ H ⟨C, O, ρ, n, out, hf, E, np, q⟩
  unfold sAppN at hf
  obtain ⟨⟨w, n1⟩, e1, hf⟩ := Option.bind_eq_some_iff.mp hf
  simp only at hf
  split at hf
  · rename_i xs xss hx
    split at hf
    · rename_i hz
      cases hf
      obtain ⟨l, bs, h1, h2, h3, h4⟩ := E.sl _ _ hx
      refine ⟨_, h2, .inl ⟨rfl, _, SqL.of h3⟩, C, O, ρ, n, _, n1, e1, E, fun v H1 s t r => ?_⟩
      obtain ⟨c, us, rfl, r1, r2, r3⟩ := r
      have h3' : H1 l = some (.lst (bs.map V.ref)) := s.st _ _ h3 (E.own i l h1).1
      refine ⟨l, _, .ref c, rfl, rfl, h3', by rw [List.length_map, h4.1, big_eq]; unfold big; omega, ?_⟩
      obtain ⟨E2, s2⟩ := E.appN s t hx h1 h2 h3 h4 hz r1 r2 r3
      exact q _ σ _ s2 E2
    · cases hf
  · cases hf)
/-- x[j][k] = e -/
def sStN (i : Nat) (d1 d2 : Fd) (f : Fe) : Fs := fun ρ n => (f ρ n).bind fun p => p.1.frz.val.bind fun x => (d1 ρ p.2).bind fun k => (d2 ρ k.2).bind fun m => match k.1, m.1, ρ[i]? with
  | .int z1, .int z2, some (.oll xss) => (ixN xss.length z1).bind fun j1 => xss[j1]?.bind fun xs => (ixN xs.length z2).map fun j2 => .nx (ρ.set i (.oll (xss.set j1 (xs.set j2 x)))) m.2
  | _, _, _ => none
theorem ss_setN {i : Nat} {p1 p2 : Pos} (hb : PE X a (tVar i)) (hk1 : EvB X b1 d1) (hs1 : PlainIx b1) (hk2 : EvB X b2 d2) (ha : EvE X e f)
    (hset : ∀ v, assign (.Subscript (.Subscript a b1 p2) b2 p1) X.env v = (do
      let ov ← holding [v] (eval (.Subscript a b1 p2) X.env)
      let iv ← holding [v, ov] (eval b2 X.env)
      standAt p1
      holding [v, ov, iv] (setItem ov iv v)
      release [v, ov, iv] []) := by intro _; rfl)
    (hs : swapsWithSole [.Subscript (.Subscript a b1 p2) b2 p1] e pos.line X.env = pure false := by rfl) (hw : swappedStores [.Subscript (.Subscript a b1 p2) b2 p1] e X.env = pure none := by rfl)
    (h1 : (assignEach [.Subscript (.Subscript a b1 p2) b2 p1] X.env).map (·.2) = [assign (.Subscript (.Subscript a b1 p2) b2 p1) X.env] := by rfl) :
    EvS X (.Assign [.Subscript (.Subscript a b1 p2) b2 p1] e pos) (sStN i d1 d2 f) := psI (ps_asg ha (pg_sub (pe_ix ix_list hb hk1 hs1) hk2 set_list hset) hs hw h1) (by
  rintro D σ H ⟨C, O, ρ, n, out, hf, E, np, q⟩
  unfold sStN at hf
  obtain ⟨⟨w, n1⟩, e1, hf⟩ := Option.bind_eq_some_iff.mp hf
  obtain ⟨x, e2, hf⟩ := Option.bind_eq_some_iff.mp hf
  obtain ⟨⟨k, n2⟩, e3, hf⟩ := Option.bind_eq_some_iff.mp hf
  obtain ⟨⟨m, n3⟩, e4, hf⟩ := Option.bind_eq_some_iff.mp hf
  cases k with
  | int z1 =>
    cases m with
    | int z2 =>
      cases hx : ρ[i]? with
      | none => rw [hx] at hf; cases hf
      | some w0 =>
        rw [hx] at hf
        cases w0 with
        | oll xss =>
          simp only at hf
          obtain ⟨j1, e5, hf⟩ := Option.bind_eq_some_iff.mp hf
          obtain ⟨xs, e6, hf⟩ := Option.bind_eq_some_iff.mp hf
          obtain ⟨j2, e7, hf⟩ := Option.map_eq_some_iff.mp hf
          cases hf
          have hj := (List.getElem?_eq_some_iff.mp e6).1
          refine ⟨C, O, ρ, n, w, n1, e1, E, fun v H1 s t r => ?_⟩
          have E1 := E.step s t
          obtain ⟨l, bs, h1, h2, h3, h4⟩ := E1.sl _ _ hx
          obtain ⟨c, hc⟩ : ∃ c, bs[j1]? = some c := ⟨_, List.getElem?_eq_getElem (by rw [h4.1]; exact hj)⟩
          refine ⟨_, h2, C, O, ρ, n1, _, n2, e3, E1, fun u H2 s2 t2 r2 => ?_⟩
          have E2 := E1.step s2 t2
          have h3' : H2 l = some (.lst (bs.map V.ref)) := s2.st _ _ h3 (E.own i l h1).1
          refine ⟨l, _, z1, .ref c, rfl, r2.int, SqL.of h3', ?_, C, O, ρ, n2, _, n3, e4, E2, fun u2 H3 s3 t3 r3 => ?_⟩
          · unfold atI
            rw [List.length_map, h4.1, e5]
            show (bs.map V.ref)[j1]? = _
            rw [List.getElem?_map, hc]; rfl
          · have E3 := E2.step s3 t3
            obtain ⟨l3, bs3, k1, k2, k3, k4⟩ := E3.sl _ _ hx
            have le : l3 = l := Option.some.inj (k1.symm.trans h1)
            subst le
            have be : bs3 = bs := by
              have := k3.symm.trans (s3.st _ _ h3' (E.own i l3 h1).1)
              have := HO.lst.inj (Option.some.inj this)
              exact (List.map_inj_right fun _ _ e => V.ref.inj e).mp this
            subst be
            obtain ⟨g1, us, g2, g3⟩ := k4.2.2 j1 c xs hc e6
            have r' : Dv (Av C O) X.K H3 v x := (((r.frz E.av).val e2).mono (s2.keep Av.t)).mono (s3.keep Av.t)
            refine ⟨c, us, z2, j2, rfl, r3.int, g2, by rw [g3.length]; exact e7, ?_⟩
            obtain ⟨E4, s4⟩ := E3.writeN hx hj g1 (g3.set j2 r')
            exact q O σ _ (((s.trans s2).trans s3).stepS0.trans s4) E4
        | _ => cases hf
    | _ => cases hf
  | _ => cases hf)
end
end L2.Lv
namespace L2.Lv
open PySem PySem.Spec PyProof.Rows
/-! list(range(i, j)) -/
section
variable {X : Cx} {a b : Expr} {da db : Fd} {pos : Pos}
def eListRg2 (da db : Fd) : Fe := fun ρ n => (da ρ n).bind fun p => (db ρ p.2).bind fun q => match p.1, q.1 with
  | .int i, .int j => if -1000000 ≤ i ∧ i ≤ 1000000 ∧ -1000000 ≤ j ∧ j ≤ 1000000 then some (.ol (rangeD i (j - i).toNat), q.2) else none
  | _, _ => none
theorem ev_listRg2 {p p2 p3 : Pos} (hc : X.calm = true) (hg : Gl X "list") (hm : X.mg "list" = none) (hg2 : Gl X "range") (hm2 : X.mg "range" = none) (ha : EvB X a da) (hb : EvB X b db) (na : starEach [a, b] X.env = (false, eval a X.env) :: starEach [b] X.env := by rfl)
    (nb : starEach [b] X.env = (false, eval b X.env) :: starEach [] X.env := by rfl) (hp : (backTo p3 (starEach [b] X.env)).any (·.1) = false := by rfl)
    (nc : starEach [Expr.Call (.Name "range" p2) [a, b] [] p3] X.env = (false, eval (.Call (.Name "range" p2) [a, b] [] p3) X.env) :: starEach [] X.env := by rfl) :
    EvE X (.Call (.Name "list" p) [.Call (.Name "range" p2) [a, b] [] p3] [] pos) (eListRg2 da db) := peI (pe_listRg hc hg hm (prg_2 hg2 hm2 ha hb na nb hp) nc) (by
  rintro σ H Q ⟨C, O, ρ, n, w, n', hf, E, q⟩
  unfold eListRg2 at hf
  obtain ⟨⟨x, n1⟩, e1, hf⟩ := Option.bind_eq_some_iff.mp hf
  obtain ⟨⟨y, n2⟩, e2, hf⟩ := Option.bind_eq_some_iff.mp hf
  refine ⟨C, O, ρ, n, x, n1, e1, E, fun v H1 s t r => ?_⟩
  have E1 := E.step s t
  refine ⟨C, O, ρ, n1, y, n2, e2, E1, fun u H2 s2 t2 r2 => ?_⟩
  cases x with
  | int i =>
    cases y with
    | int j =>
      simp only at hf
      split at hf
      · rename_i hj
        cases hf
        refine ⟨i, j, r.int, r2.int, ⟨by omega, by omega, by omega, by omega, by omega⟩, fun p hp => ?_⟩
        have := DvAll.rg (A := Av C O) (K := X.K) (H := H2) (a := i) (b := j)
        exact q _ _ ((s.trans s2).trans (Grow.upd hp).step) ((Grow.upd hp).town t2) ((new_lst hp this).back (s.trans s2).fr)
      · cases hf
    | _ => cases hf
  | _ => cases hf)
end
end L2.Lv
namespace L2.Lv.Sh
open PySem PySem.Spec PyProof.Rows L2 L2.Lv
def b_is_whole : Fs :=
    (sRet (eAnd (eIsa "int" (dVar 0)) (eAnd (eNotD (dOf (eIsa "bool" (dVar 0)))) (eChain (dCmp rLe zLe) (dCmp rLe zLe) (dVar 1) (dVar 0) (dVar 2)))))
def m_is_whole : Fn := runB 3 b_is_whole
def b__law_same (m : Fn) : Fs :=
    (sSeq (sIf (bTest (eBin dIsN (dVar 1) (dOf (eC .none))))
    (sRet (eBin dIsN (dVar 0) (dOf (eC .none))))
    sNil')
    (sSeq (sIf (bTru (dOf (eIsa "bool" (dVar 1))))
    (sRet (eAnd (eIsa "bool" (dVar 0)) (eBin dEq (dVar 0) (dVar 1))))
    sNil')
    (sSeq (sIf (bTru (dOf (eIsa "tuple" (dVar 1))))
    (sSeq (sIf (bOr (bNot (bTru (dOf (eIsa "tuple" (dVar 0))))) (bTest (eBin dNe (dOf (eApp gLen (sCons (dVar 0) sNil))) (dOf (eApp gLen (sCons (dVar 1) sNil))))))
    (sRet (eC (.bool false)))
    sNil')
    (sRet (eApp gAll (sCons (dOf (eComp (iZipV (dVar 0) (dVar 1)) (gMany [2, 3]) [2, 3] bYes (eCall m (aCons (eVar 2) (aCons (eVar 3) aNil))))) sNil))))
    sNil')
    (sSeq (sIf (bTru (dOf (eIsa "str" (dVar 1))))
    (sRet (eAnd (eIsa "str" (dVar 0)) (eBin dEq (dVar 0) (dVar 1))))
    sNil')
    (sRet (eAnd (eIsa "int" (dVar 0)) (eAnd (eNotD (dOf (eIsa "bool" (dVar 0)))) (eBin dEq (dVar 0) (dVar 1)))))))))
def m__law_same_ : Nat → Fn
  | 0 => fun _ _ => none
  | k + 1 => runB 4 (b__law_same (m__law_same_ k))
def m__law_same : Fn := m__law_same_ 12
def b__law_draw : Fs :=
    (sSeq (sTown 1)
    (sSeq (sSet 3 (eTLen 1))
    (sSeq (sSet 4 (eC (.int 0)))
    (sSeq (sIf (bTru (dVar 0))
    (sSet 4 (eBin dIx (dVar 0) (dOf (eBin dMod (dVar 3) (dOf (eApp gLen (sCons (dVar 0) sNil)))))))
    sNil')
    (sSeq (sSet 5 (eBin dMod (dOf (eBin dAdd (dVar 4) (dOf (eBin dMul (dOf (eC (.int 104729))) (dVar 3))))) (dOf (eC (.int 4294967291)))))
    (sSeq (sSet 5 (eBin dMod (dOf (eBin dMul (dOf (eBin dMod (dOf (eBin dMul (dVar 5) (dVar 5))) (dOf (eC (.int 4294967279))))) (dOf (eC (.int 48271))))) (dOf (eC (.int 4294967291)))))
    (sRet (eBin dMod (dOf (eBin dDiv (dVar 5) (dOf (eC (.int 64))))) (dVar 2)))))))))
def m__law_draw : Fn := runB 6 b__law_draw
def b__law_pick : Fs :=
    (sRet (eBin dIx (dVar 2) (dOf (eCall m__law_draw (aCons (eVar 0) (aCons (eVar 1) (aCons (eApp gLen (sCons (dVar 2) sNil)) aNil)))))))
def m__law_pick : Fn := runB 3 b__law_pick
def l__law_plain_1 : Fs :=
    (sSeq (sSet 6 (eCall m__law_draw (aCons (eVar 0) (aCons (eVar 1) (aCons (eC (.int 6)) aNil)))))
    (sIf (bTest (eBin dNotIn (dVar 6) (dVar 4)))
    (sSet 4 (eFrz (eBin dAdd (dVar 4) (dOf (eTup (aCons (eVar 6) aNil))))))
    sNil'))
def b__law_plain : Fs :=
    (sSeq (sSet 2 (eCall m__law_draw (aCons (eVar 0) (aCons (eVar 1) (aCons (eC (.int 9)) aNil)))))
    (sSeq (sSet 3 (eCall m__law_draw (aCons (eVar 0) (aCons (eVar 1) (aCons (eC (.int 3)) aNil)))))
    (sSeq (sIf (bTest (eBin (dCmp rLt zLt) (dVar 2) (dOf (eC (.int 2)))))
    (sRet (eTup (aCons (eC (.str "up")) (aCons (eVar 3) aNil))))
    sNil')
    (sSeq (sIf (bTest (eBin (dCmp rLt zLt) (dVar 2) (dOf (eC (.int 4)))))
    (sRet (eTup (aCons (eBin dIx (dOf (eLst (aCons (eC (.str "part")) (aCons (eC (.str "rest")) aNil)))) (dOf (eBin dSub (dVar 2) (dOf (eC (.int 2)))))) (aCons (eVar 3) (aCons (eBin dAdd (dOf (eC (.int 2))) (dOf (eCall m__law_draw (aCons (eVar 0) (aCons (eVar 1) (aCons (eC (.int 2)) aNil)))))) aNil)))))
    sNil')
    (sSeq (sIf (bTest (eBin (dCmp rLt zLt) (dVar 2) (dOf (eC (.int 6)))))
    (sSeq (sSet 4 (eTup aNil))
    (sSeq (sFor (iRng1 (dOf (eBin dAdd (dOf (eC (.int 1))) (dOf (eCall m__law_draw (aCons (eVar 0) (aCons (eVar 1) (aCons (eC (.int 4)) aNil)))))))) (gOne 5)
    l__law_plain_1)
    (sRet (eIf (bTest (eBin dEq (dVar 2) (dOf (eC (.int 4))))) (eTup (aCons (eC (.str "table")) (aCons (eVar 3) (aCons (eVar 4) aNil)))) (eTup (aCons (eC (.str "among")) (aCons (eVar 3) (aCons (eApp gTup (sCons (dOf (eApp gSorted (sCons (dVar 4) sNil))) sNil)) aNil))))))))
    sNil')
    (sSeq (sSet 7 (eFrz (eCall m__law_pick (aCons (eVar 0) (aCons (eVar 1) (aCons (eLst (aCons (eTup (aCons (eC (.int 0)) (aCons (eC (.int 1)) aNil))) (aCons (eTup (aCons (eC (.int 0)) (aCons (eC (.int 2)) aNil))) (aCons (eTup (aCons (eC (.int 1)) (aCons (eC (.int 2)) aNil))) aNil)))) aNil))))))
    (sRet (eBin dAdd (dOf (eTup (aCons (eBin dIx (dOf (eLst (aCons (eC (.str "sum")) (aCons (eC (.str "gap")) (aCons (eC (.str "most")) aNil))))) (dOf (eBin dSub (dVar 2) (dOf (eC (.int 6)))))) aNil))) (dVar 7)))))))))
def m__law_plain : Fn := runB 8 b__law_plain
def b__law_key : Fs :=
    (sSeq (sSet 2 (eFrz (eCall m__law_plain (aCons (eVar 0) (aCons (eVar 1) aNil)))))
    (sRet (eIf (bTest (eBin dEq (dOf (eCall m__law_draw (aCons (eVar 0) (aCons (eVar 1) (aCons (eC (.int 3)) aNil))))) (dOf (eC (.int 0))))) (eTup (aCons (eC (.str "down")) (aCons (eVar 2) aNil))) (eVar 2))))
def m__law_key : Fn := runB 3 b__law_key
def b__law_keys : Fs :=
    (sRet (eApp gTup (sCons (dOf (eComp (iRng1 (dOf (eCall m__law_draw (aCons (eVar 0) (aCons (eVar 1) (aCons (eBin dAdd (dVar 2) (dOf (eC (.int 1)))) aNil)))))) (gOne 3) [3] bYes (eCall m__law_key (aCons (eVar 0) (aCons (eVar 1) aNil))))) sNil)))
def m__law_keys : Fn := runB 4 b__law_keys
def b__law_whole : Fs :=
    (sRet (eAnd (eIsa "int" (dVar 0)) (eAnd (eNotD (dOf (eIsa "bool" (dVar 0)))) (eChain (dCmp rLe zLe) (dCmp rLe zLe) (dVar 1) (dVar 0) (dVar 2)))))
def m__law_whole : Fn := runB 3 b__law_whole
-- l__law_is_plain_1: head 0:_law_thing_here 1:_law_seen of 3
def l__law_is_plain_1 : Fs :=
    (sSeq (sIf (bOr (bNot (bTru (dOf (eCall m__law_whole (aCons (eVar 2) (aCons (eC (.int 0)) (aCons (eC (.int 5)) aNil))))))) (bOr (bTest (eBin dIn (dVar 2) (dVar 1))) (bAnd (bTest (eBin dEq (dOf (eBin dIx (dVar 0) (dOf (eC (.int 0))))) (dOf (eC (.str "among"))))) (bAnd (bTru (dVar 1)) (bTest (eBin (dCmp rLt zLt) (dVar 2) (dOf (eBin dIx (dVar 1) (dOf (eUn dNeg (dOf (eC (.int 1)))))))))))))
    (sRet (eC (.bool false)))
    sNil')
    (sEnd [2] (sApp 1 (eVar 2))))
def b_worth (m : Fn) : Fs :=
    (sSeq (sSet 2 (eBin dIx (dVar 0) (dOf (eC (.int 0)))))
    (sSeq (sIf (bTest (eBin dEq (dVar 2) (dOf (eC (.str "down")))))
    (sRet (eBin dSub (dOf (eC (.int 0))) (dOf (eCall m (aCons (eBin dIx (dVar 0) (dOf (eC (.int 1)))) (aCons (eVar 1) aNil))))))
    sNil')
    (sSeq (sSet 3 (eBin dIx (dVar 1) (dOf (eBin dIx (dVar 0) (dOf (eC (.int 1)))))))
    (sSeq (sIf (bTest (eBin dEq (dVar 2) (dOf (eC (.str "up")))))
    (sRet (eVar 3))
    sNil')
    (sSeq (sIf (bTest (eBin dEq (dVar 2) (dOf (eC (.str "part")))))
    (sRet (eBin dDiv (dVar 3) (dOf (eBin dIx (dVar 0) (dOf (eC (.int 2)))))))
    sNil')
    (sSeq (sIf (bTest (eBin dEq (dVar 2) (dOf (eC (.str "rest")))))
    (sRet (eBin dMod (dVar 3) (dOf (eBin dIx (dVar 0) (dOf (eC (.int 2)))))))
    sNil')
    (sSeq (sIf (bTest (eBin dEq (dVar 2) (dOf (eC (.str "table")))))
    (sRet (eIf (bTest (eBin dIn (dVar 3) (dOf (eBin dIx (dVar 0) (dOf (eC (.int 2))))))) (eMt isTupD gIndexT (dOf (eBin dIx (dVar 0) (dOf (eC (.int 2))))) (sCons (dVar 3) sNil)) (eApp gLen (sCons (dOf (eBin dIx (dVar 0) (dOf (eC (.int 2))))) sNil))))
    sNil')
    (sSeq (sIf (bTest (eBin dEq (dVar 2) (dOf (eC (.str "among")))))
    (sRet (eApp gInt (sCons (dOf (eBin dNotIn (dVar 3) (dOf (eBin dIx (dVar 0) (dOf (eC (.int 2))))))) sNil)))
    sNil')
    (sSeq (sSet 4 (eBin dIx (dVar 1) (dOf (eBin dIx (dVar 0) (dOf (eC (.int 2)))))))
    (sSeq (sIf (bTest (eBin dEq (dVar 2) (dOf (eC (.str "sum")))))
    (sRet (eBin dAdd (dVar 3) (dVar 4)))
    sNil')
    (sSeq (sIf (bTest (eBin dEq (dVar 2) (dOf (eC (.str "gap")))))
    (sRet (eApp gAbs (sCons (dOf (eBin dSub (dVar 3) (dVar 4))) sNil)))
    sNil')
    (sRet (eApp gMax2 (sCons (dVar 3) (sCons (dVar 4) sNil)))))))))))))))
def m_worth_ : Nat → Fn
  | 0 => fun _ _ => none
  | k + 1 => runB 5 (b_worth (m_worth_ k))
def m_worth : Fn := m_worth_ 4
def b_worths : Fs :=
    (sRet (eApp gTup (sCons (dOf (eComp (iOf (dVar 0)) (gOne 2) [2] bYes (eCall m_worth (aCons (eVar 2) (aCons (eVar 1) aNil))))) sNil)))
def m_worths : Fn := runB 3 b_worths
def b_told : Fs :=
    (sSeq (sSet 3 (eFrz (eCall m_worths (aCons (eVar 0) (aCons (eVar 1) aNil)))))
    (sSeq (sSet 4 (eFrz (eCall m_worths (aCons (eVar 0) (aCons (eVar 2) aNil)))))
    (sRet (eBin dSub (dOf (eApp gInt (sCons (dOf (eBin (dCmp rGt zGt) (dVar 3) (dVar 4))) sNil))) (dOf (eApp gInt (sCons (dOf (eBin (dCmp rLt zLt) (dVar 3) (dVar 4))) sNil)))))))
def m_told : Fn := runB 5 b_told
def l_all_things_2 : Fs :=
    (sExt 1 (eComp (iOf (dVar 0)) (gOne 4) [4] bYes (eTup (aCons (eVar 2) (aCons (eVar 3) (aCons (eVar 4) aNil))))))
def l_all_things_1 : Fs :=
    (sFor (iVal (eVar 0)) (gOne 3)
    l_all_things_2)
def b_all_things : Fs :=
    (sSeq (sSet 0 (eFrz (eListRg1 (dOf (eBin dAdd (dOf (eC (.int 5))) (dOf (eC (.int 1))))))))
    (sSeq (sSet 1 (eLst aNil))
    (sSeq (sFor (iVal (eVar 0)) (gOne 2)
    l_all_things_1)
    (sRet (eApp gTup (sCons (dVar 1) sNil))))))
def m_all_things : Fn := runB 5 b_all_things
def b__law_worth (m : Fn) : Fs :=
    (sSeq (sIf (bTest (eBin dEq (dOf (eBin dIx (dVar 0) (dOf (eC (.int 0))))) (dOf (eC (.str "down")))))
    (sRet (eUn dNeg (dOf (eCall m (aCons (eBin dIx (dVar 0) (dOf (eC (.int 1)))) (aCons (eVar 1) aNil))))))
    sNil')
    (sSeq (sSet 2 (eBin dIx (dVar 1) (dOf (eBin dIx (dVar 0) (dOf (eC (.int 1)))))))
    (sSeq (sIf (bTest (eBin dEq (dOf (eBin dIx (dVar 0) (dOf (eC (.int 0))))) (dOf (eC (.str "up")))))
    (sRet (eVar 2))
    sNil')
    (sSeq (sIf (bTest (eBin dEq (dOf (eBin dIx (dVar 0) (dOf (eC (.int 0))))) (dOf (eC (.str "part")))))
    (sRet (eApp gLen (sCons (dOf (eComp (iRng2 (dOf (eC (.int 1))) (dOf (eC (.int 6)))) (gOne 3) [3] (bAnd (bTest (eBin (dCmp rLe zLe) (dVar 3) (dVar 2))) (bTest (eBin dEq (dOf (eBin dMod (dVar 3) (dOf (eBin dIx (dVar 0) (dOf (eC (.int 2))))))) (dOf (eC (.int 0)))))) (eVar 3))) sNil)))
    sNil')
    (sSeq (sIf (bTest (eBin dEq (dOf (eBin dIx (dVar 0) (dOf (eC (.int 0))))) (dOf (eC (.str "rest")))))
    (sRet (eBin dSub (dVar 2) (dOf (eBin dMul (dOf (eBin dDiv (dVar 2) (dOf (eBin dIx (dVar 0) (dOf (eC (.int 2))))))) (dOf (eBin dIx (dVar 0) (dOf (eC (.int 2)))))))))
    sNil')
    (sSeq (sIf (bTest (eBin dEq (dOf (eBin dIx (dVar 0) (dOf (eC (.int 0))))) (dOf (eC (.str "table")))))
    (sRet (eMt isLstD gIndexLX (dOf (eBin dAdd (dOf (eApp gList (sCons (dOf (eBin dIx (dVar 0) (dOf (eC (.int 2))))) sNil))) (dOf (eLst (aCons (eVar 2) aNil))))) (sCons (dVar 2) sNil)))
    sNil')
    (sSeq (sIf (bTest (eBin dEq (dOf (eBin dIx (dVar 0) (dOf (eC (.int 0))))) (dOf (eC (.str "among")))))
    (sRet (eIf (bTest (eBin dIn (dVar 2) (dOf (eBin dIx (dVar 0) (dOf (eC (.int 2))))))) (eC (.int 0)) (eC (.int 1))))
    sNil')
    (sSeq (sSet 4 (eBin dIx (dVar 1) (dOf (eBin dIx (dVar 0) (dOf (eC (.int 2)))))))
    (sSeq (sIf (bTest (eBin dEq (dOf (eBin dIx (dVar 0) (dOf (eC (.int 0))))) (dOf (eC (.str "sum")))))
    (sRet (eBin dAdd (dVar 2) (dVar 4)))
    sNil')
    (sSeq (sIf (bTest (eBin dEq (dOf (eBin dIx (dVar 0) (dOf (eC (.int 0))))) (dOf (eC (.str "gap")))))
    (sRet (eIf (bTest (eBin (dCmp rGt zGt) (dVar 2) (dVar 4))) (eBin dSub (dVar 2) (dVar 4)) (eBin dSub (dVar 4) (dVar 2))))
    sNil')
    (sRet (eIf (bTest (eBin (dCmp rGt zGt) (dVar 2) (dVar 4))) (eVar 2) (eVar 4)))))))))))))
def m__law_worth_ : Nat → Fn
  | 0 => fun _ _ => none
  | k + 1 => runB 5 (b__law_worth (m__law_worth_ k))
def m__law_worth : Fn := m__law_worth_ 4
def l__law_word_1 : Fs :=
    (sSeq (sPar 4 5 (aCons (eCall m__law_worth (aCons (eVar 3) (aCons (eVar 1) aNil))) (aCons (eCall m__law_worth (aCons (eVar 3) (aCons (eVar 2) aNil))) aNil)))
    (sIf (bTest (eBin dNe (dVar 4) (dVar 5)))
    (sRet (eIf (bTest (eBin (dCmp rLt zLt) (dVar 4) (dVar 5))) (eUn dNeg (dOf (eC (.int 1)))) (eC (.int 1))))
    sNil'))
def b__law_word : Fs :=
    (sSeq (sFor (iVal (eVar 0)) (gOne 3)
    l__law_word_1)
    (sRet (eC (.int 0))))
def m__law_word : Fn := runB 6 b__law_word
-- l_form_1: head 1:every 3:ranks of 6
def l_form_1 : Fs :=
    (sEnd [4, 5] (sPut 3 (dVar 5) (eVar 4)))
def b_form : Fs :=
    (sSeq (sEnd [0] (sSet 1 (eFrz (eComp (iOf (dOf (eCall m_all_things aNil))) (gOne 2) [2] bYes (eCall m_worths (aCons (eVar 0) (aCons (eVar 2) aNil)))))))
    (sSeq (sSet 3 eDicT)
    (sSeq (sFor (iEnumF (eApp gSortSetT (sCons (dVar 1) sNil))) (gMany [4, 5])
    l_form_1)
    (sRet (eApp gTup (sCons (dOf (eComp (iOf (dVar 1)) (gOne 5) [5] bYes (eBin dIxD (dVar 3) (dVar 5)))) sNil))))))
def m_form : Fn := runB 6 b_form
def b_pairs_of : Fs :=
    (sRet (eBin dDiv (dOf (eBin dMul (dVar 0) (dOf (eBin dSub (dVar 0) (dOf (eC (.int 1))))))) (dOf (eC (.int 2)))))
def m_pairs_of : Fn := runB 1 b_pairs_of
-- l_ties_of_1: head 1:counts of 3
def l_ties_of_1 : Fs :=
    (sEnd [2] (sPut 1 (dVar 2) (eBin dAdd (dOf (eGetD (dVar 1) (dVar 2) (dOf (eC (.int 0))))) (dOf (eC (.int 1))))))
def b_ties_of : Fs :=
    (sSeq (sSet 1 eDicK)
    (sSeq (sForK [0] (iVal (eCall m_form (aCons (eVar 0) aNil))) (gOne 2)
    l_ties_of_1)
    (sRet (eLockI 1 (eApp gSum (sCons (dOf (eComp (iKeyF 1) (gOne 2) [2] bYes (eCall m_pairs_of (aCons (eBin dIxD (dVar 1) (dVar 2)) aNil)))) sNil))))))
def m_ties_of : Fn := runB 3 b_ties_of
-- l__law_every_1: head 0:_law_got of 2
def l__law_every_1 : Fs :=
    (sEnd [1] (sApp 0 (eTup (aCons (eBin dDiv (dVar 1) (dOf (eC (.int 36)))) (aCons (eBin dMod (dOf (eBin dDiv (dVar 1) (dOf (eC (.int 6))))) (dOf (eC (.int 6)))) (aCons (eBin dMod (dVar 1) (dOf (eC (.int 6)))) aNil))))))
-- l__law_form_1: head 1:_law_every_here 3:_law_spots of 5
def l__law_form_1 : Fs :=
    (sEnd [4] (sPut 3 (dVar 4) (eGetD (dVar 3) (dVar 4) (dOf (eApp gLenD (sCons (dVar 3) sNil))))))
def b_alike : Fs :=
    (sRet (eBin dEq (dOf (eCall m_form (aCons (eVar 0) aNil))) (dOf (eCall m_form (aCons (eVar 1) aNil)))))
def m_alike : Fn := runB 2 b_alike
def b__law_turn : Fs :=
    (sRet (eIf (bTest (eBin dEq (dOf (eBin dIx (dVar 0) (dOf (eC (.int 0))))) (dOf (eC (.str "down"))))) (eBin dIx (dVar 0) (dOf (eC (.int 1)))) (eTup (aCons (eC (.str "down")) (aCons (eVar 0) aNil)))))
def m__law_turn : Fn := runB 1 b__law_turn
-- l_deciders_1: head 0:row 1:found of 3
def l_deciders_1 : Fs :=
    (sEnd [2] (sSet 1 (eFrz (eBin dAdd (dVar 1) (dOf (eTup (aCons (eBin dSub (dOf (eCall m_ties_of (aCons (eSl dSl (dVar 0) oNone (oSome (dVar 2))) aNil))) (dOf (eCall m_ties_of (aCons (eSl dSl (dVar 0) oNone (oSome (dOf (eBin dAdd (dVar 2) (dOf (eC (.int 1))))))) aNil)))) aNil)))))))
def b_without : Fs :=
    (sRet (eBin dAdd (dOf (eSl dSl (dVar 0) oNone (oSome (dVar 1)))) (dOf (eSl dSl (dVar 0) (oSome (dOf (eBin dAdd (dVar 1) (dOf (eC (.int 1)))))) oNone))))
def m_without : Fn := runB 2 b_without
-- l_short_1: head 0:row of 2
def l_short_1 : Fs :=
    (sEnd [1] (sIf (bTru (dOf (eCall m_alike (aCons (eCall m_without (aCons (eVar 0) (aCons (eVar 1) aNil))) (aCons (eVar 0) aNil)))))
    (sEnd [1] (sSet 0 (eFrz (eCall m_without (aCons (eVar 0) (aCons (eVar 1) aNil))))))
    sNil'))
-- l__law_row_1: head 0:_law_script 1:_law_town 2:_law_row_here of 7
def l__law_row_1 : Fs :=
    (sSeq (sEnd [3] (sSet 4 (eFrz (eCall m__law_key (aCons (eVar 0) (aCons (eVar 1) aNil))))))
    (sSeq (sIf (bAnd (bTru (dVar 2)) (bTest (eBin dEq (dOf (eCall m__law_draw (aCons (eVar 0) (aCons (eVar 1) (aCons (eC (.int 2)) aNil))))) (dOf (eC (.int 0))))))
    (sSeq (sSet 4 (eFrz (eCall m__law_pick (aCons (eVar 0) (aCons (eVar 1) (aCons (eVar 2) aNil))))))
    (sSeq (sSet 5 (eIf (bTest (eBin dEq (dOf (eBin dIx (dVar 4) (dOf (eC (.int 0))))) (dOf (eC (.str "down"))))) (eBin dIx (dOf (eBin dIx (dVar 4) (dOf (eC (.int 1))))) (dOf (eC (.int 1)))) (eBin dIx (dVar 4) (dOf (eC (.int 1))))))
    (sSeq (sEnd [5] (sSet 6 (eFrz (eLst (aCons (eTup (aCons (eC (.str "up")) (aCons (eVar 5) aNil))) (aCons (eTup (aCons (eC (.str "part")) (aCons (eVar 5) (aCons (eC (.int 2)) aNil)))) (aCons (eTup (aCons (eC (.str "rest")) (aCons (eVar 5) (aCons (eC (.int 3)) aNil)))) (aCons (eTup (aCons (eC (.str "among")) (aCons (eVar 5) (aCons (eTup (aCons (eC (.int 0)) (aCons (eC (.int 3)) aNil))) aNil)))) aNil))))))))
    (sEnd [6] (sSet 4 (eFrz (eCall m__law_pick (aCons (eVar 0) (aCons (eVar 1) (aCons (eBin dAdd (dVar 6) (dOf (eLst (aCons (eVar 4) (aCons (eVar 4) (aCons (eCall m__law_turn (aCons (eVar 4) aNil)) aNil)))))) aNil))))))))))
    sNil')
    (sEnd [4] (sSet 2 (eFrz (eBin dAdd (dVar 2) (dOf (eTup (aCons (eVar 4) aNil)))))))))
-- l__law_speaks_3: head 0:_law_row_here 1:_law_every_here 3:_law_got 5:_law_one 6:_law_other_here of 8
def l__law_speaks_3 : Fs :=
    (sEnd [7] (sIf (bAnd (bTest (eBin dEq (dOf (eSl dSl (dVar 5) oNone (oSome (dVar 7)))) (dOf (eSl dSl (dVar 6) oNone (oSome (dVar 7)))))) (bTest (eBin dNe (dOf (eBin dIx (dVar 5) (dVar 7))) (dOf (eBin dIx (dVar 6) (dVar 7))))))
    (sEnd [7] (sSetIx 3 (dVar 7) (eBin dAdd (dOf (eBin dIx (dVar 3) (dVar 7))) (dOf (eC (.int 1))))))
    sNil'))
-- l__law_speaks_2: head 0:_law_row_here 1:_law_every_here 3:_law_got 5:_law_one of 8
def l__law_speaks_2 : Fs :=
    (sEnd [6] (sFor (iRng1 (dOf (eApp gLen (sCons (dVar 0) sNil)))) (gOne 7)
    l__law_speaks_3))
-- l__law_speaks_1: head 0:_law_row_here 1:_law_every_here 3:_law_got of 8
def l__law_speaks_1 : Fs :=
    (sEnd [5] (sForK [4] (iVal (eSl dSl (dVar 1) (oSome (dOf (eBin dAdd (dVar 4) (dOf (eC (.int 1)))))) oNone)) (gOne 6)
    l__law_speaks_2))
def b_places : Fs :=
    (sSeq (sSet 2 (eFrz (eApp gSorted (sCons (dOf (eComp (iEnumV (dVar 1)) (gMany [3, 4]) [3, 4] bYes (eTup (aCons (eCall m_worths (aCons (eVar 0) (aCons (eVar 4) aNil))) (aCons (eVar 3) aNil))))) sNil))))
    (sRet (eApp gTup (sCons (dOf (eComp (iOf (dVar 2)) (gMany [5, 3]) [5, 3] bYes (eVar 3))) sNil))))
def m_places : Fn := runB 6 b_places
def b_ordered : Fs :=
    (sRet (eApp gTup (sCons (dOf (eComp (iOf (dOf (eCall m_places (aCons (eVar 0) (aCons (eVar 1) aNil))))) (gOne 2) [2] bYes (eBin dIx (dVar 1) (dVar 2)))) sNil)))
def m_ordered : Fn := runB 3 b_ordered
def b_is_ordered : Fs :=
    (sRet (eApp gAll (sCons (dOf (eComp (iZipV (dOf (eSl dSl (dVar 1) oNone (oSome (dOf (eUn dNeg (dOf (eC (.int 1)))))))) (dOf (eSl dSl (dVar 1) (oSome (dOf (eC (.int 1)))) oNone))) (gMany [2, 3]) [2, 3] bYes (eBin (dCmp rLt zLt) (dOf (eCall m_told (aCons (eVar 0) (aCons (eVar 2) (aCons (eVar 3) aNil))))) (dOf (eC (.int 1)))))) sNil)))
def m_is_ordered : Fn := runB 4 b_is_ordered
def l_runs_1 : Fs :=
    (sIf (bAnd (bTru (dVar 2)) (bTest (eBin (dCmp rLt zLt) (dOf (eCall m_told (aCons (eVar 0) (aCons (eBin dIx (dOf (eBin dIx (dVar 2) (dOf (eUn dNeg (dOf (eC (.int 1))))))) (dOf (eUn dNeg (dOf (eC (.int 1)))))) (aCons (eVar 3) aNil))))) (dOf (eC (.int 1))))))
    (sSetIx 2 (dOf (eUn dNeg (dOf (eC (.int 1))))) (eBin dAdd (dOf (eBin dIx (dVar 2) (dOf (eUn dNeg (dOf (eC (.int 1))))))) (dOf (eTup (aCons (eVar 3) aNil)))))
    (sApp 2 (eTup (aCons (eVar 3) aNil))))
def b_runs : Fs :=
    (sSeq (sSet 2 (eLst aNil))
    (sSeq (sFor (iVal (eVar 1)) (gOne 3)
    l_runs_1)
    (sRet (eApp gTup (sCons (dVar 2) sNil)))))
def m_runs : Fn := runB 4 b_runs
def l_crossings_1 : Fs :=
    (sSet 2 (eFrz (eBin dAdd (dVar 2) (dOf (eApp gLen (sCons (dOf (eComp (iOf (dOf (eSl dSl (dVar 1) (oSome (dOf (eBin dAdd (dVar 3) (dOf (eC (.int 1)))))) oNone))) (gOne 5) [5] (bTest (eBin dEq (dOf (eCall m_told (aCons (eVar 0) (aCons (eVar 4) (aCons (eVar 5) aNil))))) (dOf (eC (.int 1))))) (eVar 5))) sNil))))))
def b_crossings : Fs :=
    (sSeq (sSet 2 (eC (.int 0)))
    (sSeq (sFor (iEnumF (eVar 1)) (gMany [3, 4])
    l_crossings_1)
    (sRet (eVar 2))))
def m_crossings : Fn := runB 6 b_crossings
def l__law_sorted_2 : Fs :=
    (sSet 5 (eFrz (eBin dAdd (dVar 5) (dOf (eC (.int 1))))))
def l__law_sorted_1 : Fs :=
    (sSeq (sSet 5 (eC (.int 0)))
    (sSeq (loopW (bAnd (bTest (eBin (dCmp rLt zLt) (dVar 5) (dOf (eApp gLen (sCons (dVar 2) sNil))))) (bTest (eBin (dCmp rLt zLt) (dOf (eCall m__law_word (aCons (eVar 0) (aCons (eBin dIx (dVar 1) (dOf (eBin dIx (dVar 2) (dVar 5)))) (aCons (eVar 4) aNil))))) (dOf (eC (.int 1)))))) l__law_sorted_2 100000)
    (sSet 2 (eFrz (eBin dAdd (dOf (eBin dAdd (dOf (eSl dSl (dVar 2) oNone (oSome (dVar 5)))) (dOf (eLst (aCons (eVar 3) aNil))))) (dOf (eSl dSl (dVar 2) (oSome (dVar 5)) oNone)))))))
def b__law_sorted : Fs :=
    (sSeq (sSet 2 (eFrz (eLst aNil)))
    (sSeq (sFor (iEnumF (eVar 1)) (gMany [3, 4])
    l__law_sorted_1)
    (sRet (eVar 2))))
def m__law_sorted : Fn := runB 6 b__law_sorted
-- l_merged_1: head 0:row 1:ones 2:others 3:found of 4
def l_merged_1 : Fs :=
    (sIf (bTest (eBin (dCmp rLt zLt) (dOf (eCall m_told (aCons (eVar 0) (aCons (eBin dIx (dVar 1) (dOf (eC (.int 0)))) (aCons (eBin dIx (dVar 2) (dOf (eC (.int 0)))) aNil))))) (dOf (eC (.int 1)))))
    (sSeq (sSet 3 (eFrz (eBin dAdd (dVar 3) (dOf (eSl dSl (dVar 1) oNone (oSome (dOf (eC (.int 1)))))))))
    (sSet 1 (eFrz (eSl dSl (dVar 1) (oSome (dOf (eC (.int 1)))) oNone))))
    (sSeq (sSet 3 (eFrz (eBin dAdd (dVar 3) (dOf (eSl dSl (dVar 2) oNone (oSome (dOf (eC (.int 1)))))))))
    (sSet 2 (eFrz (eSl dSl (dVar 2) (oSome (dOf (eC (.int 1)))) oNone)))))
def b_merged : Fs :=
    (sSeq (sSet 3 (eTup aNil))
    (sSeq (sEnd [0] (loopW (bAnd (bTru (dVar 1)) (bTru (dVar 2))) l_merged_1 100000))
    (sRet (eBin dAdd (dOf (eBin dAdd (dVar 3) (dVar 1))) (dVar 2)))))
def m_merged : Fn := runB 4 b_merged
-- l_turns_2: head 0:row 2:rows 3:found 4:after of 9
def l_turns_2 : Fs :=
    (sSeq (sEnd [5] (sSet 6 (eFrz (eSl dSl (dVar 2) (oSome (dVar 5)) (oSome (dOf (eBin dAdd (dVar 5) (dOf (eC (.int 2))))))))))
    (sEnd [6] (sApp 4 (eCall m_merged (aCons (eVar 0) (aCons (eBin dIx (dVar 6) (dOf (eC (.int 0)))) (aCons (eBin dIx (dOf (eBin dAdd (dVar 6) (dOf (eLst (aCons (eTup aNil) aNil))))) (dOf (eC (.int 1)))) aNil)))))))
-- l_turns_3: head 0:row 2:rows 3:found 7:whole of 9
def l_turns_3 : Fs :=
    (sEnd [8] (sSet 7 (eFrz (eBin dAdd (dVar 7) (dVar 8)))))
-- l_turns_1: head 0:row 2:rows 3:found of 9
def l_turns_1 : Fs :=
    (sSeq (sSet 4 (eLst aNil))
    (sSeq (sEnd [2] (sFor (iRng3D (dOf (eC (.int 0))) (dOf (eApp gLen (sCons (dVar 2) sNil))) (dOf (eC (.int 2)))) (gOne 5)
    l_turns_2))
    (sSeq (sEnd [4] (frzAt 4 (sSet 2 (eVar 4))))
    (sSeq (sSet 7 (eTup aNil))
    (sSeq (sFor (iVal (eVar 2)) (gOne 8)
    l_turns_3)
    (sEnd [7] (sApp 3 (eVar 7))))))))
def b__law_together : Fs :=
    (sSeq (sEnd [1, 2] (sSet 3 (eFrz (eBin dAdd (dVar 1) (dVar 2)))))
    (sRet (eApp gTup (sCons (dOf (eComp (iOf (dOf (eCall m__law_sorted (aCons (eVar 0) (aCons (eVar 3) aNil))))) (gOne 4) [4] bYes (eBin dIx (dVar 3) (dVar 4)))) sNil))))
def m__law_together : Fn := runB 5 b__law_together
-- l__law_turns_1: head 0:_law_row 2:_law_cut of 9
def l__law_turns_1 : Fs :=
    (sIf (bAnd (bTru (dVar 2)) (bTest (eBin (dCmp rLt zLt) (dOf (eCall m__law_word (aCons (eVar 0) (aCons (eBin dIx (dOf (eBin dIx (dVar 2) (dOf (eUn dNeg (dOf (eC (.int 1))))))) (dOf (eUn dNeg (dOf (eC (.int 1)))))) (aCons (eVar 3) aNil))))) (dOf (eC (.int 1))))))
    (sEnd [3] (sSetIx 2 (dOf (eUn dNeg (dOf (eC (.int 1))))) (eBin dAdd (dOf (eBin dIx (dVar 2) (dOf (eUn dNeg (dOf (eC (.int 1))))))) (dOf (eTup (aCons (eVar 3) aNil))))))
    (sEnd [3] (sApp 2 (eTup (aCons (eVar 3) aNil)))))
-- l__law_turns_3: head 0:_law_row 2:_law_cut 4:_law_got 5:_law_after of 9
def l__law_turns_3 : Fs :=
    (sIf (bTest (eBin (dCmp rLt zLt) (dOf (eBin dAdd (dVar 6) (dOf (eC (.int 1))))) (dOf (eApp gLen (sCons (dVar 2) sNil)))))
    (sEnd [6] (sApp 5 (eCall m__law_together (aCons (eVar 0) (aCons (eBin dIx (dVar 2) (dVar 6)) (aCons (eBin dIx (dVar 2) (dOf (eBin dAdd (dVar 6) (dOf (eC (.int 1)))))) aNil))))))
    (sEnd [6] (sApp 5 (eBin dIx (dVar 2) (dVar 6)))))
-- l__law_turns_4: head 0:_law_row 2:_law_cut 4:_law_got 7:_law_whole of 9
def l__law_turns_4 : Fs :=
    (sEnd [8] (sSet 7 (eFrz (eBin dAdd (dVar 7) (dVar 8)))))
-- l__law_turns_2: head 0:_law_row 2:_law_cut 4:_law_got of 9
def l__law_turns_2 : Fs :=
    (sSeq (sSet 5 (eLst aNil))
    (sSeq (sEnd [2] (sFor (iRng3D (dOf (eC (.int 0))) (dOf (eApp gLen (sCons (dVar 2) sNil))) (dOf (eC (.int 2)))) (gOne 6)
    l__law_turns_3))
    (sSeq (sEnd [5] (frzAt 5 (sSet 2 (eVar 5))))
    (sSeq (sSet 7 (eTup aNil))
    (sSeq (frzAt 2 (sFor (iVal (eVar 2)) (gOne 8)
    l__law_turns_4))
    (sEnd [7] (sApp 4 (eVar 7))))))))
def l_groups_1 : Fs :=
    (sIf (bAnd (bTru (dVar 2)) (bTest (eBin dEq (dOf (eCall m_told (aCons (eVar 0) (aCons (eBin dIx (dOf (eBin dIx (dVar 2) (dOf (eUn dNeg (dOf (eC (.int 1))))))) (dOf (eC (.int 0)))) (aCons (eVar 3) aNil))))) (dOf (eC (.int 0))))))
    (sSetIx 2 (dOf (eUn dNeg (dOf (eC (.int 1))))) (eBin dAdd (dOf (eBin dIx (dVar 2) (dOf (eUn dNeg (dOf (eC (.int 1))))))) (dOf (eTup (aCons (eVar 3) aNil)))))
    (sApp 2 (eTup (aCons (eVar 3) aNil))))
def b_groups : Fs :=
    (sSeq (sSet 2 (eLst aNil))
    (sSeq (sFor (iVal (eCall m_ordered (aCons (eVar 0) (aCons (eVar 1) aNil)))) (gOne 3)
    l_groups_1)
    (sRet (eApp gTup (sCons (dVar 2) sNil)))))
def m_groups : Fn := runB 4 b_groups
def l_best_1 : Fs :=
    (sIf (bTest (eBin (dCmp rLt zLt) (dOf (eApp gLen (sCons (dVar 3) sNil))) (dVar 2)))
    (sSet 3 (eFrz (eBin dAdd (dVar 3) (dVar 4))))
    sNil')
def b_best : Fs :=
    (sSeq (sSet 3 (eTup aNil))
    (sSeq (sFor (iVal (eCall m_groups (aCons (eVar 0) (aCons (eVar 1) aNil)))) (gOne 4)
    l_best_1)
    (sRet (eVar 3))))
def m_best : Fn := runB 5 b_best
def l_list_told_1 : Fs :=
    (sSeq (sSet 5 (eFrz (eCall m_told (aCons (eVar 0) (aCons (eVar 3) (aCons (eVar 4) aNil))))))
    (sIf (bTest (eBin dNe (dVar 5) (dOf (eC (.int 0)))))
    (sRet (eVar 5))
    sNil'))
def b_list_told : Fs :=
    (sSeq (sFor (iZipF (eVar 1) (eVar 2)) (gMany [3, 4])
    l_list_told_1)
    (sRet (eBin dSub (dOf (eApp gInt (sCons (dOf (eBin (dCmp rGt zGt) (dOf (eApp gLen (sCons (dVar 1) sNil))) (dOf (eApp gLen (sCons (dVar 2) sNil))))) sNil))) (dOf (eApp gInt (sCons (dOf (eBin (dCmp rLt zLt) (dOf (eApp gLen (sCons (dVar 1) sNil))) (dOf (eApp gLen (sCons (dVar 2) sNil))))) sNil))))))
def m_list_told : Fn := runB 6 b_list_told
def b_is_odd : Fs :=
    (sRet (eBin dNe (dOf (eBin dIx (dOf (eBin dIx (dVar 0) (dVar 1))) (dVar 2))) (dOf (eBin dSub (dOf (eC (.int 0))) (dOf (eBin dIx (dOf (eBin dIx (dVar 0) (dVar 2))) (dVar 1)))))))
def m_is_odd : Fn := runB 3 b_is_odd
def b_is_chain : Fs :=
    (sSeq (sSet 4 (eBin dIx (dOf (eBin dIx (dVar 0) (dVar 1))) (dVar 2)))
    (sSeq (sEnd [2] (sSet 5 (eBin dIx (dOf (eBin dIx (dVar 0) (dVar 2))) (dVar 3))))
    (sRet (eAnd (eBin (dCmp rLt zLt) (dVar 4) (dOf (eC (.int 1)))) (eAnd (eBin (dCmp rLt zLt) (dVar 5) (dOf (eC (.int 1)))) (eBin dNe (dOf (eBin dIx (dOf (eBin dIx (dVar 0) (dVar 1))) (dVar 3))) (dOf (eApp gMin2 (sCons (dVar 4) (sCons (dVar 5) sNil))))))))))
def m_is_chain : Fn := runB 6 b_is_chain
-- l_why_none_2: head 0:table 1:many 2:one of 5
def l_why_none_2 : Fs :=
    (sEnd [3] (sIf (bTru (dOf (eCall m_is_odd (aCons (eVar 0) (aCons (eVar 2) (aCons (eVar 3) aNil))))))
    (sRet (eTup (aCons (eC (.str "odd")) (aCons (eVar 2) (aCons (eVar 3) aNil)))))
    sNil'))
-- l_why_none_1: head 0:table 1:many of 5
def l_why_none_1 : Fs :=
    (sEnd [2] (sFor (iVal (eVar 1)) (gOne 3)
    l_why_none_2))
-- l_why_none_5: head 0:table 1:many 2:one 3:other of 5
def l_why_none_5 : Fs :=
    (sEnd [4] (sIf (bTru (dOf (eCall m_is_chain (aCons (eVar 0) (aCons (eVar 2) (aCons (eVar 3) (aCons (eVar 4) aNil)))))))
    (sRet (eTup (aCons (eC (.str "chain")) (aCons (eVar 2) (aCons (eVar 3) (aCons (eVar 4) aNil))))))
    sNil'))
-- l_why_none_4: head 0:table 1:many 2:one of 5
def l_why_none_4 : Fs :=
    (sEnd [3] (sFor (iVal (eVar 1)) (gOne 4)
    l_why_none_5))
-- l_why_none_3: head 0:table 1:many of 5
def l_why_none_3 : Fs :=
    (sEnd [2] (sFor (iVal (eVar 1)) (gOne 3)
    l_why_none_4))
def b_is_why_none : Fs :=
    (sSeq (sIf (bOr (bNot (bTru (dOf (eIsa "tuple" (dVar 1))))) (bOr (bTest (eBin dNotIn (dOf (eApp gLen (sCons (dVar 1) sNil))) (dOf (eTup (aCons (eC (.int 3)) (aCons (eC (.int 4)) aNil)))))) (bTest (eBin dNe (dOf (eBin dIx (dVar 1) (dOf (eC (.int 0))))) (dOf (eIf (bTest (eBin dEq (dOf (eApp gLen (sCons (dVar 1) sNil))) (dOf (eC (.int 3))))) (eC (.str "odd")) (eC (.str "chain"))))))))
    (sRet (eC (.bool false)))
    sNil')
    (sSeq (sIf (bNot (bTru (dOf (eApp gAll (sCons (dOf (eComp (iOf (dOf (eSl dSl (dVar 1) (oSome (dOf (eC (.int 1)))) oNone))) (gOne 2) [2] bYes (eCall m_is_whole (aCons (eVar 2) (aCons (eC (.int 0)) (aCons (eBin dSub (dOf (eApp gLen (sCons (dVar 0) sNil))) (dOf (eC (.int 1)))) aNil)))))) sNil)))))
    (sRet (eC (.bool false)))
    sNil')
    (sSeq (sIf (bTest (eBin dEq (dOf (eApp gLen (sCons (dVar 1) sNil))) (dOf (eC (.int 3)))))
    (sRet (eCall m_is_odd (aCons (eVar 0) (aCons (eBin dIx (dVar 1) (dOf (eC (.int 1)))) (aCons (eBin dIx (dVar 1) (dOf (eC (.int 2)))) aNil)))))
    sNil')
    (sRet (eCall m_is_chain (aCons (eVar 0) (aCons (eBin dIx (dVar 1) (dOf (eC (.int 1)))) (aCons (eBin dIx (dVar 1) (dOf (eC (.int 2)))) (aCons (eBin dIx (dVar 1) (dOf (eC (.int 3)))) aNil)))))))))
def m_is_why_none : Fn := runB 3 b_is_why_none
-- l__law_table_1: head 0:_law_script 1:_law_town 2:_law_many 3:_law_marks 5:_law_rows of 10
def l__law_table_1 : Fs :=
    (sEnd [6] (sAppN 5 (eComp (iOf (dVar 3)) (gOne 7) [7] bYes (eIf (bTest (eBin (dCmp rLt zLt) (dVar 6) (dVar 7))) (eUn dNeg (dOf (eC (.int 1)))) (eIf (bTest (eBin (dCmp rGt zGt) (dVar 6) (dVar 7))) (eC (.int 1)) (eC (.int 0)))))))
-- l__law_table_2: head 0:_law_script 1:_law_town 2:_law_many 5:_law_rows of 10
def l__law_table_2 : Fs :=
    (sSeq (sEnd [4] (sAsg (gMany [6, 7]) (eTup (aCons (eCall m__law_draw (aCons (eVar 0) (aCons (eVar 1) (aCons (eVar 2) aNil)))) (aCons (eCall m__law_draw (aCons (eVar 0) (aCons (eVar 1) (aCons (eVar 2) aNil)))) aNil)))))
    (sSeq (sSet 8 (eBin dSub (dOf (eCall m__law_draw (aCons (eVar 0) (aCons (eVar 1) (aCons (eC (.int 3)) aNil))))) (dOf (eC (.int 1)))))
    (sSeq (sStN 5 (dVar 6) (dVar 7) (eVar 8))
    (sEnd [6, 7, 8] (sIf (bTest (eBin (dCmp rGt zGt) (dOf (eCall m__law_draw (aCons (eVar 0) (aCons (eVar 1) (aCons (eC (.int 3)) aNil))))) (dOf (eC (.int 0)))))
    (sEnd [6, 7, 8] (sStN 5 (dVar 7) (dVar 6) (eUn dNeg (dVar 8))))
    sNil')))))
def b__law_table : Fs :=
    (sSeq (sSet 2 (eFrz (eBin dAdd (dOf (eC (.int 1))) (dOf (eCall m__law_draw (aCons (eVar 0) (aCons (eVar 1) (aCons (eC (.int 6)) aNil))))))))
    (sSeq (sSet 3 (eFrz (eComp (iRng1 (dVar 2)) (gOne 4) [4] bYes (eCall m__law_draw (aCons (eVar 0) (aCons (eVar 1) (aCons (eC (.int 4)) aNil)))))))
    (sSeq (sNst 5 (sSet 5 (eLst aNil)))
    (sSeq (sEnd [3] (sFor (iVal (eVar 3)) (gOne 6)
    l__law_table_1))
    (sSeq (sEnd [0, 1, 2] (sFor (iRng1 (dOf (eCall m__law_draw (aCons (eVar 0) (aCons (eVar 1) (aCons (eC (.int 3)) aNil)))))) (gOne 4)
    l__law_table_2))
    (frzNAt 5 (sRet (eApp gTup (sCons (dOf (eComp (iOf (dVar 5)) (gOne 9) [9] bYes (eApp gTup (sCons (dVar 9) sNil)))) sNil)))))))))
def m__law_table : Fn := runB 10 b__law_table
def b__law_is_odd : Fs :=
    (sRet (eBin dNe (dOf (eBin dAdd (dOf (eBin dIx (dOf (eBin dIx (dVar 0) (dVar 1))) (dVar 2))) (dOf (eBin dIx (dOf (eBin dIx (dVar 0) (dVar 2))) (dVar 1))))) (dOf (eC (.int 0)))))
def m__law_is_odd : Fn := runB 3 b__law_is_odd
def b__law_is_chain : Fs :=
    (sSeq (sIf (bOr (bTest (eBin dEq (dOf (eBin dIx (dOf (eBin dIx (dVar 0) (dVar 1))) (dVar 2))) (dOf (eC (.int 1))))) (bTest (eBin dEq (dOf (eBin dIx (dOf (eBin dIx (dVar 0) (dVar 2))) (dVar 3))) (dOf (eC (.int 1))))))
    (sRet (eC (.bool false)))
    sNil')
    (sRet (eBin dNe (dOf (eBin dIx (dOf (eBin dIx (dVar 0) (dVar 1))) (dVar 3))) (dOf (eIf (bTest (eBin dIn (dOf (eUn dNeg (dOf (eC (.int 1))))) (dOf (eTup (aCons (eBin dIx (dOf (eBin dIx (dVar 0) (dVar 1))) (dVar 2)) (aCons (eBin dIx (dOf (eBin dIx (dVar 0) (dVar 2))) (dVar 3)) aNil)))))) (eUn dNeg (dOf (eC (.int 1)))) (eC (.int 0)))))))
def m__law_is_chain : Fn := runB 4 b__law_is_chain
-- l__law_papers_2: head 0:_law_table_here 1:_law_every 2:_law_got 3:_law_k of 6
def l__law_papers_2 : Fs :=
    (sSeq (sIf (bTru (dOf (eCall m__law_is_odd (aCons (eVar 0) (aCons (eVar 3) (aCons (eVar 4) aNil))))))
    (sApp 2 (eTup (aCons (eC (.str "odd")) (aCons (eVar 3) (aCons (eVar 4) aNil)))))
    sNil')
    (sEnd [4] (sSet 2 (eBin dAdd (dVar 2) (dOf (eComp (iOf (dVar 1)) (gOne 5) [5] (bTru (dOf (eCall m__law_is_chain (aCons (eVar 0) (aCons (eVar 3) (aCons (eVar 4) (aCons (eVar 5) aNil))))))) (eTup (aCons (eC (.str "chain")) (aCons (eVar 3) (aCons (eVar 4) (aCons (eVar 5) aNil)))))))))))
-- l__law_papers_1: head 0:_law_table_here 1:_law_every 2:_law_got of 6
def l__law_papers_1 : Fs :=
    (sEnd [3] (sFor (iVal (eVar 1)) (gOne 4)
    l__law_papers_2))
def b_is_table : Fs :=
    (sSeq (sIf (bOr (bNot (bTru (dOf (eIsa "tuple" (dVar 0))))) (bNot (bTest (eChain (dCmp rLe zLe) (dCmp rLe zLe) (dOf (eC (.int 1))) (dOf (eApp gLen (sCons (dVar 0) sNil))) (dOf (eC (.int 6)))))))
    (sRet (eC (.bool false)))
    sNil')
    (sSeq (sIf (bNot (bTru (dOf (eApp gAll (sCons (dOf (eComp (iOf (dVar 0)) (gOne 1) [1] bYes (eAnd (eIsa "tuple" (dVar 1)) (eBin dEq (dOf (eApp gLen (sCons (dVar 1) sNil))) (dOf (eApp gLen (sCons (dVar 0) sNil))))))) sNil)))))
    (sRet (eC (.bool false)))
    sNil')
    (sRet (eApp gAll (sCons (dOf (eComp (iOf (dVar 0)) (gOne 1) [1] bYes (eApp gAll (sCons (dOf (eComp (iOf (dVar 1)) (gOne 2) [2] bYes (eCall m_is_whole (aCons (eVar 2) (aCons (eUn dNeg (dOf (eC (.int 1)))) (aCons (eC (.int 1)) aNil)))))) sNil)))) sNil)))))
def m_is_table : Fn := runB 3 b_is_table
-- l__law_is_why_1: head 0:_law_table_here 1:_law_thing of 3
def l__law_is_why_1 : Fs :=
    (sEnd [2] (sIf (bOr (bNot (bTru (dOf (eIsa "int" (dVar 2))))) (bOr (bTru (dOf (eIsa "bool" (dVar 2)))) (bOr (bTest (eBin (dCmp rLt zLt) (dVar 2) (dOf (eC (.int 0))))) (bTest (eBin (dCmp rGe zGe) (dVar 2) (dOf (eApp gLen (sCons (dVar 0) sNil))))))))
    (sRet (eC (.bool false)))
    sNil'))
def b__law_is_why : Fs :=
    (sSeq (sIf (bOr (bNot (bTru (dOf (eIsa "tuple" (dVar 1))))) (bTest (eBin (dCmp rLt zLt) (dOf (eApp gLen (sCons (dVar 1) sNil))) (dOf (eC (.int 3))))))
    (sRet (eC (.bool false)))
    sNil')
    (sSeq (sFor (iVal (eSl dSl (dVar 1) (oSome (dOf (eC (.int 1)))) oNone)) (gOne 2)
    l__law_is_why_1)
    (sSeq (sIf (bTest (eBin dEq (dOf (eBin dIx (dVar 1) (dOf (eC (.int 0))))) (dOf (eC (.str "odd")))))
    (sRet (eAnd (eBin dEq (dOf (eApp gLen (sCons (dVar 1) sNil))) (dOf (eC (.int 3)))) (eCall m__law_is_odd (aCons (eVar 0) (aCons (eBin dIx (dVar 1) (dOf (eC (.int 1)))) (aCons (eBin dIx (dVar 1) (dOf (eC (.int 2)))) aNil))))))
    sNil')
    (sRet (eAnd (eBin dEq (dOf (eBin dIx (dVar 1) (dOf (eC (.int 0))))) (dOf (eC (.str "chain")))) (eAnd (eBin dEq (dOf (eApp gLen (sCons (dVar 1) sNil))) (dOf (eC (.int 4)))) (eCall m__law_is_chain (aCons (eVar 0) (aCons (eBin dIx (dVar 1) (dOf (eC (.int 1)))) (aCons (eBin dIx (dVar 1) (dOf (eC (.int 2)))) (aCons (eBin dIx (dVar 1) (dOf (eC (.int 3)))) aNil)))))))))))
def m__law_is_why : Fn := runB 3 b__law_is_why
-- l__law_is_table_2: head 0:_law_thing of 3
def l__law_is_table_2 : Fs :=
    (sEnd [2] (sIf (bOr (bNot (bTru (dOf (eIsa "int" (dVar 2))))) (bOr (bTru (dOf (eIsa "bool" (dVar 2)))) (bTest (eBin dNotIn (dVar 2) (dOf (eTup (aCons (eUn dNeg (dOf (eC (.int 1)))) (aCons (eC (.int 0)) (aCons (eC (.int 1)) aNil)))))))))
    (sRet (eC (.bool false)))
    sNil'))
-- l__law_is_table_1: head 0:_law_thing of 3
def l__law_is_table_1 : Fs :=
    (sSeq (sIf (bOr (bNot (bTru (dOf (eIsa "tuple" (dVar 1))))) (bTest (eBin dNe (dOf (eApp gLen (sCons (dVar 1) sNil))) (dOf (eApp gLen (sCons (dVar 0) sNil))))))
    (sRet (eC (.bool false)))
    sNil')
    (sForK [1] (iVal (eVar 1)) (gOne 2)
    l__law_is_table_2))
def b__law_is_table : Fs :=
    (sSeq (sIf (bOr (bNot (bTru (dOf (eIsa "tuple" (dVar 0))))) (bNot (bTest (eChain (dCmp rLe zLe) (dCmp rLe zLe) (dOf (eC (.int 1))) (dOf (eApp gLen (sCons (dVar 0) sNil))) (dOf (eC (.int 6)))))))
    (sRet (eC (.bool false)))
    sNil')
    (sSeq (sEnd [0] (sFor (iVal (eVar 0)) (gOne 1)
    l__law_is_table_1))
    (sRet (eC (.bool true)))))
def m__law_is_table : Fn := runB 3 b__law_is_table
def b__law_bent_v2 (m : Fn) : Fs :=
    (sSeq (sSet 3 (eFrz (eLst (aCons (eC .none) (aCons (eC (.bool true)) (aCons (eC (.bool false)) (aCons (eUn dNeg (dOf (eC (.int 2)))) (aCons (eUn dNeg (dOf (eC (.int 1)))) (aCons (eC (.int 0)) (aCons (eC (.int 1)) (aCons (eC (.int 2)) (aCons (eC (.str "0")) (aCons (eTup aNil) (aCons (eTup (aCons (eC (.int 0)) aNil)) (aCons (eLst (aCons (eC (.int 0)) aNil)) (aCons (eTup (aCons (eC (.int 0)) (aCons (eC (.int 0)) aNil))) (aCons (eBin dRepT (dOf (eTup (aCons (eC (.int 0)) aNil))) (dOf (eC (.int 6)))) (aCons (eBin dRepT (dOf (eTup (aCons (eC (.int 0)) aNil))) (dOf (eC (.int 7)))) aNil))))))))))))))))))
    (sSeq (sEnd [3] (sIf (bOr (bNot (bTru (dOf (eIsa "tuple" (dVar 2))))) (bOr (bTest (eBin dEq (dVar 2) (dOf (eTup aNil)))) (bTest (eBin dEq (dOf (eCall m__law_draw (aCons (eVar 0) (aCons (eVar 1) (aCons (eC (.int 4)) aNil))))) (dOf (eC (.int 0)))))))
    (sRet (eCall m__law_pick (aCons (eVar 0) (aCons (eVar 1) (aCons (eVar 3) aNil)))))
    sNil'))
    (sSeq (sSet 4 (eCall m__law_draw (aCons (eVar 0) (aCons (eVar 1) (aCons (eApp gLen (sCons (dVar 2) sNil)) aNil)))))
    (sSeq (sSet 5 (eCall m__law_draw (aCons (eVar 0) (aCons (eVar 1) (aCons (eC (.int 7)) aNil)))))
    (sSeq (sIf (bTest (eBin dEq (dVar 5) (dOf (eC (.int 0)))))
    (sRet (eBin dAdd (dOf (eSl dSl (dVar 2) oNone (oSome (dVar 4)))) (dOf (eSl dSl (dVar 2) (oSome (dOf (eBin dAdd (dVar 4) (dOf (eC (.int 1)))))) oNone))))
    sNil')
    (sSeq (sIf (bTest (eBin dEq (dVar 5) (dOf (eC (.int 1)))))
    (sRet (eBin dAdd (dOf (eBin dAdd (dOf (eSl dSl (dVar 2) oNone (oSome (dVar 4)))) (dOf (eTup (aCons (eBin dIx (dVar 2) (dVar 4)) aNil))))) (dOf (eSl dSl (dVar 2) (oSome (dVar 4)) oNone))))
    sNil')
    (sSeq (sEnd [5] (sIf (bTest (eBin dEq (dVar 5) (dOf (eC (.int 2)))))
    (sRet (eApp gList (sCons (dVar 2) sNil)))
    sNil'))
    (sRet (eBin dAdd (dOf (eBin dAdd (dOf (eSl dSl (dVar 2) oNone (oSome (dVar 4)))) (dOf (eTup (aCons (eCall m (aCons (eVar 0) (aCons (eVar 1) (aCons (eBin dIx (dVar 2) (dVar 4)) aNil)))) aNil))))) (dOf (eSl dSl (dVar 2) (oSome (dOf (eBin dAdd (dVar 4) (dOf (eC (.int 1)))))) oNone)))))))))))
def m__law_bent_v2_ : Nat → Fn
  | 0 => fun _ _ => none
  | k + 1 => runB 6 (b__law_bent_v2 (m__law_bent_v2_ k))
def m__law_bent_v2 : Fn := m__law_bent_v2_ 10
def b_behind : Fs :=
    (sRet (eApp gSorted (sCons (dOf (eComp (iOf (dVar 0)) (gMany [2, 3]) [2, 3] (bTest (eBin dEq (dVar 2) (dVar 1))) (eVar 3))) sNil)))
def m_behind : Fn := runB 4 b_behind
-- l_closed_1: head 0:pairs 1:found of 7
def l_closed_1 : Fs :=
    (sEnd [2] (sPut 1 (dVar 2) (eC (.bool true))))
-- l_closed_4: head 0:pairs 1:found 3:many 4:one of 7
def l_closed_4 : Fs :=
    (sEnd [6] (sPut 1 (dOf (eTup (aCons (eVar 4) (aCons (eVar 6) aNil)))) (eC (.bool true))))
-- l_closed_3: head 0:pairs 1:found 3:many of 7
def l_closed_3 : Fs :=
    (sEnd [4] (sForK [5] (iVal (eCall m_behind (aCons (eVar 0) (aCons (eVar 5) aNil)))) (gOne 6)
    l_closed_4))
-- l_closed_2: head 0:pairs 1:found 3:many of 7
def l_closed_2 : Fs :=
    (sSeq (sSet 3 (eApp gLenD (sCons (dVar 1) sNil)))
    (sFor (iVal (eApp gListD (sCons (dVar 1) sNil))) (gMany [4, 5])
    l_closed_3))
def b_closed : Fs :=
    (sSeq (sSet 1 eDicT)
    (sSeq (sFor (iVal (eVar 0)) (gOne 2)
    l_closed_1)
    (sSeq (sSet 3 (eUn dNeg (dOf (eC (.int 1)))))
    (sSeq (sEnd [0, 3] (loopW (bTest (eBin dNe (dVar 3) (dOf (eApp gLenD (sCons (dVar 1) sNil))))) l_closed_2 100000))
    (sRet (eApp gTup (sCons (dOf (eApp gSortedD (sCons (dVar 1) sNil))) sNil)))))))
def m_closed : Fn := runB 7 b_closed
-- l_ring_from_1: head 0:pairs 1:way of 4
def l_ring_from_1 (m : Fn) : Fs :=
    (sSeq (sIf (bTest (eBin dEq (dVar 2) (dOf (eBin dIx (dVar 1) (dOf (eC (.int 0)))))))
    (sRet (eVar 1))
    sNil')
    (sEnd [2] (sIf (bAnd (bTest (eBin (dCmp rGt zGt) (dVar 2) (dOf (eBin dIx (dVar 1) (dOf (eC (.int 0))))))) (bTest (eBin dNotIn (dVar 2) (dVar 1))))
    (sSeq (sEnd [2] (sSet 3 (eFrz (eCall m (aCons (eVar 0) (aCons (eBin dAdd (dVar 1) (dOf (eTup (aCons (eVar 2) aNil)))) aNil))))))
    (sEnd [3] (sIf (bTest (eBin dNotN (dVar 3) (dOf (eC .none))))
    (sRet (eVar 3))
    sNil')))
    sNil')))
def b_ring_from (m : Fn) : Fs :=
    (sSeq (sEnd [0, 1] (sFor (iVal (eCall m_behind (aCons (eVar 0) (aCons (eBin dIx (dVar 1) (dOf (eUn dNeg (dOf (eC (.int 1)))))) aNil)))) (gOne 2)
    (l_ring_from_1 m)))
    (sRet (eC .none)))
def m_ring_from_ : Nat → Fn
  | 0 => fun _ _ => none
  | k + 1 => runB 4 (b_ring_from (m_ring_from_ k))
def m_ring_from : Fn := m_ring_from_ 10
-- l_ring_1: head 0:pairs of 5
def l_ring_1 : Fs :=
    (sSeq (sEnd [1] (sSet 4 (eFrz (eCall m_ring_from (aCons (eVar 0) (aCons (eTup (aCons (eVar 1) aNil)) aNil))))))
    (sEnd [4] (sIf (bTest (eBin dNotN (dVar 4) (dOf (eC .none))))
    (sRet (eVar 4))
    sNil')))
def b_ring : Fs :=
    (sSeq (sEnd [0] (sFor (iVal (eApp gSortSet (sCons (dOf (eComp (iOf (dVar 0)) (gMany [2, 3]) [2, 3] bYes (eVar 2))) sNil))) (gOne 1)
    l_ring_1))
    (sRet (eC .none)))
def m_ring : Fn := runB 5 b_ring
-- l__law_pairs_1: head 0:_law_script 1:_law_town 2:_law_many 3:_law_got 4:_law_is_free 5:_law_order of 10
def l__law_pairs_1 : Fs :=
    (sSeq (sSet 7 (eCall m__law_draw (aCons (eVar 0) (aCons (eVar 1) (aCons (eBin dAdd (dOf (eApp gLen (sCons (dVar 5) sNil))) (dOf (eC (.int 1)))) aNil)))))
    (sEnd [6, 7] (sSet 5 (eFrz (eBin dAdd (dOf (eBin dAdd (dOf (eSl dSl (dVar 5) oNone (oSome (dVar 7)))) (dOf (eLst (aCons (eVar 6) aNil))))) (dOf (eSl dSl (dVar 5) (oSome (dVar 7)) oNone)))))))
-- l__law_pairs_2: head 0:_law_script 1:_law_town 2:_law_many 3:_law_got 4:_law_is_free 5:_law_order of 10
def l__law_pairs_2 : Fs :=
    (sSeq (sEnd [8] (sPar 6 9 (aCons (eCall m__law_draw (aCons (eVar 0) (aCons (eVar 1) (aCons (eVar 2) aNil)))) (aCons (eCall m__law_draw (aCons (eVar 0) (aCons (eVar 1) (aCons (eVar 2) aNil)))) aNil))))
    (sSeq (sIf (bAnd (bTru (dVar 4)) (bTest (eBin (dCmp rGt zGt) (dOf (eMt isLstD gIndexLX (dVar 5) (sCons (dVar 6) sNil))) (dOf (eMt isLstD gIndexLX (dVar 5) (sCons (dVar 9) sNil))))))
    (sPar 6 9 (aCons (eVar 9) (aCons (eVar 6) aNil)))
    sNil')
    (sEnd [6, 9] (sIf (bTest (eBin dNe (dVar 6) (dVar 9)))
    (sEnd [6, 9] (sPut 3 (dOf (eTup (aCons (eVar 6) (aCons (eVar 9) aNil)))) (eC (.int 0))))
    sNil'))))
-- l__law_follows_1: head 0:_law_pairs_here 1:_law_got of 8
def l__law_follows_1 : Fs :=
    (sEnd [2] (sPut 1 (dVar 2) (eC (.int 0))))
-- l__law_follows_4: head 0:_law_pairs_here 1:_law_got 4:_law_one 5:_law_other of 8
def l__law_follows_4 : Fs :=
    (sEnd [6, 7] (sIf (bTest (eBin dEq (dVar 5) (dVar 6)))
    (sEnd [6, 7] (sPut 1 (dOf (eTup (aCons (eVar 4) (aCons (eVar 7) aNil)))) (eC (.int 0))))
    sNil'))
-- l__law_follows_3: head 0:_law_pairs_here 1:_law_got of 8
def l__law_follows_3 : Fs :=
    (sEnd [4, 5] (sFor (iVal (eVar 0)) (gMany [6, 7])
    l__law_follows_4))
-- l__law_follows_2: head 0:_law_pairs_here 1:_law_got of 8
def l__law_follows_2 : Fs :=
    (sForK [3] (iVal (eApp gListD (sCons (dVar 1) sNil))) (gMany [4, 5])
    l__law_follows_3)
-- l__law_rings_1: head 0:_law_pairs_here 1:_law_way 2:_law_got of 5
def l__law_rings_1 (m : Fn) : Fs :=
    (sSeq (sIf (bAnd (bTest (eBin dEq (dVar 3) (dOf (eBin dIx (dVar 1) (dOf (eUn dNeg (dOf (eC (.int 1))))))))) (bTest (eBin dEq (dVar 4) (dOf (eBin dIx (dVar 1) (dOf (eC (.int 0))))))))
    (sApp 2 (eVar 1))
    sNil')
    (sEnd [3, 4] (sIf (bAnd (bTest (eBin dEq (dVar 3) (dOf (eBin dIx (dVar 1) (dOf (eUn dNeg (dOf (eC (.int 1))))))))) (bAnd (bTest (eBin (dCmp rGt zGt) (dVar 4) (dOf (eBin dIx (dVar 1) (dOf (eC (.int 0))))))) (bTest (eBin dNotIn (dVar 4) (dVar 1)))))
    (sEnd [3, 4] (sSet 2 (eBin dAdd (dVar 2) (dOf (eCall m (aCons (eVar 0) (aCons (eBin dAdd (dVar 1) (dOf (eTup (aCons (eVar 4) aNil)))) aNil)))))))
    sNil')))
-- l_free_pairs_2: head 1:many 2:every 3:found 4:one of 6
def l_free_pairs_2 : Fs :=
    (sEnd [5] (sIf (bAnd (bTest (eBin dNotIn (dOf (eTup (aCons (eVar 4) (aCons (eVar 5) aNil)))) (dVar 2))) (bTest (eBin dNotIn (dOf (eTup (aCons (eVar 5) (aCons (eVar 4) aNil)))) (dVar 2))))
    (sEnd [5] (sApp 3 (eTup (aCons (eVar 4) (aCons (eVar 5) aNil)))))
    sNil'))
-- l_free_pairs_1: head 1:many 2:every 3:found of 6
def l_free_pairs_1 : Fs :=
    (sEnd [4] (sFor (iRng2 (dOf (eBin dAdd (dVar 4) (dOf (eC (.int 1))))) (dVar 1)) (gOne 5)
    l_free_pairs_2))
-- l__law_orders_1: head 0:_law_pairs_here 1:_law_left 2:_law_got of 9
def l__law_orders_1 (m : Fn) : Fs :=
    (sEnd [3] (sIf (bNot (bTru (dOf (eComp (iOf (dVar 0)) (gMany [4, 5]) [4, 5] (bAnd (bTest (eBin dEq (dVar 5) (dVar 3))) (bTest (eBin dIn (dVar 4) (dVar 1)))) (eC (.int 1))))))
    (sSeq (sSet 6 (eFrz (eComp (iOf (dVar 1)) (gOne 7) [7] (bTest (eBin dNe (dVar 7) (dVar 3))) (eVar 7))))
    (sEnd [3, 6] (sSet 2 (eFrz (eBin dAdd (dVar 2) (dOf (eComp (iOf (dOf (eCall m (aCons (eVar 0) (aCons (eVar 6) aNil))))) (gOne 8) [8] bYes (eBin dAdd (dOf (eTup (aCons (eVar 3) aNil))) (dVar 8)))))))))
    sNil'))
def b_need_none : Fs :=
    (sEnd [0] (sIf (bTest (eBin dNotN (dOf (eCall m_ring (aCons (eVar 0) aNil))) (dOf (eC .none))))
    (fun _ _ => none)
    sNil'))
def m_need_none : Fn := runB 1 b_need_none
def bx_need_none : Fsx :=
    (sEndX [0] (sIfX (bTest (eBin dNotN (dOf (eCall m_ring (aCons (eVar 0) aNil))) (dOf (eC .none))))
    (sRz 0)
    (lft sNil')))
def x_need_none : Fnx := runX 1 bx_need_none
-- l_bare_1: head 1:every 2:found of 6
def l_bare_1 : Fs :=
    (sEnd [3, 4] (sIf (bNot (bTru (dOf (eComp (iOf (dOf (eCall m_behind (aCons (eVar 1) (aCons (eVar 3) aNil))))) (gOne 5) [5] (bTest (eBin dIn (dOf (eTup (aCons (eVar 5) (aCons (eVar 4) aNil)))) (dVar 1))) (eVar 5)))))
    (sEnd [3, 4] (sApp 2 (eTup (aCons (eVar 3) (aCons (eVar 4) aNil)))))
    sNil'))
def bx_bare : Fsx :=
    (sSeqX (sDropX (xCall x_need_none (aCons (eVar 0) aNil)))
    (lft (sSeq (sEnd [0] (sSet 1 (eFrz (eCall m_closed (aCons (eVar 0) aNil)))))
    (sSeq (sSet 2 (eLst aNil))
    (sSeq (sEnd [1] (sFor (iVal (eVar 1)) (gMany [3, 4])
    l_bare_1))
    (sRet (eApp gTup (sCons (dVar 2) sNil))))))))
def x_bare : Fnx := runX 6 bx_bare
-- l_orders_from_1: head 0:pairs 1:left 2:found of 8
def l_orders_from_1 (m : Fn) : Fs :=
    (sEnd [3] (sIf (bNot (bTru (dOf (eComp (iOf (dVar 0)) (gMany [4, 5]) [4, 5] (bAnd (bTest (eBin dEq (dVar 5) (dVar 3))) (bTest (eBin dIn (dVar 4) (dVar 1)))) (eVar 4)))))
    (sEnd [3] (sExt 2 (eComp (iOf (dOf (eCall m (aCons (eVar 0) (aCons (eComp (iOf (dVar 1)) (gOne 7) [7] (bTest (eBin dNe (dVar 7) (dVar 3))) (eVar 7)) aNil))))) (gOne 6) [6] bYes (eBin dAdd (dOf (eTup (aCons (eVar 3) aNil))) (dVar 6)))))
    sNil'))
def b_orders_from (m : Fn) : Fs :=
    (sSeq (sIf (bNot (bTru (dVar 1)))
    (sRet (eLst (aCons (eTup aNil) aNil)))
    sNil')
    (sSeq (sSet 2 (eLst aNil))
    (sSeq (sEnd [0, 1] (sFor (iVal (eVar 1)) (gOne 3)
    (l_orders_from_1 m)))
    (sRetO 2))))
def m_orders_from_ : Nat → Fn
  | 0 => fun _ _ => none
  | k + 1 => runB 8 (b_orders_from (m_orders_from_ k))
def m_orders_from : Fn := m_orders_from_ 10
def bx_orders : Fsx :=
    (sSeqX (sDropX (xCall x_need_none (aCons (eVar 0) aNil)))
    (lft (sRet (eApp gTup (sCons (dOf (eCall m_orders_from (aCons (eVar 0) (aCons (eListRg1 (dVar 1)) aNil)))) sNil)))))
def x_orders : Fnx := runX 2 bx_orders
-- l_least_order_2: head 0:pairs 2:found 3:left of 8
def l_least_order_2 : Fs :=
    (sEnd [4] (sIf (bNot (bTru (dOf (eComp (iOf (dVar 0)) (gMany [5, 6]) [5, 6] (bAnd (bTest (eBin dEq (dVar 6) (dVar 4))) (bTest (eBin dIn (dVar 5) (dVar 3)))) (eVar 5)))))
    (sSeq (sSet 2 (eFrz (eBin dAdd (dVar 2) (dOf (eTup (aCons (eVar 4) aNil))))))
    (sSeq (sEnd [4] (sSet 3 (eFrz (eComp (iOf (dVar 3)) (gOne 7) [7] (bTest (eBin dNe (dVar 7) (dVar 4))) (eVar 7)))))
    sBrk))
    sNil'))
-- l_least_order_1: head 0:pairs 2:found 3:left of 8
def l_least_order_1 : Fs :=
    (sFor (iVal (eVar 3)) (gOne 4)
    l_least_order_2)
def b_least_order : Fs :=
    (sSeq (sDrop (eCall m_need_none (aCons (eVar 0) aNil)))
    (sSeq (sSet 2 (eTup aNil))
    (sSeq (sEnd [1] (sSet 3 (eFrz (eListRg1 (dVar 1)))))
    (sSeq (sEnd [0, 3] (loopW (bTru (dVar 3)) l_least_order_1 100000))
    (sRet (eVar 2))))))
def m_least_order : Fn := runB 8 b_least_order
def bx_least_order : Fsx :=
    (sSeqX (sDropX (xCall x_need_none (aCons (eVar 0) aNil)))
    (lft (sSeq (sSet 2 (eTup aNil))
    (sSeq (sEnd [1] (sSet 3 (eFrz (eListRg1 (dVar 1)))))
    (sSeq (sEnd [0, 3] (loopW (bTru (dVar 3)) l_least_order_1 100000))
    (sRet (eVar 2)))))))
def x_least_order : Fnx := runX 8 bx_least_order
-- l_levels_1: head 0:pairs 1:many 2:found of 6
def l_levels_1 : Fs :=
    (sEnd [3] (sPut 2 (dVar 3) (eApp gMax1 (sCons (dOf (eBin dAdd (dOf (eLst (aCons (eC (.int 0)) aNil))) (dOf (eComp (iOf (dVar 0)) (gMany [4, 5]) [4, 5] (bTest (eBin dEq (dVar 5) (dVar 3))) (eBin dAdd (dOf (eBin dIxD (dVar 2) (dVar 4))) (dOf (eC (.int 1)))))))) sNil))))
def bx_levels : Fsx :=
    (sSeqX (sDropX (xCall x_need_none (aCons (eVar 0) aNil)))
    (lft (sSeq (sSet 2 eDicK)
    (sSeq (sEnd [0] (sFor (iVal (eCall m_least_order (aCons (eVar 0) (aCons (eVar 1) aNil)))) (gOne 3)
    l_levels_1))
    (sRet (eApp gTup (sCons (dOf (eComp (iRng1 (dVar 1)) (gOne 3) [3] bYes (eBin dIxD (dVar 2) (dVar 3)))) sNil)))))))
def x_levels : Fnx := runX 6 bx_levels
-- l_plain_keys_1: head 0:found of 4
def l_plain_keys_1 : Fs :=
    (sEnd [1] (sExt 0 (eComp (iRng2 (dOf (eBin dAdd (dVar 1) (dOf (eC (.int 1))))) (dOf (eC (.int 3)))) (gOne 3) [3] bYes (eTup (aCons (eC (.str "sum")) (aCons (eVar 1) (aCons (eVar 3) aNil)))))))
-- l_agreeing_1: head 0:things 1:keys 2:found of 5
def l_agreeing_1 : Fs :=
    (sEnd [3] (sIf (bTru (dOf (eCall m_is_ordered (aCons (eTup (aCons (eVar 3) aNil)) (aCons (eVar 0) aNil)))))
    (sEnd [3] (sExt 2 (eComp (iOf (dVar 1)) (gOne 4) [4] (bAnd (bTest (eBin dNe (dVar 4) (dVar 3))) (bTru (dOf (eCall m_is_ordered (aCons (eTup (aCons (eVar 3) (aCons (eVar 4) aNil))) (aCons (eVar 0) aNil)))))) (eTup (aCons (eVar 3) (aCons (eVar 4) aNil))))))
    sNil'))
-- l_unlike_rows_1: head 1:seen 2:found of 5
def l_unlike_rows_1 : Fs :=
    (sSeq (sSet 4 (eFrz (eCall m_form (aCons (eVar 3) aNil))))
    (sEnd [3, 4] (sIf (bTest (eBin dNotInD (dVar 4) (dVar 1)))
    (sSeq (sEnd [4] (sPut 1 (dVar 4) (eC (.bool true))))
    (sEnd [3] (sApp 2 (eVar 3))))
    sNil')))
-- l__law_rows_1: head 0:_law_every_here 1:_law_got of 4
def l__law_rows_1 : Fs :=
    (sEnd [2] (sSet 1 (eFrz (eBin dAdd (dVar 1) (dOf (eComp (iOf (dVar 0)) (gOne 3) [3] (bTest (eBin dNe (dVar 3) (dVar 2))) (eTup (aCons (eVar 2) (aCons (eVar 3) aNil)))))))))
-- l__law_goes_on_3: head 0:_law_row 1:_law_lists 2:_law_some 3:_law_other of 5
def l__law_goes_on_3 : Fs :=
    (sEnd [4] (sIf (bAnd (bTest (eBin (dCmp rLt zLt) (dOf (eCall m_list_told (aCons (eVar 0) (aCons (eVar 2) (aCons (eVar 3) aNil))))) (dOf (eC (.int 1))))) (bTest (eBin (dCmp rLt zLt) (dOf (eCall m_list_told (aCons (eVar 0) (aCons (eVar 3) (aCons (eVar 4) aNil))))) (dOf (eC (.int 1))))))
    (sEnd [4] (sIf (bTest (eBin (dCmp rGt zGt) (dOf (eCall m_list_told (aCons (eVar 0) (aCons (eVar 2) (aCons (eVar 4) aNil))))) (dOf (eC (.int 0)))))
    (sRet (eC (.bool false)))
    sNil'))
    sNil'))
-- l__law_goes_on_2: head 0:_law_row 1:_law_lists 2:_law_some of 5
def l__law_goes_on_2 : Fs :=
    (sEnd [3] (sFor (iVal (eVar 1)) (gOne 4)
    l__law_goes_on_3))
-- l__law_goes_on_1: head 0:_law_row 1:_law_lists of 5
def l__law_goes_on_1 : Fs :=
    (sEnd [2] (sFor (iVal (eVar 1)) (gOne 3)
    l__law_goes_on_2))
-- l__law_ways_1: head 1:_law_got of 3
def l__law_ways_1 : Fs :=
    (sEnd [2] (sSet 1 (eBin dMul (dVar 1) (dVar 2))))
def b_chosen : Fs :=
    (sRet (eApp gTup (sCons (dOf (eComp (iOf (dVar 1)) (gOne 2) [2] bYes (eBin dIx (dVar 0) (dVar 2)))) sNil)))
def m_chosen : Fn := runB 3 b_chosen
-- l_choices_2: head 0:many 4:longer of 7
def l_choices_2 : Fs :=
    (sEnd [5] (sExt 4 (eComp (iRng2 (dOf (eBin dAdd (dOf (eApp gMax1 (sCons (dOf (eBin dAdd (dOf (eTup (aCons (eUn dNeg (dOf (eC (.int 1)))) aNil))) (dVar 5))) sNil))) (dOf (eC (.int 1))))) (dVar 0)) (gOne 6) [6] bYes (eBin dAdd (dVar 5) (dOf (eTup (aCons (eVar 6) aNil)))))))
-- l_choices_1: head 0:many 2:found of 7
def l_choices_1 : Fs :=
    (sSeq (sEnd [3] (sSet 4 (eLst aNil)))
    (sSeq (sForK [2] (iVal (eVar 2)) (gOne 5)
    l_choices_2)
    (sEnd [4] (frzAt 4 (sSet 2 (eVar 4))))))
def b_choices : Fs :=
    (sSeq (sSet 2 (eFrz (eLst (aCons (eTup aNil) aNil))))
    (sSeq (sEnd [0] (sForK [1] (iRng1 (dVar 1)) (gOne 3)
    l_choices_1))
    (sRet (eVar 2))))
def m_choices : Fn := runB 7 b_choices
-- l_fewest_1: head 0:row of 4
def l_fewest_1 : Fs :=
    (sSeq (sEnd [1] (sSet 2 (eApp gTup (sCons (dOf (eComp (iOf (dOf (eCall m_choices (aCons (eApp gLen (sCons (dVar 0) sNil)) (aCons (eVar 1) aNil))))) (gOne 3) [3] (bTru (dOf (eCall m_alike (aCons (eCall m_chosen (aCons (eVar 0) (aCons (eVar 3) aNil))) (aCons (eVar 0) aNil))))) (eVar 3))) sNil))))
    (sEnd [2] (sIf (bTru (dVar 2))
    (sRet (eVar 2))
    sNil')))
-- l__law_choices_1: head 1:_law_got of 4
def l__law_choices_1 : Fs :=
    (sEnd [2] (sSet 1 (eFrz (eBin dAdd (dVar 1) (dOf (eComp (iOf (dVar 1)) (gOne 3) [3] bYes (eBin dAdd (dVar 3) (dOf (eTup (aCons (eVar 2) aNil))))))))))
def b_comes_later : Fs :=
    (sSeq (sIf (bTest (eBin dEq (dVar 1) (dOf (eC (.str "many")))))
    (sRet (eBin (dCmp rGt zGt) (dOf (eApp gLen (sCons (dVar 2) sNil))) (dOf (eApp gLen (sCons (dVar 3) sNil)))))
    sNil')
    (sSeq (sIf (bTest (eBin dEq (dVar 1) (dOf (eC (.str "first")))))
    (sRet (eBin (dCmp rGt zGt) (dOf (eCall m_told (aCons (eVar 0) (aCons (eBin dIx (dVar 2) (dOf (eC (.int 0)))) (aCons (eBin dIx (dVar 3) (dOf (eC (.int 0)))) aNil))))) (dOf (eC (.int 0)))))
    sNil')
    (sSeq (sEnd [0, 1, 2, 3] (sIf (bTest (eBin dEq (dVar 1) (dOf (eC (.str "last")))))
    (sRet (eBin (dCmp rGt zGt) (dOf (eCall m_told (aCons (eVar 0) (aCons (eBin dIx (dVar 2) (dOf (eUn dNeg (dOf (eC (.int 1)))))) (aCons (eBin dIx (dVar 3) (dOf (eUn dNeg (dOf (eC (.int 1)))))) aNil))))) (dOf (eC (.int 0)))))
    sNil'))
    (sRet (eC (.bool false))))))
def m_comes_later : Fn := runB 4 b_comes_later
-- l_nested_2: head 1:inner 2:kind 4:found 6:one 7:at of 8
def l_nested_2 : Fs :=
    (sSet 7 (eBin dSub (dVar 7) (dOf (eC (.int 1)))))
-- l_nested_1: head 1:inner 2:kind 4:found of 8
def l_nested_1 : Fs :=
    (sSeq (sEnd [5] (sSet 6 (eFrz (eCall m_ordered (aCons (eVar 1) (aCons (eVar 5) aNil))))))
    (sSeq (sSet 7 (eApp gLen (sCons (dVar 4) sNil)))
    (sSeq (loopW (bAnd (bTest (eBin (dCmp rGt zGt) (dVar 7) (dOf (eC (.int 0))))) (bTru (dOf (eCall m_comes_later (aCons (eVar 1) (aCons (eVar 2) (aCons (eBin dIx (dVar 4) (dOf (eBin dSub (dVar 7) (dOf (eC (.int 1)))))) (aCons (eVar 6) aNil)))))))) l_nested_2 100000)
    (sEnd [6, 7] (sIns 4 (dVar 7) (eVar 6))))))
def b_nested : Fs :=
    (sSeq (sSet 4 (eLst aNil))
    (sSeq (sEnd [1, 2] (sForK [0, 3] (iVal (eCall m_groups (aCons (eVar 0) (aCons (eVar 3) aNil)))) (gOne 5)
    l_nested_1))
    (sRet (eApp gTup (sCons (dVar 4) sNil)))))
def m_nested : Fn := runB 8 b_nested
-- l__law_groups_1: head 0:_law_row 1:_law_inner 2:_law_things 3:_law_got of 6
def l__law_groups_1 : Fs :=
    (sIf (bAnd (bTru (dVar 3)) (bTest (eBin dEq (dOf (eCall m__law_word (aCons (eVar 0) (aCons (eBin dIx (dOf (eBin dIx (dVar 3) (dOf (eUn dNeg (dOf (eC (.int 1))))))) (dOf (eC (.int 0)))) (aCons (eBin dIx (dVar 2) (dVar 4)) aNil))))) (dOf (eC (.int 0))))))
    (sEnd [4] (sSetIx 3 (dOf (eUn dNeg (dOf (eC (.int 1))))) (eBin dAdd (dOf (eBin dIx (dVar 3) (dOf (eUn dNeg (dOf (eC (.int 1))))))) (dOf (eTup (aCons (eBin dIx (dVar 2) (dVar 4)) aNil))))))
    (sEnd [4] (sApp 3 (eTup (aCons (eBin dIx (dVar 2) (dVar 4)) aNil)))))
-- l_merged_all_1: head 0:row 2:left 3:found of 7
def l_merged_all_1 : Fs :=
    (sSeq (sSet 5 (eC .none))
    (sSeq (sEnd [6, 4] (sForEI 2 6 4 (bAnd (bTru (dVar 4)) (bOr (bTest (eBin dIsN (dVar 5) (dOf (eC .none)))) (bTest (eBin (dCmp rLt zLt) (dOf (eCall m_told (aCons (eVar 0) (aCons (eBin dIx (dVar 4) (dOf (eC (.int 0)))) (aCons (eBin dIx (dOf (eBin dIx (dVar 2) (dVar 5))) (dOf (eC (.int 0)))) aNil))))) (dOf (eC (.int 0))))))) 5 (eVar 6)))
    (sSeq (sSet 3 (eFrz (eBin dAdd (dVar 3) (dOf (eSl dSl (dOf (eBin dIx (dVar 2) (dVar 5))) oNone (oSome (dOf (eC (.int 1)))))))))
    (sEnd [5] (sSetIx 2 (dVar 5) (eSl dSl (dOf (eBin dIx (dVar 2) (dVar 5))) (oSome (dOf (eC (.int 1)))) oNone))))))
def b_beats : Fs :=
    (sSeq (sEnd [0, 1, 2] (sSet 3 (eFrz (eComp (iOf (dVar 0)) (gOne 4) [4] bYes (eCall m_told (aCons (eVar 4) (aCons (eVar 1) (aCons (eVar 2) aNil))))))))
    (sRet (eAnd (eBin dIn (dOf (eUn dNeg (dOf (eC (.int 1))))) (dVar 3)) (eBin dNotIn (dOf (eC (.int 1))) (dVar 3)))))
def m_beats : Fn := runB 5 b_beats
-- l_front_1: head 0:rows 1:things 2:found of 6
def l_front_1 : Fs :=
    (sEnd [3, 4] (sIf (bNot (bTru (dOf (eApp gAnyX (sCons (dOf (eComp (iOf (dVar 1)) (gOne 5) [5] bYes (eCall m_beats (aCons (eVar 0) (aCons (eVar 5) (aCons (eVar 4) aNil)))))) sNil)))))
    (sEnd [3, 4] (sApp 2 (eVar 3)))
    sNil'))
def b_front : Fs :=
    (sSeq (sSet 2 (eLst aNil))
    (sSeq (sEnd [0, 1] (sFor (iEnumF (eVar 1)) (gMany [3, 4])
    l_front_1))
    (sRet (eApp gTup (sCons (dVar 2) sNil)))))
def m_front : Fn := runB 6 b_front
-- l_layers_1: head 0:rows 1:things 2:left 3:found of 7
def l_layers_1 : Fs :=
    (sSeq (sSet 4 (eFrz (eCall m_front (aCons (eVar 0) (aCons (eApp gTup (sCons (dOf (eComp (iOf (dVar 2)) (gOne 5) [5] bYes (eBin dIx (dVar 1) (dVar 5)))) sNil)) aNil)))))
    (sSeq (sEnd [4] (sSet 6 (eApp gTup (sCons (dOf (eComp (iOf (dVar 4)) (gOne 5) [5] bYes (eBin dIx (dVar 2) (dVar 5)))) sNil))))
    (sSeq (sSet 3 (eFrz (eBin dAdd (dVar 3) (dOf (eTup (aCons (eVar 6) aNil))))))
    (sEnd [6] (sSet 2 (eFrz (eComp (iOf (dVar 2)) (gOne 5) [5] (bTest (eBin dNotIn (dVar 5) (dVar 6))) (eVar 5))))))))
-- l_agreed_1: head 0:rows 1:things 2:found of 7
def l_agreed_1 : Fs :=
    (sEnd [3, 4] (sExt 2 (eComp (iEnumV (dVar 1)) (gMany [5, 6]) [5, 6] (bTru (dOf (eCall m_beats (aCons (eVar 0) (aCons (eVar 4) (aCons (eVar 6) aNil)))))) (eTup (aCons (eVar 3) (aCons (eVar 5) aNil))))))
-- l__law_rows_v2_1: head 0:_law_script 1:_law_town 2:_law_rows_here of 6
def l__law_rows_v2_1 : Fs :=
    (sSeq (sEnd [3] (sSet 4 (eFrz (eCall m__law_keys (aCons (eVar 0) (aCons (eVar 1) (aCons (eC (.int 2)) aNil)))))))
    (sSeq (sIf (bAnd (bTru (dVar 2)) (bTest (eBin dEq (dOf (eCall m__law_draw (aCons (eVar 0) (aCons (eVar 1) (aCons (eC (.int 4)) aNil))))) (dOf (eC (.int 0))))))
    (sSet 4 (eApp gTup (sCons (dOf (eComp (iOf (dOf (eBin dIx (dVar 2) (dOf (eC (.int 0)))))) (gOne 5) [5] bYes (eCall m__law_turn (aCons (eVar 5) aNil)))) sNil)))
    sNil')
    (sEnd [4] (sSet 2 (eFrz (eBin dAdd (dVar 2) (dOf (eTup (aCons (eVar 4) aNil)))))))))
def b__law_draw_v2 : Fs :=
    (sSeq (sTown 1)
    (sSeq (sEnd [1] (sSet 3 (eTLen 1)))
    (sSeq (sSet 4 (eC (.int 0)))
    (sSeq (sEnd [0] (sIf (bTru (dVar 0))
    (sEnd [0] (sSet 4 (eBin dIx (dVar 0) (dOf (eBin dMod (dVar 3) (dOf (eApp gLen (sCons (dVar 0) sNil))))))))
    sNil'))
    (sSeq (sEnd [3, 4] (sSet 5 (eBin dMod (dOf (eBin dAdd (dVar 4) (dOf (eBin dMul (dOf (eC (.int 104729))) (dVar 3))))) (dOf (eC (.int 4294967291))))))
    (sSeq (sSet 5 (eBin dMod (dOf (eBin dMul (dOf (eBin dMod (dOf (eBin dMul (dVar 5) (dVar 5))) (dOf (eC (.int 4294967279))))) (dOf (eC (.int 48271))))) (dOf (eC (.int 4294967291)))))
    (sSeq (sSet 6 (eBin dMod (dOf (eBin dMul (dOf (eBin dMod (dOf (eBin dMul (dVar 5) (dVar 5))) (dOf (eC (.int 4294967279))))) (dOf (eC (.int 69621))))) (dOf (eC (.int 4294967291)))))
    (sRet (eBin dMod (dOf (eBin dAdd (dOf (eBin dMul (dOf (eBin dDiv (dVar 5) (dOf (eC (.int 64))))) (dOf (eC (.int 67108864))))) (dOf (eBin dDiv (dVar 6) (dOf (eC (.int 64))))))) (dVar 2))))))))))
def m__law_draw_v2 : Fn := runB 7 b__law_draw_v2
def b__law_pick_v2 : Fs :=
    (sRet (eBin dIx (dVar 2) (dOf (eCall m__law_draw_v2 (aCons (eVar 0) (aCons (eVar 1) (aCons (eApp gLen (sCons (dVar 2) sNil)) aNil)))))))
def m__law_pick_v2 : Fn := runB 3 b__law_pick_v2
-- l__law_plain_v2_1: head 0:_law_script 1:_law_town 2:_law_field 3:_law_word 6:_law_left 7:_law_got of 9
def l__law_plain_v2_1 : Fs :=
    (sEnd [8] (sSetX 7 (xCat (eVar 7) (xTup1 (xPop 6 (dOf (eCall m__law_draw_v2 (aCons (eVar 0) (aCons (eVar 1) (aCons (eApp gLen (sCons (dVar 6) sNil)) aNil))))))))))
def b__law_plain_v2 : Fs :=
    (sSeq (sPar 2 3 (aCons (eCall m__law_draw_v2 (aCons (eVar 0) (aCons (eVar 1) (aCons (eC (.int 3)) aNil)))) (aCons (eCall m__law_draw_v2 (aCons (eVar 0) (aCons (eVar 1) (aCons (eC (.int 6)) aNil)))) aNil)))
    (sSeq (sIf (bTest (eBin (dCmp rLt zLt) (dVar 3) (dOf (eC (.int 2)))))
    (sRet (eTup (aCons (eC (.str "up")) (aCons (eVar 2) aNil))))
    sNil')
    (sSeq (sIf (bTest (eBin dEq (dVar 3) (dOf (eC (.int 2)))))
    (sRet (eTup (aCons (eCall m__law_pick_v2 (aCons (eVar 0) (aCons (eVar 1) (aCons (eLst (aCons (eC (.str "part")) (aCons (eC (.str "rest")) aNil))) aNil)))) (aCons (eVar 2) (aCons (eBin dAdd (dOf (eC (.int 2))) (dOf (eCall m__law_draw_v2 (aCons (eVar 0) (aCons (eVar 1) (aCons (eC (.int 2)) aNil)))))) aNil)))))
    sNil')
    (sSeq (sIf (bTest (eBin dEq (dVar 3) (dOf (eC (.int 5)))))
    (sSeq (sEnd [2, 3] (sAsg (gMany [4, 5]) (eCall m__law_pick_v2 (aCons (eVar 0) (aCons (eVar 1) (aCons (eLst (aCons (eTup (aCons (eC (.int 0)) (aCons (eC (.int 1)) aNil))) (aCons (eTup (aCons (eC (.int 0)) (aCons (eC (.int 2)) aNil))) (aCons (eTup (aCons (eC (.int 1)) (aCons (eC (.int 2)) aNil))) aNil)))) aNil))))))
    (sRet (eTup (aCons (eCall m__law_pick_v2 (aCons (eVar 0) (aCons (eVar 1) (aCons (eLst (aCons (eC (.str "sum")) (aCons (eC (.str "gap")) (aCons (eC (.str "most")) aNil)))) aNil)))) (aCons (eVar 4) (aCons (eVar 5) aNil))))))
    sNil')
    (sSeq (sParO 6 7 (eLst (aCons (eC (.int 0)) (aCons (eC (.int 1)) (aCons (eC (.int 2)) (aCons (eC (.int 3)) (aCons (eC (.int 4)) (aCons (eC (.int 5)) aNil))))))) (eTup aNil))
    (sSeq (sEnd [0, 1, 6] (sFor (iRng1 (dOf (eBin dAdd (dOf (eC (.int 1))) (dOf (eCall m__law_draw_v2 (aCons (eVar 0) (aCons (eVar 1) (aCons (eC (.int 4)) aNil)))))))) (gOne 8)
    l__law_plain_v2_1))
    (sRet (eIf (bTest (eBin dEq (dVar 3) (dOf (eC (.int 3))))) (eTup (aCons (eC (.str "table")) (aCons (eVar 2) (aCons (eVar 7) aNil)))) (eTup (aCons (eC (.str "among")) (aCons (eVar 2) (aCons (eApp gTup (sCons (dOf (eApp gSorted (sCons (dVar 7) sNil))) sNil)) aNil))))))))))))
def m__law_plain_v2 : Fn := runB 9 b__law_plain_v2
-- l__law_row_v2_1: head 0:_law_script 1:_law_town 3:_law_got of 6
def l__law_row_v2_1 : Fs :=
    (sSeq (sEnd [4] (sSet 5 (eFrz (eCall m__law_plain_v2 (aCons (eVar 0) (aCons (eVar 1) aNil))))))
    (sEnd [5] (sSet 3 (eFrz (eBin dAdd (dVar 3) (dOf (eTup (aCons (eIf (bTest (eBin dEq (dOf (eCall m__law_draw_v2 (aCons (eVar 0) (aCons (eVar 1) (aCons (eC (.int 3)) aNil))))) (dOf (eC (.int 0))))) (eTup (aCons (eC (.str "down")) (aCons (eVar 5) aNil))) (eVar 5)) aNil))))))))
def b__law_thing_v2 : Fs :=
    (sRet (eApp gTup (sCons (dOf (eComp (iRng1 (dOf (eC (.int 3)))) (gOne 2) [2] bYes (eCall m__law_draw_v2 (aCons (eVar 0) (aCons (eVar 1) (aCons (eC (.int 6)) aNil)))))) sNil)))
def m__law_thing_v2 : Fn := runB 3 b__law_thing_v2
-- l__law_choices_v2_2: head 0:_law_many 1:_law_some 2:_law_got 3:_law_first of 6
def l__law_choices_v2_2 (m : Fn) : Fs :=
    (sEnd [4] (sApp 2 (eBin dAdd (dOf (eTup (aCons (eVar 3) aNil))) (dOf (eApp gTup (sCons (dOf (eComp (iOf (dVar 4)) (gOne 5) [5] bYes (eBin dAdd (dOf (eBin dAdd (dVar 5) (dVar 3))) (dOf (eC (.int 1)))))) sNil))))))
-- l__law_choices_v2_1: head 0:_law_many 1:_law_some 2:_law_got of 6
def l__law_choices_v2_1 (m : Fn) : Fs :=
    (sEnd [3] (sFor (iVal (eCall m (aCons (eBin dSub (dOf (eBin dSub (dVar 0) (dVar 3))) (dOf (eC (.int 1)))) (aCons (eBin dSub (dVar 1) (dOf (eC (.int 1)))) aNil)))) (gOne 4)
    (l__law_choices_v2_2 m)))
-- l__law_few_hold_1: head 0:_law_row_here 2:_law_every of 7
def l__law_few_hold_1 : Fs :=
    (sEnd [4] (sIf (bTest (eBin dNe (dOf (eCall m_alike (aCons (eApp gTup (sCons (dOf (eComp (iOf (dVar 4)) (gOne 5) [5] bYes (eBin dIx (dVar 0) (dVar 5)))) sNil)) (aCons (eVar 0) aNil)))) (dOf (eBin dIn (dVar 4) (dVar 2)))))
    (sRet (eC (.bool false)))
    sNil'))
-- l__law_few_hold_3: head 0:_law_row_here 4:_law_some of 7
def l__law_few_hold_3 : Fs :=
    (sEnd [6] (sIf (bTru (dOf (eCall m_alike (aCons (eApp gTup (sCons (dOf (eComp (iOf (dOf (eBin dAdd (dOf (eSl dSl (dVar 4) oNone (oSome (dVar 6)))) (dOf (eSl dSl (dVar 4) (oSome (dOf (eBin dAdd (dVar 6) (dOf (eC (.int 1)))))) oNone))))) (gOne 5) [5] bYes (eBin dIx (dVar 0) (dVar 5)))) sNil)) (aCons (eVar 0) aNil)))))
    (sRet (eC (.bool false)))
    sNil'))
-- l__law_few_hold_2: head 0:_law_row_here of 7
def l__law_few_hold_2 : Fs :=
    (sSeq (sIf (bOr (bTest (eBin dNe (dOf (eApp gList (sCons (dVar 4) sNil))) (dOf (eApp gSortDict (sCons (dOf (eComp (iOf (dVar 4)) (gOne 5) [5] bYes (eTup (aCons (eVar 5) (aCons (eC (.int 0)) aNil))))) sNil))))) (bNot (bTru (dOf (eApp gAll (sCons (dOf (eComp (iOf (dVar 4)) (gOne 5) [5] bYes (eChain (dCmp rLe zLe) (dCmp rLt zLt) (dOf (eC (.int 0))) (dVar 5) (dOf (eApp gLen (sCons (dVar 0) sNil)))))) sNil))))))
    (sRet (eC (.bool false)))
    sNil')
    (sSeq (sIf (bNot (bTru (dOf (eCall m_alike (aCons (eApp gTup (sCons (dOf (eComp (iOf (dVar 4)) (gOne 5) [5] bYes (eBin dIx (dVar 0) (dVar 5)))) sNil)) (aCons (eVar 0) aNil))))))
    (sRet (eC (.bool false)))
    sNil')
    (sEnd [4] (sFor (iRng1 (dOf (eApp gLen (sCons (dVar 4) sNil)))) (gOne 6)
    l__law_few_hold_3))))
-- l__law_things_1: head 0:_law_script 1:_law_town 3:_law_got of 5
def l__law_things_1 : Fs :=
    (sEnd [4] (sSet 3 (eFrz (eBin dAdd (dVar 3) (dOf (eTup (aCons (eCall m__law_pick_v2 (aCons (eVar 0) (aCons (eVar 1) (aCons (eBin dAdd (dOf (eTup (aCons (eCall m__law_thing_v2 (aCons (eVar 0) (aCons (eVar 1) aNil))) aNil))) (dOf (eSl dSl (dVar 3) oNone (oSome (dOf (eC (.int 1))))))) aNil)))) aNil)))))))
-- l__law_order_holds_1: head 0:_law_row_here 1:_law_things_here of 7
def l__law_order_holds_1 : Fs :=
    (sSeq (sSet 5 (eFrz (eCall m_told (aCons (eVar 0) (aCons (eBin dIx (dVar 1) (dVar 3)) (aCons (eBin dIx (dVar 1) (dVar 4)) aNil))))))
    (sEnd [3, 4, 5] (sIf (bOr (bTest (eBin (dCmp rGt zGt) (dVar 5) (dOf (eC (.int 0))))) (bAnd (bTest (eBin dEq (dVar 5) (dOf (eC (.int 0))))) (bTest (eBin (dCmp rGt zGt) (dVar 3) (dVar 4)))))
    (sRet (eC (.bool false)))
    sNil')))
-- l__law_runs_hold_1: head 0:_law_row_here 1:_law_things_here 2:_law_some 3:_law_whole of 6
def l__law_runs_hold_1 : Fs :=
    (sSeq (sEnd [4] (sIf (bOr (bTest (eBin dEq (dVar 5) (dOf (eTup aNil)))) (bOr (bNot (bTru (dOf (eCall m_is_ordered (aCons (eVar 0) (aCons (eVar 5) aNil)))))) (bAnd (bTru (dVar 4)) (bTest (eBin dNe (dOf (eCall m_told (aCons (eVar 0) (aCons (eBin dIx (dOf (eBin dIx (dVar 2) (dOf (eBin dSub (dVar 4) (dOf (eC (.int 1))))))) (dOf (eUn dNeg (dOf (eC (.int 1)))))) (aCons (eBin dIx (dVar 5) (dOf (eC (.int 0)))) aNil))))) (dOf (eC (.int 1))))))))
    (sRet (eC (.bool false)))
    sNil'))
    (sEnd [5] (sSet 3 (eFrz (eBin dAdd (dVar 3) (dVar 5))))))
-- l__law_turns_hold_1: head 0:_law_row_here 1:_law_things_here 2:_law_some 3:_law_many 4:_law_due of 7
def l__law_turns_hold_1 : Fs :=
    (sPar 3 4 (aCons (eBin dDiv (dOf (eBin dAdd (dVar 3) (dOf (eC (.int 1))))) (dOf (eC (.int 2)))) (aCons (eBin dAdd (dVar 4) (dOf (eC (.int 1)))) aNil)))
-- l__law_turns_hold_2: head 0:_law_row_here 1:_law_things_here 5:_law_before of 7
def l__law_turns_hold_2 : Fs :=
    (sSeq (sIf (bOr (bTest (eBin dNe (dOf (eApp gSorted (sCons (dVar 6) sNil))) (dOf (eApp gSorted (sCons (dVar 1) sNil))))) (bTest (eBin (dCmp rGe zGe) (dOf (eApp gLen (sCons (dOf (eCall m_runs (aCons (eVar 0) (aCons (eVar 6) aNil)))) sNil))) (dOf (eApp gLen (sCons (dOf (eCall m_runs (aCons (eVar 0) (aCons (eVar 5) aNil)))) sNil))))))
    (sRet (eC (.bool false)))
    sNil')
    (sSeq (sEnd [5] (sIf (bOr (bTest (eBin (dCmp rGt zGt) (dOf (eCall m_crossings (aCons (eVar 0) (aCons (eVar 6) aNil)))) (dOf (eCall m_crossings (aCons (eVar 0) (aCons (eVar 5) aNil)))))) (bTest (eBin dNe (dOf (eCall m_ordered (aCons (eVar 0) (aCons (eVar 6) aNil)))) (dOf (eCall m_ordered (aCons (eVar 0) (aCons (eVar 1) aNil)))))))
    (sRet (eC (.bool false)))
    sNil'))
    (sEnd [6] (sSet 5 (eVar 6)))))
-- l__law_place_holds_1: head 0:_law_row_here 1:_law_things_here 2:_law_thing_here of 8
def l__law_place_holds_1 : Fs :=
    (sEnd [7] (sIf (bNot (bTru (dOf (eCall m_is_ordered (aCons (eVar 0) (aCons (eBin dAdd (dOf (eBin dAdd (dOf (eSl dSl (dVar 1) oNone (oSome (dVar 7)))) (dOf (eTup (aCons (eVar 2) aNil))))) (dOf (eSl dSl (dVar 1) (oSome (dVar 7)) oNone))) aNil))))))
    (sRet (eC (.bool false)))
    sNil'))
-- l__law_groups_hold_1: head 0:_law_row_here 1:_law_things_here 2:_law_some 3:_law_whole of 10
def l__law_groups_hold_1 : Fs :=
    (sSeq (sEnd [4] (sIf (bOr (bTru (dOf (eApp gAnyX (sCons (dOf (eComp (iOf (dVar 5)) (gOne 6) [6] bYes (eCall m_told (aCons (eVar 0) (aCons (eBin dIx (dVar 5) (dOf (eC (.int 0)))) (aCons (eVar 6) aNil)))))) sNil)))) (bAnd (bTru (dVar 4)) (bTest (eBin dNe (dOf (eCall m_told (aCons (eVar 0) (aCons (eBin dIx (dOf (eBin dIx (dVar 2) (dOf (eBin dSub (dVar 4) (dOf (eC (.int 1))))))) (dOf (eC (.int 0)))) (aCons (eBin dIx (dVar 5) (dOf (eC (.int 0)))) aNil))))) (dOf (eUn dNeg (dOf (eC (.int 1)))))))))
    (sRet (eC (.bool false)))
    sNil'))
    (sEnd [5] (sSet 3 (eFrz (eBin dAdd (dVar 3) (dVar 5))))))
-- l__law_groups_hold_3: head 0:_law_row_here 1:_law_things_here 2:_law_some 3:_law_whole 7:_law_many 8:_law_top 9:_law_size of 10
def l__law_groups_hold_3 : Fs :=
    (sEnd [5] (sSet 9 (eFrz (eBin dAdd (dVar 9) (dOf (eIf (bTest (eBin (dCmp rLt zLt) (dVar 9) (dVar 7))) (eApp gLen (sCons (dVar 5) sNil)) (eC (.int 0))))))))
-- l__law_groups_hold_2: head 0:_law_row_here 1:_law_things_here 2:_law_some 3:_law_whole of 10
def l__law_groups_hold_2 : Fs :=
    (sSeq (sSet 8 (eFrz (eCall m_best (aCons (eVar 0) (aCons (eVar 1) (aCons (eVar 7) aNil))))))
    (sSeq (sSet 9 (eC (.int 0)))
    (sSeq (sFor (iVal (eVar 2)) (gOne 5)
    l__law_groups_hold_3)
    (sEnd [7, 8, 9] (sIf (bOr (bTest (eBin dNe (dVar 8) (dOf (eSl dSl (dVar 3) oNone (oSome (dVar 9)))))) (bTest (eBin (dCmp rLt zLt) (dOf (eApp gLen (sCons (dVar 8) sNil))) (dVar 7))))
    (sRet (eC (.bool false)))
    sNil')))))
-- l__law_mixed_1: head 0:_law_script 1:_law_town 3:_law_left 4:_law_got of 5
def l__law_mixed_1 : Fs :=
    (sAppX 4 (xPop 3 (dOf (eCall m__law_draw_v2 (aCons (eVar 0) (aCons (eVar 1) (aCons (eApp gLen (sCons (dVar 3) sNil)) aNil)))))))
-- l__law_ranks_hold_2: head 0:_law_table 1:_law_some 2:_law_one 3:_law_at of 6
def l__law_ranks_hold_2 : Fs :=
    (sEnd [4, 5] (sIf (bTest (eBin dNe (dOf (eBin dIx (dOf (eBin dIx (dVar 0) (dVar 3))) (dVar 4))) (dOf (eBin dSub (dOf (eApp gInt (sCons (dOf (eBin (dCmp rGt zGt) (dVar 2) (dVar 5))) sNil))) (dOf (eApp gInt (sCons (dOf (eBin (dCmp rLt zLt) (dVar 2) (dVar 5))) sNil)))))))
    (sRet (eC (.bool false)))
    sNil'))
-- l__law_ranks_hold_1: head 0:_law_table 1:_law_some of 6
def l__law_ranks_hold_1 : Fs :=
    (sEnd [2, 3] (sFor (iEnumF (eVar 1)) (gMany [4, 5])
    l__law_ranks_hold_2))
-- l__law_pairs_v2_1: head 0:_law_script 1:_law_town 2:_law_many 3:_law_got of 8
def l__law_pairs_v2_1 : Fs :=
    (sSeq (sEnd [4] (sPar 5 6 (aCons (eCall m__law_draw_v2 (aCons (eVar 0) (aCons (eVar 1) (aCons (eVar 2) aNil)))) (aCons (eCall m__law_draw_v2 (aCons (eVar 0) (aCons (eVar 1) (aCons (eVar 2) aNil)))) aNil))))
    (sEnd [5, 6] (sIf (bTest (eBin dNe (dVar 5) (dVar 6)))
    (sSeq (sSet 7 (eTup (aCons (eApp gMin2 (sCons (dVar 5) (sCons (dVar 6) sNil))) (aCons (eApp gMax2 (sCons (dVar 5) (sCons (dVar 6) sNil))) aNil))))
    (sEnd [5, 6, 7] (sPut 3 (dOf (eIf (bTru (dOf (eCall m__law_draw_v2 (aCons (eVar 0) (aCons (eVar 1) (aCons (eC (.int 8)) aNil)))))) (eVar 7) (eTup (aCons (eApp gMax2 (sCons (dVar 5) (sCons (dVar 6) sNil))) (aCons (eApp gMin2 (sCons (dVar 5) (sCons (dVar 6) sNil))) aNil))))) (eC (.int 0)))))
    sNil')))
-- l__law_closed_holds_2: head 0:_law_pairs_here 1:_law_every 3:_law_one 4:_law_other of 8
def l__law_closed_holds_2 : Fs :=
    (sEnd [6, 7] (sIf (bAnd (bTest (eBin dEq (dVar 6) (dVar 4))) (bTest (eBin dNotIn (dOf (eTup (aCons (eVar 3) (aCons (eVar 7) aNil)))) (dVar 1))))
    (sRet (eC (.bool false)))
    sNil'))
-- l__law_closed_holds_1: head 0:_law_pairs_here 1:_law_every of 8
def l__law_closed_holds_1 : Fs :=
    (sSeq (sSet 5 (eFrz (eComp (iOf (dVar 1)) (gMany [6, 7]) [6, 7] (bTest (eBin dEq (dVar 6) (dVar 3))) (eVar 7))))
    (sSeq (sEnd [5] (sIf (bAnd (bTest (eBin dNotIn (dOf (eTup (aCons (eVar 3) (aCons (eVar 4) aNil)))) (dVar 0))) (bNot (bTru (dOf (eApp gAnyX (sCons (dOf (eComp (iOf (dVar 5)) (gOne 7) [7] bYes (eBin dIn (dOf (eTup (aCons (eVar 7) (aCons (eVar 4) aNil)))) (dVar 0)))) sNil))))))
    (sRet (eC (.bool false)))
    sNil'))
    (sEnd [3, 4] (sFor (iVal (eVar 1)) (gMany [6, 7])
    l__law_closed_holds_2))))
-- l__law_refused_1: head 0:_law_pairs_here 1:_law_many 2:_law_got of 4
def l__law_refused_1 : Fs :=
    (sTry (sIfX (bTest (eBin dEq (dVar 3) (dOf (eC (.str "bare")))))
    (sEndX [3] (sDropX (xCall x_bare (aCons (eVar 0) aNil))))
    (sIfX (bTest (eBin dEq (dVar 3) (dOf (eC (.str "orders")))))
    (sEndX [3] (sDropX (xCall x_orders (aCons (eVar 0) (aCons (eVar 1) aNil)))))
    (sIfX (bTest (eBin dEq (dVar 3) (dOf (eC (.str "least")))))
    (sEndX [3] (sDropX (xCall x_least_order (aCons (eVar 0) (aCons (eVar 1) aNil)))))
    (sEndX [3] (sDropX (xCall x_levels (aCons (eVar 0) (aCons (eVar 1) aNil))))))))
    (sEnd [3] (sSet 2 (eFrz (eBin dAdd (dVar 2) (dOf (eC (.int 1))))))))
-- l__law_orders_hold_1: head 0:_law_pairs_here 1:_law_many 2:_law_some 3:_law_few 4:_law_high of 14
def l__law_orders_hold_1 : Fs :=
    (sSeq (sSet 6 (eFrz (eComp (iOf (dVar 0)) (gMany [7, 8]) [7, 8] (bTest (eBin (dCmp rGt zGt) (dOf (eMt isTupD gIndexT (dVar 5) (sCons (dVar 7) sNil))) (dOf (eMt isTupD gIndexT (dVar 5) (sCons (dVar 8) sNil))))) (eVar 7))))
    (sEnd [5, 6] (sIf (bOr (bTest (eBin dNe (dOf (eApp gSorted (sCons (dVar 5) sNil))) (dOf (eListRg1 (dVar 1))))) (bTest (eBin dNe (dVar 6) (dOf (eLst aNil)))))
    (sRet (eC (.bool false)))
    sNil')))
-- l__law_orders_hold_2: head 0:_law_pairs_here 1:_law_many 2:_law_some 3:_law_few 4:_law_high of 14
def l__law_orders_hold_2 : Fs :=
    (sEnd [9, 10] (sIf (bTest (eBin dIn (dVar 9) (dOf (eCall m_closed (aCons (eBin dAdd (dOf (eSl dSl (dVar 3) oNone (oSome (dVar 10)))) (dOf (eSl dSl (dVar 3) (oSome (dOf (eBin dAdd (dVar 10) (dOf (eC (.int 1)))))) oNone))) aNil)))))
    (sRet (eC (.bool false)))
    sNil'))
-- l__law_orders_hold_3: head 0:_law_pairs_here 1:_law_many 2:_law_some 4:_law_high of 14
def l__law_orders_hold_3 : Fs :=
    (sEnd [11] (sIf (bTest (eBin dNe (dOf (eBin dIx (dVar 4) (dVar 11))) (dOf (eApp gMax1 (sCons (dOf (eBin dAdd (dOf (eLst (aCons (eC (.int 0)) aNil))) (dOf (eComp (iOf (dVar 0)) (gMany [7, 8]) [7, 8] (bTest (eBin dEq (dVar 8) (dVar 11))) (eBin dAdd (dOf (eBin dIx (dVar 4) (dVar 7))) (dOf (eC (.int 1)))))))) sNil)))))
    (sRet (eC (.bool false)))
    sNil'))
-- l__law_orders_hold_4: head 0:_law_pairs_here 1:_law_many 2:_law_some of 14
def l__law_orders_hold_4 : Fs :=
    (sEnd [5, 12] (sIf (bTest (eBin dNe (dOf (eApp gLenDictB (sCons (dOf (eComp (iOf (dVar 2)) (gOne 13) [13] bYes (eTup (aCons (eBin (dCmp rLt zLt) (dOf (eMt isTupD gIndexT (dVar 13) (sCons (dVar 5) sNil))) (dOf (eMt isTupD gIndexT (dVar 13) (sCons (dVar 12) sNil)))) (aCons (eC (.int 0)) aNil))))) sNil))) (dOf (eC (.int 2)))))
    (sRet (eC (.bool false)))
    sNil'))
-- l__law_all_rows_1: head 0:_law_keys 1:_law_got of 4
def l__law_all_rows_1 : Fs :=
    (sEnd [2] (sExt 1 (eComp (iOf (dVar 0)) (gOne 3) [3] (bTest (eBin dNe (dVar 3) (dVar 2))) (eTup (aCons (eVar 2) (aCons (eVar 3) aNil))))))
-- l__law_unlike_holds_1: head 1:_law_few 2:_law_at of 5
def l__law_unlike_holds_1 : Fs :=
    (sEnd [3] (sIf (bNot (bTru (dOf (eApp gAnyX (sCons (dOf (eComp (iOf (dOf (eSl dSl (dVar 1) oNone (oSome (dVar 2))))) (gOne 4) [4] bYes (eCall m_alike (aCons (eVar 3) (aCons (eVar 4) aNil))))) sNil)))))
    (sSeq (sEnd [3] (sIf (bOr (bTest (eBin dEq (dVar 2) (dOf (eApp gLen (sCons (dVar 1) sNil))))) (bTest (eBin dNe (dOf (eBin dIx (dVar 1) (dVar 2))) (dVar 3))))
    (sRet (eC (.bool false)))
    sNil'))
    (sSet 2 (eFrz (eBin dAdd (dVar 2) (dOf (eC (.int 1)))))))
    sNil'))
-- l__law_layers_hold_2: head 0:_law_rows 1:_law_things_here 2:_law_some 3:_law_left 4:_law_at 5:_law_layer of 11
def l__law_layers_hold_2 : Fs :=
    (sSeq (sSet 9 (eFrz (eComp (iOf (dOf (eBin dIx (dVar 2) (dOf (eBin dSub (dVar 4) (dOf (eC (.int 1)))))))) (gOne 8) [8] bYes (eBin dIx (dVar 1) (dVar 8)))))
    (sEnd [7, 9] (sIf (bNot (bTru (dOf (eApp gAnyX (sCons (dOf (eComp (iOf (dVar 9)) (gOne 8) [8] bYes (eCall m_beats (aCons (eVar 0) (aCons (eVar 8) (aCons (eBin dIx (dVar 1) (dVar 7)) aNil)))))) sNil)))))
    (sRet (eC (.bool false)))
    sNil')))
-- l__law_layers_hold_1: head 0:_law_rows 1:_law_things_here 2:_law_some 3:_law_left of 11
def l__law_layers_hold_1 : Fs :=
    (sSeq (sSet 6 (eComp (iOf (dVar 3)) (gOne 7) [7] (bNot (bTru (dOf (eApp gAnyX (sCons (dOf (eComp (iOf (dVar 3)) (gOne 8) [8] bYes (eCall m_beats (aCons (eVar 0) (aCons (eBin dIx (dVar 1) (dVar 8)) (aCons (eBin dIx (dVar 1) (dVar 7)) aNil)))))) sNil))))) (eVar 7)))
    (sSeq (sEnd [6] (sIf (bOr (bTest (eBin dNe (dOf (eApp gList (sCons (dVar 5) sNil))) (dVar 6))) (bTest (eBin dEq (dVar 5) (dOf (eTup aNil)))))
    (sRet (eC (.bool false)))
    sNil'))
    (sSeq (sEnd [4] (sFor (iVal (eIf (bTru (dVar 4)) (eVar 5) (eTup aNil))) (gOne 7)
    l__law_layers_hold_2))
    (sEnd [5] (sSet 3 (eFrz (eComp (iOf (dVar 3)) (gOne 7) [7] (bTest (eBin dNotIn (dVar 7) (dVar 5))) (eVar 7))))))))
-- l__law_layers_hold_3: head 0:_law_rows 1:_law_things_here 6:_law_due of 11
def l__law_layers_hold_3 : Fs :=
    (sEnd [4, 8] (sExt 6 (eComp (iEnumV (dVar 1)) (gMany [7, 10]) [7, 10] (bTru (dOf (eCall m_beats (aCons (eVar 0) (aCons (eVar 8) (aCons (eVar 10) aNil)))))) (eTup (aCons (eVar 4) (aCons (eVar 7) aNil))))))
-- l__law_nest_holds_2: head 0:_law_row_here 1:_law_inner 2:_law_things_here 3:_law_base 5:_law_kind 6:_law_some 7:_law_places_of of 13
def l__law_nest_holds_2 : Fs :=
    (sSeq (sIf (bTest (eBin dNotIn (dVar 4) (dVar 3)))
    (sRet (eC (.bool false)))
    sNil')
    (sEnd [4] (sApp 7 (eMt isLstD gIndexLX (dVar 3) (sCons (dVar 4) sNil)))))
-- l__law_nest_holds_3: head 0:_law_row_here 1:_law_inner 2:_law_things_here 3:_law_base 5:_law_kind 6:_law_some 7:_law_places_of of 13
def l__law_nest_holds_3 : Fs :=
    (sSeq (sPar 9 10 (aCons (eBin dIx (dVar 6) (dOf (eBin dSub (dVar 8) (dOf (eC (.int 1)))))) (aCons (eBin dIx (dVar 6) (dVar 8)) aNil)))
    (sSeq (sSet 11 (eBin dSub (dOf (eApp gInt (sCons (dOf (eBin (dCmp rGt zGt) (dOf (eApp gLen (sCons (dVar 9) sNil))) (dOf (eApp gLen (sCons (dVar 10) sNil))))) sNil))) (dOf (eApp gInt (sCons (dOf (eBin (dCmp rLt zLt) (dOf (eApp gLen (sCons (dVar 9) sNil))) (dOf (eApp gLen (sCons (dVar 10) sNil))))) sNil)))))
    (sSeq (sEnd [9, 10] (sIf (bTest (eBin dNe (dVar 5) (dOf (eC (.str "many")))))
    (sSeq (sEnd [11] (sSet 12 (eIf (bTest (eBin dEq (dVar 5) (dOf (eC (.str "first"))))) (eC (.int 0)) (eUn dNeg (dOf (eC (.int 1)))))))
    (sEnd [9, 10, 12] (sSet 11 (eFrz (eCall m_told (aCons (eVar 1) (aCons (eBin dIx (dVar 9) (dVar 12)) (aCons (eBin dIx (dVar 10) (dVar 12)) aNil))))))))
    sNil'))
    (sEnd [8, 11] (sIf (bOr (bTest (eBin (dCmp rGt zGt) (dVar 11) (dOf (eC (.int 0))))) (bAnd (bTest (eBin dEq (dVar 11) (dOf (eC (.int 0))))) (bTest (eBin (dCmp rGt zGt) (dOf (eBin dIx (dVar 7) (dOf (eBin dSub (dVar 8) (dOf (eC (.int 1))))))) (dOf (eBin dIx (dVar 7) (dVar 8)))))))
    (sRet (eC (.bool false)))
    sNil')))))
-- l__law_nest_holds_1: head 0:_law_row_here 1:_law_inner 2:_law_things_here 3:_law_base of 13
def l__law_nest_holds_1 : Fs :=
    (sSeq (sParO 6 7 (eFrz (eCall m_nested (aCons (eVar 0) (aCons (eVar 1) (aCons (eVar 5) (aCons (eVar 2) aNil)))))) (eLst aNil))
    (sSeq (sFor (iVal (eVar 6)) (gOne 4)
    l__law_nest_holds_2)
    (sSeq (sIf (bTest (eBin dNe (dOf (eApp gSorted (sCons (dVar 7) sNil))) (dOf (eListRg1 (dOf (eApp gLen (sCons (dVar 3) sNil)))))))
    (sRet (eC (.bool false)))
    sNil')
    (sEnd [5, 6, 7] (sFor (iRng2 (dOf (eC (.int 1))) (dOf (eApp gLen (sCons (dVar 6) sNil)))) (gOne 8)
    l__law_nest_holds_3)))))
end L2.Lv.Sh
namespace L2.Lv
open PySem PySem.Spec PyProof.Rows
theorem eVar_ap (i : Nat) (ρ : List W) (n : Nat) : eVar i ρ n = match ρ[i]? with
  | some (.d x) => some (.d x, n)
  | some .town => some (.town, n)
  | _ => none := rfl
theorem dVar_ap (i : Nat) (ρ : List W) (n : Nat) : dVar i ρ n = (ρ[i]?.bind W.dat).map (·, n) := rfl
theorem eC_ap (x : PyData) (ρ : List W) (n : Nat) : eC x ρ n = some (.d x, n) := rfl
theorem dOf_ap (f : Fe) (ρ : List W) (n : Nat) : dOf f ρ n = (f ρ n).bind fun p => p.1.dat.map (·, p.2) := rfl
theorem eFrz_ap (f : Fe) (ρ : List W) (n : Nat) : eFrz f ρ n = (f ρ n).map fun p => (p.1.frz, p.2) := rfl
theorem eBin_ap (g : PyData → PyData → Option W) (fa fb : Fd) (ρ : List W) (n : Nat) : eBin g fa fb ρ n = (fa ρ n).bind fun p => (fb ρ p.2).bind fun q => (g p.1 q.1).map (·, q.2) := rfl
theorem bTest_ap (f : Fe) (ρ : List W) (n : Nat) : bTest f ρ n = (f ρ n).bind fun p => match p.1 with
  | .d (.bool c) => some (c, p.2)
  | _ => none := rfl
theorem bTru_ap (f : Fd) (ρ : List W) (n : Nat) : bTru f ρ n = (f ρ n).bind fun p => (dTru p.1).map (·, p.2) := rfl
theorem bAnd_ap (ta tb : Ft) (ρ : List W) (n : Nat) : bAnd ta tb ρ n = (ta ρ n).bind fun p => if p.1 then tb ρ p.2 else some (false, p.2) := rfl
theorem bOr_ap (ta tb : Ft) (ρ : List W) (n : Nat) : bOr ta tb ρ n = (ta ρ n).bind fun p => if p.1 then some (true, p.2) else tb ρ p.2 := rfl
theorem bNot_ap (ta : Ft) (ρ : List W) (n : Nat) : bNot ta ρ n = (ta ρ n).map fun p => (!p.1, p.2) := rfl
theorem eIf_ap (tc : Ft) (fa fb : Fe) (ρ : List W) (n : Nat) : eIf tc fa fb ρ n = (tc ρ n).bind fun p => if p.1 then fa ρ p.2 else fb ρ p.2 := rfl
theorem eB_ap (t : Ft) (ρ : List W) (n : Nat) : eB t ρ n = (t ρ n).map fun p => (.d (.bool p.1), p.2) := rfl
theorem eAnd_ap (fa fb : Fe) (ρ : List W) (n : Nat) : eAnd fa fb ρ n = (fa ρ n).bind fun p => match p.1 with
  | .d (.bool true) => fb ρ p.2
  | .d (.bool false) => some (.d (.bool false), p.2)
  | _ => none := rfl
theorem eOr_ap (fa fb : Fe) (ρ : List W) (n : Nat) : eOr fa fb ρ n = (fa ρ n).bind fun p => match p.1 with
  | .d (.bool false) => fb ρ p.2
  | .d (.bool true) => some (.d (.bool true), p.2)
  | _ => none := rfl
theorem aNil_ap (ρ : List W) (n : Nat) : aNil  ρ n = some ([], n) := rfl
theorem aCons_ap (f : Fe) (fs : Fa) (ρ : List W) (n : Nat) : aCons f fs ρ n = (f ρ n).bind fun p => p.1.arg.bind fun w => (fs ρ p.2).map fun q => (w :: q.1, q.2) := rfl
theorem sNil_ap (ρ : List W) (n : Nat) : sNil  ρ n = some ([], n) := rfl
theorem sCons_ap (f : Fd) (fs : Fds) (ρ : List W) (n : Nat) : sCons f fs ρ n = (f ρ n).bind fun p => (fs ρ p.2).map fun q => (p.1 :: q.1, q.2) := rfl
theorem eTup_ap (fs : Fa) (ρ : List W) (n : Nat) : eTup fs ρ n = (fs ρ n).bind fun p => (vals p.1).map fun xs => (.d (.tuple xs), p.2) := rfl
theorem eLst_ap (fs : Fa) (ρ : List W) (n : Nat) : eLst fs ρ n = (fs ρ n).bind fun p => (vals p.1).map fun xs => (.ol xs, p.2) := rfl
theorem eCall_ap (F : Fn) (fs : Fa) (ρ : List W) (n : Nat) : eCall F fs ρ n = (fs ρ n).bind fun p => F p.1 p.2 := rfl
theorem eApp_ap (g : List PyData → Option W) (ds : Fds) (ρ : List W) (n : Nat) : eApp g ds ρ n = (ds ρ n).bind fun p => (g p.1).map (·, p.2) := rfl
theorem oNone_ap (ρ : List W) (n : Nat) : oNone  ρ n = some (none, n) := rfl
theorem oSome_ap (d : Fd) (ρ : List W) (n : Nat) : oSome d ρ n = (d ρ n).bind fun p => match p.1 with
  | .int i => some (some i, p.2)
  | _ => none := rfl
theorem eSl_ap (g : PyData → Option Int → Option Int → Option W) (d : Fd) (o o' : Fo) (ρ : List W) (n : Nat) : eSl g d o o' ρ n = (d ρ n).bind fun p => (o ρ p.2).bind fun q => (o' ρ q.2).bind fun r => (g p.1 q.1 r.1).map (·, r.2) := rfl
theorem sNil'_ap (ρ : List W) (n : Nat) : sNil'  ρ n = some (.nx ρ n) := rfl
theorem sSeq_ap (g h : Fs) (ρ : List W) (n : Nat) : sSeq g h ρ n = (g ρ n).bind fun o => match o with
  | .nx ρ' n' => h ρ' n'
  | o => some o := rfl
theorem sBrk_ap (ρ : List W) (n : Nat) : sBrk  ρ n = some (.bk ρ n) := rfl
theorem sRet_ap (f : Fe) (ρ : List W) (n : Nat) : sRet f ρ n = (f ρ n).map fun p => .rt p.1 p.2 := rfl
theorem sRetN_ap (ρ : List W) (n : Nat) : sRetN  ρ n = some (.rt (.d .none) n) := rfl
theorem sRetO_ap (i : Nat) (ρ : List W) (n : Nat) : sRetO i ρ n = match ρ[i]? with
  | some (.ol xs) => some (.rt (.ol xs) n)
  | some (.od xs) => some (.rt (.od xs) n)
  | _ => none := rfl
theorem sDrop_ap (f : Fe) (ρ : List W) (n : Nat) : sDrop f ρ n = (f ρ n).map fun p => .nx ρ p.2 := rfl
theorem sIf_ap (c : Ft) (g h : Fs) (ρ : List W) (n : Nat) : sIf c g h ρ n = (c ρ n).bind fun p => if p.1 then g ρ p.2 else h ρ p.2 := rfl
theorem sSet_ap (i : Nat) (f : Fe) (ρ : List W) (n : Nat) : sSet i f ρ n = (f ρ n).map fun p => .nx (ρ.set i p.1) p.2 := rfl
theorem sApp_ap (i : Nat) (f : Fe) (ρ : List W) (n : Nat) : sApp i f ρ n = (f ρ n).bind fun p => p.1.frz.val.bind fun x => match ρ[i]? with
  | some (.ol xs) => if xs.length < big then some (.nx (ρ.set i (.ol (xs ++ [x]))) p.2) else none
  | _ => none := rfl
theorem sTown_ap (i : Nat) (ρ : List W) (n : Nat) : sTown i ρ n = match ρ[i]? with
  | some .town => if n < big then some (.nx ρ (n + 1)) else none
  | _ => none := rfl
theorem sExt_ap (i : Nat) (f : Fe) (ρ : List W) (n : Nat) : sExt i f ρ n = (f ρ n).bind fun p => match p.1, ρ[i]? with
  | .ol ys, some (.ol xs) => if xs.length + ys.length ≤ big then some (.nx (ρ.set i (.ol (xs ++ ys))) p.2) else none
  | _, _ => none := rfl
theorem sIns_ap (i : Nat) (d : Fd) (f : Fe) (ρ : List W) (n : Nat) : sIns i d f ρ n = (d ρ n).bind fun k => (f ρ k.2).bind fun p => p.1.frz.val.bind fun x => match k.1, ρ[i]? with
  | .int z, some (.ol xs) => if xs.length < big ∧ 0 ≤ z ∧ z ≤ xs.length then some (.nx (ρ.set i (.ol (xs.take z.toNat ++ x :: xs.drop z.toNat))) p.2) else none
  | _, _ => none := rfl
theorem sSetIx_ap (i : Nat) (d : Fd) (f : Fe) (ρ : List W) (n : Nat) : sSetIx i d f ρ n = (f ρ n).bind fun p => p.1.frz.val.bind fun x => (d ρ p.2).bind fun k => match k.1, ρ[i]? with
  | .int z, some (.ol xs) => (ixN xs.length z).map fun j => .nx (ρ.set i (.ol (xs.set j x))) k.2
  | _, _ => none := rfl
theorem sAsg_ap (g : Fg) (f : Fe) (ρ : List W) (n : Nat) : sAsg g f ρ n = (f ρ n).bind fun p => p.1.frz.val.bind fun x => (g x ρ).map fun ρ' => .nx ρ' p.2 := rfl
theorem sPar_ap (i j : Nat) (fs : Fa) (ρ : List W) (n : Nat) : sPar i j fs ρ n = (fs ρ n).bind fun p => match p.1 with
  | [w, w'] => some (.nx ((ρ.set i w).set j w') p.2)
  | _ => none := rfl
theorem iOf_ap (d : Fd) (ρ : List W) (n : Nat) : iOf d ρ n = (d ρ n).bind fun p => (iSeq p.1).map (·, p.2) := rfl
theorem iVal_ap (f : Fe) (ρ : List W) (n : Nat) : iVal f ρ n = (f ρ n).bind fun p => p.1.frz.val.bind fun x => (iSeq x).map (·, p.2) := rfl
theorem iRng1_ap (d : Fd) (ρ : List W) (n : Nat) : iRng1 d ρ n = (d ρ n).bind fun p => (rng1 p.1).map (·, p.2) := rfl
theorem iRng2_ap (da db : Fd) (ρ : List W) (n : Nat) : iRng2 da db ρ n = (da ρ n).bind fun p => (db ρ p.2).bind fun q => (rng2 p.1 q.1).map (·, q.2) := rfl
theorem sFor_ap (fi : Fi) (g : Fg) (body : Fs) (ρ : List W) (n : Nat) : sFor fi g body ρ n = (fi ρ n).bind fun p => loopF g body p.1 ρ p.2 := rfl
theorem eComp_ap (fi : Fi) (g : Fg) (own : List Nat) (tst : Ft) (elt : Fe) (ρ : List W) (n : Nat) : eComp fi g own tst elt ρ n = (fi ρ n).bind fun p => if p.1.length ≤ big then (loopC g own tst elt ρ p.1 p.2).map fun q => (.ol q.1, q.2) else none := rfl
theorem bYes_ap (ρ : List W) (n : Nat) : bYes  ρ n = some (true, n) := rfl
theorem frzAt_ap (i : Nat) (g : Fs) (ρ : List W) (n : Nat) : frzAt i g ρ n = match ρ[i]? with
  | some w => g (ρ.set i w.frz) n
  | none => none := rfl
theorem eUn_ap (g : PyData → Option W) (d : Fd) (ρ : List W) (n : Nat) : eUn g d ρ n = (d ρ n).bind fun p => (g p.1).map (·, p.2) := rfl
theorem eNotD_ap (d : Fd) (ρ : List W) (n : Nat) : eNotD d ρ n = (d ρ n).bind fun p => (dTru p.1).map fun c => (.d (.bool (!c)), p.2) := rfl
theorem eOrD_ap (fa fb : Fe) (ρ : List W) (n : Nat) : eOrD fa fb ρ n = (fa ρ n).bind fun p => p.1.val.bind fun x => (dTru x).bind fun c => if c then some (.d x, p.2) else fb ρ p.2 := rfl
theorem eChain_ap (g g' : PyData → PyData → Option W) (da db dc : Fd) (ρ : List W) (n : Nat) : eChain g g' da db dc ρ n = (da ρ n).bind fun p => (db ρ p.2).bind fun q => (g p.1 q.1).bind fun w => match w with
  | .d (.bool true) => (dc ρ q.2).bind fun r => (g' q.1 r.1).map (·, r.2)
  | .d (.bool false) => some (.d (.bool false), q.2)
  | _ => none := rfl
theorem eListRg1_ap (d : Fd) (ρ : List W) (n : Nat) : eListRg1 d ρ n = (d ρ n).bind fun p => match p.1 with
  | .int j => if 0 ≤ j ∧ j ≤ big then some (.ol (rangeD 0 j.toNat), p.2) else none
  | _ => none := rfl
theorem eIsa_ap (T : String) (d : Fd) (ρ : List W) (n : Nat) : eIsa T d ρ n = (d ρ n).bind fun p => match p.1 with
  | .dict _ => none
  | x => some (.d (.bool (isa T x)), p.2) := rfl
theorem eMt_ap (p : PyData → Bool) (g : PyData → List PyData → Option W) (d : Fd) (ds : Fds) (ρ : List W) (n : Nat) : eMt p g d ds ρ n = (d ρ n).bind fun x => if p x.1 then (ds ρ x.2).bind fun q => (g x.1 q.1).map (·, q.2) else none := rfl
theorem iEnumV_ap (d : Fd) (ρ : List W) (n : Nat) : iEnumV d ρ n = (d ρ n).bind fun p => (seqOf p.1).map fun xs => (enumD xs, p.2) := rfl
theorem iEnumF_ap (f : Fe) (ρ : List W) (n : Nat) : iEnumF f ρ n = (f ρ n).bind fun p => p.1.frz.val.bind fun x => (seqOf x).map fun xs => (enumD xs, p.2) := rfl
theorem iZipV_ap (da db : Fd) (ρ : List W) (n : Nat) : iZipV da db ρ n = (da ρ n).bind fun p => (db ρ p.2).bind fun q => (zipOk p.1 q.1).map (·, q.2) := rfl
theorem iZipF_ap (fa fb : Fe) (ρ : List W) (n : Nat) : iZipF fa fb ρ n = (fa ρ n).bind fun p => p.1.frz.val.bind fun x => (fb ρ p.2).bind fun q => q.1.frz.val.bind fun y => (zipOk x y).map (·, q.2) := rfl
theorem eTLen_ap (i : Nat) (ρ : List W) (n : Nat) : eTLen i ρ n = match ρ[i]? with
  | some .town => some (.d (.int n), n)
  | _ => none := rfl
theorem iRng3D_ap (da db dc : Fd) (ρ : List W) (n : Nat) : iRng3D da db dc ρ n = (da ρ n).bind fun p => (db ρ p.2).bind fun q => (dc ρ q.2).bind fun r => (rng3 p.1 q.1 r.1).map (·, r.2) := rfl
theorem sEnd_ap (is : List Nat) (g : Fs) (ρ : List W) (n : Nat) : sEnd is g ρ n = (g ρ n).map (Out.kill is) := rfl
theorem eSs_ap (g : PyData → Option Int → Option Int → Int → Option W) (d : Fd) (o o' o'' : Fo) (ρ : List W) (n : Nat) : eSs g d o o' o'' ρ n = (d ρ n).bind fun p => (o ρ p.2).bind fun q => (o' ρ q.2).bind fun r => (o'' ρ r.2).bind fun s => s.1.bind fun c => (g p.1 q.1 r.1 c).map (·, s.2) := rfl
theorem sPar3_ap (i j l : Nat) (fs : Fa) (ρ : List W) (n : Nat) : sPar3 i j l fs ρ n = (fs ρ n).bind fun p => match p.1 with
  | [w, w', w''] => some (.nx (((ρ.set i w).set j w').set l w'') p.2)
  | _ => none := rfl
theorem xPop_ap (i : Nat) (d : Fd) (ρ : List W) (n : Nat) : xPop i d ρ n = (d ρ n).bind fun k => match k.1, ρ[i]? with
  | .int z, some (.ol xs) => if xs.length ≤ big then (ixN xs.length z).bind fun j => (xs[j]?).map fun x => (x, ρ.set i (.ol (xs.eraseIdx j)), k.2) else none
  | _, _ => none := rfl
theorem xTup1_ap (f : Fx) (ρ : List W) (n : Nat) : xTup1 f ρ n = (f ρ n).map fun p => (.tuple [p.1], p.2.1, p.2.2) := rfl
theorem xCat_ap (fa : Fe) (f : Fx) (ρ : List W) (n : Nat) : xCat fa f ρ n = (fa ρ n).bind fun p => p.1.val.bind fun x => (f ρ p.2).bind fun q => match dAdd x q.1 with
  | some (.d z) => some (z, q.2.1, q.2.2)
  | _ => none := rfl
theorem sSetX_ap (i : Nat) (f : Fx) (ρ : List W) (n : Nat) : sSetX i f ρ n = (f ρ n).map fun p => .nx (p.2.1.set i (.d p.1)) p.2.2 := rfl
theorem sAppX_ap (i : Nat) (f : Fx) (ρ : List W) (n : Nat) : sAppX i f ρ n = match ρ[i]? with
  | some (.ol _) => (f ρ n).bind fun p => match p.2.1[i]? with
    | some (.ol xs) => if xs.length < big then some (.nx (p.2.1.set i (.ol (xs ++ [p.1]))) p.2.2) else none
    | _ => none
  | _ => none := rfl
theorem sParO_ap (i j : Nat) (fa fb : Fe) (ρ : List W) (n : Nat) : sParO i j fa fb ρ n = (fa ρ n).bind fun p => (fb ρ p.2).bind fun q => some (.nx ((ρ.set i p.1).set j q.1) q.2) := rfl
theorem sForEI_ap (i p q : Nat) (tst : Ft) (y : Nat) (fe : Fe) (ρ : List W) (n : Nat) : sForEI i p q tst y fe ρ n = match ρ[i]? with
  | some (.ol xs) => (loopI p q tst y fe (enumN xs) ρ n).map fun r => .nx r.1 r.2
  | _ => none := rfl
theorem sForK_ap (ks : List Nat) (fi : Fi) (g : Fg) (body : Fs) (ρ : List W) (n : Nat) : sForK ks fi g body ρ n = (fi ρ n).bind fun p => loopF g body p.1 (wipeW ρ ks) p.2 := rfl
theorem eRep_ap (fa : Fe) (db : Fd) (ρ : List W) (n : Nat) : eRep fa db ρ n = (fa ρ n).bind fun p => match p.1 with
  | .ol xs => (db ρ p.2).bind fun q => match q.1 with
    | .int k => if -1000000 ≤ k ∧ k ≤ 1000000 ∧ xs.length * k.toNat ≤ big then some (.ol (List.replicate k.toNat xs).flatten, q.2) else none
    | _ => none
  | _ => none := rfl
theorem eDicK_ap (ρ : List W) (n : Nat) : eDicK  ρ n = some (.od [], n) := rfl
theorem eDicT_ap (ρ : List W) (n : Nat) : eDicT  ρ n = some (.od [markT], n) := rfl
theorem sPut_ap (i : Nat) (d : Fd) (f : Fe) (ρ : List W) (n : Nat) : sPut i d f ρ n = (f ρ n).bind fun p => p.1.frz.val.bind fun x => (d ρ p.2).bind fun k => match ρ[i]? with
  | some (.od kvs) => (putD kvs k.1 x).map fun m => .nx (ρ.set i (.od m)) k.2
  | _ => none := rfl
theorem eAlt_ap (f g : Fe) (ρ : List W) (n : Nat) : eAlt f g ρ n = (f ρ n).or (g ρ n) := rfl
theorem sTry_ap (r : Fsx) (g : Fs) (ρ : List W) (n : Nat) : sTry r g ρ n = (r ρ n).bind fun o => match o with
  | .inl out => some out
  | .inr (_, ρ', n') => g ρ' n' := rfl
theorem eGetD_ap (da db dc : Fd) (ρ : List W) (n : Nat) : eGetD da db dc ρ n = (da ρ n).bind fun p => (db ρ p.2).bind fun q => (dc ρ q.2).bind fun r => (dGet3 p.1 q.1 r.1).map (·, r.2) := rfl
theorem eLockI_ap (i : Nat) (f : Fe) (ρ : List W) (n : Nat) : eLockI i f ρ n = match ρ[i]? with
  | some (.od kvs) => if hdM kvs = true then none else (f (ρ.set i (.od (markF :: kvs))) n).bind fun p => match p.1 with
    | .d (.int z) => some (.d (.int z), p.2)
    | _ => none
  | _ => none := rfl
theorem iKeyF_ap (i : Nat) (ρ : List W) (n : Nat) : iKeyF i ρ n = match ρ[i]? with
  | some (.od (kv :: rest)) => if isFz kv = true then some (rest.map (·.1), n) else none
  | _ => none := rfl
theorem sSetDef_ap (i : Nat) (d : Fd) (f : Fe) (ρ : List W) (n : Nat) : sSetDef i d f ρ n = (d ρ n).bind fun k => (f ρ k.2).bind fun p => p.1.frz.val.bind fun x => match k.1, ρ[i]? with
  | .tuple ks, some (.od (kv :: rest)) => if isMk kv = true then (intsOf ks).bind fun ns => if rest.length < big then some (.nx (ρ.set i (.od (markT :: (if (lookT rest ns).isSome = true then rest else putT rest ns x)))) p.2) else none else none
  | _, _ => none := rfl
theorem eTupVals_ap (da : Fd) (ρ : List W) (n : Nat) : eTupVals da ρ n = (da ρ n).bind fun p => match p.1 with
  | .dict (kv :: rest) => if isMk kv = true then some (.d (.tuple (rest.map (·.2))), p.2) else none
  | _ => none := rfl
theorem sNst_ap (i : Nat) (g : Fs) (ρ : List W) (n : Nat) : sNst i g ρ n = (g ρ n).bind (nstO i) := rfl
theorem frzNAt_ap (i : Nat) (g : Fs) (ρ : List W) (n : Nat) : frzNAt i g ρ n = match ρ[i]? with
  | some (.oll xss) => g (ρ.set i (.d (.list (xss.map .list)))) n
  | _ => none := rfl
theorem sAppN_ap (i : Nat) (f : Fe) (ρ : List W) (n : Nat) : sAppN i f ρ n = (f ρ n).bind fun p => match p.1, ρ[i]? with
  | .ol xs, some (.oll xss) => if xss.length < 1000 then some (.nx (ρ.set i (.oll (xss ++ [xs]))) p.2) else none
  | _, _ => none := rfl
theorem sStN_ap (i : Nat) (d1 d2 : Fd) (f : Fe) (ρ : List W) (n : Nat) : sStN i d1 d2 f ρ n = (f ρ n).bind fun p => p.1.frz.val.bind fun x => (d1 ρ p.2).bind fun k => (d2 ρ k.2).bind fun m => match k.1, m.1, ρ[i]? with
  | .int z1, .int z2, some (.oll xss) => (ixN xss.length z1).bind fun j1 => xss[j1]?.bind fun xs => (ixN xs.length z2).map fun j2 => .nx (ρ.set i (.oll (xss.set j1 (xs.set j2 x)))) m.2
  | _, _, _ => none := rfl
theorem eListRg2_ap (da db : Fd) (ρ : List W) (n : Nat) : eListRg2 da db ρ n = (da ρ n).bind fun p => (db ρ p.2).bind fun q => match p.1, q.1 with
  | .int i, .int j => if -1000000 ≤ i ∧ i ≤ 1000000 ∧ -1000000 ≤ j ∧ j ≤ 1000000 then some (.ol (rangeD i (j - i).toNat), q.2) else none
  | _, _ => none := rfl
theorem runB_ap (m : Nat) (g : Fs) (ws : List W) (n : Nat) : runB m g ws n = (g (ws ++ List.replicate (m - ws.length) .no) n).bind fun o => match o with
  | .rt w n' => some (w, n')
  | .nx _ n' => some (.d .none, n')
  | .bk _ _ => none := rfl
theorem gOne_ap (i : Nat) (x : PyData) (ρ : List W) : gOne i x ρ = some (ρ.set i (.d x)) := rfl
theorem gMany_ap (is : List Nat) (xs : List PyData) (ρ : List W) : gMany is (.tuple xs) ρ = setD is xs ρ := rfl
theorem dI_ap (C : Int → Int → Bool) (g : Int → Int → Int) (i j : Int) : dI C g (.int i) (.int j) = if C i j then some (.d (.int (g i j))) else none := rfl
theorem yesC_ap (i j : Int) : yesC i j = true := rfl
theorem dCmp_int (r : Int → Int → Bool) (z : Nat → Nat → Bool) (i j : Int) : dCmp r z (.int i) (.int j) = some (.d (.bool (r i j))) := rfl
theorem loopF_cons (g : Fg) (body : Fs) (x : PyData) (xs : List PyData) (ρ : List W) (n : Nat) : loopF g body (x :: xs) ρ n = (g x ρ).bind fun ρ1 => (body ρ1 n).bind fun o => match o with
    | .nx ρ' n' => loopF g body xs ρ' n'
    | .bk ρ' n' => some (.nx ρ' n')
    | .rt w n' => some (.rt w n') := rfl
theorem loopC_cons (g : Fg) (own : List Nat) (tst : Ft) (elt : Fe) (ρ : List W) (x : PyData) (xs : List PyData) (n : Nat) : loopC g own tst elt ρ (x :: xs) n = (g x (wipeW ρ own)).bind fun ρ1 => (tst ρ1 n).bind fun b => if b.1 then
      (elt ρ1 b.2).bind fun w => w.1.frz.val.bind fun y => (loopC g own tst elt ρ xs w.2).map fun r => (y :: r.1, r.2)
    else loopC g own tst elt ρ xs b.2 := rfl
theorem wdat_no : W.dat (.no) = none := rfl
theorem wdat_d (x : PyData) : W.dat (.d x) = some x := rfl
theorem wdat_town : W.dat (.town) = none := rfl
theorem wdat_ol (xs : List PyData) : W.dat (.ol xs) = some (.list xs) := rfl
theorem wdat_od (xs : List (PyData × PyData)) : W.dat (.od xs) = some (.dict xs) := rfl
theorem wfrz_no : W.frz (.no) = .no := rfl
theorem wfrz_d (x : PyData) : W.frz (.d x) = .d x := rfl
theorem wfrz_town : W.frz (.town) = .town := rfl
theorem wfrz_ol (xs : List PyData) : W.frz (.ol xs) = .d (.list xs) := rfl
theorem wfrz_od (xs : List (PyData × PyData)) : W.frz (.od xs) = .od xs := rfl
theorem wval_no : W.val (.no) = none := rfl
theorem wval_d (x : PyData) : W.val (.d x) = some x := rfl
theorem wval_town : W.val (.town) = none := rfl
theorem wval_ol (xs : List PyData) : W.val (.ol xs) = none := rfl
theorem wval_od (xs : List (PyData × PyData)) : W.val (.od xs) = none := rfl
theorem warg_no : W.arg (.no) = none := rfl
theorem warg_d (x : PyData) : W.arg (.d x) = some (.d x) := rfl
theorem warg_town : W.arg (.town) = some .town := rfl
theorem warg_ol (xs : List PyData) : W.arg (.ol xs) = some (.d (.list xs)) := rfl
theorem warg_od (xs : List (PyData × PyData)) : W.arg (.od xs) = none := rfl
theorem kill_nx (is : List Nat) (ρ : List W) (n : Nat) : Out.kill is (.nx ρ n) = .nx (wipeW ρ is) n := rfl
theorem kill_rt (is : List Nat) (w : W) (n : Nat) : Out.kill is (.rt w n) = .rt w n := rfl
theorem kill_bk (is : List Nat) (ρ : List W) (n : Nat) : Out.kill is (.bk ρ n) = .bk ρ n := rfl

end L2.Lv
namespace L2.Lv.Sh
open PySem PySem.Spec PyProof.Rows L2 L2.Lv
abbrev Sc (ns : List Int) : W := .d (.list (ns.map .int))
abbrev I' (i : Int) : W := .d (.int i)
theorem mulC_l {i j : Int} (h : -(2 ^ 64) < i) (h2 : i < 2 ^ 64) : mulC i j = true := decide_eq_true (.inl ⟨h, h2⟩)
theorem divC_ok {i j : Int} (h : 0 < j) (h2 : j < 1073741824) : divC i j = true := decide_eq_true ⟨h, h2⟩
theorem modC_ok {i j : Int} (h : 0 < j) : modC i j = true := decide_eq_true h
theorem atI_ok {α : Type} {xs : List α} {i : Int} (h : 0 ≤ i) (h2 : i.toNat < xs.length) : atI xs i = some xs[i.toNat] := by
  obtain ⟨k, rfl⟩ := Int.eq_ofNat_of_zero_le h
  simp only [Int.ofNat_eq_natCast, Int.toNat_natCast] at h2 ⊢
  exact atI_nat (List.getElem?_eq_getElem h2)
def drawG (c1 c2 c3 c4 c5 : Int) : Fs :=
    (sSeq (sTown 1)
    (sSeq (sSet 3 (eTLen 1))
    (sSeq (sSet 4 (eC (.int 0)))
    (sSeq (sIf (bTru (dVar 0))
    (sSet 4 (eBin dIx (dVar 0) (dOf (eBin dMod (dVar 3) (dOf (eApp gLen (sCons (dVar 0) sNil)))))))
    sNil')
    (sSeq (sSet 5 (eBin dMod (dOf (eBin dAdd (dVar 4) (dOf (eBin dMul (dOf (eC (.int c1))) (dVar 3))))) (dOf (eC (.int c2)))))
    (sSeq (sSet 5 (eBin dMod (dOf (eBin dMul (dOf (eBin dMod (dOf (eBin dMul (dVar 5) (dVar 5))) (dOf (eC (.int c3))))) (dOf (eC (.int c4))))) (dOf (eC (.int c2)))))
    (sRet (eBin dMod (dOf (eBin dDiv (dVar 5) (dOf (eC (.int c5))))) (dVar 2)))))))))
theorem drawG_ok (c1 c2 c3 c4 c5 : Int) (h1 : ∀ k : Int, mulC c1 k = true) (h2 : ∀ k : Int, mulC (k % c2) (k % c2) = true) (h3 : ∀ k : Int, mulC (k % c3) c4 = true) (h4 : ∀ k : Int, modC k c2 = true) (h5 : ∀ k : Int, modC k c3 = true) (h6 : ∀ k : Int, divC k c5 = true)
    (ns : List Int) (n : Nat) (hn : n < big) (many : Int) (hm : 0 < many) : ∃ r : Int, 0 ≤ r ∧ r < many ∧ runB 6 (drawG c1 c2 c3 c4 c5) [Sc ns, .town, I' many] n = some (I' r, n + 1) := by
  have h7 : ∀ k : Int, modC k many = true := fun k => modC_ok hm
  unfold drawG
  cases ns with
  | nil =>
    simp -implicitDefEqProofs only [eVar_ap, dVar_ap, eC_ap, dOf_ap, eFrz_ap, eBin_ap, bTest_ap, bTru_ap, bAnd_ap, bOr_ap, bNot_ap, eIf_ap, eB_ap, eAnd_ap, eOr_ap, aNil_ap, aCons_ap, sNil_ap, sCons_ap, eTup_ap, eLst_ap, eCall_ap, eApp_ap, oNone_ap, oSome_ap, eSl_ap, sNil'_ap, sSeq_ap, sBrk_ap, sRet_ap, sRetN_ap, sRetO_ap, sDrop_ap, sIf_ap, sSet_ap, sApp_ap, sTown_ap, sExt_ap, sIns_ap, sSetIx_ap, sAsg_ap, sPar_ap, iOf_ap, iVal_ap, iRng1_ap, iRng2_ap, sFor_ap, eComp_ap, bYes_ap, frzAt_ap, eUn_ap, eNotD_ap, eOrD_ap, eChain_ap, eListRg1_ap, eIsa_ap, eMt_ap, iEnumV_ap, iEnumF_ap, iZipV_ap, iZipF_ap, eTLen_ap, iRng3D_ap, sEnd_ap, eSs_ap, sPar3_ap, xPop_ap, xTup1_ap, xCat_ap, sSetX_ap, sAppX_ap, sParO_ap, sForEI_ap, sForK_ap, eRep_ap, eDicK_ap, eDicT_ap, sPut_ap, eAlt_ap, sTry_ap, eGetD_ap, eLockI_ap, iKeyF_ap, sSetDef_ap, eTupVals_ap, sNst_ap, frzNAt_ap, sAppN_ap, sStN_ap, eListRg2_ap, runB_ap, gOne_ap, gMany_ap, dI_ap, yesC_ap, dCmp_int, setD, kill_nx, kill_rt, kill_bk, Option.bind_some, Option.map_some, Option.bind_none, Option.map_none, List.getElem?_cons_zero, List.getElem?_cons_succ, List.set_cons_zero, List.set_cons_succ, List.cons_append, List.nil_append, List.append_nil, List.replicate, List.length_cons, List.length_nil, Nat.reduceAdd, Nat.reduceSub, Nat.zero_add, wdat_no, wdat_d, wdat_town, wdat_ol, wdat_od, wfrz_no, wfrz_d, wfrz_town, wfrz_ol, wfrz_od, wval_no, wval_d, wval_town, wval_ol, wval_od, warg_no, warg_d, warg_town, warg_ol, warg_od, vals, gLen, gAbs, gMax2, gMin2, gInt, gTup, gList, wipeW, if_true, if_false, Bool.false_eq_true, Bool.not_true, Bool.not_false, reduceCtorEq, Sc, I', List.map_nil]
    rw [if_pos hn]
    simp -implicitDefEqProofs only [eVar_ap, dVar_ap, eC_ap, dOf_ap, eFrz_ap, eBin_ap, bTest_ap, bTru_ap, bAnd_ap, bOr_ap, bNot_ap, eIf_ap, eB_ap, eAnd_ap, eOr_ap, aNil_ap, aCons_ap, sNil_ap, sCons_ap, eTup_ap, eLst_ap, eCall_ap, eApp_ap, oNone_ap, oSome_ap, eSl_ap, sNil'_ap, sSeq_ap, sBrk_ap, sRet_ap, sRetN_ap, sRetO_ap, sDrop_ap, sIf_ap, sSet_ap, sApp_ap, sTown_ap, sExt_ap, sIns_ap, sSetIx_ap, sAsg_ap, sPar_ap, iOf_ap, iVal_ap, iRng1_ap, iRng2_ap, sFor_ap, eComp_ap, bYes_ap, frzAt_ap, eUn_ap, eNotD_ap, eOrD_ap, eChain_ap, eListRg1_ap, eIsa_ap, eMt_ap, iEnumV_ap, iEnumF_ap, iZipV_ap, iZipF_ap, eTLen_ap, iRng3D_ap, sEnd_ap, eSs_ap, sPar3_ap, xPop_ap, xTup1_ap, xCat_ap, sSetX_ap, sAppX_ap, sParO_ap, sForEI_ap, sForK_ap, eRep_ap, eDicK_ap, eDicT_ap, sPut_ap, eAlt_ap, sTry_ap, eGetD_ap, eLockI_ap, iKeyF_ap, sSetDef_ap, eTupVals_ap, sNst_ap, frzNAt_ap, sAppN_ap, sStN_ap, eListRg2_ap, runB_ap, gOne_ap, gMany_ap, dI_ap, yesC_ap, dCmp_int, setD, kill_nx, kill_rt, kill_bk, Option.bind_some, Option.map_some, Option.bind_none, Option.map_none, List.getElem?_cons_zero, List.getElem?_cons_succ, List.set_cons_zero, List.set_cons_succ, List.cons_append, List.nil_append, List.append_nil, List.replicate, List.length_cons, List.length_nil, Nat.reduceAdd, Nat.reduceSub, Nat.zero_add, wdat_no, wdat_d, wdat_town, wdat_ol, wdat_od, wfrz_no, wfrz_d, wfrz_town, wfrz_ol, wfrz_od, wval_no, wval_d, wval_town, wval_ol, wval_od, warg_no, warg_d, warg_town, warg_ol, warg_od, vals, gLen, gAbs, gMax2, gMin2, gInt, gTup, gList, wipeW, if_true, if_false, Bool.false_eq_true, Bool.not_true, Bool.not_false, reduceCtorEq, dTru, List.isEmpty_nil]
    simp -implicitDefEqProofs only [eVar_ap, dVar_ap, eC_ap, dOf_ap, eFrz_ap, eBin_ap, bTest_ap, bTru_ap, bAnd_ap, bOr_ap, bNot_ap, eIf_ap, eB_ap, eAnd_ap, eOr_ap, aNil_ap, aCons_ap, sNil_ap, sCons_ap, eTup_ap, eLst_ap, eCall_ap, eApp_ap, oNone_ap, oSome_ap, eSl_ap, sNil'_ap, sSeq_ap, sBrk_ap, sRet_ap, sRetN_ap, sRetO_ap, sDrop_ap, sIf_ap, sSet_ap, sApp_ap, sTown_ap, sExt_ap, sIns_ap, sSetIx_ap, sAsg_ap, sPar_ap, iOf_ap, iVal_ap, iRng1_ap, iRng2_ap, sFor_ap, eComp_ap, bYes_ap, frzAt_ap, eUn_ap, eNotD_ap, eOrD_ap, eChain_ap, eListRg1_ap, eIsa_ap, eMt_ap, iEnumV_ap, iEnumF_ap, iZipV_ap, iZipF_ap, eTLen_ap, iRng3D_ap, sEnd_ap, eSs_ap, sPar3_ap, xPop_ap, xTup1_ap, xCat_ap, sSetX_ap, sAppX_ap, sParO_ap, sForEI_ap, sForK_ap, eRep_ap, eDicK_ap, eDicT_ap, sPut_ap, eAlt_ap, sTry_ap, eGetD_ap, eLockI_ap, iKeyF_ap, sSetDef_ap, eTupVals_ap, sNst_ap, frzNAt_ap, sAppN_ap, sStN_ap, eListRg2_ap, runB_ap, gOne_ap, gMany_ap, dI_ap, yesC_ap, dCmp_int, setD, kill_nx, kill_rt, kill_bk, Option.bind_some, Option.map_some, Option.bind_none, Option.map_none, List.getElem?_cons_zero, List.getElem?_cons_succ, List.set_cons_zero, List.set_cons_succ, List.cons_append, List.nil_append, List.append_nil, List.replicate, List.length_cons, List.length_nil, Nat.reduceAdd, Nat.reduceSub, Nat.zero_add, wdat_no, wdat_d, wdat_town, wdat_ol, wdat_od, wfrz_no, wfrz_d, wfrz_town, wfrz_ol, wfrz_od, wval_no, wval_d, wval_town, wval_ol, wval_od, warg_no, warg_d, warg_town, warg_ol, warg_od, vals, gLen, gAbs, gMax2, gMin2, gInt, gTup, gList, wipeW, if_true, if_false, Bool.false_eq_true, Bool.not_true, Bool.not_false, reduceCtorEq, dAdd, dMul, dMod, dDiv, h1, h2, h3, h4, h5, h6, h7]
    exact ⟨_, Int.emod_nonneg _ (by omega), Int.emod_lt_of_pos _ hm, rfl⟩
  | cons a ns =>
    simp -implicitDefEqProofs only [eVar_ap, dVar_ap, eC_ap, dOf_ap, eFrz_ap, eBin_ap, bTest_ap, bTru_ap, bAnd_ap, bOr_ap, bNot_ap, eIf_ap, eB_ap, eAnd_ap, eOr_ap, aNil_ap, aCons_ap, sNil_ap, sCons_ap, eTup_ap, eLst_ap, eCall_ap, eApp_ap, oNone_ap, oSome_ap, eSl_ap, sNil'_ap, sSeq_ap, sBrk_ap, sRet_ap, sRetN_ap, sRetO_ap, sDrop_ap, sIf_ap, sSet_ap, sApp_ap, sTown_ap, sExt_ap, sIns_ap, sSetIx_ap, sAsg_ap, sPar_ap, iOf_ap, iVal_ap, iRng1_ap, iRng2_ap, sFor_ap, eComp_ap, bYes_ap, frzAt_ap, eUn_ap, eNotD_ap, eOrD_ap, eChain_ap, eListRg1_ap, eIsa_ap, eMt_ap, iEnumV_ap, iEnumF_ap, iZipV_ap, iZipF_ap, eTLen_ap, iRng3D_ap, sEnd_ap, eSs_ap, sPar3_ap, xPop_ap, xTup1_ap, xCat_ap, sSetX_ap, sAppX_ap, sParO_ap, sForEI_ap, sForK_ap, eRep_ap, eDicK_ap, eDicT_ap, sPut_ap, eAlt_ap, sTry_ap, eGetD_ap, eLockI_ap, iKeyF_ap, sSetDef_ap, eTupVals_ap, sNst_ap, frzNAt_ap, sAppN_ap, sStN_ap, eListRg2_ap, runB_ap, gOne_ap, gMany_ap, dI_ap, yesC_ap, dCmp_int, setD, kill_nx, kill_rt, kill_bk, Option.bind_some, Option.map_some, Option.bind_none, Option.map_none, List.getElem?_cons_zero, List.getElem?_cons_succ, List.set_cons_zero, List.set_cons_succ, List.cons_append, List.nil_append, List.append_nil, List.replicate, List.length_cons, List.length_nil, Nat.reduceAdd, Nat.reduceSub, Nat.zero_add, wdat_no, wdat_d, wdat_town, wdat_ol, wdat_od, wfrz_no, wfrz_d, wfrz_town, wfrz_ol, wfrz_od, wval_no, wval_d, wval_town, wval_ol, wval_od, warg_no, warg_d, warg_town, warg_ol, warg_od, vals, gLen, gAbs, gMax2, gMin2, gInt, gTup, gList, wipeW, if_true, if_false, Bool.false_eq_true, Bool.not_true, Bool.not_false, reduceCtorEq, Sc, I', List.map_cons]
    rw [if_pos hn]
    simp -implicitDefEqProofs only [eVar_ap, dVar_ap, eC_ap, dOf_ap, eFrz_ap, eBin_ap, bTest_ap, bTru_ap, bAnd_ap, bOr_ap, bNot_ap, eIf_ap, eB_ap, eAnd_ap, eOr_ap, aNil_ap, aCons_ap, sNil_ap, sCons_ap, eTup_ap, eLst_ap, eCall_ap, eApp_ap, oNone_ap, oSome_ap, eSl_ap, sNil'_ap, sSeq_ap, sBrk_ap, sRet_ap, sRetN_ap, sRetO_ap, sDrop_ap, sIf_ap, sSet_ap, sApp_ap, sTown_ap, sExt_ap, sIns_ap, sSetIx_ap, sAsg_ap, sPar_ap, iOf_ap, iVal_ap, iRng1_ap, iRng2_ap, sFor_ap, eComp_ap, bYes_ap, frzAt_ap, eUn_ap, eNotD_ap, eOrD_ap, eChain_ap, eListRg1_ap, eIsa_ap, eMt_ap, iEnumV_ap, iEnumF_ap, iZipV_ap, iZipF_ap, eTLen_ap, iRng3D_ap, sEnd_ap, eSs_ap, sPar3_ap, xPop_ap, xTup1_ap, xCat_ap, sSetX_ap, sAppX_ap, sParO_ap, sForEI_ap, sForK_ap, eRep_ap, eDicK_ap, eDicT_ap, sPut_ap, eAlt_ap, sTry_ap, eGetD_ap, eLockI_ap, iKeyF_ap, sSetDef_ap, eTupVals_ap, sNst_ap, frzNAt_ap, sAppN_ap, sStN_ap, eListRg2_ap, runB_ap, gOne_ap, gMany_ap, dI_ap, yesC_ap, dCmp_int, setD, kill_nx, kill_rt, kill_bk, Option.bind_some, Option.map_some, Option.bind_none, Option.map_none, List.getElem?_cons_zero, List.getElem?_cons_succ, List.set_cons_zero, List.set_cons_succ, List.cons_append, List.nil_append, List.append_nil, List.replicate, List.length_cons, List.length_nil, Nat.reduceAdd, Nat.reduceSub, Nat.zero_add, wdat_no, wdat_d, wdat_town, wdat_ol, wdat_od, wfrz_no, wfrz_d, wfrz_town, wfrz_ol, wfrz_od, wval_no, wval_d, wval_town, wval_ol, wval_od, warg_no, warg_d, warg_town, warg_ol, warg_od, vals, gLen, gAbs, gMax2, gMin2, gInt, gTup, gList, wipeW, if_true, if_false, Bool.false_eq_true, Bool.not_true, Bool.not_false, reduceCtorEq, dTru, List.isEmpty_cons]
    have h8 : modC ((n + 1 : Nat) : Int) ((List.map PyData.int ns).length + 1 : Nat) = true := modC_ok (by omega)
    have h9 : ∃ c : Int, dIx (.list (PyData.int a :: List.map PyData.int ns)) (.int (((n + 1 : Nat) : Int) % ((List.map PyData.int ns).length + 1 : Nat))) = some (.d (.int c)) := by
      have e : PyData.int a :: List.map PyData.int ns = (a :: ns).map .int := rfl
      rw [e]
      have l0 := Int.emod_nonneg ((n + 1 : Nat) : Int) (show (((List.map PyData.int ns).length + 1 : Nat) : Int) ≠ 0 by omega)
      have l1 := Int.emod_lt_of_pos ((n + 1 : Nat) : Int) (show 0 < (((List.map PyData.int ns).length + 1 : Nat) : Int) by omega)
      have l2 : (((n + 1 : Nat) : Int) % ((List.map PyData.int ns).length + 1 : Nat)).toNat < ((a :: ns).map PyData.int).length := by
        simp only [List.length_map, List.length_cons] at l0 l1 ⊢
        omega
      refine ⟨(a :: ns)[(((n + 1 : Nat) : Int) % ((List.map PyData.int ns).length + 1 : Nat)).toNat]'(by simpa using l2), ?_⟩
      show (atI _ _).map W.d = _
      rw [atI_ok l0 l2, Option.map_some, List.getElem_map]
    obtain ⟨c, h9⟩ := h9
    simp -implicitDefEqProofs only [eVar_ap, dVar_ap, eC_ap, dOf_ap, eFrz_ap, eBin_ap, bTest_ap, bTru_ap, bAnd_ap, bOr_ap, bNot_ap, eIf_ap, eB_ap, eAnd_ap, eOr_ap, aNil_ap, aCons_ap, sNil_ap, sCons_ap, eTup_ap, eLst_ap, eCall_ap, eApp_ap, oNone_ap, oSome_ap, eSl_ap, sNil'_ap, sSeq_ap, sBrk_ap, sRet_ap, sRetN_ap, sRetO_ap, sDrop_ap, sIf_ap, sSet_ap, sApp_ap, sTown_ap, sExt_ap, sIns_ap, sSetIx_ap, sAsg_ap, sPar_ap, iOf_ap, iVal_ap, iRng1_ap, iRng2_ap, sFor_ap, eComp_ap, bYes_ap, frzAt_ap, eUn_ap, eNotD_ap, eOrD_ap, eChain_ap, eListRg1_ap, eIsa_ap, eMt_ap, iEnumV_ap, iEnumF_ap, iZipV_ap, iZipF_ap, eTLen_ap, iRng3D_ap, sEnd_ap, eSs_ap, sPar3_ap, xPop_ap, xTup1_ap, xCat_ap, sSetX_ap, sAppX_ap, sParO_ap, sForEI_ap, sForK_ap, eRep_ap, eDicK_ap, eDicT_ap, sPut_ap, eAlt_ap, sTry_ap, eGetD_ap, eLockI_ap, iKeyF_ap, sSetDef_ap, eTupVals_ap, sNst_ap, frzNAt_ap, sAppN_ap, sStN_ap, eListRg2_ap, runB_ap, gOne_ap, gMany_ap, dI_ap, yesC_ap, dCmp_int, setD, kill_nx, kill_rt, kill_bk, Option.bind_some, Option.map_some, Option.bind_none, Option.map_none, List.getElem?_cons_zero, List.getElem?_cons_succ, List.set_cons_zero, List.set_cons_succ, List.cons_append, List.nil_append, List.append_nil, List.replicate, List.length_cons, List.length_nil, Nat.reduceAdd, Nat.reduceSub, Nat.zero_add, wdat_no, wdat_d, wdat_town, wdat_ol, wdat_od, wfrz_no, wfrz_d, wfrz_town, wfrz_ol, wfrz_od, wval_no, wval_d, wval_town, wval_ol, wval_od, warg_no, warg_d, warg_town, warg_ol, warg_od, vals, gLen, gAbs, gMax2, gMin2, gInt, gTup, gList, wipeW, if_true, if_false, Bool.false_eq_true, Bool.not_true, Bool.not_false, reduceCtorEq, dAdd, dMul, dMod, dDiv, h1, h2, h3, h4, h5, h6, h7, h8, h9]
    exact ⟨_, Int.emod_nonneg _ (by omega), Int.emod_lt_of_pos _ hm, rfl⟩
theorem draw_ok (ns : List Int) (n : Nat) (hn : n < big) (many : Int) (hm : 0 < many) : ∃ r : Int, 0 ≤ r ∧ r < many ∧ m__law_draw [Sc ns, .town, I' many] n = some (I' r, n + 1) :=
  drawG_ok 104729 4294967291 4294967279 48271 64 (fun k => mulC_l (by decide) (by decide)) (fun k => mulC_l (by omega) (by omega)) (fun k => mulC_l (by omega) (by omega)) (fun k => modC_ok (by decide)) (fun k => modC_ok (by decide)) (fun k => divC_ok (by decide) (by decide)) ns n hn many hm
end L2.Lv.Sh
namespace L2.Lv.Sh
open PySem PySem.Spec PyProof.Rows L2 L2.Lv
/-! isinstance -/
theorem isa_b_i (i : Int) : isa "bool" (.int i) = false := by simp [isa, tyN]
theorem isa_b_b (i : Bool) : isa "bool" (.bool i) = true := by simp [isa, tyN]
theorem isa_b_s (i : Str) : isa "bool" (.str i) = false := by simp [isa, tyN]
theorem isa_b_t (i : List PyData) : isa "bool" (.tuple i) = false := by simp [isa, tyN]
theorem isa_b_l (i : List PyData) : isa "bool" (.list i) = false := by simp [isa, tyN]
theorem isa_b_n : isa "bool" .none = false := by simp [isa, tyN]
theorem isa_t_i (i : Int) : isa "tuple" (.int i) = false := by simp [isa, tyN]
theorem isa_t_b (i : Bool) : isa "tuple" (.bool i) = false := by simp [isa, tyN]
theorem isa_t_s (i : Str) : isa "tuple" (.str i) = false := by simp [isa, tyN]
theorem isa_t_t (i : List PyData) : isa "tuple" (.tuple i) = true := by simp [isa, tyN]
theorem isa_t_l (i : List PyData) : isa "tuple" (.list i) = false := by simp [isa, tyN]
theorem isa_t_n : isa "tuple" .none = false := by simp [isa, tyN]
theorem isa_s_i (i : Int) : isa "str" (.int i) = false := by simp [isa, tyN]
theorem isa_s_b (i : Bool) : isa "str" (.bool i) = false := by simp [isa, tyN]
theorem isa_s_s (i : Str) : isa "str" (.str i) = true := by simp [isa, tyN]
theorem isa_s_t (i : List PyData) : isa "str" (.tuple i) = false := by simp [isa, tyN]
theorem isa_s_n : isa "str" .none = false := by simp [isa, tyN]
theorem isa_i_i (i : Int) : isa "int" (.int i) = true := by simp [isa, tyN]
theorem isa_i_b (i : Bool) : isa "int" (.bool i) = true := by simp [isa, tyN]
theorem isa_i_s (i : Str) : isa "int" (.str i) = false := by simp [isa, tyN]
theorem isa_i_t (i : List PyData) : isa "int" (.tuple i) = false := by simp [isa, tyN]
theorem isa_i_n : isa "int" .none = false := by simp [isa, tyN]

theorem shp_int (i : Int) : shp (.int i) = true := by simp [shp, SeqAt.shaped, PyData.canLay0, PyData.depth]
theorem shp_bool (i : Bool) : shp (.bool i) = true := by simp [shp, SeqAt.shaped, PyData.canLay0, PyData.depth]
theorem dEq_int (i j : Int) : dEq (.int i) (.int j) = some (.d (.bool (i == j))) := by simp [dEq, shp_int, PyData.eqv]
theorem dNe_int (i j : Int) : dNe (.int i) (.int j) = some (.d (.bool (!(i == j)))) := by simp [dNe, shp_int, PyData.eqv]
theorem dEq_bool (i j : Bool) : dEq (.bool i) (.bool j) = some (.d (.bool (i == j))) := by simp [dEq, shp_bool, PyData.eqv]
theorem dEq_str {i j : Str} (h : shp (.str i) = true) (h2 : shp (.str j) = true) : dEq (.str i) (.str j) = some (.d (.bool (i == j))) := by simp [dEq, h, h2, PyData.eqv]
/-- plain data: no list, no dict; depth at most k -/
def sm : Nat → PyData → Bool
  | 0, _ => false
  | _ + 1, .none => true
  | _ + 1, .bool _ => true
  | _ + 1, .int _ => true
  | _ + 1, .str s => shp (.str s)
  | k + 1, .tuple xs => xs.all (sm k)
  | _ + 1, _ => false
theorem boolsOf_rep (k : Nat) : boolsOf (List.replicate k (.bool true)) = some (List.replicate k true) := by
  induction k with
  | zero => rfl
  | succ k ih => rw [List.replicate_succ]; show (boolsOf (List.replicate k (PyData.bool true))).map _ = _; rw [ih]; rfl
theorem all_rep (k : Nat) : (List.replicate k true).all id = true := by
  induction k with
  | zero => rfl
  | succ k ih => rw [List.replicate_succ]; simpa using ih
theorem zipD_length : ∀ (xs ys : List PyData), (zipD xs ys).length ≤ xs.length
  | [], [] => Nat.le_refl _
  | [], _ :: _ => Nat.le_refl _
  | _ :: _, [] => Nat.zero_le _
  | _ :: xs, _ :: ys => Nat.succ_le_succ (zipD_length xs ys)
theorem same_refl_ : ∀ (k : Nat) (x : PyData) (n : Nat), sm k x = true → (∀ xs, x = .tuple xs → True) → (hb : ∀ xs, x = .tuple xs → xs.length ≤ 1000000) → m__law_same_ k [.d x, .d x] n = some (.d (.bool true), n) ∨ ∃ xs, x = .tuple xs ∧ ∃ y ∈ xs, m__law_same_ (k - 1) [.d y, .d y] n ≠ some (.d (.bool true), n)
  | 0, _, _, h, _, _ => by simp [sm] at h
  | k + 1, .none, n, h, _, _ => by left; unfold m__law_same_ b__law_same; simp -implicitDefEqProofs only [eVar_ap, dVar_ap, eC_ap, dOf_ap, eFrz_ap, eBin_ap, bTest_ap, bTru_ap, bAnd_ap, bOr_ap, bNot_ap, eIf_ap, eB_ap, eAnd_ap, eOr_ap, aNil_ap, aCons_ap, sNil_ap, sCons_ap, eTup_ap, eLst_ap, eCall_ap, eApp_ap, oNone_ap, oSome_ap, eSl_ap, sNil'_ap, sSeq_ap, sBrk_ap, sRet_ap, sRetN_ap, sRetO_ap, sDrop_ap, sIf_ap, sSet_ap, sApp_ap, sTown_ap, sExt_ap, sIns_ap, sSetIx_ap, sAsg_ap, sPar_ap, iOf_ap, iVal_ap, iRng1_ap, iRng2_ap, sFor_ap, eComp_ap, bYes_ap, frzAt_ap, eUn_ap, eNotD_ap, eOrD_ap, eChain_ap, eListRg1_ap, eIsa_ap, eMt_ap, iEnumV_ap, iEnumF_ap, iZipV_ap, iZipF_ap, eTLen_ap, iRng3D_ap, sEnd_ap, eSs_ap, sPar3_ap, xPop_ap, xTup1_ap, xCat_ap, sSetX_ap, sAppX_ap, sParO_ap, sForEI_ap, sForK_ap, eRep_ap, eDicK_ap, eDicT_ap, sPut_ap, eAlt_ap, sTry_ap, eGetD_ap, eLockI_ap, iKeyF_ap, sSetDef_ap, eTupVals_ap, sNst_ap, frzNAt_ap, sAppN_ap, sStN_ap, eListRg2_ap, runB_ap, gOne_ap, gMany_ap, dI_ap, yesC_ap, dCmp_int, setD, kill_nx, kill_rt, kill_bk, Option.bind_some, Option.map_some, Option.bind_none, Option.map_none, List.getElem?_cons_zero, List.getElem?_cons_succ, List.set_cons_zero, List.set_cons_succ, List.cons_append, List.nil_append, List.append_nil, List.replicate, List.length_cons, List.length_nil, Nat.reduceAdd, Nat.reduceSub, Nat.zero_add, wdat_no, wdat_d, wdat_town, wdat_ol, wdat_od, wfrz_no, wfrz_d, wfrz_town, wfrz_ol, wfrz_od, wval_no, wval_d, wval_town, wval_ol, wval_od, warg_no, warg_d, warg_town, warg_ol, warg_od, vals, gLen, gAbs, gMax2, gMin2, gInt, gTup, gList, wipeW, if_true, if_false, Bool.false_eq_true, Bool.not_true, Bool.not_false, reduceCtorEq, dTru, isNo, dIsN, dNotN, isa_b_i, isa_b_b, isa_b_s, isa_b_t, isa_b_l, isa_b_n, isa_t_i, isa_t_b, isa_t_s, isa_t_t, isa_t_l, isa_t_n, isa_s_i, isa_s_b, isa_s_s, isa_s_t, isa_s_n, isa_i_i, isa_i_b, isa_i_s, isa_i_t, isa_i_n]
  | k + 1, .bool b, n, h, _, _ => by left; unfold m__law_same_ b__law_same; simp -implicitDefEqProofs only [eVar_ap, dVar_ap, eC_ap, dOf_ap, eFrz_ap, eBin_ap, bTest_ap, bTru_ap, bAnd_ap, bOr_ap, bNot_ap, eIf_ap, eB_ap, eAnd_ap, eOr_ap, aNil_ap, aCons_ap, sNil_ap, sCons_ap, eTup_ap, eLst_ap, eCall_ap, eApp_ap, oNone_ap, oSome_ap, eSl_ap, sNil'_ap, sSeq_ap, sBrk_ap, sRet_ap, sRetN_ap, sRetO_ap, sDrop_ap, sIf_ap, sSet_ap, sApp_ap, sTown_ap, sExt_ap, sIns_ap, sSetIx_ap, sAsg_ap, sPar_ap, iOf_ap, iVal_ap, iRng1_ap, iRng2_ap, sFor_ap, eComp_ap, bYes_ap, frzAt_ap, eUn_ap, eNotD_ap, eOrD_ap, eChain_ap, eListRg1_ap, eIsa_ap, eMt_ap, iEnumV_ap, iEnumF_ap, iZipV_ap, iZipF_ap, eTLen_ap, iRng3D_ap, sEnd_ap, eSs_ap, sPar3_ap, xPop_ap, xTup1_ap, xCat_ap, sSetX_ap, sAppX_ap, sParO_ap, sForEI_ap, sForK_ap, eRep_ap, eDicK_ap, eDicT_ap, sPut_ap, eAlt_ap, sTry_ap, eGetD_ap, eLockI_ap, iKeyF_ap, sSetDef_ap, eTupVals_ap, sNst_ap, frzNAt_ap, sAppN_ap, sStN_ap, eListRg2_ap, runB_ap, gOne_ap, gMany_ap, dI_ap, yesC_ap, dCmp_int, setD, kill_nx, kill_rt, kill_bk, Option.bind_some, Option.map_some, Option.bind_none, Option.map_none, List.getElem?_cons_zero, List.getElem?_cons_succ, List.set_cons_zero, List.set_cons_succ, List.cons_append, List.nil_append, List.append_nil, List.replicate, List.length_cons, List.length_nil, Nat.reduceAdd, Nat.reduceSub, Nat.zero_add, wdat_no, wdat_d, wdat_town, wdat_ol, wdat_od, wfrz_no, wfrz_d, wfrz_town, wfrz_ol, wfrz_od, wval_no, wval_d, wval_town, wval_ol, wval_od, warg_no, warg_d, warg_town, warg_ol, warg_od, vals, gLen, gAbs, gMax2, gMin2, gInt, gTup, gList, wipeW, if_true, if_false, Bool.false_eq_true, Bool.not_true, Bool.not_false, reduceCtorEq, dTru, isNo, dIsN, dNotN, isa_b_i, isa_b_b, isa_b_s, isa_b_t, isa_b_l, isa_b_n, isa_t_i, isa_t_b, isa_t_s, isa_t_t, isa_t_l, isa_t_n, isa_s_i, isa_s_b, isa_s_s, isa_s_t, isa_s_n, isa_i_i, isa_i_b, isa_i_s, isa_i_t, isa_i_n, dEq_bool, beq_self_eq_true]
  | k + 1, .int b, n, h, _, _ => by left; unfold m__law_same_ b__law_same; simp -implicitDefEqProofs only [eVar_ap, dVar_ap, eC_ap, dOf_ap, eFrz_ap, eBin_ap, bTest_ap, bTru_ap, bAnd_ap, bOr_ap, bNot_ap, eIf_ap, eB_ap, eAnd_ap, eOr_ap, aNil_ap, aCons_ap, sNil_ap, sCons_ap, eTup_ap, eLst_ap, eCall_ap, eApp_ap, oNone_ap, oSome_ap, eSl_ap, sNil'_ap, sSeq_ap, sBrk_ap, sRet_ap, sRetN_ap, sRetO_ap, sDrop_ap, sIf_ap, sSet_ap, sApp_ap, sTown_ap, sExt_ap, sIns_ap, sSetIx_ap, sAsg_ap, sPar_ap, iOf_ap, iVal_ap, iRng1_ap, iRng2_ap, sFor_ap, eComp_ap, bYes_ap, frzAt_ap, eUn_ap, eNotD_ap, eOrD_ap, eChain_ap, eListRg1_ap, eIsa_ap, eMt_ap, iEnumV_ap, iEnumF_ap, iZipV_ap, iZipF_ap, eTLen_ap, iRng3D_ap, sEnd_ap, eSs_ap, sPar3_ap, xPop_ap, xTup1_ap, xCat_ap, sSetX_ap, sAppX_ap, sParO_ap, sForEI_ap, sForK_ap, eRep_ap, eDicK_ap, eDicT_ap, sPut_ap, eAlt_ap, sTry_ap, eGetD_ap, eLockI_ap, iKeyF_ap, sSetDef_ap, eTupVals_ap, sNst_ap, frzNAt_ap, sAppN_ap, sStN_ap, eListRg2_ap, runB_ap, gOne_ap, gMany_ap, dI_ap, yesC_ap, dCmp_int, setD, kill_nx, kill_rt, kill_bk, Option.bind_some, Option.map_some, Option.bind_none, Option.map_none, List.getElem?_cons_zero, List.getElem?_cons_succ, List.set_cons_zero, List.set_cons_succ, List.cons_append, List.nil_append, List.append_nil, List.replicate, List.length_cons, List.length_nil, Nat.reduceAdd, Nat.reduceSub, Nat.zero_add, wdat_no, wdat_d, wdat_town, wdat_ol, wdat_od, wfrz_no, wfrz_d, wfrz_town, wfrz_ol, wfrz_od, wval_no, wval_d, wval_town, wval_ol, wval_od, warg_no, warg_d, warg_town, warg_ol, warg_od, vals, gLen, gAbs, gMax2, gMin2, gInt, gTup, gList, wipeW, if_true, if_false, Bool.false_eq_true, Bool.not_true, Bool.not_false, reduceCtorEq, dTru, isNo, dIsN, dNotN, isa_b_i, isa_b_b, isa_b_s, isa_b_t, isa_b_l, isa_b_n, isa_t_i, isa_t_b, isa_t_s, isa_t_t, isa_t_l, isa_t_n, isa_s_i, isa_s_b, isa_s_s, isa_s_t, isa_s_n, isa_i_i, isa_i_b, isa_i_s, isa_i_t, isa_i_n, dEq_int, beq_self_eq_true]
  | k + 1, .str b, n, h, _, _ => by
    left
    have h : shp (.str b) = true := h
    unfold m__law_same_ b__law_same
    simp -implicitDefEqProofs only [eVar_ap, dVar_ap, eC_ap, dOf_ap, eFrz_ap, eBin_ap, bTest_ap, bTru_ap, bAnd_ap, bOr_ap, bNot_ap, eIf_ap, eB_ap, eAnd_ap, eOr_ap, aNil_ap, aCons_ap, sNil_ap, sCons_ap, eTup_ap, eLst_ap, eCall_ap, eApp_ap, oNone_ap, oSome_ap, eSl_ap, sNil'_ap, sSeq_ap, sBrk_ap, sRet_ap, sRetN_ap, sRetO_ap, sDrop_ap, sIf_ap, sSet_ap, sApp_ap, sTown_ap, sExt_ap, sIns_ap, sSetIx_ap, sAsg_ap, sPar_ap, iOf_ap, iVal_ap, iRng1_ap, iRng2_ap, sFor_ap, eComp_ap, bYes_ap, frzAt_ap, eUn_ap, eNotD_ap, eOrD_ap, eChain_ap, eListRg1_ap, eIsa_ap, eMt_ap, iEnumV_ap, iEnumF_ap, iZipV_ap, iZipF_ap, eTLen_ap, iRng3D_ap, sEnd_ap, eSs_ap, sPar3_ap, xPop_ap, xTup1_ap, xCat_ap, sSetX_ap, sAppX_ap, sParO_ap, sForEI_ap, sForK_ap, eRep_ap, eDicK_ap, eDicT_ap, sPut_ap, eAlt_ap, sTry_ap, eGetD_ap, eLockI_ap, iKeyF_ap, sSetDef_ap, eTupVals_ap, sNst_ap, frzNAt_ap, sAppN_ap, sStN_ap, eListRg2_ap, runB_ap, gOne_ap, gMany_ap, dI_ap, yesC_ap, dCmp_int, setD, kill_nx, kill_rt, kill_bk, Option.bind_some, Option.map_some, Option.bind_none, Option.map_none, List.getElem?_cons_zero, List.getElem?_cons_succ, List.set_cons_zero, List.set_cons_succ, List.cons_append, List.nil_append, List.append_nil, List.replicate, List.length_cons, List.length_nil, Nat.reduceAdd, Nat.reduceSub, Nat.zero_add, wdat_no, wdat_d, wdat_town, wdat_ol, wdat_od, wfrz_no, wfrz_d, wfrz_town, wfrz_ol, wfrz_od, wval_no, wval_d, wval_town, wval_ol, wval_od, warg_no, warg_d, warg_town, warg_ol, warg_od, vals, gLen, gAbs, gMax2, gMin2, gInt, gTup, gList, wipeW, if_true, if_false, Bool.false_eq_true, Bool.not_true, Bool.not_false, reduceCtorEq, dTru, isNo, dIsN, dNotN, isa_b_i, isa_b_b, isa_b_s, isa_b_t, isa_b_l, isa_b_n, isa_t_i, isa_t_b, isa_t_s, isa_t_t, isa_t_l, isa_t_n, isa_s_i, isa_s_b, isa_s_s, isa_s_t, isa_s_n, isa_i_i, isa_i_b, isa_i_s, isa_i_t, isa_i_n, dEq_str h h, beq_self_eq_true]
  | k + 1, .tuple xs, n, h, _, hb => by
    by_cases hy : ∃ y ∈ xs, m__law_same_ k [.d y, .d y] n ≠ some (.d (.bool true), n)
    · exact .inr ⟨xs, rfl, hy⟩
    · left
      have key : ∀ ys : List PyData, (∀ y ∈ ys, m__law_same_ k [.d y, .d y] n = some (.d (.bool true), n)) → loopC (gMany [2, 3]) [2, 3] bYes (eCall (m__law_same_ k) (aCons (eVar 2) (aCons (eVar 3) aNil))) [W.d (.tuple xs), .d (.tuple xs), .no, .no] (zipD ys ys) n = some (List.replicate ys.length (.bool true), n) := by
        intro ys hys
        induction ys with
        | nil => rfl
        | cons y ys ih =>
          show loopC _ _ _ _ _ (.tuple [y, y] :: zipD ys ys) n = _
          rw [loopC_cons]
          simp -implicitDefEqProofs only [eVar_ap, dVar_ap, eC_ap, dOf_ap, eFrz_ap, eBin_ap, bTest_ap, bTru_ap, bAnd_ap, bOr_ap, bNot_ap, eIf_ap, eB_ap, eAnd_ap, eOr_ap, aNil_ap, aCons_ap, sNil_ap, sCons_ap, eTup_ap, eLst_ap, eCall_ap, eApp_ap, oNone_ap, oSome_ap, eSl_ap, sNil'_ap, sSeq_ap, sBrk_ap, sRet_ap, sRetN_ap, sRetO_ap, sDrop_ap, sIf_ap, sSet_ap, sApp_ap, sTown_ap, sExt_ap, sIns_ap, sSetIx_ap, sAsg_ap, sPar_ap, iOf_ap, iVal_ap, iRng1_ap, iRng2_ap, sFor_ap, eComp_ap, bYes_ap, frzAt_ap, eUn_ap, eNotD_ap, eOrD_ap, eChain_ap, eListRg1_ap, eIsa_ap, eMt_ap, iEnumV_ap, iEnumF_ap, iZipV_ap, iZipF_ap, eTLen_ap, iRng3D_ap, sEnd_ap, eSs_ap, sPar3_ap, xPop_ap, xTup1_ap, xCat_ap, sSetX_ap, sAppX_ap, sParO_ap, sForEI_ap, sForK_ap, eRep_ap, eDicK_ap, eDicT_ap, sPut_ap, eAlt_ap, sTry_ap, eGetD_ap, eLockI_ap, iKeyF_ap, sSetDef_ap, eTupVals_ap, sNst_ap, frzNAt_ap, sAppN_ap, sStN_ap, eListRg2_ap, runB_ap, gOne_ap, gMany_ap, dI_ap, yesC_ap, dCmp_int, setD, kill_nx, kill_rt, kill_bk, Option.bind_some, Option.map_some, Option.bind_none, Option.map_none, List.getElem?_cons_zero, List.getElem?_cons_succ, List.set_cons_zero, List.set_cons_succ, List.cons_append, List.nil_append, List.append_nil, List.replicate, List.length_cons, List.length_nil, Nat.reduceAdd, Nat.reduceSub, Nat.zero_add, wdat_no, wdat_d, wdat_town, wdat_ol, wdat_od, wfrz_no, wfrz_d, wfrz_town, wfrz_ol, wfrz_od, wval_no, wval_d, wval_town, wval_ol, wval_od, warg_no, warg_d, warg_town, warg_ol, warg_od, vals, gLen, gAbs, gMax2, gMin2, gInt, gTup, gList, wipeW, if_true, if_false, Bool.false_eq_true, Bool.not_true, Bool.not_false, reduceCtorEq, dTru, isNo, dIsN, dNotN, isa_b_i, isa_b_b, isa_b_s, isa_b_t, isa_b_l, isa_b_n, isa_t_i, isa_t_b, isa_t_s, isa_t_t, isa_t_l, isa_t_n, isa_s_i, isa_s_b, isa_s_s, isa_s_t, isa_s_n, isa_i_i, isa_i_b, isa_i_s, isa_i_t, isa_i_n, hys y (List.mem_cons_self ..), ih fun z hz => hys z (List.mem_cons_of_mem _ hz), List.replicate_succ]
      have hk := key xs fun y hm => Classical.byContradiction fun hn => hy ⟨y, hm, hn⟩
      have hl : (zipD xs xs).length ≤ big := Nat.le_trans (zipD_length xs xs) (Nat.le_trans (hb xs rfl) (by decide))
      unfold m__law_same_ b__law_same
      simp -implicitDefEqProofs only [eVar_ap, dVar_ap, eC_ap, dOf_ap, eFrz_ap, eBin_ap, bTest_ap, bTru_ap, bAnd_ap, bOr_ap, bNot_ap, eIf_ap, eB_ap, eAnd_ap, eOr_ap, aNil_ap, aCons_ap, sNil_ap, sCons_ap, eTup_ap, eLst_ap, eCall_ap, eApp_ap, oNone_ap, oSome_ap, eSl_ap, sNil'_ap, sSeq_ap, sBrk_ap, sRet_ap, sRetN_ap, sRetO_ap, sDrop_ap, sIf_ap, sSet_ap, sApp_ap, sTown_ap, sExt_ap, sIns_ap, sSetIx_ap, sAsg_ap, sPar_ap, iOf_ap, iVal_ap, iRng1_ap, iRng2_ap, sFor_ap, eComp_ap, bYes_ap, frzAt_ap, eUn_ap, eNotD_ap, eOrD_ap, eChain_ap, eListRg1_ap, eIsa_ap, eMt_ap, iEnumV_ap, iEnumF_ap, iZipV_ap, iZipF_ap, eTLen_ap, iRng3D_ap, sEnd_ap, eSs_ap, sPar3_ap, xPop_ap, xTup1_ap, xCat_ap, sSetX_ap, sAppX_ap, sParO_ap, sForEI_ap, sForK_ap, eRep_ap, eDicK_ap, eDicT_ap, sPut_ap, eAlt_ap, sTry_ap, eGetD_ap, eLockI_ap, iKeyF_ap, sSetDef_ap, eTupVals_ap, sNst_ap, frzNAt_ap, sAppN_ap, sStN_ap, eListRg2_ap, runB_ap, gOne_ap, gMany_ap, dI_ap, yesC_ap, dCmp_int, setD, kill_nx, kill_rt, kill_bk, Option.bind_some, Option.map_some, Option.bind_none, Option.map_none, List.getElem?_cons_zero, List.getElem?_cons_succ, List.set_cons_zero, List.set_cons_succ, List.cons_append, List.nil_append, List.append_nil, List.replicate, List.length_cons, List.length_nil, Nat.reduceAdd, Nat.reduceSub, Nat.zero_add, wdat_no, wdat_d, wdat_town, wdat_ol, wdat_od, wfrz_no, wfrz_d, wfrz_town, wfrz_ol, wfrz_od, wval_no, wval_d, wval_town, wval_ol, wval_od, warg_no, warg_d, warg_town, warg_ol, warg_od, vals, gLen, gAbs, gMax2, gMin2, gInt, gTup, gList, wipeW, if_true, if_false, Bool.false_eq_true, Bool.not_true, Bool.not_false, reduceCtorEq, dTru, isNo, dIsN, dNotN, isa_b_i, isa_b_b, isa_b_s, isa_b_t, isa_b_l, isa_b_n, isa_t_i, isa_t_b, isa_t_s, isa_t_t, isa_t_l, isa_t_n, isa_s_i, isa_s_b, isa_s_s, isa_s_t, isa_s_n, isa_i_i, isa_i_b, isa_i_s, isa_i_t, isa_i_n, dNe_int, beq_self_eq_true, zipOk, hl, hk, gAll, boolsOf_rep, all_rep]
  | k + 1, .list _, n, h, _, _ => by simp [sm] at h
  | k + 1, .dict _, n, h, _, _ => by simp [sm] at h
/-- tuples in it are not too long -/
def short : Nat → PyData → Bool
  | 0, _ => true
  | k + 1, .tuple xs => decide (xs.length ≤ 1000000) && xs.all (short k)
  | _ + 1, _ => true
theorem same_refl : ∀ (k : Nat) (x : PyData) (n : Nat), sm k x = true → short k x = true → m__law_same_ k [.d x, .d x] n = some (.d (.bool true), n)
  | 0, _, _, h, _ => by simp [sm] at h
  | k + 1, x, n, h, h2 => by
    rcases same_refl_ (k + 1) x n h (fun _ _ => trivial) (fun xs e => by subst e; simp [short] at h2; exact h2.1) with q | ⟨xs, rfl, y, hy, q⟩
    · exact q
    · refine absurd (same_refl k y n ?_ ?_) q
      · simp [sm] at h; exact h y hy
      · simp [short] at h2; exact h2.2 y hy
end L2.Lv.Sh
namespace L2.Lv.Sh
open PySem PySem.Spec PyProof.Rows L2 L2.Lv
abbrev sUp : Str := "up"
abbrev sDown : Str := "down"
abbrev sPart : Str := "part"
abbrev sRest : Str := "rest"
abbrev sTable : Str := "table"
abbrev sAmong : Str := "among"
abbrev sSum : Str := "sum"
abbrev sGap : Str := "gap"
abbrev sMost : Str := "most"
/-- plain keys -/
inductive PK where
  | up (a : Int)
  | part (a d : Int)
  | rest (a d : Int)
  | table (a : Int) (t : List Int)
  | among (a : Int) (t : List Int)
  | sum (a b : Int)
  | gap (a b : Int)
  | most (a b : Int)
abbrev ti (t : List Int) : PyData := .tuple (t.map .int)
def PK.d : PK → PyData
  | up a => .tuple [.str sUp, .int a]
  | part a d => .tuple [.str sPart, .int a, .int d]
  | rest a d => .tuple [.str sRest, .int a, .int d]
  | table a t => .tuple [.str sTable, .int a, ti t]
  | among a t => .tuple [.str sAmong, .int a, ti t]
  | sum a b => .tuple [.str sSum, .int a, .int b]
  | gap a b => .tuple [.str sGap, .int a, .int b]
  | most a b => .tuple [.str sMost, .int a, .int b]
inductive Ky where
  | pl (p : PK)
  | dn (p : PK)
def Ky.d : Ky → PyData
  | pl p => p.d
  | dn p => .tuple [.str sDown, p.d]
def pl3 (a : Int) : Prop := 0 ≤ a ∧ a < 3
def tOk (t : List Int) : Prop := t ≠ [] ∧ t.length ≤ 6 ∧ t.Nodup ∧ ∀ x ∈ t, 0 ≤ x ∧ x < 6
def prOk (a b : Int) : Prop := (a = 0 ∧ b = 1) ∨ (a = 0 ∧ b = 2) ∨ (a = 1 ∧ b = 2)
def PK.ok : PK → Prop
  | up a => pl3 a
  | part a d => pl3 a ∧ (d = 2 ∨ d = 3)
  | rest a d => pl3 a ∧ (d = 2 ∨ d = 3)
  | table a t => pl3 a ∧ tOk t
  | among a t => pl3 a ∧ tOk t ∧ t.Pairwise (· < ·)
  | sum a b => prOk a b
  | gap a b => prOk a b
  | most a b => prOk a b
def Ky.pk : Ky → PK
  | pl p => p
  | dn p => p
def Ky.ok (k : Ky) : Prop := k.pk.ok
/-- what a thing is -/
abbrev Th := Int × Int × Int
def Th.d (t : Th) : PyData := ti [t.1, t.2.1, t.2.2]
def Th.ok (t : Th) : Prop := (0 ≤ t.1 ∧ t.1 < 6) ∧ (0 ≤ t.2.1 ∧ t.2.1 < 6) ∧ (0 ≤ t.2.2 ∧ t.2.2 < 6)
def Th.at (t : Th) (i : Int) : Int := if i = 0 then t.1 else if i = 1 then t.2.1 else t.2.2
theorem memD_ints (x : Int) : ∀ t : List Int, memD (.int x) (t.map .int) = decide (x ∈ t)
  | [] => by simp [memD]
  | y :: t => by
    have ih := memD_ints x t
    unfold memD at ih ⊢
    rw [List.map_cons, List.any_cons, ih]
    by_cases h : x = y
    · subst h; simp [PyData.eqv]
    · simp [PyData.eqv, h, Ne.symm h]
theorem canLay_ints : ∀ t : List Int, PyData.canLayAll0 (t.map .int) = true
  | [] => by simp [PyData.canLayAll0]
  | y :: t => by simp [PyData.canLayAll0, PyData.canLay0, canLay_ints t]
theorem depthAll_ints : ∀ t : List Int, PyData.depthAll (t.map .int) ≤ 1
  | [] => by simp [PyData.depthAll]
  | y :: t => by
    have := depthAll_ints t
    simp [PyData.depthAll, PyData.depth]
    omega
theorem shp_ti (t : List Int) : shp (ti t) = true := by
  have := depthAll_ints t
  simp [shp, SeqAt.shaped, PyData.canLay0, PyData.depth, canLay_ints]
  omega
theorem dIn_ints (x : Int) (t : List Int) : dIn (.int x) (ti t) = some (.d (.bool (decide (x ∈ t)))) := by
  show (some (t.map PyData.int)).bind _ = _
  rw [Option.bind_some, shp_int, shp_ti, memD_ints]
  rfl
theorem dNotIn_ints (x : Int) (t : List Int) : dNotIn (.int x) (ti t) = some (.d (.bool (!decide (x ∈ t)))) := by
  show (some (t.map PyData.int)).bind _ = _
  rw [Option.bind_some, shp_int, shp_ti, memD_ints]
  rfl
theorem dAdd_int (i j : Int) : dAdd (.int i) (.int j) = some (.d (.int (i + j))) := rfl
theorem dSub_int (i j : Int) : dSub (.int i) (.int j) = some (.d (.int (i - j))) := rfl
theorem dAdd_tup (xs ys : List PyData) (h : xs.length + ys.length ≤ big) : dAdd (.tuple xs) (.tuple ys) = some (.d (.tuple (xs ++ ys))) := if_pos h
theorem dAdd_lst (xs ys : List PyData) (h : xs.length + ys.length ≤ big) : dAdd (.list xs) (.list ys) = some (.ol (xs ++ ys)) := if_pos h
theorem le_big {k : Nat} (h : k ≤ 1000000) : k ≤ big := Nat.le_trans h (by decide)
/-! sorted ints -/
def srtI (t : List Int) : List Int := t.mergeSort fun a b => decide (a ≤ b)
theorem srtI_perm (t : List Int) : (srtI t).Perm t := List.mergeSort_perm t _
theorem srtI_pw (t : List Int) : (srtI t).Pairwise (· ≤ ·) := by
  have h := List.pairwise_mergeSort (le := fun a b : Int => decide (a ≤ b)) (fun a b c h1 h2 => by simp at h1 h2 ⊢; omega) (fun a b => by simp; omega) t
  exact h.imp fun h => by simpa using h
theorem tOk.srt {t : List Int} (h : tOk t) : tOk (srtI t) ∧ (srtI t).Pairwise (· < ·) := by
  obtain ⟨h1, h2, h3, h4⟩ := h
  have p := srtI_perm t
  have nd : (srtI t).Nodup := p.nodup_iff.mpr h3
  refine ⟨⟨fun e => h1 ?_, by rw [p.length_eq]; exact h2, nd, fun x hx => h4 x (p.mem_iff.mp hx)⟩, ?_⟩
  · have := p.length_eq
    rw [e] at this
    exact List.length_eq_zero_iff.mp this.symm
  · exact (srtI_pw t).imp₂ (fun a b h1 h2 => by have : a ≠ b := h2; omega) nd
/-! draws of keys -/
theorem pick_ok (ns : List Int) (n : Nat) (hn : n < big) (xs : List PyData) (hx : xs ≠ []) : ∃ x ∈ xs, m__law_pick [Sc ns, .town, .d (.list xs)] n = some (.d x, n + 1) := by
  have hl : 0 < xs.length := List.length_pos_iff.mpr hx
  obtain ⟨r, h0, h1, h2⟩ := draw_ok ns n hn xs.length (by omega)
  have hr : r.toNat < xs.length := by omega
  refine ⟨xs[r.toNat], List.getElem_mem _, ?_⟩
  unfold m__law_pick b__law_pick
  simp -implicitDefEqProofs only [eVar_ap, dVar_ap, eC_ap, dOf_ap, eFrz_ap, eBin_ap, bTest_ap, bTru_ap, bAnd_ap, bOr_ap, bNot_ap, eIf_ap, eB_ap, eAnd_ap, eOr_ap, aNil_ap, aCons_ap, sNil_ap, sCons_ap, eTup_ap, eLst_ap, eCall_ap, eApp_ap, oNone_ap, oSome_ap, eSl_ap, sNil'_ap, sSeq_ap, sBrk_ap, sRet_ap, sRetN_ap, sRetO_ap, sDrop_ap, sIf_ap, sSet_ap, sApp_ap, sTown_ap, sExt_ap, sIns_ap, sSetIx_ap, sAsg_ap, sPar_ap, iOf_ap, iVal_ap, iRng1_ap, iRng2_ap, sFor_ap, eComp_ap, bYes_ap, frzAt_ap, eUn_ap, eNotD_ap, eOrD_ap, eChain_ap, eListRg1_ap, eIsa_ap, eMt_ap, iEnumV_ap, iEnumF_ap, iZipV_ap, iZipF_ap, eTLen_ap, iRng3D_ap, sEnd_ap, eSs_ap, sPar3_ap, xPop_ap, xTup1_ap, xCat_ap, sSetX_ap, sAppX_ap, sParO_ap, sForEI_ap, sForK_ap, eRep_ap, eDicK_ap, eDicT_ap, sPut_ap, eAlt_ap, sTry_ap, eGetD_ap, eLockI_ap, iKeyF_ap, sSetDef_ap, eTupVals_ap, sNst_ap, frzNAt_ap, sAppN_ap, sStN_ap, eListRg2_ap, runB_ap, gOne_ap, gMany_ap, dI_ap, yesC_ap, dCmp_int, setD, kill_nx, kill_rt, kill_bk, Option.bind_some, Option.map_some, Option.bind_none, Option.map_none, List.getElem?_cons_zero, List.getElem?_cons_succ, List.set_cons_zero, List.set_cons_succ, List.cons_append, List.nil_append, List.append_nil, List.replicate, List.length_cons, List.length_nil, Nat.reduceAdd, Nat.reduceSub, Nat.zero_add, wdat_no, wdat_d, wdat_town, wdat_ol, wdat_od, wfrz_no, wfrz_d, wfrz_town, wfrz_ol, wfrz_od, wval_no, wval_d, wval_town, wval_ol, wval_od, warg_no, warg_d, warg_town, warg_ol, warg_od, vals, gLen, gAbs, gMax2, gMin2, gInt, gTup, gList, wipeW, if_true, if_false, Bool.false_eq_true, Bool.not_true, Bool.not_false, reduceCtorEq, h2, dIx, atI_ok h0 hr]
end L2.Lv.Sh
namespace L2.Lv.Sh
open PySem PySem.Spec PyProof.Rows L2 L2.Lv
theorem rLt_t {i j : Int} (h : i < j) : rLt i j = true := decide_eq_true h
theorem rLt_f {i j : Int} (h : ¬ i < j) : rLt i j = false := decide_eq_false h
theorem ixT (xs : List PyData) (i : Int) (h : 0 ≤ i) (h2 : i.toNat < xs.length) : dIx (.tuple xs) (.int i) = some (.d xs[i.toNat]) := by
  show (atI _ _).map W.d = _
  rw [atI_ok h h2]; rfl
theorem rangeD_len (lo : Int) (n : Nat) : (rangeD lo n).length = n := by simp [rangeD]
theorem rng1_ok {j : Int} (h : 0 ≤ j) (h2 : j < 1000000) : rng1 (.int j) = some (rangeD 0 j.toNat) := by
  show (if _ then _ else _) = _
  rw [if_pos (by omega)]
end L2.Lv.Sh
namespace L2.Lv.Sh
open PySem PySem.Spec PyProof.Rows L2 L2.Lv
theorem shp_Up : shp (.str sUp) = true := by decide +kernel
theorem shp_Down : shp (.str sDown) = true := by decide +kernel
theorem shp_Part : shp (.str sPart) = true := by decide +kernel
theorem shp_Rest : shp (.str sRest) = true := by decide +kernel
theorem shp_Table : shp (.str sTable) = true := by decide +kernel
theorem shp_Among : shp (.str sAmong) = true := by decide +kernel
theorem shp_Sum : shp (.str sSum) = true := by decide +kernel
theorem shp_Gap : shp (.str sGap) = true := by decide +kernel
theorem shp_Most : shp (.str sMost) = true := by decide +kernel
theorem q_Up_Up : dEq (.str sUp) (.str sUp) = some (.d (.bool true)) := by rw [dEq_str shp_Up shp_Up]; rfl
theorem q_Up_Down : dEq (.str sUp) (.str sDown) = some (.d (.bool false)) := by rw [dEq_str shp_Up shp_Down]; rfl
theorem q_Up_Part : dEq (.str sUp) (.str sPart) = some (.d (.bool false)) := by rw [dEq_str shp_Up shp_Part]; rfl
theorem q_Up_Rest : dEq (.str sUp) (.str sRest) = some (.d (.bool false)) := by rw [dEq_str shp_Up shp_Rest]; rfl
theorem q_Up_Table : dEq (.str sUp) (.str sTable) = some (.d (.bool false)) := by rw [dEq_str shp_Up shp_Table]; rfl
theorem q_Up_Among : dEq (.str sUp) (.str sAmong) = some (.d (.bool false)) := by rw [dEq_str shp_Up shp_Among]; rfl
theorem q_Up_Sum : dEq (.str sUp) (.str sSum) = some (.d (.bool false)) := by rw [dEq_str shp_Up shp_Sum]; rfl
theorem q_Up_Gap : dEq (.str sUp) (.str sGap) = some (.d (.bool false)) := by rw [dEq_str shp_Up shp_Gap]; rfl
theorem q_Down_Up : dEq (.str sDown) (.str sUp) = some (.d (.bool false)) := by rw [dEq_str shp_Down shp_Up]; rfl
theorem q_Down_Down : dEq (.str sDown) (.str sDown) = some (.d (.bool true)) := by rw [dEq_str shp_Down shp_Down]; rfl
theorem q_Down_Part : dEq (.str sDown) (.str sPart) = some (.d (.bool false)) := by rw [dEq_str shp_Down shp_Part]; rfl
theorem q_Down_Rest : dEq (.str sDown) (.str sRest) = some (.d (.bool false)) := by rw [dEq_str shp_Down shp_Rest]; rfl
theorem q_Down_Table : dEq (.str sDown) (.str sTable) = some (.d (.bool false)) := by rw [dEq_str shp_Down shp_Table]; rfl
theorem q_Down_Among : dEq (.str sDown) (.str sAmong) = some (.d (.bool false)) := by rw [dEq_str shp_Down shp_Among]; rfl
theorem q_Down_Sum : dEq (.str sDown) (.str sSum) = some (.d (.bool false)) := by rw [dEq_str shp_Down shp_Sum]; rfl
theorem q_Down_Gap : dEq (.str sDown) (.str sGap) = some (.d (.bool false)) := by rw [dEq_str shp_Down shp_Gap]; rfl
theorem q_Part_Up : dEq (.str sPart) (.str sUp) = some (.d (.bool false)) := by rw [dEq_str shp_Part shp_Up]; rfl
theorem q_Part_Down : dEq (.str sPart) (.str sDown) = some (.d (.bool false)) := by rw [dEq_str shp_Part shp_Down]; rfl
theorem q_Part_Part : dEq (.str sPart) (.str sPart) = some (.d (.bool true)) := by rw [dEq_str shp_Part shp_Part]; rfl
theorem q_Part_Rest : dEq (.str sPart) (.str sRest) = some (.d (.bool false)) := by rw [dEq_str shp_Part shp_Rest]; rfl
theorem q_Part_Table : dEq (.str sPart) (.str sTable) = some (.d (.bool false)) := by rw [dEq_str shp_Part shp_Table]; rfl
theorem q_Part_Among : dEq (.str sPart) (.str sAmong) = some (.d (.bool false)) := by rw [dEq_str shp_Part shp_Among]; rfl
theorem q_Part_Sum : dEq (.str sPart) (.str sSum) = some (.d (.bool false)) := by rw [dEq_str shp_Part shp_Sum]; rfl
theorem q_Part_Gap : dEq (.str sPart) (.str sGap) = some (.d (.bool false)) := by rw [dEq_str shp_Part shp_Gap]; rfl
theorem q_Rest_Up : dEq (.str sRest) (.str sUp) = some (.d (.bool false)) := by rw [dEq_str shp_Rest shp_Up]; rfl
theorem q_Rest_Down : dEq (.str sRest) (.str sDown) = some (.d (.bool false)) := by rw [dEq_str shp_Rest shp_Down]; rfl
theorem q_Rest_Part : dEq (.str sRest) (.str sPart) = some (.d (.bool false)) := by rw [dEq_str shp_Rest shp_Part]; rfl
theorem q_Rest_Rest : dEq (.str sRest) (.str sRest) = some (.d (.bool true)) := by rw [dEq_str shp_Rest shp_Rest]; rfl
theorem q_Rest_Table : dEq (.str sRest) (.str sTable) = some (.d (.bool false)) := by rw [dEq_str shp_Rest shp_Table]; rfl
theorem q_Rest_Among : dEq (.str sRest) (.str sAmong) = some (.d (.bool false)) := by rw [dEq_str shp_Rest shp_Among]; rfl
theorem q_Rest_Sum : dEq (.str sRest) (.str sSum) = some (.d (.bool false)) := by rw [dEq_str shp_Rest shp_Sum]; rfl
theorem q_Rest_Gap : dEq (.str sRest) (.str sGap) = some (.d (.bool false)) := by rw [dEq_str shp_Rest shp_Gap]; rfl
theorem q_Table_Up : dEq (.str sTable) (.str sUp) = some (.d (.bool false)) := by rw [dEq_str shp_Table shp_Up]; rfl
theorem q_Table_Down : dEq (.str sTable) (.str sDown) = some (.d (.bool false)) := by rw [dEq_str shp_Table shp_Down]; rfl
theorem q_Table_Part : dEq (.str sTable) (.str sPart) = some (.d (.bool false)) := by rw [dEq_str shp_Table shp_Part]; rfl
theorem q_Table_Rest : dEq (.str sTable) (.str sRest) = some (.d (.bool false)) := by rw [dEq_str shp_Table shp_Rest]; rfl
theorem q_Table_Table : dEq (.str sTable) (.str sTable) = some (.d (.bool true)) := by rw [dEq_str shp_Table shp_Table]; rfl
theorem q_Table_Among : dEq (.str sTable) (.str sAmong) = some (.d (.bool false)) := by rw [dEq_str shp_Table shp_Among]; rfl
theorem q_Table_Sum : dEq (.str sTable) (.str sSum) = some (.d (.bool false)) := by rw [dEq_str shp_Table shp_Sum]; rfl
theorem q_Table_Gap : dEq (.str sTable) (.str sGap) = some (.d (.bool false)) := by rw [dEq_str shp_Table shp_Gap]; rfl
theorem q_Among_Up : dEq (.str sAmong) (.str sUp) = some (.d (.bool false)) := by rw [dEq_str shp_Among shp_Up]; rfl
theorem q_Among_Down : dEq (.str sAmong) (.str sDown) = some (.d (.bool false)) := by rw [dEq_str shp_Among shp_Down]; rfl
theorem q_Among_Part : dEq (.str sAmong) (.str sPart) = some (.d (.bool false)) := by rw [dEq_str shp_Among shp_Part]; rfl
theorem q_Among_Rest : dEq (.str sAmong) (.str sRest) = some (.d (.bool false)) := by rw [dEq_str shp_Among shp_Rest]; rfl
theorem q_Among_Table : dEq (.str sAmong) (.str sTable) = some (.d (.bool false)) := by rw [dEq_str shp_Among shp_Table]; rfl
theorem q_Among_Among : dEq (.str sAmong) (.str sAmong) = some (.d (.bool true)) := by rw [dEq_str shp_Among shp_Among]; rfl
theorem q_Among_Sum : dEq (.str sAmong) (.str sSum) = some (.d (.bool false)) := by rw [dEq_str shp_Among shp_Sum]; rfl
theorem q_Among_Gap : dEq (.str sAmong) (.str sGap) = some (.d (.bool false)) := by rw [dEq_str shp_Among shp_Gap]; rfl
theorem q_Sum_Up : dEq (.str sSum) (.str sUp) = some (.d (.bool false)) := by rw [dEq_str shp_Sum shp_Up]; rfl
theorem q_Sum_Down : dEq (.str sSum) (.str sDown) = some (.d (.bool false)) := by rw [dEq_str shp_Sum shp_Down]; rfl
theorem q_Sum_Part : dEq (.str sSum) (.str sPart) = some (.d (.bool false)) := by rw [dEq_str shp_Sum shp_Part]; rfl
theorem q_Sum_Rest : dEq (.str sSum) (.str sRest) = some (.d (.bool false)) := by rw [dEq_str shp_Sum shp_Rest]; rfl
theorem q_Sum_Table : dEq (.str sSum) (.str sTable) = some (.d (.bool false)) := by rw [dEq_str shp_Sum shp_Table]; rfl
theorem q_Sum_Among : dEq (.str sSum) (.str sAmong) = some (.d (.bool false)) := by rw [dEq_str shp_Sum shp_Among]; rfl
theorem q_Sum_Sum : dEq (.str sSum) (.str sSum) = some (.d (.bool true)) := by rw [dEq_str shp_Sum shp_Sum]; rfl
theorem q_Sum_Gap : dEq (.str sSum) (.str sGap) = some (.d (.bool false)) := by rw [dEq_str shp_Sum shp_Gap]; rfl
theorem q_Gap_Up : dEq (.str sGap) (.str sUp) = some (.d (.bool false)) := by rw [dEq_str shp_Gap shp_Up]; rfl
theorem q_Gap_Down : dEq (.str sGap) (.str sDown) = some (.d (.bool false)) := by rw [dEq_str shp_Gap shp_Down]; rfl
theorem q_Gap_Part : dEq (.str sGap) (.str sPart) = some (.d (.bool false)) := by rw [dEq_str shp_Gap shp_Part]; rfl
theorem q_Gap_Rest : dEq (.str sGap) (.str sRest) = some (.d (.bool false)) := by rw [dEq_str shp_Gap shp_Rest]; rfl
theorem q_Gap_Table : dEq (.str sGap) (.str sTable) = some (.d (.bool false)) := by rw [dEq_str shp_Gap shp_Table]; rfl
theorem q_Gap_Among : dEq (.str sGap) (.str sAmong) = some (.d (.bool false)) := by rw [dEq_str shp_Gap shp_Among]; rfl
theorem q_Gap_Sum : dEq (.str sGap) (.str sSum) = some (.d (.bool false)) := by rw [dEq_str shp_Gap shp_Sum]; rfl
theorem q_Gap_Gap : dEq (.str sGap) (.str sGap) = some (.d (.bool true)) := by rw [dEq_str shp_Gap shp_Gap]; rfl
theorem q_Most_Up : dEq (.str sMost) (.str sUp) = some (.d (.bool false)) := by rw [dEq_str shp_Most shp_Up]; rfl
theorem q_Most_Down : dEq (.str sMost) (.str sDown) = some (.d (.bool false)) := by rw [dEq_str shp_Most shp_Down]; rfl
theorem q_Most_Part : dEq (.str sMost) (.str sPart) = some (.d (.bool false)) := by rw [dEq_str shp_Most shp_Part]; rfl
theorem q_Most_Rest : dEq (.str sMost) (.str sRest) = some (.d (.bool false)) := by rw [dEq_str shp_Most shp_Rest]; rfl
theorem q_Most_Table : dEq (.str sMost) (.str sTable) = some (.d (.bool false)) := by rw [dEq_str shp_Most shp_Table]; rfl
theorem q_Most_Among : dEq (.str sMost) (.str sAmong) = some (.d (.bool false)) := by rw [dEq_str shp_Most shp_Among]; rfl
theorem q_Most_Sum : dEq (.str sMost) (.str sSum) = some (.d (.bool false)) := by rw [dEq_str shp_Most shp_Sum]; rfl
theorem q_Most_Gap : dEq (.str sMost) (.str sGap) = some (.d (.bool false)) := by rw [dEq_str shp_Most shp_Gap]; rfl

/-! comprehensions -/
end L2.Lv.Sh
namespace L2.Lv.Sh
open PySem PySem.Spec PyProof.Rows L2 L2.Lv
/-! what a key tells of a thing -/
def PK.worth (p : PK) (t : Th) : Int := match p with
  | up a => t.at a
  | part a d => t.at a / d
  | rest a d => t.at a % d
  | table a l => if t.at a ∈ l then (l.idxOf (t.at a) : Nat) else (l.length : Nat)
  | among a l => if t.at a ∈ l then 0 else 1
  | sum a b => t.at a + t.at b
  | gap a b => if t.at a - t.at b < 0 then -(t.at a - t.at b) else t.at a - t.at b
  | most a b => if t.at b > t.at a then t.at b else t.at a
def Ky.worth (k : Ky) (t : Th) : Int := match k with
  | pl p => p.worth t
  | dn p => 0 - p.worth t
theorem prOk.l {a b : Int} (h : prOk a b) : pl3 a ∧ pl3 b := by
  rcases h with ⟨rfl, rfl⟩ | ⟨rfl, rfl⟩ | ⟨rfl, rfl⟩ <;> simp [pl3]
theorem i0 (x : PyData) (xs : List PyData) : dIx (.tuple (x :: xs)) (.int 0) = some (.d x) := ixT (x :: xs) 0 (by decide) (by simp)
theorem i1 (x y : PyData) (xs : List PyData) : dIx (.tuple (x :: y :: xs)) (.int 1) = some (.d y) := ixT (x :: y :: xs) 1 (by decide) (by simp)
theorem i2 (x y z : PyData) : dIx (.tuple [x, y, z]) (.int 2) = some (.d z) := rfl

/-! rows -/
abbrev Rw := List Ky
def Rw.ok (r : Rw) : Prop := ∀ k ∈ r, k.ok
end L2.Lv.Sh
namespace L2.Lv.Sh
open PySem PySem.Spec PyProof.Rows L2 L2.Lv

/-- the first key that tells -/
def wrd : Rw → Th → Th → Int
  | [], _, _ => 0
  | k :: r, s, t => if k.worth s = k.worth t then wrd r s t else if k.worth s < k.worth t then -1 else 1
theorem wrd_anti (r : Rw) (s t : Th) : wrd r t s = 0 - wrd r s t := by
  induction r with
  | nil => rfl
  | cons k r ih =>
    simp only [wrd]
    by_cases e : k.worth s = k.worth t
    · rw [if_pos e.symm, if_pos e, ih]
    · rw [if_neg e, if_neg (Ne.symm e)]
      split <;> split <;> omega
theorem wrd_refl (r : Rw) (s : Th) : wrd r s s = 0 := by have := wrd_anti r s s; omega
/-- the order is one -/
theorem wrd_trans (r : Rw) (s t u : Th) (h1 : wrd r s t < 1) (h2 : wrd r t u < 1) : wrd r s u < 1 := by
  induction r with
  | nil => exact Int.one_pos
  | cons k r ih =>
    simp only [wrd] at h1 h2 ⊢
    by_cases e1 : k.worth s = k.worth t
    · by_cases e2 : k.worth t = k.worth u
      · rw [if_pos e1] at h1; rw [if_pos e2] at h2; rw [if_pos (e1.trans e2)]; exact ih h1 h2
      · rw [if_neg e2] at h2
        rw [e1, if_neg e2]
        exact h2
    · rw [if_neg e1] at h1
      split at h1
      · by_cases e2 : k.worth t = k.worth u
        · rw [← e2, if_neg e1, if_pos (by assumption)]; decide
        · rw [if_neg e2] at h2
          split at h2
          · rw [if_neg (by omega), if_pos (by omega)]; decide
          · omega
      · omega
/-! turned -/
def Ky.turn : Ky → Ky
  | pl p => dn p
  | dn p => pl p
end L2.Lv.Sh
namespace L2.Lv.Sh
open PySem PySem.Spec PyProof.Rows L2 L2.Lv
/-- plain data, of depth at most k, its tuples not too long -/
def nc : Nat → PyData → Bool
  | 0, _ => false
  | _ + 1, .none => true
  | _ + 1, .bool _ => true
  | _ + 1, .int _ => true
  | _ + 1, .str s => shp (.str s)
  | k + 1, .tuple xs => decide (xs.length ≤ 1000000) && xs.all (nc k)
  | _ + 1, _ => false
theorem nc_sm : ∀ (k : Nat) (x : PyData), nc k x = true → sm k x = true ∧ short k x = true
  | 0, _, h => by simp [nc] at h
  | k + 1, .none, _ => ⟨rfl, rfl⟩
  | k + 1, .bool _, _ => ⟨rfl, rfl⟩
  | k + 1, .int _, _ => ⟨rfl, rfl⟩
  | k + 1, .str _, h => ⟨h, rfl⟩
  | k + 1, .tuple xs, h => by
    simp [nc] at h
    constructor
    · simp [sm]; exact fun x hx => (nc_sm k x (h.2 x hx)).1
    · simp [short]; exact ⟨h.1, fun x hx => (nc_sm k x (h.2 x hx)).2⟩
  | k + 1, .list _, h => by simp [nc] at h
  | k + 1, .dict _, h => by simp [nc] at h
theorem nc_mono : ∀ (k : Nat) (x : PyData), nc k x = true → nc (k + 1) x = true
  | 0, _, h => by simp [nc] at h
  | k + 1, .none, _ => rfl
  | k + 1, .bool _, _ => rfl
  | k + 1, .int _, _ => rfl
  | k + 1, .str _, h => h
  | k + 1, .tuple xs, h => by
    simp [nc] at h
    show (decide _ && xs.all (nc (k + 1))) = true
    simp
    exact ⟨h.1, fun x hx => nc_mono k x (h.2 x hx)⟩
  | k + 1, .list _, h => by simp [nc] at h
  | k + 1, .dict _, h => by simp [nc] at h
theorem nc_le {j k : Nat} {x : PyData} (h : nc j x = true) (l : j ≤ k) : nc k x = true := by
  induction k with
  | zero => obtain rfl : j = 0 := by omega
            exact h
  | succ k ih =>
    by_cases e : j = k + 1
    · subst e; exact h
    · exact nc_mono k x (ih (by omega))
theorem same_ok {x : PyData} (h : nc 12 x = true) (n : Nat) : m__law_same [.d x, .d x] n = some (.d (.bool true), n) := same_refl 12 x n (nc_sm 12 x h).1 (nc_sm 12 x h).2
theorem nc_tup {k : Nat} {xs : List PyData} (hl : xs.length ≤ 1000000) (h : ∀ x ∈ xs, nc k x = true) : nc (k + 1) (.tuple xs) = true := by
  simp [nc]; exact ⟨hl, h⟩
/-! all things -/
def six : List Int := [0, 1, 2, 3, 4, 5]
end L2.Lv.Sh
namespace L2.Lv.Sh
open PySem PySem.Spec PyProof.Rows L2 L2.Lv
end L2.Lv.Sh
namespace L2.Lv.Sh
open PySem PySem.Spec PyProof.Rows L2 L2.Lv
/-! comprehensions over typed lists -/
theorem comp_mapA {α : Type} {g : Fg} {own : List Nat} {elt : Fe} {ρ : List W} {n : Nat} (enc f : α → PyData) : ∀ (xs : List α), (∀ x ∈ xs, ∃ ρ1, g (enc x) (wipeW ρ own) = some ρ1 ∧ elt ρ1 n = some (.d (f x), n)) →
    loopC g own bYes elt ρ (xs.map enc) n = some (xs.map f, n)
  | [], _ => rfl
  | x :: xs, h => by
    obtain ⟨ρ1, e1, e2⟩ := h x (List.mem_cons_self ..)
    rw [List.map_cons, loopC_cons]
    simp -implicitDefEqProofs only [eVar_ap, dVar_ap, eC_ap, dOf_ap, eFrz_ap, eBin_ap, bTest_ap, bTru_ap, bAnd_ap, bOr_ap, bNot_ap, eIf_ap, eB_ap, eAnd_ap, eOr_ap, aNil_ap, aCons_ap, sNil_ap, sCons_ap, eTup_ap, eLst_ap, eCall_ap, eApp_ap, oNone_ap, oSome_ap, eSl_ap, sNil'_ap, sSeq_ap, sBrk_ap, sRet_ap, sRetN_ap, sRetO_ap, sDrop_ap, sIf_ap, sSet_ap, sApp_ap, sTown_ap, sExt_ap, sIns_ap, sSetIx_ap, sAsg_ap, sPar_ap, iOf_ap, iVal_ap, iRng1_ap, iRng2_ap, sFor_ap, eComp_ap, bYes_ap, frzAt_ap, eUn_ap, eNotD_ap, eOrD_ap, eChain_ap, eListRg1_ap, eIsa_ap, eMt_ap, iEnumV_ap, iEnumF_ap, iZipV_ap, iZipF_ap, eTLen_ap, iRng3D_ap, sEnd_ap, eSs_ap, sPar3_ap, xPop_ap, xTup1_ap, xCat_ap, sSetX_ap, sAppX_ap, sParO_ap, sForEI_ap, sForK_ap, eRep_ap, eDicK_ap, eDicT_ap, sPut_ap, eAlt_ap, sTry_ap, eGetD_ap, eLockI_ap, iKeyF_ap, sSetDef_ap, eTupVals_ap, sNst_ap, frzNAt_ap, sAppN_ap, sStN_ap, eListRg2_ap, runB_ap, gOne_ap, gMany_ap, dI_ap, yesC_ap, dCmp_int, setD, kill_nx, kill_rt, kill_bk, Option.bind_some, Option.map_some, Option.bind_none, Option.map_none, List.getElem?_cons_zero, List.getElem?_cons_succ, List.set_cons_zero, List.set_cons_succ, List.cons_append, List.nil_append, List.append_nil, List.replicate, List.length_cons, List.length_nil, Nat.reduceAdd, Nat.reduceSub, Nat.zero_add, wdat_no, wdat_d, wdat_town, wdat_ol, wdat_od, wfrz_no, wfrz_d, wfrz_town, wfrz_ol, wfrz_od, wval_no, wval_d, wval_town, wval_ol, wval_od, warg_no, warg_d, warg_town, warg_ol, warg_od, vals, gLen, gAbs, gMax2, gMin2, gInt, gTup, gList, wipeW, if_true, if_false, Bool.false_eq_true, Bool.not_true, Bool.not_false, reduceCtorEq, e1, e2, comp_mapA enc f xs fun z hz => h z (List.mem_cons_of_mem _ hz), List.map_cons]
/-! lists of things -/
/-! orders of things -/
/-- p stands ahead of q, or is q -/
def rle (r : Rw) (p q : Nat × Th) : Prop := wrd r p.2 q.2 < 0 ∨ (wrd r p.2 q.2 = 0 ∧ p.1 ≤ q.1)
instance (r : Rw) (p q : Nat × Th) : Decidable (rle r p q) := inferInstanceAs (Decidable (_ ∨ _))
end L2.Lv.Sh
namespace L2.Lv.Sh
open PySem PySem.Spec PyProof.Rows L2 L2.Lv
/-! sorted by worths and place -/
def lx (X Y : List (Int ⊕ List Nat)) : Bool := lexLt itemOrd X Y
end L2.Lv.Sh
namespace L2.Lv.Sh
open PySem PySem.Spec PyProof.Rows L2 L2.Lv
/-! slices -/
theorem cutD_drop (xs : List PyData) (k : Nat) (h : k ≤ xs.length) : cutD xs (some (k : Int)) none = xs.drop k := by
  unfold cutD
  rw [HT.sIx_none, HT.sIx_nat, Nat.min_eq_left h, ← List.length_drop, List.take_length]
/-! the list by hand -/
def ins (r : Rw) (p : Nat × Th) (L : List (Nat × Th)) : List (Nat × Th) := L.takeWhile (fun q => decide (wrd r q.2 p.2 < 1)) ++ p :: L.dropWhile (fun q => decide (wrd r q.2 p.2 < 1))
end L2.Lv.Sh
namespace L2.Lv.Sh
open PySem PySem.Spec PyProof.Rows L2 L2.Lv
/-! runs -/
def rStep (r : Rw) (acc : List (List Th)) (t : Th) : List (List Th) := match acc.getLast? with
  | none => acc ++ [[t]]
  | some l => match l.getLast? with
    | none => acc ++ [[t]]
    | some u => if wrd r u t < 1 then acc.dropLast ++ [l ++ [t]] else acc ++ [[t]]
theorem rStep_nil (r : Rw) (t : Th) : rStep r [] t = [[t]] := rfl
theorem rStep_app (r : Rw) (A : List (List Th)) (B : List Th) (u t : Th) : rStep r (A ++ [B ++ [u]]) t = if wrd r u t < 1 then A ++ [B ++ [u] ++ [t]] else A ++ [B ++ [u]] ++ [[t]] := by
  unfold rStep
  simp
/-- what holds of the list so far -/
def rInv (acc : List (List Th)) (k : Nat) : Prop := acc.length + k ≤ 1000 ∧ ∀ l ∈ acc, l ≠ [] ∧ l.length + k ≤ 1000
theorem rInv.step {r : Rw} {acc : List (List Th)} {k : Nat} {t : Th} (h : rInv acc (k + 1)) : rInv (rStep r acc t) k := by
  obtain ⟨h1, h2⟩ := h
  rcases List.eq_nil_or_concat acc with rfl | ⟨A, l, rfl⟩
  · rw [rStep_nil]; exact ⟨by simp at h1 ⊢; omega, fun l hl => by simp at hl; subst hl; exact ⟨by simp, by simp at h1 ⊢; omega⟩⟩
  · obtain ⟨n1, n2⟩ := h2 l (by simp)
    rcases List.eq_nil_or_concat l with rfl | ⟨B, u, rfl⟩
    · exact absurd rfl n1
    · simp only [List.concat_eq_append] at *
      rw [rStep_app]
      split
      · refine ⟨by simp at h1 ⊢; omega, fun l hl => ?_⟩
        rcases List.mem_append.mp hl with hl | hl
        · obtain ⟨m1, m2⟩ := h2 l (List.mem_append_left _ hl); exact ⟨m1, by omega⟩
        · simp at hl; subst hl; exact ⟨by simp, by simp at n2 ⊢; omega⟩
      · refine ⟨by simp at h1 ⊢; omega, fun l hl => ?_⟩
        rcases List.mem_append.mp hl with hl | hl
        · obtain ⟨m1, m2⟩ := h2 l hl; exact ⟨m1, by omega⟩
        · simp at hl; subst hl; exact ⟨by simp, by simp at h1 ⊢; omega⟩
/-! crossings -/
end L2.Lv.Sh
namespace L2.Lv.Sh
open PySem PySem.Spec PyProof.Rows L2 L2.Lv
/-! in order -/
theorem cutD_tail (xs : List PyData) : cutD xs (some 1) none = xs.tail := by
  cases xs with
  | nil => rfl
  | cons x xs =>
    have := cutD_drop (x :: xs) 1 (by simp)
    simpa using this
theorem boolsOf_map {α : Type} (f : α → Bool) : ∀ l : List α, boolsOf (l.map fun x => .bool (f x)) = some (l.map f)
  | [] => rfl
  | x :: l => by
    show (boolsOf (l.map fun x => PyData.bool (f x))).map _ = _
    rw [boolsOf_map f l]; rfl
theorem gAll_map {α : Type} (f : α → Bool) (l : List α) : gAll [.list (l.map fun x => .bool (f x))] = some (.d (.bool (l.all f))) := by
  simp only [gAll, boolsOf_map, Option.map_some]
  congr 3
  rw [List.all_map]; rfl
end L2.Lv.Sh
namespace L2.Lv.Sh
open PySem PySem.Spec PyProof.Rows L2 L2.Lv
/-! places in a list in order -/
theorem wrd_lt0 {r : Rw} {a b t : Th} (h1 : wrd r a b < 1) (h2 : wrd r b t < 0) : wrd r a t < 0 := by
  have q := wrd_trans r t a b
  have a1 := wrd_anti r a t
  have a2 := wrd_anti r b t
  by_cases h : wrd r a t < 0
  · exact h
  · have := q (by omega) h1; omega
end L2.Lv.Sh
namespace L2.Lv.Sh
open PySem PySem.Spec PyProof.Rows L2 L2.Lv
/-! groups -/
def gStep (r : Rw) (acc : List (List Th)) (t : Th) : List (List Th) := match acc.getLast? with
  | none => acc ++ [[t]]
  | some l => match l.head? with
    | none => acc ++ [[t]]
    | some u => if wrd r u t = 0 then acc.dropLast ++ [l ++ [t]] else acc ++ [[t]]
theorem gStep_nil (r : Rw) (t : Th) : gStep r [] t = [[t]] := rfl
theorem gStep_app (r : Rw) (A : List (List Th)) (u : Th) (B : List Th) (t : Th) : gStep r (A ++ [u :: B]) t = if wrd r u t = 0 then A ++ [u :: (B ++ [t])] else A ++ [u :: B] ++ [[t]] := by
  unfold gStep
  simp
/-- what holds of the list so far -/
def gInv (acc : List (List Th)) (k : Nat) : Prop := acc.flatten.length + k ≤ 1000 ∧ ∀ l ∈ acc, l ≠ []
theorem gInv.len {acc : List (List Th)} {k : Nat} (h : gInv acc k) : acc.length + k ≤ 1000 := by
  obtain ⟨h1, h2⟩ := h
  have key : acc.length ≤ acc.flatten.length := by
    clear h1
    induction acc with
    | nil => exact Nat.le_refl _
    | cons l acc ih =>
      have := ih fun z hz => h2 z (List.mem_cons_of_mem _ hz)
      have h3 := List.length_pos_iff.mpr (h2 l (List.mem_cons_self ..))
      simp at this ⊢; omega
  omega
theorem gInv.at {acc : List (List Th)} {k : Nat} (h : gInv acc k) {l : List Th} (hl : l ∈ acc) : l.length + k ≤ 1000 := by
  have h1 := h.1
  have : l.length ≤ acc.flatten.length := by
    obtain ⟨A, B, rfl⟩ := List.append_of_mem hl
    simp; omega
  omega
theorem gStep_flat (r : Rw) (acc : List (List Th)) (t : Th) (h : ∀ l ∈ acc, l ≠ []) : (gStep r acc t).flatten = acc.flatten ++ [t] ∧ ∀ l ∈ gStep r acc t, l ≠ [] := by
  rcases List.eq_nil_or_concat acc with rfl | ⟨A, l, rfl⟩
  · exact ⟨rfl, fun l hl => by rw [gStep_nil] at hl; simp at hl; subst hl; simp⟩
  · simp only [List.concat_eq_append] at *
    cases l with
    | nil => exact absurd rfl (h [] (by simp))
    | cons u B =>
      rw [gStep_app]
      split
      · refine ⟨by simp, fun l hl => ?_⟩
        rcases List.mem_append.mp hl with hl | hl
        · exact h l (List.mem_append_left _ hl)
        · simp at hl; subst hl; simp
      · refine ⟨by simp, fun l hl => ?_⟩
        rcases List.mem_append.mp hl with hl | hl
        · exact h l hl
        · simp at hl; subst hl; simp
theorem gInv.step {r : Rw} {acc : List (List Th)} {k : Nat} {t : Th} (h : gInv acc (k + 1)) : gInv (gStep r acc t) k := by
  obtain ⟨h1, h2⟩ := h
  obtain ⟨f1, f2⟩ := gStep_flat r acc t h2
  exact ⟨by rw [f1]; simp at h1 ⊢; omega, f2⟩
/-! the best -/
/-! lists told -/
end L2.Lv.Sh
namespace L2.Lv.Sh
open PySem PySem.Spec PyProof.Rows L2 L2.Lv
end L2.Lv.Sh
namespace L2.Lv.Sh
open PySem PySem.Spec PyProof.Rows L2 L2.Lv
/-! the one list in order, by its classes -/
def eqv (r : Rw) (x : Th) (l : List Th) : List Th := l.filter fun y => wrd r x y == 0
def srted (r : Rw) (l : List Th) : Prop := l.Pairwise fun s t => wrd r s t < 1
/-- l is ts put in order, what is alike left as it stood -/
def Is (r : Rw) (l ts : List Th) : Prop := srted r l ∧ ∀ x, eqv r x l = eqv r x ts
/-! two lists led together -/
end L2.Lv.Sh
namespace L2.Lv.Sh
open PySem PySem.Spec PyProof.Rows L2 L2.Lv
/-! loops whose state is known -/
theorem sSeq_nx {g h : Fs} {ρ ρ' : List W} {n n' : Nat} (e : g ρ n = some (.nx ρ' n')) : sSeq g h ρ n = h ρ' n' := by rw [sSeq_ap, e]; rfl
theorem loopF_same {α : Type} {g : Fg} {body : Fs} {ρ : List W} {n : Nat} (enc : α → PyData) : ∀ (xs : List α), (∀ x ∈ xs, ∃ ρ1, g (enc x) ρ = some ρ1 ∧ body ρ1 n = some (.nx ρ n)) → loopF g body (xs.map enc) ρ n = some (.nx ρ n)
  | [], _ => rfl
  | x :: xs, h => by
    obtain ⟨ρ1, e1, e2⟩ := h x (List.mem_cons_self ..)
    rw [List.map_cons, loopF_cons]
    simp -implicitDefEqProofs only [eVar_ap, dVar_ap, eC_ap, dOf_ap, eFrz_ap, eBin_ap, bTest_ap, bTru_ap, bAnd_ap, bOr_ap, bNot_ap, eIf_ap, eB_ap, eAnd_ap, eOr_ap, aNil_ap, aCons_ap, sNil_ap, sCons_ap, eTup_ap, eLst_ap, eCall_ap, eApp_ap, oNone_ap, oSome_ap, eSl_ap, sNil'_ap, sSeq_ap, sBrk_ap, sRet_ap, sRetN_ap, sRetO_ap, sDrop_ap, sIf_ap, sSet_ap, sApp_ap, sTown_ap, sExt_ap, sIns_ap, sSetIx_ap, sAsg_ap, sPar_ap, iOf_ap, iVal_ap, iRng1_ap, iRng2_ap, sFor_ap, eComp_ap, bYes_ap, frzAt_ap, eUn_ap, eNotD_ap, eOrD_ap, eChain_ap, eListRg1_ap, eIsa_ap, eMt_ap, iEnumV_ap, iEnumF_ap, iZipV_ap, iZipF_ap, eTLen_ap, iRng3D_ap, sEnd_ap, eSs_ap, sPar3_ap, xPop_ap, xTup1_ap, xCat_ap, sSetX_ap, sAppX_ap, sParO_ap, sForEI_ap, sForK_ap, eRep_ap, eDicK_ap, eDicT_ap, sPut_ap, eAlt_ap, sTry_ap, eGetD_ap, eLockI_ap, iKeyF_ap, sSetDef_ap, eTupVals_ap, sNst_ap, frzNAt_ap, sAppN_ap, sStN_ap, eListRg2_ap, runB_ap, gOne_ap, gMany_ap, dI_ap, yesC_ap, dCmp_int, setD, kill_nx, kill_rt, kill_bk, Option.bind_some, Option.map_some, Option.bind_none, Option.map_none, List.getElem?_cons_zero, List.getElem?_cons_succ, List.set_cons_zero, List.set_cons_succ, List.cons_append, List.nil_append, List.append_nil, List.replicate, List.length_cons, List.length_nil, Nat.reduceAdd, Nat.reduceSub, Nat.zero_add, wdat_no, wdat_d, wdat_town, wdat_ol, wdat_od, wfrz_no, wfrz_d, wfrz_town, wfrz_ol, wfrz_od, wval_no, wval_d, wval_town, wval_ol, wval_od, warg_no, warg_d, warg_town, warg_ol, warg_od, vals, gLen, gAbs, gMax2, gMin2, gInt, gTup, gList, wipeW, if_true, if_false, Bool.false_eq_true, Bool.not_true, Bool.not_false, reduceCtorEq, e1, e2, loopF_same enc xs fun z hz => h z (List.mem_cons_of_mem _ hz)]
/-- the turns of a law -/
theorem loop_law {g : Fg} {body : Fs} {ρ : List W} (c : Nat) (h : ∀ (x : PyData) (n : Nat), n + c ≤ big → ∃ ρ1 n', g x ρ = some ρ1 ∧ body ρ1 n = some (.nx ρ n') ∧ n ≤ n' ∧ n' ≤ n + c) :
    ∀ (xs : List PyData) (n : Nat), n + c * xs.length ≤ big → ∃ n', loopF g body xs ρ n = some (.nx ρ n') ∧ n ≤ n' ∧ n' ≤ n + c * xs.length
  | [], n, _ => ⟨n, rfl, Nat.le_refl _, Nat.le_add_right _ _⟩
  | x :: xs, n, hn => by
    rw [List.length_cons, Nat.mul_succ] at hn
    obtain ⟨ρ1, n1, e1, e2, l1, l2⟩ := h x n (by omega)
    obtain ⟨n2, e3, l3, l4⟩ := loop_law c h xs n1 (by omega)
    refine ⟨n2, ?_, by omega, by rw [List.length_cons, Nat.mul_succ]; omega⟩
    rw [loopF_cons]
    simp -implicitDefEqProofs only [eVar_ap, dVar_ap, eC_ap, dOf_ap, eFrz_ap, eBin_ap, bTest_ap, bTru_ap, bAnd_ap, bOr_ap, bNot_ap, eIf_ap, eB_ap, eAnd_ap, eOr_ap, aNil_ap, aCons_ap, sNil_ap, sCons_ap, eTup_ap, eLst_ap, eCall_ap, eApp_ap, oNone_ap, oSome_ap, eSl_ap, sNil'_ap, sSeq_ap, sBrk_ap, sRet_ap, sRetN_ap, sRetO_ap, sDrop_ap, sIf_ap, sSet_ap, sApp_ap, sTown_ap, sExt_ap, sIns_ap, sSetIx_ap, sAsg_ap, sPar_ap, iOf_ap, iVal_ap, iRng1_ap, iRng2_ap, sFor_ap, eComp_ap, bYes_ap, frzAt_ap, eUn_ap, eNotD_ap, eOrD_ap, eChain_ap, eListRg1_ap, eIsa_ap, eMt_ap, iEnumV_ap, iEnumF_ap, iZipV_ap, iZipF_ap, eTLen_ap, iRng3D_ap, sEnd_ap, eSs_ap, sPar3_ap, xPop_ap, xTup1_ap, xCat_ap, sSetX_ap, sAppX_ap, sParO_ap, sForEI_ap, sForK_ap, eRep_ap, eDicK_ap, eDicT_ap, sPut_ap, eAlt_ap, sTry_ap, eGetD_ap, eLockI_ap, iKeyF_ap, sSetDef_ap, eTupVals_ap, sNst_ap, frzNAt_ap, sAppN_ap, sStN_ap, eListRg2_ap, runB_ap, gOne_ap, gMany_ap, dI_ap, yesC_ap, dCmp_int, setD, kill_nx, kill_rt, kill_bk, Option.bind_some, Option.map_some, Option.bind_none, Option.map_none, List.getElem?_cons_zero, List.getElem?_cons_succ, List.set_cons_zero, List.set_cons_succ, List.cons_append, List.nil_append, List.append_nil, List.replicate, List.length_cons, List.length_nil, Nat.reduceAdd, Nat.reduceSub, Nat.zero_add, wdat_no, wdat_d, wdat_town, wdat_ol, wdat_od, wfrz_no, wfrz_d, wfrz_town, wfrz_ol, wfrz_od, wval_no, wval_d, wval_town, wval_ol, wval_od, warg_no, warg_d, warg_town, warg_ol, warg_od, vals, gLen, gAbs, gMax2, gMin2, gInt, gTup, gList, wipeW, if_true, if_false, Bool.false_eq_true, Bool.not_true, Bool.not_false, reduceCtorEq, e1, e2, e3]
/-- comprehensions with draws, over what one likes -/
theorem comp_ranA {α β : Type} {g : Fg} {own : List Nat} {elt : Fe} {ρ : List W} (c : Nat) (enc : α → PyData) (f : β → PyData) (P : β → Prop) : ∀ (xs : List α) (n : Nat), n + c * xs.length ≤ big →
    (∀ x ∈ xs, ∀ m, m + c ≤ big → ∃ ρ1 b m', g (enc x) (wipeW ρ own) = some ρ1 ∧ elt ρ1 m = some (.d (f b), m') ∧ m ≤ m' ∧ m' ≤ m + c ∧ P b) →
    ∃ (ys : List β) (m : Nat), loopC g own bYes elt ρ (xs.map enc) n = some (ys.map f, m) ∧ ys.length = xs.length ∧ (∀ y ∈ ys, P y) ∧ n ≤ m ∧ m ≤ n + c * xs.length
  | [], n, _, _ => ⟨[], n, rfl, rfl, by simp, Nat.le_refl _, Nat.le_add_right _ _⟩
  | x :: xs, n, hn, h => by
    rw [List.length_cons, Nat.mul_succ] at hn
    obtain ⟨ρ1, y, m, e0, e1, l1, l2, hp⟩ := h x (List.mem_cons_self ..) n (by omega)
    obtain ⟨ys, m', e2, l3, hq, l4, l5⟩ := comp_ranA c enc f P xs m (by omega) fun z hz => h z (List.mem_cons_of_mem _ hz)
    refine ⟨y :: ys, m', ?_, by simp [l3], fun z hz => ?_, by omega, ?_⟩
    · rw [List.map_cons, loopC_cons]
      simp -implicitDefEqProofs only [eVar_ap, dVar_ap, eC_ap, dOf_ap, eFrz_ap, eBin_ap, bTest_ap, bTru_ap, bAnd_ap, bOr_ap, bNot_ap, eIf_ap, eB_ap, eAnd_ap, eOr_ap, aNil_ap, aCons_ap, sNil_ap, sCons_ap, eTup_ap, eLst_ap, eCall_ap, eApp_ap, oNone_ap, oSome_ap, eSl_ap, sNil'_ap, sSeq_ap, sBrk_ap, sRet_ap, sRetN_ap, sRetO_ap, sDrop_ap, sIf_ap, sSet_ap, sApp_ap, sTown_ap, sExt_ap, sIns_ap, sSetIx_ap, sAsg_ap, sPar_ap, iOf_ap, iVal_ap, iRng1_ap, iRng2_ap, sFor_ap, eComp_ap, bYes_ap, frzAt_ap, eUn_ap, eNotD_ap, eOrD_ap, eChain_ap, eListRg1_ap, eIsa_ap, eMt_ap, iEnumV_ap, iEnumF_ap, iZipV_ap, iZipF_ap, eTLen_ap, iRng3D_ap, sEnd_ap, eSs_ap, sPar3_ap, xPop_ap, xTup1_ap, xCat_ap, sSetX_ap, sAppX_ap, sParO_ap, sForEI_ap, sForK_ap, eRep_ap, eDicK_ap, eDicT_ap, sPut_ap, eAlt_ap, sTry_ap, eGetD_ap, eLockI_ap, iKeyF_ap, sSetDef_ap, eTupVals_ap, sNst_ap, frzNAt_ap, sAppN_ap, sStN_ap, eListRg2_ap, runB_ap, gOne_ap, gMany_ap, dI_ap, yesC_ap, dCmp_int, setD, kill_nx, kill_rt, kill_bk, Option.bind_some, Option.map_some, Option.bind_none, Option.map_none, List.getElem?_cons_zero, List.getElem?_cons_succ, List.set_cons_zero, List.set_cons_succ, List.cons_append, List.nil_append, List.append_nil, List.replicate, List.length_cons, List.length_nil, Nat.reduceAdd, Nat.reduceSub, Nat.zero_add, wdat_no, wdat_d, wdat_town, wdat_ol, wdat_od, wfrz_no, wfrz_d, wfrz_town, wfrz_ol, wfrz_od, wval_no, wval_d, wval_town, wval_ol, wval_od, warg_no, warg_d, warg_town, warg_ol, warg_od, vals, gLen, gAbs, gMax2, gMin2, gInt, gTup, gList, wipeW, if_true, if_false, Bool.false_eq_true, Bool.not_true, Bool.not_false, reduceCtorEq, e0, e1, e2, List.map_cons]
    · rcases List.mem_cons.mp hz with rfl | hz
      · exact hp
      · exact hq z hz
    · rw [List.length_cons, Nat.mul_succ]; omega
/-! merged -/
theorem cutD_drop1 (x : PyData) (xs : List PyData) : cutD (x :: xs) (some 1) none = xs := by
  have := cutD_drop (x :: xs) 1 (by simp)
  simpa using this
theorem dTru_bool (b : Bool) : dTru (.bool b) = some b := rfl
end L2.Lv.Sh
namespace L2.Lv.Sh
open PySem PySem.Spec PyProof.Rows L2 L2.Lv
/-! lists led together two and two -/
end L2.Lv.Sh
namespace L2.Lv.Sh
open PySem PySem.Spec PyProof.Rows L2 L2.Lv L2.Lv.Sh
/-! what the runs are -/
/-! by hand -/
end L2.Lv.Sh
namespace L2.Lv.Sh
open PySem PySem.Spec PyProof.Rows L2 L2.Lv
/-! what rows tell, put together -/
theorem wrd_le_lt {r : Rw} {a b c : Th} (h1 : wrd r a b < 1) (h2 : wrd r b c < 0) : wrd r a c < 0 := wrd_lt0 h1 h2
theorem wrd_lt_le {r : Rw} {a b c : Th} (h1 : wrd r a b < 0) (h2 : wrd r b c < 1) : wrd r a c < 0 := by
  have a1 := wrd_anti r a b
  have a2 := wrd_anti r b c
  have a3 := wrd_anti r a c
  have t := wrd_trans r b c a h2
  by_cases h : wrd r a c < 0
  · exact h
  · have := t (by omega)
    omega
theorem wrd_eq_trans {r : Rw} {a b c : Th} (h1 : wrd r a b = 0) (h2 : wrd r b c = 0) : wrd r a c = 0 := by
  have a1 := wrd_anti r a b
  have a2 := wrd_anti r b c
  have a3 := wrd_anti r a c
  have t1 := wrd_trans r a b c (by omega) (by omega)
  have t2 := wrd_trans r c b a (by omega) (by omega)
  omega
theorem wrd_sym {r : Rw} {a b : Th} (h : wrd r a b = 0) : wrd r b a = 0 := by have := wrd_anti r a b; omega
/-! groups -/
structure IsG (r : Rw) (G : List (List Th)) : Prop where
  eq : ∀ g ∈ G, ∀ a ∈ g, ∀ b ∈ g, wrd r a b = 0
  lt : G.Pairwise fun g h => ∀ a ∈ g, ∀ b ∈ h, wrd r a b < 0
  ne : ∀ g ∈ G, g ≠ []
theorem IsG.step {r : Rw} {acc : List (List Th)} {t : Th} (h : IsG r acc) (ht : ∀ a ∈ acc.flatten, wrd r a t < 1) : IsG r (gStep r acc t) := by
  rcases List.eq_nil_or_concat acc with rfl | ⟨A, l, rfl⟩
  · rw [gStep_nil]
    refine ⟨fun g hg a ha b hb => ?_, List.pairwise_singleton _ _, by simp⟩
    simp only [List.mem_singleton] at hg
    subst hg
    simp only [List.mem_singleton] at ha hb
    rw [ha, hb, wrd_refl]
  · simp only [List.concat_eq_append] at *
    cases l with
    | nil => exact absurd rfl (h.ne [] (by simp))
    | cons u B =>
      rw [gStep_app]
      have hu : wrd r u t < 1 := ht u (by simp)
      have hl := List.pairwise_append.mp h.lt
      have heq : ∀ a ∈ u :: B, wrd r a u = 0 := fun a ha => h.eq (u :: B) (by simp) a ha u (by simp)
      split
      · rename_i c
        have hat : ∀ a ∈ u :: B, wrd r a t = 0 := fun a ha => wrd_eq_trans (heq a ha) c
        refine ⟨fun g hg a ha b hb => ?_, List.pairwise_append.mpr ⟨hl.1, List.pairwise_singleton _ _, fun g hg k hk a ha b hb => ?_⟩, fun g hg => ?_⟩
        · rcases List.mem_append.mp hg with hg | hg
          · exact h.eq g (List.mem_append_left _ hg) a ha b hb
          · simp only [List.mem_singleton] at hg
            subst hg
            have ha : a ∈ (u :: B) ++ [t] := ha
            have hb : b ∈ (u :: B) ++ [t] := hb
            rcases List.mem_append.mp ha with ha | ha <;> rcases List.mem_append.mp hb with hb | hb
            · exact h.eq (u :: B) (by simp) a ha b hb
            · rw [List.mem_singleton.mp hb]; exact hat a ha
            · rw [List.mem_singleton.mp ha]; exact wrd_sym (hat b hb)
            · rw [List.mem_singleton.mp ha, List.mem_singleton.mp hb]; exact wrd_refl _ _
        · simp only [List.mem_singleton] at hk
          subst hk
          have hb : b ∈ (u :: B) ++ [t] := hb
          rcases List.mem_append.mp hb with hb | hb
          · exact hl.2.2 g hg (u :: B) (by simp) a ha b hb
          · simp only [List.mem_singleton] at hb; subst hb
            exact wrd_lt_le (hl.2.2 g hg (u :: B) (by simp) a ha u (by simp)) hu
        · rcases List.mem_append.mp hg with hg | hg
          · exact h.ne g (List.mem_append_left _ hg)
          · simp only [List.mem_singleton] at hg; subst hg; simp
      · rename_i c
        have hut : wrd r u t < 0 := by omega
        have hat : ∀ a ∈ u :: B, wrd r a t < 0 := fun a ha => wrd_le_lt (by have := heq a ha; omega) hut
        refine ⟨fun g hg a ha b hb => ?_, List.pairwise_append.mpr ⟨h.lt, List.pairwise_singleton _ _, fun g hg k hk a ha b hb => ?_⟩, fun g hg => ?_⟩
        · rcases List.mem_append.mp hg with hg | hg
          · exact h.eq g hg a ha b hb
          · simp only [List.mem_singleton] at hg; subst hg
            simp only [List.mem_singleton] at ha hb; subst ha hb; exact wrd_refl _ _
        · simp only [List.mem_singleton] at hk; subst hk
          simp only [List.mem_singleton] at hb; subst hb
          rcases List.mem_append.mp hg with hg | hg
          · exact wrd_lt_le (hl.2.2 g hg (u :: B) (by simp) a ha u (by simp)) hu
          · simp only [List.mem_singleton] at hg; subst hg; exact hat a ha
        · rcases List.mem_append.mp hg with hg | hg
          · exact h.ne g hg
          · simp only [List.mem_singleton] at hg; subst hg; simp
theorem IsG.tail {r : Rw} {g : List Th} {G : List (List Th)} (h : IsG r (g :: G)) : IsG r G := ⟨fun k hk => h.eq k (List.mem_cons_of_mem _ hk), (List.pairwise_cons.mp h.lt).2, fun k hk => h.ne k (List.mem_cons_of_mem _ hk)⟩
theorem IsG.srt {r : Rw} : ∀ {G : List (List Th)}, IsG r G → srted r G.flatten
  | [], _ => List.Pairwise.nil
  | g :: G, h => by
    rw [List.flatten_cons]
    refine List.pairwise_append.mpr ⟨?_, h.tail.srt, fun a ha b hb => ?_⟩
    · rw [List.pairwise_iff_getElem]
      intro i j hi hj _
      have := h.eq g (by simp) g[i] (List.getElem_mem _) g[j] (List.getElem_mem _)
      omega
    · obtain ⟨m, h1, h2⟩ := List.mem_flatten.mp hb
      have := (List.pairwise_cons.mp h.lt).1 m h1 a ha b h2
      omega
/-! crossings, pairs not told apart -/
def tri : Nat → Nat
  | 0 => 0
  | n + 1 => tri n + n
/-! the best -/
/-! lists told go on -/
/-! places -/
end L2.Lv.Sh
namespace L2.Lv.Sh
open PySem PySem.Spec PyProof.Rows L2 L2.Lv
/-! plain data is like itself -/
mutual
theorem nc_self : ∀ (k : Nat) (x : PyData), nc k x = true → x.canLay0 = true ∧ x.depth ≤ k ∧ PyData.eqv x x = true
  | 0, _, h => by simp [nc] at h
  | k + 1, .none, _ => by simp [PyData.canLay0, PyData.depth, PyData.eqv]
  | k + 1, .bool b, _ => by simp [PyData.canLay0, PyData.depth, PyData.eqv]
  | k + 1, .int i, _ => by simp [PyData.canLay0, PyData.depth, PyData.eqv]
  | k + 1, .str s, h => by
    have h : shp (.str s) = true := h
    have := SeqAt.canLay_of_shaped h
    refine ⟨this, by simp [PyData.depth], by simp [PyData.eqv]⟩
  | k + 1, .tuple xs, h => by
    simp [nc] at h
    obtain ⟨h1, h2, h3⟩ := nc_selfAll k xs h.2
    exact ⟨by simpa [PyData.canLay0] using h1, by simp [PyData.depth]; omega, by simpa [PyData.eqv] using h3⟩
  | k + 1, .list _, h => by simp [nc] at h
  | k + 1, .dict _, h => by simp [nc] at h
theorem nc_selfAll : ∀ (k : Nat) (xs : List PyData), (∀ x ∈ xs, nc k x = true) → PyData.canLayAll0 xs = true ∧ PyData.depthAll xs ≤ k ∧ PyData.eqvAll xs xs = true
  | _, [], _ => by simp [PyData.canLayAll0, PyData.depthAll, PyData.eqvAll]
  | k, x :: xs, h => by
    obtain ⟨a1, a2, a3⟩ := nc_self k x (h x (List.mem_cons_self ..))
    obtain ⟨b1, b2, b3⟩ := nc_selfAll k xs fun z hz => h z (List.mem_cons_of_mem _ hz)
    refine ⟨by simp [PyData.canLayAll0, a1, b1], by simp [PyData.depthAll]; omega, by simp [PyData.eqvAll, a3, b3]⟩
end
theorem nc_shp {k : Nat} {x : PyData} (h : nc k x = true) (hk : k ≤ 60) : shp x = true := by
  obtain ⟨h1, h2, _⟩ := nc_self k x h
  simp only [shp, SeqAt.shaped, h1, Bool.true_and, decide_eq_true_eq]
  omega
/-! a tuple the other way round -/
end L2.Lv.Sh
namespace L2.Lv.Sh
open PySem PySem.Spec PyProof.Rows L2 L2.Lv
/-! orders put in one another -/
inductive Kd where
  | as | many | first | last
  deriving DecidableEq
abbrev kAs : Str := "as"
abbrev kMany : Str := "many"
abbrev kFirst : Str := "first"
abbrev kLast : Str := "last"
def Kd.s : Kd → Str
  | as => kAs
  | many => kMany
  | first => kFirst
  | last => kLast
theorem shp_as : shp (.str kAs) = true := by decide +kernel
theorem shp_many : shp (.str kMany) = true := by decide +kernel
theorem shp_first : shp (.str kFirst) = true := by decide +kernel
theorem shp_last : shp (.str kLast) = true := by decide +kernel
theorem Kd.shp (k : Kd) : L2.Lv.shp (.str k.s) = true := by
  cases k
  · exact shp_as
  · exact shp_many
  · exact shp_first
  · exact shp_last
/-! put in by kind -/
end L2.Lv.Sh
namespace L2.Lv.Sh
open PySem PySem.Spec PyProof.Rows L2 L2.Lv
/-! many lists led together -/
end L2.Lv.Sh
namespace L2.Lv.Sh
open PySem PySem.Spec PyProof.Rows L2 L2.Lv
/-! fronts -/
/-- one beats the other -/
def btT (R : List Rw) (a b : Th) : Bool := R.any (fun r => wrd r a b == -1) && R.all (fun r => !(wrd r a b == 1))
/-- the ones that none beats -/
def nb (R : List Rw) (L : List (Nat × Th)) (p : Nat × Th) : Bool := !(L.any fun o => btT R o.2 p.2)
end L2.Lv.Sh
namespace L2.Lv.Sh
open PySem PySem.Spec PyProof.Rows L2 L2.Lv
theorem ixN_ok {k : Nat} {z : Int} (h0 : 0 ≤ z) (h1 : z < k) : ixN k z = some z.toNat := by
  unfold ixN
  simp [h0]
  omega
def _root_.L2.Lv.Sh.PK.few : PK → Prop
  | .table _ t => t.length ≤ 4
  | .among _ t => t.length ≤ 4
  | _ => True
end L2.Lv.Sh
namespace L2.Lv.Sh
open PySem PySem.Spec PyProof.Rows L2 L2.Lv
/-! runs: between one and the next the order breaks -/
/-! crossings of two parts -/
/-! things sorted as they are -/
def thle (a b : Th) : Prop := a.1 < b.1 ∨ (a.1 = b.1 ∧ (a.2.1 < b.2.1 ∨ (a.2.1 = b.2.1 ∧ a.2.2 ≤ b.2.2)))
instance (a b : Th) : Decidable (thle a b) := inferInstanceAs (Decidable (_ ∨ _))
end L2.Lv.Sh
namespace L2.Lv.Sh
open PySem PySem.Spec PyProof.Rows L2 L2.Lv
end L2.Lv.Sh
namespace L2.Lv.Sh
open PySem PySem.Spec PyProof.Rows L2 L2.Lv
/-! layer by layer -/
/-! put in stably -/
end L2.Lv.Sh
namespace L2.Lv.Sh
open PySem PySem.Spec PyProof.Rows L2 L2.Lv
/-! loops that come back with the first one found -/
theorem loopF_find {α : Type} {g : Fg} {body : Fs} {ρ : List W} {n : Nat} (enc : α → PyData) (ret : α → Option W) : ∀ xs : List α, (∀ x ∈ xs, ∃ ρ1, g (enc x) ρ = some ρ1 ∧ body ρ1 n = some (match ret x with | some w => .rt w n | none => .nx ρ n)) →
    loopF g body (xs.map enc) ρ n = some (match xs.findSome? ret with | some w => .rt w n | none => .nx ρ n)
  | [], _ => rfl
  | x :: xs, h => by
    obtain ⟨ρ1, e1, e2⟩ := h x (List.mem_cons_self ..)
    have ih := loopF_find enc ret xs fun z hz => h z (List.mem_cons_of_mem _ hz)
    rw [List.map_cons, loopF_cons, List.findSome?_cons]
    cases hr : ret x with
    | some w => rw [hr] at e2; simp -implicitDefEqProofs only [eVar_ap, dVar_ap, eC_ap, dOf_ap, eFrz_ap, eBin_ap, bTest_ap, bTru_ap, bAnd_ap, bOr_ap, bNot_ap, eIf_ap, eB_ap, eAnd_ap, eOr_ap, aNil_ap, aCons_ap, sNil_ap, sCons_ap, eTup_ap, eLst_ap, eCall_ap, eApp_ap, oNone_ap, oSome_ap, eSl_ap, sNil'_ap, sSeq_ap, sBrk_ap, sRet_ap, sRetN_ap, sRetO_ap, sDrop_ap, sIf_ap, sSet_ap, sApp_ap, sTown_ap, sExt_ap, sIns_ap, sSetIx_ap, sAsg_ap, sPar_ap, iOf_ap, iVal_ap, iRng1_ap, iRng2_ap, sFor_ap, eComp_ap, bYes_ap, frzAt_ap, eUn_ap, eNotD_ap, eOrD_ap, eChain_ap, eListRg1_ap, eIsa_ap, eMt_ap, iEnumV_ap, iEnumF_ap, iZipV_ap, iZipF_ap, eTLen_ap, iRng3D_ap, sEnd_ap, eSs_ap, sPar3_ap, xPop_ap, xTup1_ap, xCat_ap, sSetX_ap, sAppX_ap, sParO_ap, sForEI_ap, sForK_ap, eRep_ap, eDicK_ap, eDicT_ap, sPut_ap, eAlt_ap, sTry_ap, eGetD_ap, eLockI_ap, iKeyF_ap, sSetDef_ap, eTupVals_ap, sNst_ap, frzNAt_ap, sAppN_ap, sStN_ap, eListRg2_ap, runB_ap, gOne_ap, gMany_ap, dI_ap, yesC_ap, dCmp_int, setD, kill_nx, kill_rt, kill_bk, Option.bind_some, Option.map_some, Option.bind_none, Option.map_none, List.getElem?_cons_zero, List.getElem?_cons_succ, List.set_cons_zero, List.set_cons_succ, List.cons_append, List.nil_append, List.append_nil, List.replicate, List.length_cons, List.length_nil, Nat.reduceAdd, Nat.reduceSub, Nat.zero_add, wdat_no, wdat_d, wdat_town, wdat_ol, wdat_od, wfrz_no, wfrz_d, wfrz_town, wfrz_ol, wfrz_od, wval_no, wval_d, wval_town, wval_ol, wval_od, warg_no, warg_d, warg_town, warg_ol, warg_od, vals, gLen, gAbs, gMax2, gMin2, gInt, gTup, gList, wipeW, if_true, if_false, Bool.false_eq_true, Bool.not_true, Bool.not_false, reduceCtorEq, e1, e2]
    | none => rw [hr] at e2; simp -implicitDefEqProofs only [eVar_ap, dVar_ap, eC_ap, dOf_ap, eFrz_ap, eBin_ap, bTest_ap, bTru_ap, bAnd_ap, bOr_ap, bNot_ap, eIf_ap, eB_ap, eAnd_ap, eOr_ap, aNil_ap, aCons_ap, sNil_ap, sCons_ap, eTup_ap, eLst_ap, eCall_ap, eApp_ap, oNone_ap, oSome_ap, eSl_ap, sNil'_ap, sSeq_ap, sBrk_ap, sRet_ap, sRetN_ap, sRetO_ap, sDrop_ap, sIf_ap, sSet_ap, sApp_ap, sTown_ap, sExt_ap, sIns_ap, sSetIx_ap, sAsg_ap, sPar_ap, iOf_ap, iVal_ap, iRng1_ap, iRng2_ap, sFor_ap, eComp_ap, bYes_ap, frzAt_ap, eUn_ap, eNotD_ap, eOrD_ap, eChain_ap, eListRg1_ap, eIsa_ap, eMt_ap, iEnumV_ap, iEnumF_ap, iZipV_ap, iZipF_ap, eTLen_ap, iRng3D_ap, sEnd_ap, eSs_ap, sPar3_ap, xPop_ap, xTup1_ap, xCat_ap, sSetX_ap, sAppX_ap, sParO_ap, sForEI_ap, sForK_ap, eRep_ap, eDicK_ap, eDicT_ap, sPut_ap, eAlt_ap, sTry_ap, eGetD_ap, eLockI_ap, iKeyF_ap, sSetDef_ap, eTupVals_ap, sNst_ap, frzNAt_ap, sAppN_ap, sStN_ap, eListRg2_ap, runB_ap, gOne_ap, gMany_ap, dI_ap, yesC_ap, dCmp_int, setD, kill_nx, kill_rt, kill_bk, Option.bind_some, Option.map_some, Option.bind_none, Option.map_none, List.getElem?_cons_zero, List.getElem?_cons_succ, List.set_cons_zero, List.set_cons_succ, List.cons_append, List.nil_append, List.append_nil, List.replicate, List.length_cons, List.length_nil, Nat.reduceAdd, Nat.reduceSub, Nat.zero_add, wdat_no, wdat_d, wdat_town, wdat_ol, wdat_od, wfrz_no, wfrz_d, wfrz_town, wfrz_ol, wfrz_od, wval_no, wval_d, wval_town, wval_ol, wval_od, warg_no, warg_d, warg_town, warg_ol, warg_od, vals, gLen, gAbs, gMax2, gMin2, gInt, gTup, gList, wipeW, if_true, if_false, Bool.false_eq_true, Bool.not_true, Bool.not_false, reduceCtorEq, e1, e2, ih]
/-! tables -/
abbrev rwD (n : Nat) (g : Nat → Int) : PyData := .tuple ((List.range n).map fun j => .int (g j))
abbrev tbD (n : Nat) (f : Nat → Nat → Int) : PyData := .tuple ((List.range n).map fun i => rwD n (f i))
theorem rwIx {n : Nat} {g : Nat → Int} {j : Nat} (h : j < n) : dIx (rwD n g) (.int (j : Int)) = some (.d (.int (g j))) := by
  rw [ixT _ _ (by omega) (by simpa using h)]
  simp
theorem tbIx {n : Nat} {f : Nat → Nat → Int} {i : Nat} (h : i < n) : dIx (tbD n f) (.int (i : Int)) = some (.d (rwD n (f i))) := by
  rw [ixT _ _ (by omega) (by simpa using h)]
  simp
def oddB (f : Nat → Nat → Int) (i j : Nat) : Bool := !(f i j == 0 - f j i)
def chB (f : Nat → Nat → Int) (i j k : Nat) : Bool := decide (f i j < 1) && (decide (f j k < 1) && !(f i k == if f j k < f i j then f j k else f i j))
theorem odd_ok {n : Nat} {f : Nat → Nat → Int} {i j : Nat} (hi : i < n) (hj : j < n) (m : Nat) : m_is_odd [.d (tbD n f), .d (.int (i : Int)), .d (.int (j : Int))] m = some (.d (.bool (oddB f i j)), m) := by
  have x1 := tbIx (f := f) hi
  have x2 := rwIx (g := f i) hj
  have x3 := tbIx (f := f) hj
  have x4 := rwIx (g := f j) hi
  unfold m_is_odd b_is_odd
  simp -implicitDefEqProofs only [eVar_ap, dVar_ap, eC_ap, dOf_ap, eFrz_ap, eBin_ap, bTest_ap, bTru_ap, bAnd_ap, bOr_ap, bNot_ap, eIf_ap, eB_ap, eAnd_ap, eOr_ap, aNil_ap, aCons_ap, sNil_ap, sCons_ap, eTup_ap, eLst_ap, eCall_ap, eApp_ap, oNone_ap, oSome_ap, eSl_ap, sNil'_ap, sSeq_ap, sBrk_ap, sRet_ap, sRetN_ap, sRetO_ap, sDrop_ap, sIf_ap, sSet_ap, sApp_ap, sTown_ap, sExt_ap, sIns_ap, sSetIx_ap, sAsg_ap, sPar_ap, iOf_ap, iVal_ap, iRng1_ap, iRng2_ap, sFor_ap, eComp_ap, bYes_ap, frzAt_ap, eUn_ap, eNotD_ap, eOrD_ap, eChain_ap, eListRg1_ap, eIsa_ap, eMt_ap, iEnumV_ap, iEnumF_ap, iZipV_ap, iZipF_ap, eTLen_ap, iRng3D_ap, sEnd_ap, eSs_ap, sPar3_ap, xPop_ap, xTup1_ap, xCat_ap, sSetX_ap, sAppX_ap, sParO_ap, sForEI_ap, sForK_ap, eRep_ap, eDicK_ap, eDicT_ap, sPut_ap, eAlt_ap, sTry_ap, eGetD_ap, eLockI_ap, iKeyF_ap, sSetDef_ap, eTupVals_ap, sNst_ap, frzNAt_ap, sAppN_ap, sStN_ap, eListRg2_ap, runB_ap, gOne_ap, gMany_ap, dI_ap, yesC_ap, dCmp_int, setD, kill_nx, kill_rt, kill_bk, Option.bind_some, Option.map_some, Option.bind_none, Option.map_none, List.getElem?_cons_zero, List.getElem?_cons_succ, List.set_cons_zero, List.set_cons_succ, List.cons_append, List.nil_append, List.append_nil, List.replicate, List.length_cons, List.length_nil, Nat.reduceAdd, Nat.reduceSub, Nat.zero_add, wdat_no, wdat_d, wdat_town, wdat_ol, wdat_od, wfrz_no, wfrz_d, wfrz_town, wfrz_ol, wfrz_od, wval_no, wval_d, wval_town, wval_ol, wval_od, warg_no, warg_d, warg_town, warg_ol, warg_od, vals, gLen, gAbs, gMax2, gMin2, gInt, gTup, gList, wipeW, if_true, if_false, Bool.false_eq_true, Bool.not_true, Bool.not_false, reduceCtorEq, x1, x2, x3, x4, dSub_int, dNe_int]
  rfl
theorem chain_ok {n : Nat} {f : Nat → Nat → Int} {i j k : Nat} (hi : i < n) (hj : j < n) (hk : k < n) (m : Nat) : m_is_chain [.d (tbD n f), .d (.int (i : Int)), .d (.int (j : Int)), .d (.int (k : Int))] m = some (.d (.bool (chB f i j k)), m) := by
  have x1 := tbIx (f := f) hi
  have x2 := rwIx (g := f i) hj
  have x3 := tbIx (f := f) hj
  have x4 := rwIx (g := f j) hk
  have x5 := rwIx (g := f i) hk
  unfold m_is_chain b_is_chain chB
  by_cases c1 : f i j < 1
  · have b1 := rLt_t c1
    by_cases c2 : f j k < 1
    · have b2 := rLt_t c2
      simp -implicitDefEqProofs only [eVar_ap, dVar_ap, eC_ap, dOf_ap, eFrz_ap, eBin_ap, bTest_ap, bTru_ap, bAnd_ap, bOr_ap, bNot_ap, eIf_ap, eB_ap, eAnd_ap, eOr_ap, aNil_ap, aCons_ap, sNil_ap, sCons_ap, eTup_ap, eLst_ap, eCall_ap, eApp_ap, oNone_ap, oSome_ap, eSl_ap, sNil'_ap, sSeq_ap, sBrk_ap, sRet_ap, sRetN_ap, sRetO_ap, sDrop_ap, sIf_ap, sSet_ap, sApp_ap, sTown_ap, sExt_ap, sIns_ap, sSetIx_ap, sAsg_ap, sPar_ap, iOf_ap, iVal_ap, iRng1_ap, iRng2_ap, sFor_ap, eComp_ap, bYes_ap, frzAt_ap, eUn_ap, eNotD_ap, eOrD_ap, eChain_ap, eListRg1_ap, eIsa_ap, eMt_ap, iEnumV_ap, iEnumF_ap, iZipV_ap, iZipF_ap, eTLen_ap, iRng3D_ap, sEnd_ap, eSs_ap, sPar3_ap, xPop_ap, xTup1_ap, xCat_ap, sSetX_ap, sAppX_ap, sParO_ap, sForEI_ap, sForK_ap, eRep_ap, eDicK_ap, eDicT_ap, sPut_ap, eAlt_ap, sTry_ap, eGetD_ap, eLockI_ap, iKeyF_ap, sSetDef_ap, eTupVals_ap, sNst_ap, frzNAt_ap, sAppN_ap, sStN_ap, eListRg2_ap, runB_ap, gOne_ap, gMany_ap, dI_ap, yesC_ap, dCmp_int, setD, kill_nx, kill_rt, kill_bk, Option.bind_some, Option.map_some, Option.bind_none, Option.map_none, List.getElem?_cons_zero, List.getElem?_cons_succ, List.set_cons_zero, List.set_cons_succ, List.cons_append, List.nil_append, List.append_nil, List.replicate, List.length_cons, List.length_nil, Nat.reduceAdd, Nat.reduceSub, Nat.zero_add, wdat_no, wdat_d, wdat_town, wdat_ol, wdat_od, wfrz_no, wfrz_d, wfrz_town, wfrz_ol, wfrz_od, wval_no, wval_d, wval_town, wval_ol, wval_od, warg_no, warg_d, warg_town, warg_ol, warg_od, vals, gLen, gAbs, gMax2, gMin2, gInt, gTup, gList, wipeW, if_true, if_false, Bool.false_eq_true, Bool.not_true, Bool.not_false, reduceCtorEq, x1, x2, x3, x4, x5, b1, b2, dTru_bool, dNe_int, c1, c2, decide_true, Bool.true_and]
    · have b2 := rLt_f c2
      simp -implicitDefEqProofs only [eVar_ap, dVar_ap, eC_ap, dOf_ap, eFrz_ap, eBin_ap, bTest_ap, bTru_ap, bAnd_ap, bOr_ap, bNot_ap, eIf_ap, eB_ap, eAnd_ap, eOr_ap, aNil_ap, aCons_ap, sNil_ap, sCons_ap, eTup_ap, eLst_ap, eCall_ap, eApp_ap, oNone_ap, oSome_ap, eSl_ap, sNil'_ap, sSeq_ap, sBrk_ap, sRet_ap, sRetN_ap, sRetO_ap, sDrop_ap, sIf_ap, sSet_ap, sApp_ap, sTown_ap, sExt_ap, sIns_ap, sSetIx_ap, sAsg_ap, sPar_ap, iOf_ap, iVal_ap, iRng1_ap, iRng2_ap, sFor_ap, eComp_ap, bYes_ap, frzAt_ap, eUn_ap, eNotD_ap, eOrD_ap, eChain_ap, eListRg1_ap, eIsa_ap, eMt_ap, iEnumV_ap, iEnumF_ap, iZipV_ap, iZipF_ap, eTLen_ap, iRng3D_ap, sEnd_ap, eSs_ap, sPar3_ap, xPop_ap, xTup1_ap, xCat_ap, sSetX_ap, sAppX_ap, sParO_ap, sForEI_ap, sForK_ap, eRep_ap, eDicK_ap, eDicT_ap, sPut_ap, eAlt_ap, sTry_ap, eGetD_ap, eLockI_ap, iKeyF_ap, sSetDef_ap, eTupVals_ap, sNst_ap, frzNAt_ap, sAppN_ap, sStN_ap, eListRg2_ap, runB_ap, gOne_ap, gMany_ap, dI_ap, yesC_ap, dCmp_int, setD, kill_nx, kill_rt, kill_bk, Option.bind_some, Option.map_some, Option.bind_none, Option.map_none, List.getElem?_cons_zero, List.getElem?_cons_succ, List.set_cons_zero, List.set_cons_succ, List.cons_append, List.nil_append, List.append_nil, List.replicate, List.length_cons, List.length_nil, Nat.reduceAdd, Nat.reduceSub, Nat.zero_add, wdat_no, wdat_d, wdat_town, wdat_ol, wdat_od, wfrz_no, wfrz_d, wfrz_town, wfrz_ol, wfrz_od, wval_no, wval_d, wval_town, wval_ol, wval_od, warg_no, warg_d, warg_town, warg_ol, warg_od, vals, gLen, gAbs, gMax2, gMin2, gInt, gTup, gList, wipeW, if_true, if_false, Bool.false_eq_true, Bool.not_true, Bool.not_false, reduceCtorEq, x1, x2, x3, x4, b1, b2, dTru_bool, c1, c2, decide_true, decide_false, Bool.true_and, Bool.false_and]
  · have b1 := rLt_f c1
    simp -implicitDefEqProofs only [eVar_ap, dVar_ap, eC_ap, dOf_ap, eFrz_ap, eBin_ap, bTest_ap, bTru_ap, bAnd_ap, bOr_ap, bNot_ap, eIf_ap, eB_ap, eAnd_ap, eOr_ap, aNil_ap, aCons_ap, sNil_ap, sCons_ap, eTup_ap, eLst_ap, eCall_ap, eApp_ap, oNone_ap, oSome_ap, eSl_ap, sNil'_ap, sSeq_ap, sBrk_ap, sRet_ap, sRetN_ap, sRetO_ap, sDrop_ap, sIf_ap, sSet_ap, sApp_ap, sTown_ap, sExt_ap, sIns_ap, sSetIx_ap, sAsg_ap, sPar_ap, iOf_ap, iVal_ap, iRng1_ap, iRng2_ap, sFor_ap, eComp_ap, bYes_ap, frzAt_ap, eUn_ap, eNotD_ap, eOrD_ap, eChain_ap, eListRg1_ap, eIsa_ap, eMt_ap, iEnumV_ap, iEnumF_ap, iZipV_ap, iZipF_ap, eTLen_ap, iRng3D_ap, sEnd_ap, eSs_ap, sPar3_ap, xPop_ap, xTup1_ap, xCat_ap, sSetX_ap, sAppX_ap, sParO_ap, sForEI_ap, sForK_ap, eRep_ap, eDicK_ap, eDicT_ap, sPut_ap, eAlt_ap, sTry_ap, eGetD_ap, eLockI_ap, iKeyF_ap, sSetDef_ap, eTupVals_ap, sNst_ap, frzNAt_ap, sAppN_ap, sStN_ap, eListRg2_ap, runB_ap, gOne_ap, gMany_ap, dI_ap, yesC_ap, dCmp_int, setD, kill_nx, kill_rt, kill_bk, Option.bind_some, Option.map_some, Option.bind_none, Option.map_none, List.getElem?_cons_zero, List.getElem?_cons_succ, List.set_cons_zero, List.set_cons_succ, List.cons_append, List.nil_append, List.append_nil, List.replicate, List.length_cons, List.length_nil, Nat.reduceAdd, Nat.reduceSub, Nat.zero_add, wdat_no, wdat_d, wdat_town, wdat_ol, wdat_od, wfrz_no, wfrz_d, wfrz_town, wfrz_ol, wfrz_od, wval_no, wval_d, wval_town, wval_ol, wval_od, warg_no, warg_d, warg_town, warg_ol, warg_od, vals, gLen, gAbs, gMax2, gMin2, gInt, gTup, gList, wipeW, if_true, if_false, Bool.false_eq_true, Bool.not_true, Bool.not_false, reduceCtorEq, x1, x2, x3, x4, b1, dTru_bool, c1, decide_false, Bool.false_and]
end L2.Lv.Sh
namespace L2.Lv.Sh
open PySem PySem.Spec PyProof.Rows L2 L2.Lv
/-- a table that tells an order -/
structure OrdB (n : Nat) (f : Nat → Nat → Int) : Prop where
  anti : ∀ i j, i < n → j < n → f i j = 0 - f j i
  ch : ∀ i j k, i < n → j < n → k < n → f i j < 1 → f j k < 1 → f i k = if f j k < f i j then f j k else f i j
theorem fil_mono {α : Type} {p q : α → Bool} : ∀ (l : List α), (∀ x ∈ l, p x = true → q x = true) → (l.filter p).length ≤ (l.filter q).length ∧ ((∃ x ∈ l, q x = true ∧ p x = false) → (l.filter p).length < (l.filter q).length)
  | [], _ => ⟨Nat.le_refl _, fun ⟨x, hx, _⟩ => by cases hx⟩
  | x :: l, h => by
    obtain ⟨h1, h2⟩ := fil_mono l fun y hy => h y (List.mem_cons_of_mem _ hy)
    have hx := h x (List.mem_cons_self ..)
    rw [List.filter_cons, List.filter_cons]
    cases hp : p x with
    | true =>
      rw [hx hp]
      simp only [if_true, List.length_cons]
      refine ⟨by omega, fun ⟨y, hy, a, b⟩ => ?_⟩
      rcases List.mem_cons.mp hy with rfl | hy
      · rw [hp] at b; cases b
      · have := h2 ⟨y, hy, a, b⟩; omega
    | false =>
      cases hq : q x with
      | true =>
        simp only [if_true, Bool.false_eq_true, if_false, List.length_cons]
        exact ⟨by omega, fun _ => by omega⟩
      | false =>
        simp only [Bool.false_eq_true, if_false]
        refine ⟨h1, fun ⟨y, hy, a, b⟩ => ?_⟩
        rcases List.mem_cons.mp hy with rfl | hy
        · rw [hq] at a; cases a
        · exact h2 ⟨y, hy, a, b⟩
def cntT (n : Nat) (f : Nat → Nat → Int) (i : Nat) : Nat := ((List.range n).filter fun k => f i k == 1).length
theorem OrdB.eq {n : Nat} {f : Nat → Nat → Int} (h : OrdB n f) {i j : Nat} (hi : i < n) (hj : j < n) (e : f i j = 0) : cntT n f i = cntT n f j := by
  have a1 := h.anti i j hi hj
  have one : ∀ {a b : Nat}, a < n → b < n → f a b = 0 → ∀ k, k < n → f b k = 1 → f a k = 1 := fun {a b} ha hb e k hk q => by
    have a1 := h.anti a b ha hb
    have a3 := h.anti b k hb hk
    have a4 := h.anti a k ha hk
    have := h.ch k b a hk hb ha (by omega) (by omega)
    have : f k a = -1 := by rw [this]; split <;> omega
    omega
  have h1 := (fil_mono (p := fun k => f i k == 1) (q := fun k => f j k == 1) (List.range n) fun k hk q => by
    have := one hj hi (by omega) k (List.mem_range.mp hk) (by simpa using q)
    simpa using this).1
  have h2 := (fil_mono (p := fun k => f j k == 1) (q := fun k => f i k == 1) (List.range n) fun k hk q => by
    have := one hi hj e k (List.mem_range.mp hk) (by simpa using q)
    simpa using this).1
  exact Nat.le_antisymm h1 h2
/-- the words that a table may hold -/
def Wd (n : Nat) (f : Nat → Nat → Int) : Prop := ∀ i j, i < n → j < n → f i j = -1 ∨ f i j = 0 ∨ f i j = 1
end L2.Lv.Sh
namespace L2.Lv.Sh
open PySem PySem.Spec PyProof.Rows L2 L2.Lv
end L2.Lv.Sh
namespace L2.Lv.Sh
open PySem PySem.Spec PyProof.Rows L2 L2.Lv
/-! shapes of parts -/
theorem shp_iff (x : PyData) : shp x = true ↔ x.canLay0 = true ∧ x.depth ≤ 64 := by simp [shp, SeqAt.shaped]
theorem layAll_mem : ∀ xs : List PyData, PyData.canLayAll0 xs = true ↔ ∀ x ∈ xs, x.canLay0 = true
  | [] => by simp [PyData.canLayAll0]
  | x :: xs => by simp [PyData.canLayAll0, layAll_mem xs]
theorem depAll_mem (k : Nat) : ∀ xs : List PyData, PyData.depthAll xs ≤ k ↔ ∀ x ∈ xs, x.depth ≤ k
  | [] => by simp [PyData.depthAll]
  | x :: xs => by
    have ih := depAll_mem k xs
    simp [PyData.depthAll, ← ih]
    omega
theorem shp_mem {xs : List PyData} (h : shp (.tuple xs) = true) : ∀ x ∈ xs, shp x = true := by
  rw [shp_iff] at h
  simp only [PyData.canLay0, PyData.depth] at h
  intro x hx
  rw [shp_iff]
  exact ⟨(layAll_mem xs).mp h.1 x hx, (depAll_mem 64 xs).mp (by omega) x hx⟩
/-! whole numbers -/
def isW (a b : Int) : PyData → Bool
  | .int i => decide (a ≤ i) && decide (i ≤ b)
  | _ => false
theorem noD {x : PyData} (h : shp x = true) : ∀ kvs, x ≠ .dict kvs := by
  intro kvs e
  subst e
  rw [shp_iff] at h
  simp [PyData.canLay0] at h
theorem whole_any {x : PyData} (h : shp x = true) (a b : Int) (m : Nat) : m_is_whole [.d x, .d (.int a), .d (.int b)] m = some (.d (.bool (isW a b x)), m) := by
  cases x with
  | int z =>
    unfold m_is_whole b_is_whole
    have i1 : isa "int" (.int z) = true := rfl
    have i2 : isa "bool" (.int z) = false := rfl
    by_cases c1 : a ≤ z
    · have b1 : rLe a z = true := decide_eq_true c1
      by_cases c2 : z ≤ b
      · have b2 : rLe z b = true := decide_eq_true c2
        simp -implicitDefEqProofs only [eVar_ap, dVar_ap, eC_ap, dOf_ap, eFrz_ap, eBin_ap, bTest_ap, bTru_ap, bAnd_ap, bOr_ap, bNot_ap, eIf_ap, eB_ap, eAnd_ap, eOr_ap, aNil_ap, aCons_ap, sNil_ap, sCons_ap, eTup_ap, eLst_ap, eCall_ap, eApp_ap, oNone_ap, oSome_ap, eSl_ap, sNil'_ap, sSeq_ap, sBrk_ap, sRet_ap, sRetN_ap, sRetO_ap, sDrop_ap, sIf_ap, sSet_ap, sApp_ap, sTown_ap, sExt_ap, sIns_ap, sSetIx_ap, sAsg_ap, sPar_ap, iOf_ap, iVal_ap, iRng1_ap, iRng2_ap, sFor_ap, eComp_ap, bYes_ap, frzAt_ap, eUn_ap, eNotD_ap, eOrD_ap, eChain_ap, eListRg1_ap, eIsa_ap, eMt_ap, iEnumV_ap, iEnumF_ap, iZipV_ap, iZipF_ap, eTLen_ap, iRng3D_ap, sEnd_ap, eSs_ap, sPar3_ap, xPop_ap, xTup1_ap, xCat_ap, sSetX_ap, sAppX_ap, sParO_ap, sForEI_ap, sForK_ap, eRep_ap, eDicK_ap, eDicT_ap, sPut_ap, eAlt_ap, sTry_ap, eGetD_ap, eLockI_ap, iKeyF_ap, sSetDef_ap, eTupVals_ap, sNst_ap, frzNAt_ap, sAppN_ap, sStN_ap, eListRg2_ap, runB_ap, gOne_ap, gMany_ap, dI_ap, yesC_ap, dCmp_int, setD, kill_nx, kill_rt, kill_bk, Option.bind_some, Option.map_some, Option.bind_none, Option.map_none, List.getElem?_cons_zero, List.getElem?_cons_succ, List.set_cons_zero, List.set_cons_succ, List.cons_append, List.nil_append, List.append_nil, List.replicate, List.length_cons, List.length_nil, Nat.reduceAdd, Nat.reduceSub, Nat.zero_add, wdat_no, wdat_d, wdat_town, wdat_ol, wdat_od, wfrz_no, wfrz_d, wfrz_town, wfrz_ol, wfrz_od, wval_no, wval_d, wval_town, wval_ol, wval_od, warg_no, warg_d, warg_town, warg_ol, warg_od, vals, gLen, gAbs, gMax2, gMin2, gInt, gTup, gList, wipeW, if_true, if_false, Bool.false_eq_true, Bool.not_true, Bool.not_false, reduceCtorEq, i1, i2, dTru_bool, b1, b2, c1, c2, decide_true, Bool.and_self, isW]
      · have b2 : rLe z b = false := decide_eq_false c2
        simp -implicitDefEqProofs only [eVar_ap, dVar_ap, eC_ap, dOf_ap, eFrz_ap, eBin_ap, bTest_ap, bTru_ap, bAnd_ap, bOr_ap, bNot_ap, eIf_ap, eB_ap, eAnd_ap, eOr_ap, aNil_ap, aCons_ap, sNil_ap, sCons_ap, eTup_ap, eLst_ap, eCall_ap, eApp_ap, oNone_ap, oSome_ap, eSl_ap, sNil'_ap, sSeq_ap, sBrk_ap, sRet_ap, sRetN_ap, sRetO_ap, sDrop_ap, sIf_ap, sSet_ap, sApp_ap, sTown_ap, sExt_ap, sIns_ap, sSetIx_ap, sAsg_ap, sPar_ap, iOf_ap, iVal_ap, iRng1_ap, iRng2_ap, sFor_ap, eComp_ap, bYes_ap, frzAt_ap, eUn_ap, eNotD_ap, eOrD_ap, eChain_ap, eListRg1_ap, eIsa_ap, eMt_ap, iEnumV_ap, iEnumF_ap, iZipV_ap, iZipF_ap, eTLen_ap, iRng3D_ap, sEnd_ap, eSs_ap, sPar3_ap, xPop_ap, xTup1_ap, xCat_ap, sSetX_ap, sAppX_ap, sParO_ap, sForEI_ap, sForK_ap, eRep_ap, eDicK_ap, eDicT_ap, sPut_ap, eAlt_ap, sTry_ap, eGetD_ap, eLockI_ap, iKeyF_ap, sSetDef_ap, eTupVals_ap, sNst_ap, frzNAt_ap, sAppN_ap, sStN_ap, eListRg2_ap, runB_ap, gOne_ap, gMany_ap, dI_ap, yesC_ap, dCmp_int, setD, kill_nx, kill_rt, kill_bk, Option.bind_some, Option.map_some, Option.bind_none, Option.map_none, List.getElem?_cons_zero, List.getElem?_cons_succ, List.set_cons_zero, List.set_cons_succ, List.cons_append, List.nil_append, List.append_nil, List.replicate, List.length_cons, List.length_nil, Nat.reduceAdd, Nat.reduceSub, Nat.zero_add, wdat_no, wdat_d, wdat_town, wdat_ol, wdat_od, wfrz_no, wfrz_d, wfrz_town, wfrz_ol, wfrz_od, wval_no, wval_d, wval_town, wval_ol, wval_od, warg_no, warg_d, warg_town, warg_ol, warg_od, vals, gLen, gAbs, gMax2, gMin2, gInt, gTup, gList, wipeW, if_true, if_false, Bool.false_eq_true, Bool.not_true, Bool.not_false, reduceCtorEq, i1, i2, dTru_bool, b1, b2, c1, c2, decide_true, decide_false, Bool.and_false, isW]
    · have b1 : rLe a z = false := decide_eq_false c1
      simp -implicitDefEqProofs only [eVar_ap, dVar_ap, eC_ap, dOf_ap, eFrz_ap, eBin_ap, bTest_ap, bTru_ap, bAnd_ap, bOr_ap, bNot_ap, eIf_ap, eB_ap, eAnd_ap, eOr_ap, aNil_ap, aCons_ap, sNil_ap, sCons_ap, eTup_ap, eLst_ap, eCall_ap, eApp_ap, oNone_ap, oSome_ap, eSl_ap, sNil'_ap, sSeq_ap, sBrk_ap, sRet_ap, sRetN_ap, sRetO_ap, sDrop_ap, sIf_ap, sSet_ap, sApp_ap, sTown_ap, sExt_ap, sIns_ap, sSetIx_ap, sAsg_ap, sPar_ap, iOf_ap, iVal_ap, iRng1_ap, iRng2_ap, sFor_ap, eComp_ap, bYes_ap, frzAt_ap, eUn_ap, eNotD_ap, eOrD_ap, eChain_ap, eListRg1_ap, eIsa_ap, eMt_ap, iEnumV_ap, iEnumF_ap, iZipV_ap, iZipF_ap, eTLen_ap, iRng3D_ap, sEnd_ap, eSs_ap, sPar3_ap, xPop_ap, xTup1_ap, xCat_ap, sSetX_ap, sAppX_ap, sParO_ap, sForEI_ap, sForK_ap, eRep_ap, eDicK_ap, eDicT_ap, sPut_ap, eAlt_ap, sTry_ap, eGetD_ap, eLockI_ap, iKeyF_ap, sSetDef_ap, eTupVals_ap, sNst_ap, frzNAt_ap, sAppN_ap, sStN_ap, eListRg2_ap, runB_ap, gOne_ap, gMany_ap, dI_ap, yesC_ap, dCmp_int, setD, kill_nx, kill_rt, kill_bk, Option.bind_some, Option.map_some, Option.bind_none, Option.map_none, List.getElem?_cons_zero, List.getElem?_cons_succ, List.set_cons_zero, List.set_cons_succ, List.cons_append, List.nil_append, List.append_nil, List.replicate, List.length_cons, List.length_nil, Nat.reduceAdd, Nat.reduceSub, Nat.zero_add, wdat_no, wdat_d, wdat_town, wdat_ol, wdat_od, wfrz_no, wfrz_d, wfrz_town, wfrz_ol, wfrz_od, wval_no, wval_d, wval_town, wval_ol, wval_od, warg_no, warg_d, warg_town, warg_ol, warg_od, vals, gLen, gAbs, gMax2, gMin2, gInt, gTup, gList, wipeW, if_true, if_false, Bool.false_eq_true, Bool.not_true, Bool.not_false, reduceCtorEq, i1, i2, dTru_bool, b1, c1, decide_false, Bool.false_and, isW]
  | none => rfl
  | bool b => rfl
  | str s => rfl
  | list xs => rfl
  | tuple xs => rfl
  | dict kvs => exact absurd rfl (noD h kvs)
theorem comp_same {g : Fg} {own : List Nat} {elt : Fe} {ρ : List W} {n : Nat} (f : PyData → PyData) (xs : List PyData) (h : ∀ x ∈ xs, ∃ ρ1, g x (wipeW ρ own) = some ρ1 ∧ elt ρ1 n = some (.d (f x), n)) :
    loopC g own bYes elt ρ xs n = some (xs.map f, n) := by
  have := comp_mapA (g := g) (own := own) (elt := elt) (ρ := ρ) (n := n) id f xs h
  rwa [List.map_id] at this
/-! things -/
theorem len3 (xs : List PyData) (k : Nat) : dEq (.int (xs.length : Int)) (.int (k : Int)) = some (.d (.bool (xs.length == k))) := by
  rw [dEq_int]
  congr 3
  rw [Bool.eq_iff_iff, beq_iff_eq, beq_iff_eq]
  omega
/-! worths -/
/-! keys -/
def wd : PyData → Str → Bool
  | .str w, s => w == s
  | _, _ => false
theorem wd_eq {x : PyData} {s : Str} (h : shp x = true) (h2 : shp (.str s) = true) : dEq x (.str s) = some (.d (.bool (wd x s))) := by
  cases x with
  | str w => exact dEq_str h h2
  | dict kvs => exact absurd rfl (noD h kvs)
  | _ => simp [dEq, h, h2, PyData.eqv, wd]
theorem isW_int {a b : Int} {x : PyData} (h : isW a b x = true) : ∃ i : Int, x = .int i ∧ a ≤ i ∧ i ≤ b := by
  cases x with
  | int i => simp [isW] at h; exact ⟨i, rfl, h⟩
  | _ => simp [isW] at h
theorem i1t (xs : List PyData) : isa "tuple" (.tuple xs) = true := rfl
/-! keys and rows that are drawn are so -/
end L2.Lv.Sh
namespace L2.Lv.Sh
open PySem PySem.Spec PyProof.Rows L2 L2.Lv
/-! pairs of numbers -/
abbrev NN := Nat × Nat
def iN (k : Nat) : PyData := .int (k : Int)
def prN (p : NN) : PyData := .tuple [.int (p.1 : Int), .int (p.2 : Int)]
def nle (p q : NN) : Prop := p.1 < q.1 ∨ (p.1 = q.1 ∧ p.2 ≤ q.2)
def nlt (p q : NN) : Prop := p.1 < q.1 ∨ (p.1 = q.1 ∧ p.2 < q.2)
instance (p q : NN) : Decidable (nle p q) := inferInstanceAs (Decidable (_ ∨ _))
instance (p q : NN) : Decidable (nlt p q) := inferInstanceAs (Decidable (_ ∨ _))
theorem nlt_nodup {P : List NN} (h : P.Pairwise nlt) : P.Nodup := h.imp fun {a b} q e => by subst e; unfold nlt at q; omega
/-! behind -/
/-! no ring -/
theorem nodup6 {w : List Nat} (h : w.Nodup) (h6 : ∀ x ∈ w, x < 6) : w.length ≤ 6 := by
  have hp : w.Nodup → (∀ x ∈ w, x ∈ List.range 6) → w.length ≤ (List.range 6).length := fun a b => by
    have key : ∀ (l m : List Nat), l.Nodup → (∀ x ∈ l, x ∈ m) → l.length ≤ m.length := by
      intro l
      induction l with
      | nil => intro m _ _; exact Nat.zero_le _
      | cons x l ih =>
        intro m hn hs
        have hx := hs x (by simp)
        have hl := List.length_erase_of_mem hx
        have hp : 0 < m.length := List.length_pos_of_mem hx
        have := ih (m.erase x) (List.nodup_cons.mp hn).2 fun y hy => by
          refine (List.mem_erase_of_ne ?_).mpr (hs y (List.mem_cons_of_mem _ hy))
          intro e
          exact (List.nodup_cons.mp hn).1 (e ▸ hy)
        rw [List.length_cons]; omega
    exact key w _ a b
  have := hp h fun x hx => List.mem_range.mpr (h6 x hx)
  simpa using this
/-! all that follow -/
end L2.Lv.Sh
namespace L2.Lv.Sh
open PySem PySem.Spec PyProof.Rows L2 L2.Lv
/-! orders -/
end L2.Lv.Sh
namespace L2.Lv.Sh
open PySem PySem.Spec PyProof.Rows L2 L2.Lv
/-- those ahead of it -/
def ahd (P : List NN) (x : Nat) : List Nat := (P.filter fun p => p.2 == x).map (·.1)
def cnt (P : List NN) (x : Nat) : Nat := (ahd P x).length
/-! the least order -/
/-! heights -/
end L2.Lv.Sh
namespace L2.Lv.Sh
open PySem PySem.Spec PyProof.Rows L2 L2.Lv
/-! what is agreed, as a strict order -/
/-! layers by heights -/
/-! of one row -/
/-! places are an order -/
theorem map_range {α β : Type} (d : α) (g : α → β) (ts : List α) : ts.map g = (List.range ts.length).map fun i => g (ts.getD i d) := by
  apply List.ext_getElem?
  intro i
  rw [List.getElem?_map, List.getElem?_map]
  by_cases h : i < ts.length
  · rw [List.getElem?_range h, List.getElem?_eq_getElem h]
    simp [List.getD, List.getElem?_eq_getElem h]
  · rw [List.getElem?_eq_none (by omega), List.getElem?_eq_none (by rw [List.length_range]; omega)]
    rfl
theorem rw_nc {n : Nat} (hn : n ≤ 1000) (g : Nat → Int) : nc 2 (rwD n g) = true := nc_tup (k := 1) (by rw [List.length_map, List.length_range]; omega) fun x hx => by
  obtain ⟨i, _, rfl⟩ := List.mem_map.mp hx; rfl
end L2.Lv.Sh
namespace L2.Lv.Sh
open PySem PySem.Spec PyProof.Rows L2 L2.Lv
/-! what follows from pairs -/
inductive TC (P : List NN) : Nat → Nat → Prop
  | base {a b : Nat} : (a, b) ∈ P → TC P a b
  | step {a b c : Nat} : TC P a b → (b, c) ∈ P → TC P a c
theorem TC.trans {P : List NN} {a b c : Nat} (h : TC P a b) (g : TC P b c) : TC P a c := by
  induction g with
  | base q => exact .step h q
  | step _ q ih => exact .step ih q
theorem TC.mono {P Q : List NN} (h : ∀ p ∈ P, p ∈ Q) {a b : Nat} (t : TC P a b) : TC Q a b := by
  induction t with
  | base q => exact .base (h _ q)
  | step _ q ih => exact .step ih (h _ q)
/-- pairs of numbers below six, each once -/
structure Pr (P : List NN) : Prop where
  lt : ∀ p ∈ P, p.1 < 6 ∧ p.2 < 6
  nd : P.Nodup
theorem nodup_le : ∀ (l m : List Nat), l.Nodup → (∀ x ∈ l, x ∈ m) → l.length ≤ m.length
  | [], m, _, _ => Nat.zero_le _
  | x :: l, m, hn, hs => by
    have hx := hs x (by simp)
    have hl := List.length_erase_of_mem hx
    have hp : 0 < m.length := List.length_pos_of_mem hx
    have := nodup_le l (m.erase x) (List.nodup_cons.mp hn).2 fun y hy => by
      refine (List.mem_erase_of_ne ?_).mpr (hs y (List.mem_cons_of_mem _ hy))
      intro e
      exact (List.nodup_cons.mp hn).1 (e ▸ hy)
    rw [List.length_cons]; omega
theorem Pr.few {P : List NN} (h : Pr P) : P.length ≤ 36 := by
  have nd : (P.map fun p => 6 * p.1 + p.2).Nodup := by
    unfold List.Nodup
    rw [List.pairwise_map]
    refine List.Pairwise.imp_of_mem (fun {a b} ha hb ne e => ?_) h.nd
    have := h.lt a ha
    have := h.lt b hb
    refine ne ?_
    obtain ⟨a1, a2⟩ := a
    obtain ⟨b1, b2⟩ := b
    simp only [Prod.mk.injEq] at *
    omega
  have := nodup_le _ (List.range 36) nd fun x hx => by
    obtain ⟨p, hp, rfl⟩ := List.mem_map.mp hx
    have := h.lt p hp
    exact List.mem_range.mpr (by omega)
  simpa using this
theorem TC.lt {P : List NN} (h : Pr P) {a b : Nat} (t : TC P a b) : a < 6 ∧ b < 6 := by
  induction t with
  | base q => exact h.lt _ q
  | step _ q ih => exact ⟨ih.1, (h.lt _ q).2⟩
/-! adding up -/
/-- one step on -/
def Nx (P A A' : List NN) : Prop := ∀ a c, (a, c) ∈ A' ↔ (a, c) ∈ A ∨ ∃ b, (a, b) ∈ A ∧ (b, c) ∈ P
def Sat (P A : List NN) : Prop := ∀ a b c, (a, b) ∈ A → (b, c) ∈ P → (a, c) ∈ A
structure Within (P A : List NN) : Prop where
  low : ∀ p ∈ P, p ∈ A
  up : ∀ a b, (a, b) ∈ A → TC P a b
  nd : A.Nodup
theorem Within.pr {P A : List NN} (W : Within P A) (h : Pr P) : Pr A := ⟨fun p hp => (W.up p.1 p.2 hp).lt h, W.nd⟩
theorem Within.next {P A A' : List NN} (W : Within P A) (x : Nx P A A') (nd : A'.Nodup) : Within P A' := ⟨fun p hp => (x p.1 p.2).mpr (.inl (W.low p hp)), fun a b h => by
  rcases (x a b).mp h with h | ⟨c, h1, h2⟩
  · exact W.up a b h
  · exact .step (W.up a c h1) h2, nd⟩
theorem Within.tc {P A : List NN} (W : Within P A) (s : Sat P A) (a b : Nat) : (a, b) ∈ A ↔ TC P a b := ⟨W.up a b, fun t => by
  induction t with
  | base q => exact W.low _ q
  | step _ q ih => exact s _ _ _ ih q⟩
/-! closed -/
end L2.Lv.Sh
namespace L2.Lv.Sh
open PySem PySem.Spec PyProof.Rows L2 L2.Lv
/-! rings -/
def hdw (w : List Nat) : Nat := w.headD 0
def ls0 (w : List Nat) : Nat := w.getLastD 0
theorem ls0_snoc (i : List Nat) (l : Nat) : ls0 (i ++ [l]) = l := by simp [ls0]
theorem snoc_of {w : List Nat} (h : w ≠ []) : ∃ i, w = i ++ [ls0 w] := by
  have e := List.getLast?_eq_some_getLast h
  obtain ⟨i, hi⟩ := List.getLast?_eq_some_iff.mp e
  refine ⟨i, ?_⟩
  have g : ls0 w = w.getLast h := by
    unfold ls0
    rw [List.getLastD_eq_getLast?, e]; rfl
  rw [g]
  exact hi
def sc (P : List NN) (l : Nat) : List Nat := (P.filter fun q => q.1 == l).map (·.2)
theorem sc_mem {P : List NN} {l b : Nat} : b ∈ sc P l ↔ (l, b) ∈ P := by
  unfold sc
  rw [List.mem_map]
  constructor
  · rintro ⟨⟨a, c⟩, h, rfl⟩
    rw [List.mem_filter, beq_iff_eq] at h
    have e : a = l := h.2
    subst e
    exact h.1
  · intro h
    exact ⟨(l, b), List.mem_filter.mpr ⟨h, by simp⟩, rfl⟩
structure Wy (w : List Nat) : Prop where
  ne : w ≠ []
  nd : w.Nodup
  lt : ∀ x ∈ w, x < 6
theorem Wy.one {x : Nat} (h : x < 6) : Wy [x] := ⟨by simp, by simp, by simpa using h⟩
theorem Wy.len {w : List Nat} (h : Wy w) : w.length ≤ 6 := nodup6 h.nd h.lt
def rgP (r : List Nat → List (List Nat)) (w : List Nat) (b : Nat) : List (List Nat) := if b = hdw w then [w] else if hdw w < b ∧ b ∉ w then r (w ++ [b]) else []
def rgF (P : List NN) : Nat → List Nat → List (List Nat)
  | 0, _ => []
  | k + 1, w => (sc P (ls0 w)).flatMap (rgP (rgF P k) w)
/-! .. by hand -/
/-! .. the first one -/
/-- all rings, from 0 on -/
def allR (P : List NN) (m : Nat) : List (List Nat) := (List.range m).flatMap fun x => rgF P 10 [x]
end L2.Lv.Sh
namespace L2.Lv.Sh
open PySem PySem.Spec PyProof.Rows L2 L2.Lv
/-! the first ring is the least -/
def kt (w : List Nat) : List (Int ⊕ List Nat) := PySem.W.keyToksAll (w.map iN)
def nl (x y : List Nat) : Prop := lx (kt y) (kt x) = false
theorem rgF_pre (P : List NN) : ∀ (k : Nat) (w : List Nat), ∀ r ∈ rgF P k w, ∃ t, r = w ++ t
  | 0, _, _, h => by cases h
  | k + 1, w, r, h => by
    obtain ⟨b, _, h⟩ := List.mem_flatMap.mp h
    unfold rgP at h
    split at h
    · rw [List.mem_singleton.mp h]; exact ⟨[], by simp⟩
    · split at h
      · obtain ⟨t, e⟩ := rgF_pre P k (w ++ [b]) r h
        exact ⟨b :: t, by rw [e]; simp⟩
      · cases h
theorem rgP_pre {P : List NN} {k : Nat} {w : List Nat} {b : Nat} {r : List Nat} (h : r ∈ rgP (rgF P k) w b) : (b = hdw w ∧ r = w) ∨ (hdw w < b ∧ b ∉ w ∧ r ∈ rgF P k (w ++ [b]) ∧ ∃ t, r = w ++ b :: t) := by
  unfold rgP at h
  split at h
  · rename_i e; exact .inl ⟨e, List.mem_singleton.mp h⟩
  · split at h
    · rename_i c
      obtain ⟨t, e⟩ := rgF_pre P k (w ++ [b]) r h
      exact .inr ⟨c.1, c.2, h, t, by rw [e]; simp⟩
    · cases h
/-! ways along the pairs -/
def Pth (P : List NN) : List Nat → Prop
  | a :: b :: l => (a, b) ∈ P ∧ Pth P (b :: l)
  | _ => True
theorem pth_app {P : List NN} : ∀ (a : List Nat) (v : Nat) (c : List Nat), Pth P (a ++ v :: c) ↔ Pth P (a ++ [v]) ∧ Pth P (v :: c)
  | [], v, c => by simp [Pth]
  | [x], v, c => by simp [Pth]
  | x :: y :: a, v, c => by
    have ih := pth_app (P := P) (y :: a) v c
    show ((x, y) ∈ P ∧ Pth P (y :: a ++ v :: c)) ↔ ((x, y) ∈ P ∧ Pth P (y :: a ++ [v])) ∧ _
    rw [ih, and_assoc]
theorem pth_snoc {P : List NN} {w : List Nat} (h : w ≠ []) {b : Nat} (hp : Pth P w) (hb : (ls0 w, b) ∈ P) : Pth P (w ++ [b]) := by
  obtain ⟨i, e⟩ := snoc_of h
  generalize ls0 w = l at *
  subst e
  rw [List.append_assoc]
  exact (pth_app i l [b]).mpr ⟨hp, hb, trivial⟩
theorem hdw_app {w : List Nat} (h : w ≠ []) (t : List Nat) : hdw (w ++ t) = hdw w := by
  cases w with
  | nil => exact absurd rfl h
  | cons a w => rfl
/-- what is found is a ring -/
structure Rg (P : List NN) (w : List Nat) : Prop where
  ne : w ≠ []
  pth : Pth P w
  cl : (ls0 w, hdw w) ∈ P
  nd : w.Nodup
  lo : ∀ x ∈ w, hdw w ≤ x
theorem rgF_rg {P : List NN} : ∀ (k : Nat) (w : List Nat), w ≠ [] → Pth P w → w.Nodup → (∀ x ∈ w, hdw w ≤ x) → ∀ r ∈ rgF P k w, Rg P r
  | 0, _, _, _, _, _, _, h => by cases h
  | k + 1, w, ne, hp, nd, lo, r, h => by
    obtain ⟨b, hb, h⟩ := List.mem_flatMap.mp h
    have hb := sc_mem.mp hb
    rcases rgP_pre h with ⟨e1, e2⟩ | ⟨c1, c2, c3, _⟩
    · subst e2
      exact ⟨ne, hp, e1 ▸ hb, nd, lo⟩
    · refine rgF_rg k (w ++ [b]) (by simp) (pth_snoc ne hp hb) ?_ ?_ r c3
      · rw [List.nodup_append]
        exact ⟨nd, by simp, fun a ha c hc => by rw [List.mem_singleton.mp hc]; exact fun e => c2 (e ▸ ha)⟩
      · intro x hx
        rw [hdw_app ne]
        rcases List.mem_append.mp hx with hx | hx
        · exact lo x hx
        · rw [List.mem_singleton.mp hx]; omega
theorem allR_rg {P : List NN} {m : Nat} {r : List Nat} (h : r ∈ allR P m) : Rg P r := by
  obtain ⟨x, _, h⟩ := List.mem_flatMap.mp h
  exact rgF_rg 10 [x] (by simp) trivial (by simp) (fun y hy => by rw [List.mem_singleton.mp hy]; exact Nat.le_refl _) r h
/-- and each ring is found -/
theorem rgF_has {P : List NN} : ∀ (t w : List Nat) (k : Nat), w ≠ [] → Pth P (w ++ t) → (ls0 (w ++ t), hdw w) ∈ P → (w ++ t).Nodup → (∀ x ∈ t, hdw w < x) → t.length < k → w ++ t ∈ rgF P k w
  | _, _, 0, _, _, _, _, _, hk => by omega
  | [], w, k + 1, ne, _, hc, _, _, _ => by
    rw [List.append_nil] at hc ⊢
    exact List.mem_flatMap.mpr ⟨hdw w, sc_mem.mpr hc, by unfold rgP; rw [if_pos rfl]; simp⟩
  | b :: t, w, k + 1, ne, hp, hc, nd, lo, hk => by
    have e : w ++ b :: t = (w ++ [b]) ++ t := by simp
    rw [e] at hp hc nd ⊢
    have hb := lo b (by simp)
    have nb : b ∉ w := fun q => by
      rw [List.nodup_append] at nd
      have := (List.nodup_append.mp nd.1).2.2 b q b (by simp)
      exact this rfl
    have ih := rgF_has t (w ++ [b]) k (by simp) hp (by rw [hdw_app ne]; exact hc) nd (fun x hx => by rw [hdw_app ne]; exact lo x (List.mem_cons_of_mem _ hx)) (by simp at hk; omega)
    refine List.mem_flatMap.mpr ⟨b, sc_mem.mpr ?_, by unfold rgP; rw [if_neg (by omega), if_pos ⟨hb, nb⟩]; exact ih⟩
    obtain ⟨i, ei⟩ := snoc_of ne
    generalize ls0 w = l at *
    subst ei
    have e2 : (i ++ [l] ++ [b]) ++ t = i ++ l :: (b :: t) := by simp
    rw [e2, pth_app] at hp
    exact hp.2.1
/-- a ring follows itself -/
theorem pth_tc {P : List NN} : ∀ (w : List Nat), Pth P w → ∀ x ∈ w.tail, TC P (hdw w) x
  | [], _, x, hx => by cases hx
  | [_], _, x, hx => by cases hx
  | a :: b :: l, h, x, hx => by
    rcases List.mem_cons.mp (show x ∈ b :: l from hx) with rfl | hx
    · exact .base h.1
    · exact TC.trans (.base h.1) (pth_tc (b :: l) h.2 x hx)
theorem ls0_mem {w : List Nat} (h : w ≠ []) : ls0 w ∈ w := by
  obtain ⟨i, e⟩ := snoc_of h
  generalize ls0 w = l at *
  subst e
  simp
theorem closed_tc {P : List NN} {w : List Nat} (ne : w ≠ []) (hp : Pth P w) (hc : (ls0 w, hdw w) ∈ P) : TC P (hdw w) (hdw w) := by
  cases w with
  | nil => exact absurd rfl ne
  | cons a t =>
    rcases List.mem_cons.mp (ls0_mem ne) with e | e
    · have : hdw (a :: t) = a := rfl
      rw [this] at hc ⊢
      rw [e] at hc
      exact .base hc
    · exact .step (pth_tc (a :: t) hp _ e) hc
theorem tc_way {P : List NN} {a b : Nat} (t : TC P a b) : ∃ w, w ≠ [] ∧ hdw w = a ∧ Pth P w ∧ (ls0 w, b) ∈ P := by
  induction t with
  | base h => exact ⟨[a], by simp, rfl, trivial, h⟩
  | step _ h ih =>
    obtain ⟨w, h1, h2, h3, h4⟩ := ih
    exact ⟨w ++ [_], by simp, by rw [hdw_app h1]; exact h2, pth_snoc h1 h3 h4, by rw [ls0_snoc]; exact h⟩
theorem dup_split : ∀ (l : List Nat), ¬ l.Nodup → ∃ a v b c, l = a ++ v :: (b ++ v :: c)
  | [], h => absurd List.nodup_nil h
  | x :: l, h => by
    by_cases hx : x ∈ l
    · obtain ⟨b, c, e⟩ := List.append_of_mem hx
      exact ⟨[], x, b, c, by rw [e]; rfl⟩
    · obtain ⟨a, v, b, c, e⟩ := dup_split l fun n => h (List.nodup_cons.mpr ⟨hx, n⟩)
      exact ⟨x :: a, v, b, c, by rw [e]; rfl⟩
theorem ls0_app (a : List Nat) {c : List Nat} (h : c ≠ []) : ls0 (a ++ c) = ls0 c := by
  obtain ⟨i, e⟩ := snoc_of h
  generalize ls0 c = l at *
  subst e
  rw [← List.append_assoc, ls0_snoc]
theorem way_nd {P : List NN} : ∀ (k : Nat) (w : List Nat), w.length < k → w ≠ [] → Pth P w → ∃ w', w' ≠ [] ∧ hdw w' = hdw w ∧ ls0 w' = ls0 w ∧ Pth P w' ∧ w'.Nodup
  | 0, _, h, _, _ => by omega
  | k + 1, w, h, ne, hp => by
    by_cases nd : w.Nodup
    · exact ⟨w, ne, rfl, rfl, hp, nd⟩
    · obtain ⟨a, v, b, c, e⟩ := dup_split w nd
      subst e
      have h1 := (pth_app a v (b ++ v :: c)).mp hp
      have h2 := (pth_app (v :: b) v c).mp (by rw [List.cons_append]; exact h1.2)
      obtain ⟨w', q1, q2, q3, q4, q5⟩ := way_nd k (a ++ v :: c) (by simp at h ⊢; omega) (by simp) ((pth_app a v c).mpr ⟨h1.1, h2.2⟩)
      refine ⟨w', q1, ?_, ?_, q4, q5⟩
      · rw [q2]
        cases a with
        | nil => rfl
        | cons x a => rfl
      · rw [q3, ls0_app a (by simp), ls0_app a (by simp)]
        have : v :: (b ++ v :: c) = (v :: b) ++ v :: c := rfl
        rw [this, ls0_app (v :: b) (by simp)]
theorem least_of {p : Nat → Prop} : ∀ n, p n → ∃ k, p k ∧ ∀ j, j < k → ¬ p j := by
  intro n
  induction n using Nat.strongRecOn with
  | ind n ih =>
    intro h
    by_cases c : ∃ j, j < n ∧ p j
    · obtain ⟨j, hj, pj⟩ := c
      exact ih j hj pj
    · exact ⟨n, h, fun j hj pj => c ⟨j, hj, pj⟩⟩
theorem pth_all {P : List NN} : ∀ (w : List Nat), Pth P w → w ≠ [] → ∀ x ∈ w, x = ls0 w ∨ TC P x (ls0 w)
  | [], _, ne, _, _ => absurd rfl ne
  | [a], _, _, x, hx => .inl (List.mem_singleton.mp hx)
  | a :: b :: l, h, _, x, hx => by
    have ih := pth_all (b :: l) h.2 (by simp)
    have e : ls0 (a :: b :: l) = ls0 (b :: l) := ls0_app [a] (by simp)
    rw [e]
    rcases List.mem_cons.mp hx with rfl | hx
    · right
      rcases ih b (by simp) with q | q
      · rw [← q]; exact .base h.1
      · exact TC.trans (.base h.1) q
    · exact ih x hx
theorem ring_has {P : List NN} {m : Nat} (h6 : m ≤ 6) (hm : ∀ p ∈ P, p.1 < m ∧ p.2 < m) (hc : ∃ a, TC P a a) : allR P m ≠ [] := by
  obtain ⟨a, ha⟩ := hc
  obtain ⟨x, hx, mn⟩ := least_of (p := fun x => TC P x x) a ha
  obtain ⟨w, q1, q2, q3, q4⟩ := tc_way hx
  obtain ⟨w', p1, p2, p3, p4, p5⟩ := way_nd (w.length + 1) w (by omega) q1 q3
  rw [q2] at p2
  rw [← p3] at q4
  have lt : ∀ y ∈ w', y < m := fun y hy => by
    rcases pth_all w' p4 p1 y hy with e | t
    · rw [e]; exact (hm _ q4).1
    · cases t with
      | base h => exact (hm _ h).1
      | step t h =>
        clear h
        induction t with
        | base h => exact (hm _ h).1
        | step _ _ ih => exact ih
  have lo : ∀ y ∈ w', x ≤ y := fun y hy => by
    refine Classical.byContradiction fun c => mn y (by omega) ?_
    have t1 : TC P y x := by
      rcases pth_all w' p4 p1 y hy with e | t
      · rw [e]; exact .base q4
      · exact .step t q4
    cases w' with
    | nil => exact absurd rfl p1
    | cons z t =>
      have e : z = x := p2
      subst e
      rcases List.mem_cons.mp hy with e | hy
      · omega
      · exact TC.trans t1 (pth_tc (z :: t) p4 y hy)
  cases w' with
  | nil => exact absurd rfl p1
  | cons z t =>
    have e : z = x := p2
    subst e
    have l6 : (z :: t).length ≤ 6 := nodup6 p5 fun y hy => by have := lt y hy; omega
    have g := rgF_has t [z] 10 (by simp) p4 q4 p5 (fun y hy => by
      have := lo y (List.mem_cons_of_mem _ hy)
      have ne : y ≠ z := fun e => (List.nodup_cons.mp p5).1 (e ▸ hy)
      show z < y
      omega) (by simp at l6; omega)
    intro en
    have : (z :: t) ∈ allR P m := List.mem_flatMap.mpr ⟨z, List.mem_range.mpr (lt z (by simp)), g⟩
    rw [en] at this
    cases this
theorem no_ring {P : List NN} {m : Nat} (h6 : m ≤ 6) (hm : ∀ p ∈ P, p.1 < m ∧ p.2 < m) : allR P m = [] ↔ ∀ a, ¬ TC P a a := by
  constructor
  · intro e a t
    exact ring_has h6 hm ⟨a, t⟩ e
  · intro h
    refine List.eq_nil_iff_forall_not_mem.mpr fun r hr => ?_
    have R := allR_rg hr
    exact h _ (closed_tc R.ne R.pth R.cl)
end L2.Lv.Sh
set_option maxHeartbeats 1000000
namespace L2.Lv.Sh
open PySem PySem.Spec PyProof.Rows L2 L2.Lv
/-! dicts of pairs, 0 for each -/
def encZ (L : List NN) : List (PyData × PyData) := L.map fun p => (prN p, .int 0)
/-! what follows, by hand -/
/-! pairs are drawn -/
/-- pairs as they are drawn -/
structure Dp (m : Nat) (P : List NN) : Prop where
  pos : 0 < m
  six : m ≤ 6
  few : P.length ≤ 8
  lt : ∀ p ∈ P, p.1 < m ∧ p.2 < m
  ne : ∀ p ∈ P, p.1 ≠ p.2
  srt : P.Pairwise nlt
theorem Dp.pr {m : Nat} {P : List NN} (h : Dp m P) : Pr P := ⟨fun p hp => by have := h.lt p hp; have := h.six; omega, nlt_nodup h.srt⟩
end L2.Lv.Sh
set_option maxHeartbeats 1000000
namespace L2.Lv.Sh
open PySem PySem.Spec PyProof.Rows L2 L2.Lv
/-! pairs in lists of pairs; free pairs; bare pairs -/
/-! bare -/
end L2.Lv.Sh
set_option maxHeartbeats 1000000
namespace L2.Lv.Sh
open PySem PySem.Spec PyProof.Rows L2 L2.Lv
/-! pairs without rings: each number has its height -/
/-! .. refused where there is a ring -/
structure Ac (P : List NN) (m : Nat) : Prop where
  pr : Pr P
  srt : P.Pairwise nlt
  six : m ≤ 6
  lt : ∀ p ∈ P, p.1 < m ∧ p.2 < m
  no : ∀ a, ¬ TC P a a
theorem Ac.nil {P : List NN} {m : Nat} (A : Ac P m) : allR P m = [] := (no_ring A.six A.lt).mpr A.no
end L2.Lv.Sh
set_option maxHeartbeats 1000000
namespace L2.Lv.Sh
open PySem PySem.Spec PyProof.Rows L2 L2.Lv
/-! the first of all orders -/
/-! orders by hand -/
/-! heights by hand -/
/-! bare pairs -/
/-! a free pair stands either way -/
end L2.Lv.Sh
set_option maxHeartbeats 1000000
namespace L2.Lv.Sh
open PySem PySem.Spec PyProof.Rows L2 L2.Lv
/-! tuples put in order, each once -/
/-! dicts by tuples of ints -/
/-! the form of a row -/
/-! all things, by hand -/
/-! the form, by hand -/
/-! alike -/
end L2.Lv.Sh
set_option maxHeartbeats 1000000
namespace L2.Lv.Sh
open PySem PySem.Spec PyProof.Rows L2 L2.Lv
/-! rising places -/
/-! all choices, by hand -/
end L2.Lv.Sh
set_option maxHeartbeats 1000000
namespace L2.Lv.Sh
open PySem PySem.Spec PyProof.Rows L2 L2.Lv
/-! keys chosen, keys left out -/
/-! short rows -/
/-! the fewest keys -/
/-! rows drawn, keys near one another -/
end L2.Lv.Sh
set_option maxHeartbeats 1000000
namespace L2.Lv.Sh
open PySem PySem.Spec PyProof.Rows L2 L2.Lv
/-! forms and words -/
/-! how many pairs -/
/-! counts by a dict -/
end L2.Lv.Sh
set_option maxHeartbeats 1000000
namespace L2.Lv.Sh
open PySem PySem.Spec PyProof.Rows L2 L2.Lv
/-! the dict of counts -/
end L2.Lv.Sh
set_option maxHeartbeats 1000000
namespace L2.Lv.Sh
open PySem PySem.Spec PyProof.Rows L2 L2.Lv
/-! pairs that a key decides -/
/-! keys that are silent, or needless -/
/-! the same, pair by pair -/
end L2.Lv.Sh
set_option maxHeartbeats 1000000
namespace L2.Lv.Sh
open PySem PySem.Spec PyProof.Rows L2 L2.Lv
/-! what is short has no needless key -/
end L2.Lv.Sh
set_option maxHeartbeats 1000000
namespace L2.Lv.Sh
open PySem PySem.Spec PyProof.Rows L2 L2.Lv
/-! keys said again -/
/-! a silent key is needless -/
/-! the fewest -/
/-! choices, first by first -/
/-! tuples of places -/
end L2.Lv.Sh
set_option maxHeartbeats 1000000
namespace L2.Lv.Sh
open PySem PySem.Spec PyProof.Rows L2 L2.Lv
/-! pairs drawn, rising mostly -/
def Eq (ns : List Int) (m : Nat) (got : List NN) : List W := [Sc ns, .town, .d (.int (m : Int)), .od (markT :: encZ got), .no, .no, .no, .no]
/-! sorted(dict(..)) of what is sorted -/
end L2.Lv.Sh
set_option maxHeartbeats 1000000
namespace L2.Lv.Sh
open PySem PySem.Spec PyProof.Rows L2 L2.Lv
/-! orders: each keeps the pairs, they rise -/
/-! free ones and those that follow are all -/
end L2.Lv.Sh
namespace L2.Lv.Sh
open PySem PySem.Spec PyProof.Rows L2 L2.Lv
/-! rows found -/
def pk : List Ky := [.pl (.up 0), .pl (.up 1), .pl (.up 2), .dn (.up 0), .dn (.up 1), .dn (.up 2), .pl (.rest 0 2), .pl (.rest 1 2), .pl (.rest 2 2), .pl (.part 0 2), .pl (.part 1 2), .pl (.part 2 2), .pl (.sum 0 1), .pl (.sum 0 2), .pl (.sum 1 2)]
def neB (k k' : Ky) : Bool := !PyData.eqv k.d k'.d
def U : List Rw := pk.map (fun k => [k]) ++ pk.flatMap fun k => (pk.filter fun k' => neB k' k).map fun k' => [k, k']
/-! what a list agrees with -/
/-! rows of like orders: the first of each -/
end L2.Lv.Sh
namespace L2.Lv.Sh
open PySem PySem.Spec PyProof.Rows L2 L2.Lv
/-! tables by hand -/
def sgI (a b : Int) : Int := if a < b then -1 else if b < a then 1 else 0
theorem sgI_cases (a b : Int) : sgI a b = -1 ∨ sgI a b = 0 ∨ sgI a b = 1 := by
  unfold sgI
  split
  · exact .inl rfl
  · split
    · exact .inr (.inr rfl)
    · exact .inr (.inl rfl)
theorem set_range {α : Type} {n : Nat} (p : Nat) (g : Nat → α) (w : α) : ((List.range n).map g).set p w = (List.range n).map fun b => if b = p then w else g b := by
  apply List.ext_getElem
  · simp
  · intro i h1 h2
    simp only [List.length_set, List.length_map, List.length_range] at h1
    rw [List.getElem_set, List.getElem_map, List.getElem_map, List.getElem_range]
    by_cases c : p = i
    · rw [if_pos c, if_pos c.symm]
    · rw [if_neg c, if_neg (Ne.symm c)]
def putT' (f : Nat → Nat → Int) (a b : Nat) (w : Int) (i j : Nat) : Int := if i = a then (if j = b then w else f i j) else f i j
theorem putT'_wd {n : Nat} {f : Nat → Nat → Int} (h : Wd n f) {a b : Nat} {w : Int} (hw : w = -1 ∨ w = 0 ∨ w = 1) : Wd n (putT' f a b w) := fun i j hi hj => by
  unfold putT'
  split
  · split
    · exact hw
    · exact h i j hi hj
  · exact h i j hi hj
abbrev rwL (N : Nat) (g : Nat → Int) : List PyData := (List.range N).map fun j => .int (g j)
abbrev tbL (N : Nat) (f : Nat → Nat → Int) : List (List PyData) := (List.range N).map fun i => rwL N (f i)
theorem put_tb {N a : Nat} (b : Nat) (f : Nat → Nat → Int) (w : Int) (ha : a < N) : (tbL N f).set a ((rwL N (f a)).set b (.int w)) = tbL N (putT' f a b w) := by
  unfold tbL
  rw [set_range, rwL, set_range]
  refine List.map_congr_left fun i _ => ?_
  by_cases c : i = a
  · rw [if_pos c]
    refine List.map_congr_left fun j _ => ?_
    unfold putT'
    rw [if_pos c, c]
    split <;> rfl
  · rw [if_neg c]
    refine List.map_congr_left fun j _ => ?_
    unfold putT'
    rw [if_neg c]
theorem sStN_go {i : Nat} {d1 d2 : Fd} {f : Fe} {ρ : List W} {n n1 n2 n3 N : Nat} {g : Nat → Nat → Int} {z1 z2 w : Int} (hf : f ρ n = some (.d (.int w), n1)) (h1 : d1 ρ n1 = some (.int z1, n2)) (h2 : d2 ρ n2 = some (.int z2, n3)) (hρ : ρ[i]? = some (.oll (tbL N g)))
    (a0 : 0 ≤ z1) (a1 : z1 < N) (b0 : 0 ≤ z2) (b1 : z2 < N) : sStN i d1 d2 f ρ n = some (.nx (ρ.set i (.oll (tbL N (putT' g z1.toNat z2.toNat w)))) n3) := by
  have ix : ∀ {z : Int}, 0 ≤ z → z < N → ixN N z = some z.toNat := fun {z} h h' => ixN_ok h h'
  have e1 : (tbL N g).length = N := by simp
  have e2 : (tbL N g)[z1.toNat]? = some (rwL N (g z1.toNat)) := by
    rw [List.getElem?_map, List.getElem?_range (by omega)]; rfl
  have e3 : (rwL N (g z1.toNat)).length = N := by simp
  unfold sStN
  rw [hf]
  show ((d1 ρ n1).bind _) = _
  rw [h1]
  show ((d2 ρ n2).bind _) = _
  rw [h2]
  show (match PyData.int z1, PyData.int z2, ρ[i]? with | .int z1, .int z2, some (.oll xss) => (ixN xss.length z1).bind fun j1 => xss[j1]?.bind fun xs => (ixN xs.length z2).map fun j2 => Out.nx (ρ.set i (.oll (xss.set j1 (xs.set j2 (.int w))))) n3 | _, _, _ => none) = _
  rw [hρ]
  simp only
  rw [e1, ix a0 a1, Option.bind_some, e2, Option.bind_some, e3, ix b0 b1, Option.map_some, put_tb z2.toNat g w (by omega)]
theorem tab1 (S w2 : W) (ms : List Int) (hms : ms.length ≤ 100) (n : Nat) : ∀ (xs : List Int) (L : List (List PyData)), L.length + xs.length ≤ 100 →
    loopF (gOne 6) l__law_table_1 (xs.map .int) [S, .town, w2, .d (.list (ms.map .int)), .no, .oll L, .no, .no, .no, .no] n = some (.nx [S, .town, w2, .d (.list (ms.map .int)), .no, .oll (L ++ xs.map fun a => ms.map fun b => .int (sgI a b)), .no, .no, .no, .no] n)
  | [], L, _ => by simp [loopF]
  | a :: xs, L, hl => by
    rw [List.length_cons] at hl
    have ih := tab1 S w2 ms hms n xs (L ++ [ms.map fun b => .int (sgI a b)]) (by rw [List.length_append, List.length_singleton]; omega)
    rw [List.map_cons, loopF_cons, List.map_cons]
    rw [List.append_assoc] at ih
    have c1 := comp_mapA (g := gOne 7) (own := [7]) (elt := eIf (bTest (eBin (dCmp rLt zLt) (dVar 6) (dVar 7))) (eUn dNeg (dOf (eC (.int 1)))) (eIf (bTest (eBin (dCmp rGt zGt) (dVar 6) (dVar 7))) (eC (.int 1)) (eC (.int 0))))
      (ρ := [S, .town, w2, .d (.list (ms.map .int)), .no, .oll L, .d (.int a), .no, .no, .no]) (n := n) PyData.int (fun b => .int (sgI a b)) ms fun b _ => ⟨_, rfl, by
        have e : sgI a b = if a < b then -1 else if b < a then 1 else 0 := rfl
        by_cases c1 : a < b
        · rw [if_pos c1] at e
          simp -implicitDefEqProofs only [eVar_ap, dVar_ap, eC_ap, dOf_ap, eFrz_ap, eBin_ap, bTest_ap, bTru_ap, bAnd_ap, bOr_ap, bNot_ap, eIf_ap, eB_ap, eAnd_ap, eOr_ap, aNil_ap, aCons_ap, sNil_ap, sCons_ap, eTup_ap, eLst_ap, eCall_ap, eApp_ap, oNone_ap, oSome_ap, eSl_ap, sNil'_ap, sSeq_ap, sBrk_ap, sRet_ap, sRetN_ap, sRetO_ap, sDrop_ap, sIf_ap, sSet_ap, sApp_ap, sTown_ap, sExt_ap, sIns_ap, sSetIx_ap, sAsg_ap, sPar_ap, iOf_ap, iVal_ap, iRng1_ap, iRng2_ap, sFor_ap, eComp_ap, bYes_ap, frzAt_ap, eUn_ap, eNotD_ap, eOrD_ap, eChain_ap, eListRg1_ap, eIsa_ap, eMt_ap, iEnumV_ap, iEnumF_ap, iZipV_ap, iZipF_ap, eTLen_ap, iRng3D_ap, sEnd_ap, eSs_ap, sPar3_ap, xPop_ap, xTup1_ap, xCat_ap, sSetX_ap, sAppX_ap, sParO_ap, sForEI_ap, sForK_ap, eRep_ap, eDicK_ap, eDicT_ap, sPut_ap, eAlt_ap, sTry_ap, eGetD_ap, eLockI_ap, iKeyF_ap, sSetDef_ap, eTupVals_ap, sNst_ap, frzNAt_ap, sAppN_ap, sStN_ap, eListRg2_ap, runB_ap, gOne_ap, gMany_ap, dI_ap, yesC_ap, dCmp_int, setD, kill_nx, kill_rt, kill_bk, Option.bind_some, Option.map_some, Option.bind_none, Option.map_none, List.getElem?_cons_zero, List.getElem?_cons_succ, List.set_cons_zero, List.set_cons_succ, List.cons_append, List.nil_append, List.append_nil, List.replicate, List.length_cons, List.length_nil, Nat.reduceAdd, Nat.reduceSub, Nat.zero_add, wdat_no, wdat_d, wdat_town, wdat_ol, wdat_od, wfrz_no, wfrz_d, wfrz_town, wfrz_ol, wfrz_od, wval_no, wval_d, wval_town, wval_ol, wval_od, warg_no, warg_d, warg_town, warg_ol, warg_od, vals, gLen, gAbs, gMax2, gMin2, gInt, gTup, gList, wipeW, if_true, if_false, Bool.false_eq_true, Bool.not_true, Bool.not_false, reduceCtorEq, rLt_t c1, dNeg, e]
        · rw [if_neg c1] at e
          by_cases c2 : b < a
          · rw [if_pos c2] at e
            have : rGt a b = true := decide_eq_true c2
            simp -implicitDefEqProofs only [eVar_ap, dVar_ap, eC_ap, dOf_ap, eFrz_ap, eBin_ap, bTest_ap, bTru_ap, bAnd_ap, bOr_ap, bNot_ap, eIf_ap, eB_ap, eAnd_ap, eOr_ap, aNil_ap, aCons_ap, sNil_ap, sCons_ap, eTup_ap, eLst_ap, eCall_ap, eApp_ap, oNone_ap, oSome_ap, eSl_ap, sNil'_ap, sSeq_ap, sBrk_ap, sRet_ap, sRetN_ap, sRetO_ap, sDrop_ap, sIf_ap, sSet_ap, sApp_ap, sTown_ap, sExt_ap, sIns_ap, sSetIx_ap, sAsg_ap, sPar_ap, iOf_ap, iVal_ap, iRng1_ap, iRng2_ap, sFor_ap, eComp_ap, bYes_ap, frzAt_ap, eUn_ap, eNotD_ap, eOrD_ap, eChain_ap, eListRg1_ap, eIsa_ap, eMt_ap, iEnumV_ap, iEnumF_ap, iZipV_ap, iZipF_ap, eTLen_ap, iRng3D_ap, sEnd_ap, eSs_ap, sPar3_ap, xPop_ap, xTup1_ap, xCat_ap, sSetX_ap, sAppX_ap, sParO_ap, sForEI_ap, sForK_ap, eRep_ap, eDicK_ap, eDicT_ap, sPut_ap, eAlt_ap, sTry_ap, eGetD_ap, eLockI_ap, iKeyF_ap, sSetDef_ap, eTupVals_ap, sNst_ap, frzNAt_ap, sAppN_ap, sStN_ap, eListRg2_ap, runB_ap, gOne_ap, gMany_ap, dI_ap, yesC_ap, dCmp_int, setD, kill_nx, kill_rt, kill_bk, Option.bind_some, Option.map_some, Option.bind_none, Option.map_none, List.getElem?_cons_zero, List.getElem?_cons_succ, List.set_cons_zero, List.set_cons_succ, List.cons_append, List.nil_append, List.append_nil, List.replicate, List.length_cons, List.length_nil, Nat.reduceAdd, Nat.reduceSub, Nat.zero_add, wdat_no, wdat_d, wdat_town, wdat_ol, wdat_od, wfrz_no, wfrz_d, wfrz_town, wfrz_ol, wfrz_od, wval_no, wval_d, wval_town, wval_ol, wval_od, warg_no, warg_d, warg_town, warg_ol, warg_od, vals, gLen, gAbs, gMax2, gMin2, gInt, gTup, gList, wipeW, if_true, if_false, Bool.false_eq_true, Bool.not_true, Bool.not_false, reduceCtorEq, rLt_f c1, this, e]
          · rw [if_neg c2] at e
            have : rGt a b = false := decide_eq_false c2
            simp -implicitDefEqProofs only [eVar_ap, dVar_ap, eC_ap, dOf_ap, eFrz_ap, eBin_ap, bTest_ap, bTru_ap, bAnd_ap, bOr_ap, bNot_ap, eIf_ap, eB_ap, eAnd_ap, eOr_ap, aNil_ap, aCons_ap, sNil_ap, sCons_ap, eTup_ap, eLst_ap, eCall_ap, eApp_ap, oNone_ap, oSome_ap, eSl_ap, sNil'_ap, sSeq_ap, sBrk_ap, sRet_ap, sRetN_ap, sRetO_ap, sDrop_ap, sIf_ap, sSet_ap, sApp_ap, sTown_ap, sExt_ap, sIns_ap, sSetIx_ap, sAsg_ap, sPar_ap, iOf_ap, iVal_ap, iRng1_ap, iRng2_ap, sFor_ap, eComp_ap, bYes_ap, frzAt_ap, eUn_ap, eNotD_ap, eOrD_ap, eChain_ap, eListRg1_ap, eIsa_ap, eMt_ap, iEnumV_ap, iEnumF_ap, iZipV_ap, iZipF_ap, eTLen_ap, iRng3D_ap, sEnd_ap, eSs_ap, sPar3_ap, xPop_ap, xTup1_ap, xCat_ap, sSetX_ap, sAppX_ap, sParO_ap, sForEI_ap, sForK_ap, eRep_ap, eDicK_ap, eDicT_ap, sPut_ap, eAlt_ap, sTry_ap, eGetD_ap, eLockI_ap, iKeyF_ap, sSetDef_ap, eTupVals_ap, sNst_ap, frzNAt_ap, sAppN_ap, sStN_ap, eListRg2_ap, runB_ap, gOne_ap, gMany_ap, dI_ap, yesC_ap, dCmp_int, setD, kill_nx, kill_rt, kill_bk, Option.bind_some, Option.map_some, Option.bind_none, Option.map_none, List.getElem?_cons_zero, List.getElem?_cons_succ, List.set_cons_zero, List.set_cons_succ, List.cons_append, List.nil_append, List.append_nil, List.replicate, List.length_cons, List.length_nil, Nat.reduceAdd, Nat.reduceSub, Nat.zero_add, wdat_no, wdat_d, wdat_town, wdat_ol, wdat_od, wfrz_no, wfrz_d, wfrz_town, wfrz_ol, wfrz_od, wval_no, wval_d, wval_town, wval_ol, wval_od, warg_no, warg_d, warg_town, warg_ol, warg_od, vals, gLen, gAbs, gMax2, gMin2, gInt, gTup, gList, wipeW, if_true, if_false, Bool.false_eq_true, Bool.not_true, Bool.not_false, reduceCtorEq, rLt_f c1, this, e]⟩
    have hb : ms.length ≤ big := le_big (by omega)
    have hb2 : L.length < 1000 := by omega
    unfold l__law_table_1 at ih ⊢
    simp -implicitDefEqProofs only [eVar_ap, dVar_ap, eC_ap, dOf_ap, eFrz_ap, eBin_ap, bTest_ap, bTru_ap, bAnd_ap, bOr_ap, bNot_ap, eIf_ap, eB_ap, eAnd_ap, eOr_ap, aNil_ap, aCons_ap, sNil_ap, sCons_ap, eTup_ap, eLst_ap, eCall_ap, eApp_ap, oNone_ap, oSome_ap, eSl_ap, sNil'_ap, sSeq_ap, sBrk_ap, sRet_ap, sRetN_ap, sRetO_ap, sDrop_ap, sIf_ap, sSet_ap, sApp_ap, sTown_ap, sExt_ap, sIns_ap, sSetIx_ap, sAsg_ap, sPar_ap, iOf_ap, iVal_ap, iRng1_ap, iRng2_ap, sFor_ap, eComp_ap, bYes_ap, frzAt_ap, eUn_ap, eNotD_ap, eOrD_ap, eChain_ap, eListRg1_ap, eIsa_ap, eMt_ap, iEnumV_ap, iEnumF_ap, iZipV_ap, iZipF_ap, eTLen_ap, iRng3D_ap, sEnd_ap, eSs_ap, sPar3_ap, xPop_ap, xTup1_ap, xCat_ap, sSetX_ap, sAppX_ap, sParO_ap, sForEI_ap, sForK_ap, eRep_ap, eDicK_ap, eDicT_ap, sPut_ap, eAlt_ap, sTry_ap, eGetD_ap, eLockI_ap, iKeyF_ap, sSetDef_ap, eTupVals_ap, sNst_ap, frzNAt_ap, sAppN_ap, sStN_ap, eListRg2_ap, runB_ap, gOne_ap, gMany_ap, dI_ap, yesC_ap, dCmp_int, setD, kill_nx, kill_rt, kill_bk, Option.bind_some, Option.map_some, Option.bind_none, Option.map_none, List.getElem?_cons_zero, List.getElem?_cons_succ, List.set_cons_zero, List.set_cons_succ, List.cons_append, List.nil_append, List.append_nil, List.replicate, List.length_cons, List.length_nil, Nat.reduceAdd, Nat.reduceSub, Nat.zero_add, wdat_no, wdat_d, wdat_town, wdat_ol, wdat_od, wfrz_no, wfrz_d, wfrz_town, wfrz_ol, wfrz_od, wval_no, wval_d, wval_town, wval_ol, wval_od, warg_no, warg_d, warg_town, warg_ol, warg_od, vals, gLen, gAbs, gMax2, gMin2, gInt, gTup, gList, wipeW, if_true, if_false, Bool.false_eq_true, Bool.not_true, Bool.not_false, reduceCtorEq, iSeq, List.length_map, hb, c1, hb2, ih]
theorem tab2 (ns : List Int) (N : Nat) (h1 : 1 ≤ N) : ∀ (xs : List PyData) (f : Nat → Nat → Int) (n : Nat), Wd N f → n + 4 * xs.length ≤ big →
    ∃ (f' : Nat → Nat → Int) (n' : Nat), loopF (gOne 4) l__law_table_2 xs [Sc ns, .town, .d (.int (N : Int)), .no, .no, .oll (tbL N f), .no, .no, .no, .no] n = some (.nx [Sc ns, .town, .d (.int (N : Int)), .no, .no, .oll (tbL N f'), .no, .no, .no, .no] n') ∧ Wd N f' ∧ n ≤ n' ∧ n' ≤ n + 4 * xs.length
  | [], f, n, hw, _ => ⟨f, n, rfl, hw, Nat.le_refl _, Nat.le_add_right _ _⟩
  | x :: xs, f, n, hw, hn => by
    rw [List.length_cons, Nat.mul_succ] at hn
    obtain ⟨a, a0, a1, k1⟩ := draw_ok ns n (by omega) (N : Int) (by omega)
    obtain ⟨b, b0, b1, k2⟩ := draw_ok ns (n + 1) (by omega) (N : Int) (by omega)
    obtain ⟨w, w0, w1, k3⟩ := draw_ok ns (n + 2) (by omega) 3 (by decide)
    obtain ⟨c, c0, c1, k4⟩ := draw_ok ns (n + 3) (by omega) 3 (by decide)
    have wc : w - 1 = -1 ∨ w - 1 = 0 ∨ w - 1 = 1 := by omega
    have k1 : m__law_draw [Sc ns, .town, .d (.int (N : Int))] n = _ := k1
    have k2 : m__law_draw [Sc ns, .town, .d (.int (N : Int))] (n + 1) = _ := k2
    have step : ∃ f1 : Nat → Nat → Int, l__law_table_2 [Sc ns, .town, .d (.int (N : Int)), .no, .d x, .oll (tbL N f), .no, .no, .no, .no] n = some (.nx [Sc ns, .town, .d (.int (N : Int)), .no, .no, .oll (tbL N f1), .no, .no, .no, .no] (n + 4)) ∧ Wd N f1 := by
      have s1 := sStN_go (i := 5) (d1 := dVar 6) (d2 := dVar 7) (f := eVar 8) (ρ := [Sc ns, .town, .d (.int (N : Int)), .no, .no, .oll (tbL N f), I' a, I' b, I' (w - 1), .no]) (n := n + 3) (n1 := n + 3) (n2 := n + 3) (n3 := n + 3) (w := w - 1) (z1 := a) (z2 := b) rfl rfl rfl rfl a0 a1 b0 b1
      have s2 := sStN_go (i := 5) (d1 := dVar 7) (d2 := dVar 6) (f := eUn dNeg (dVar 8)) (ρ := [Sc ns, .town, .d (.int (N : Int)), .no, .no, .oll (tbL N (putT' f a.toNat b.toNat (w - 1))), I' a, I' b, I' (w - 1), .no]) (n := n + 4) (n1 := n + 4) (n2 := n + 4) (n3 := n + 4) (w := -(w - 1)) (z1 := b) (z2 := a) rfl rfl rfl rfl b0 b1 a0 a1
      by_cases cc : c > 0
      · refine ⟨_, ?_, putT'_wd (putT'_wd hw (a := a.toNat) (b := b.toNat) wc) (a := b.toNat) (b := a.toNat) (w := -(w - 1)) (by omega)⟩
        unfold l__law_table_2
        refine (sSeq_nx (ρ' := [Sc ns, .town, .d (.int (N : Int)), .no, .no, .oll (tbL N f), I' a, I' b, .no, .no]) (n' := n + 2) (by simp -implicitDefEqProofs only [eVar_ap, dVar_ap, eC_ap, dOf_ap, eFrz_ap, eBin_ap, bTest_ap, bTru_ap, bAnd_ap, bOr_ap, bNot_ap, eIf_ap, eB_ap, eAnd_ap, eOr_ap, aNil_ap, aCons_ap, sNil_ap, sCons_ap, eTup_ap, eLst_ap, eCall_ap, eApp_ap, oNone_ap, oSome_ap, eSl_ap, sNil'_ap, sSeq_ap, sBrk_ap, sRet_ap, sRetN_ap, sRetO_ap, sDrop_ap, sIf_ap, sSet_ap, sApp_ap, sTown_ap, sExt_ap, sIns_ap, sSetIx_ap, sAsg_ap, sPar_ap, iOf_ap, iVal_ap, iRng1_ap, iRng2_ap, sFor_ap, eComp_ap, bYes_ap, frzAt_ap, eUn_ap, eNotD_ap, eOrD_ap, eChain_ap, eListRg1_ap, eIsa_ap, eMt_ap, iEnumV_ap, iEnumF_ap, iZipV_ap, iZipF_ap, eTLen_ap, iRng3D_ap, sEnd_ap, eSs_ap, sPar3_ap, xPop_ap, xTup1_ap, xCat_ap, sSetX_ap, sAppX_ap, sParO_ap, sForEI_ap, sForK_ap, eRep_ap, eDicK_ap, eDicT_ap, sPut_ap, eAlt_ap, sTry_ap, eGetD_ap, eLockI_ap, iKeyF_ap, sSetDef_ap, eTupVals_ap, sNst_ap, frzNAt_ap, sAppN_ap, sStN_ap, eListRg2_ap, runB_ap, gOne_ap, gMany_ap, dI_ap, yesC_ap, dCmp_int, setD, kill_nx, kill_rt, kill_bk, Option.bind_some, Option.map_some, Option.bind_none, Option.map_none, List.getElem?_cons_zero, List.getElem?_cons_succ, List.set_cons_zero, List.set_cons_succ, List.cons_append, List.nil_append, List.append_nil, List.replicate, List.length_cons, List.length_nil, Nat.reduceAdd, Nat.reduceSub, Nat.zero_add, wdat_no, wdat_d, wdat_town, wdat_ol, wdat_od, wfrz_no, wfrz_d, wfrz_town, wfrz_ol, wfrz_od, wval_no, wval_d, wval_town, wval_ol, wval_od, warg_no, warg_d, warg_town, warg_ol, warg_od, vals, gLen, gAbs, gMax2, gMin2, gInt, gTup, gList, wipeW, if_true, if_false, Bool.false_eq_true, Bool.not_true, Bool.not_false, reduceCtorEq, k1, k2])).trans ?_
        refine (sSeq_nx (ρ' := [Sc ns, .town, .d (.int (N : Int)), .no, .no, .oll (tbL N f), I' a, I' b, I' (w - 1), .no]) (n' := n + 3) (by simp -implicitDefEqProofs only [eVar_ap, dVar_ap, eC_ap, dOf_ap, eFrz_ap, eBin_ap, bTest_ap, bTru_ap, bAnd_ap, bOr_ap, bNot_ap, eIf_ap, eB_ap, eAnd_ap, eOr_ap, aNil_ap, aCons_ap, sNil_ap, sCons_ap, eTup_ap, eLst_ap, eCall_ap, eApp_ap, oNone_ap, oSome_ap, eSl_ap, sNil'_ap, sSeq_ap, sBrk_ap, sRet_ap, sRetN_ap, sRetO_ap, sDrop_ap, sIf_ap, sSet_ap, sApp_ap, sTown_ap, sExt_ap, sIns_ap, sSetIx_ap, sAsg_ap, sPar_ap, iOf_ap, iVal_ap, iRng1_ap, iRng2_ap, sFor_ap, eComp_ap, bYes_ap, frzAt_ap, eUn_ap, eNotD_ap, eOrD_ap, eChain_ap, eListRg1_ap, eIsa_ap, eMt_ap, iEnumV_ap, iEnumF_ap, iZipV_ap, iZipF_ap, eTLen_ap, iRng3D_ap, sEnd_ap, eSs_ap, sPar3_ap, xPop_ap, xTup1_ap, xCat_ap, sSetX_ap, sAppX_ap, sParO_ap, sForEI_ap, sForK_ap, eRep_ap, eDicK_ap, eDicT_ap, sPut_ap, eAlt_ap, sTry_ap, eGetD_ap, eLockI_ap, iKeyF_ap, sSetDef_ap, eTupVals_ap, sNst_ap, frzNAt_ap, sAppN_ap, sStN_ap, eListRg2_ap, runB_ap, gOne_ap, gMany_ap, dI_ap, yesC_ap, dCmp_int, setD, kill_nx, kill_rt, kill_bk, Option.bind_some, Option.map_some, Option.bind_none, Option.map_none, List.getElem?_cons_zero, List.getElem?_cons_succ, List.set_cons_zero, List.set_cons_succ, List.cons_append, List.nil_append, List.append_nil, List.replicate, List.length_cons, List.length_nil, Nat.reduceAdd, Nat.reduceSub, Nat.zero_add, wdat_no, wdat_d, wdat_town, wdat_ol, wdat_od, wfrz_no, wfrz_d, wfrz_town, wfrz_ol, wfrz_od, wval_no, wval_d, wval_town, wval_ol, wval_od, warg_no, warg_d, warg_town, warg_ol, warg_od, vals, gLen, gAbs, gMax2, gMin2, gInt, gTup, gList, wipeW, if_true, if_false, Bool.false_eq_true, Bool.not_true, Bool.not_false, reduceCtorEq, k3, dSub_int])).trans ?_
        refine (sSeq_nx (n' := n + 3) s1).trans ?_
        have g : rGt c 0 = true := decide_eq_true cc
        show sEnd [6, 7, 8] _ [Sc ns, .town, .d (.int (N : Int)), .no, .no, .oll (tbL N (putT' f a.toNat b.toNat (w - 1))), I' a, I' b, I' (w - 1), .no] (n + 3) = _
        rw [sEnd_ap, sIf_ap]
        have t : bTest (eBin (dCmp rGt zGt) (dOf (eCall m__law_draw (aCons (eVar 0) (aCons (eVar 1) (aCons (eC (.int 3)) aNil))))) (dOf (eC (.int 0)))) [Sc ns, .town, .d (.int (N : Int)), .no, .no, .oll (tbL N (putT' f a.toNat b.toNat (w - 1))), I' a, I' b, I' (w - 1), .no] (n + 3) = some (true, n + 4) := by simp -implicitDefEqProofs only [eVar_ap, dVar_ap, eC_ap, dOf_ap, eFrz_ap, eBin_ap, bTest_ap, bTru_ap, bAnd_ap, bOr_ap, bNot_ap, eIf_ap, eB_ap, eAnd_ap, eOr_ap, aNil_ap, aCons_ap, sNil_ap, sCons_ap, eTup_ap, eLst_ap, eCall_ap, eApp_ap, oNone_ap, oSome_ap, eSl_ap, sNil'_ap, sSeq_ap, sBrk_ap, sRet_ap, sRetN_ap, sRetO_ap, sDrop_ap, sIf_ap, sSet_ap, sApp_ap, sTown_ap, sExt_ap, sIns_ap, sSetIx_ap, sAsg_ap, sPar_ap, iOf_ap, iVal_ap, iRng1_ap, iRng2_ap, sFor_ap, eComp_ap, bYes_ap, frzAt_ap, eUn_ap, eNotD_ap, eOrD_ap, eChain_ap, eListRg1_ap, eIsa_ap, eMt_ap, iEnumV_ap, iEnumF_ap, iZipV_ap, iZipF_ap, eTLen_ap, iRng3D_ap, sEnd_ap, eSs_ap, sPar3_ap, xPop_ap, xTup1_ap, xCat_ap, sSetX_ap, sAppX_ap, sParO_ap, sForEI_ap, sForK_ap, eRep_ap, eDicK_ap, eDicT_ap, sPut_ap, eAlt_ap, sTry_ap, eGetD_ap, eLockI_ap, iKeyF_ap, sSetDef_ap, eTupVals_ap, sNst_ap, frzNAt_ap, sAppN_ap, sStN_ap, eListRg2_ap, runB_ap, gOne_ap, gMany_ap, dI_ap, yesC_ap, dCmp_int, setD, kill_nx, kill_rt, kill_bk, Option.bind_some, Option.map_some, Option.bind_none, Option.map_none, List.getElem?_cons_zero, List.getElem?_cons_succ, List.set_cons_zero, List.set_cons_succ, List.cons_append, List.nil_append, List.append_nil, List.replicate, List.length_cons, List.length_nil, Nat.reduceAdd, Nat.reduceSub, Nat.zero_add, wdat_no, wdat_d, wdat_town, wdat_ol, wdat_od, wfrz_no, wfrz_d, wfrz_town, wfrz_ol, wfrz_od, wval_no, wval_d, wval_town, wval_ol, wval_od, warg_no, warg_d, warg_town, warg_ol, warg_od, vals, gLen, gAbs, gMax2, gMin2, gInt, gTup, gList, wipeW, if_true, if_false, Bool.false_eq_true, Bool.not_true, Bool.not_false, reduceCtorEq, k4, g]
        rw [t]
        show ((sEnd [6, 7, 8] (sStN 5 (dVar 7) (dVar 6) (eUn dNeg (dVar 8)))) [Sc ns, .town, .d (.int (N : Int)), .no, .no, .oll (tbL N (putT' f a.toNat b.toNat (w - 1))), I' a, I' b, I' (w - 1), .no] (n + 4)).map _ = _
        rw [sEnd_ap, s2]
        rfl
      · refine ⟨_, ?_, putT'_wd hw (a := a.toNat) (b := b.toNat) wc⟩
        unfold l__law_table_2
        refine (sSeq_nx (ρ' := [Sc ns, .town, .d (.int (N : Int)), .no, .no, .oll (tbL N f), I' a, I' b, .no, .no]) (n' := n + 2) (by simp -implicitDefEqProofs only [eVar_ap, dVar_ap, eC_ap, dOf_ap, eFrz_ap, eBin_ap, bTest_ap, bTru_ap, bAnd_ap, bOr_ap, bNot_ap, eIf_ap, eB_ap, eAnd_ap, eOr_ap, aNil_ap, aCons_ap, sNil_ap, sCons_ap, eTup_ap, eLst_ap, eCall_ap, eApp_ap, oNone_ap, oSome_ap, eSl_ap, sNil'_ap, sSeq_ap, sBrk_ap, sRet_ap, sRetN_ap, sRetO_ap, sDrop_ap, sIf_ap, sSet_ap, sApp_ap, sTown_ap, sExt_ap, sIns_ap, sSetIx_ap, sAsg_ap, sPar_ap, iOf_ap, iVal_ap, iRng1_ap, iRng2_ap, sFor_ap, eComp_ap, bYes_ap, frzAt_ap, eUn_ap, eNotD_ap, eOrD_ap, eChain_ap, eListRg1_ap, eIsa_ap, eMt_ap, iEnumV_ap, iEnumF_ap, iZipV_ap, iZipF_ap, eTLen_ap, iRng3D_ap, sEnd_ap, eSs_ap, sPar3_ap, xPop_ap, xTup1_ap, xCat_ap, sSetX_ap, sAppX_ap, sParO_ap, sForEI_ap, sForK_ap, eRep_ap, eDicK_ap, eDicT_ap, sPut_ap, eAlt_ap, sTry_ap, eGetD_ap, eLockI_ap, iKeyF_ap, sSetDef_ap, eTupVals_ap, sNst_ap, frzNAt_ap, sAppN_ap, sStN_ap, eListRg2_ap, runB_ap, gOne_ap, gMany_ap, dI_ap, yesC_ap, dCmp_int, setD, kill_nx, kill_rt, kill_bk, Option.bind_some, Option.map_some, Option.bind_none, Option.map_none, List.getElem?_cons_zero, List.getElem?_cons_succ, List.set_cons_zero, List.set_cons_succ, List.cons_append, List.nil_append, List.append_nil, List.replicate, List.length_cons, List.length_nil, Nat.reduceAdd, Nat.reduceSub, Nat.zero_add, wdat_no, wdat_d, wdat_town, wdat_ol, wdat_od, wfrz_no, wfrz_d, wfrz_town, wfrz_ol, wfrz_od, wval_no, wval_d, wval_town, wval_ol, wval_od, warg_no, warg_d, warg_town, warg_ol, warg_od, vals, gLen, gAbs, gMax2, gMin2, gInt, gTup, gList, wipeW, if_true, if_false, Bool.false_eq_true, Bool.not_true, Bool.not_false, reduceCtorEq, k1, k2])).trans ?_
        refine (sSeq_nx (ρ' := [Sc ns, .town, .d (.int (N : Int)), .no, .no, .oll (tbL N f), I' a, I' b, I' (w - 1), .no]) (n' := n + 3) (by simp -implicitDefEqProofs only [eVar_ap, dVar_ap, eC_ap, dOf_ap, eFrz_ap, eBin_ap, bTest_ap, bTru_ap, bAnd_ap, bOr_ap, bNot_ap, eIf_ap, eB_ap, eAnd_ap, eOr_ap, aNil_ap, aCons_ap, sNil_ap, sCons_ap, eTup_ap, eLst_ap, eCall_ap, eApp_ap, oNone_ap, oSome_ap, eSl_ap, sNil'_ap, sSeq_ap, sBrk_ap, sRet_ap, sRetN_ap, sRetO_ap, sDrop_ap, sIf_ap, sSet_ap, sApp_ap, sTown_ap, sExt_ap, sIns_ap, sSetIx_ap, sAsg_ap, sPar_ap, iOf_ap, iVal_ap, iRng1_ap, iRng2_ap, sFor_ap, eComp_ap, bYes_ap, frzAt_ap, eUn_ap, eNotD_ap, eOrD_ap, eChain_ap, eListRg1_ap, eIsa_ap, eMt_ap, iEnumV_ap, iEnumF_ap, iZipV_ap, iZipF_ap, eTLen_ap, iRng3D_ap, sEnd_ap, eSs_ap, sPar3_ap, xPop_ap, xTup1_ap, xCat_ap, sSetX_ap, sAppX_ap, sParO_ap, sForEI_ap, sForK_ap, eRep_ap, eDicK_ap, eDicT_ap, sPut_ap, eAlt_ap, sTry_ap, eGetD_ap, eLockI_ap, iKeyF_ap, sSetDef_ap, eTupVals_ap, sNst_ap, frzNAt_ap, sAppN_ap, sStN_ap, eListRg2_ap, runB_ap, gOne_ap, gMany_ap, dI_ap, yesC_ap, dCmp_int, setD, kill_nx, kill_rt, kill_bk, Option.bind_some, Option.map_some, Option.bind_none, Option.map_none, List.getElem?_cons_zero, List.getElem?_cons_succ, List.set_cons_zero, List.set_cons_succ, List.cons_append, List.nil_append, List.append_nil, List.replicate, List.length_cons, List.length_nil, Nat.reduceAdd, Nat.reduceSub, Nat.zero_add, wdat_no, wdat_d, wdat_town, wdat_ol, wdat_od, wfrz_no, wfrz_d, wfrz_town, wfrz_ol, wfrz_od, wval_no, wval_d, wval_town, wval_ol, wval_od, warg_no, warg_d, warg_town, warg_ol, warg_od, vals, gLen, gAbs, gMax2, gMin2, gInt, gTup, gList, wipeW, if_true, if_false, Bool.false_eq_true, Bool.not_true, Bool.not_false, reduceCtorEq, k3, dSub_int])).trans ?_
        refine (sSeq_nx (n' := n + 3) s1).trans ?_
        have g : rGt c 0 = false := decide_eq_false cc
        show sEnd [6, 7, 8] _ [Sc ns, .town, .d (.int (N : Int)), .no, .no, .oll (tbL N (putT' f a.toNat b.toNat (w - 1))), I' a, I' b, I' (w - 1), .no] (n + 3) = _
        simp -implicitDefEqProofs only [eVar_ap, dVar_ap, eC_ap, dOf_ap, eFrz_ap, eBin_ap, bTest_ap, bTru_ap, bAnd_ap, bOr_ap, bNot_ap, eIf_ap, eB_ap, eAnd_ap, eOr_ap, aNil_ap, aCons_ap, sNil_ap, sCons_ap, eTup_ap, eLst_ap, eCall_ap, eApp_ap, oNone_ap, oSome_ap, eSl_ap, sNil'_ap, sSeq_ap, sBrk_ap, sRet_ap, sRetN_ap, sRetO_ap, sDrop_ap, sIf_ap, sSet_ap, sApp_ap, sTown_ap, sExt_ap, sIns_ap, sSetIx_ap, sAsg_ap, sPar_ap, iOf_ap, iVal_ap, iRng1_ap, iRng2_ap, sFor_ap, eComp_ap, bYes_ap, frzAt_ap, eUn_ap, eNotD_ap, eOrD_ap, eChain_ap, eListRg1_ap, eIsa_ap, eMt_ap, iEnumV_ap, iEnumF_ap, iZipV_ap, iZipF_ap, eTLen_ap, iRng3D_ap, sEnd_ap, eSs_ap, sPar3_ap, xPop_ap, xTup1_ap, xCat_ap, sSetX_ap, sAppX_ap, sParO_ap, sForEI_ap, sForK_ap, eRep_ap, eDicK_ap, eDicT_ap, sPut_ap, eAlt_ap, sTry_ap, eGetD_ap, eLockI_ap, iKeyF_ap, sSetDef_ap, eTupVals_ap, sNst_ap, frzNAt_ap, sAppN_ap, sStN_ap, eListRg2_ap, runB_ap, gOne_ap, gMany_ap, dI_ap, yesC_ap, dCmp_int, setD, kill_nx, kill_rt, kill_bk, Option.bind_some, Option.map_some, Option.bind_none, Option.map_none, List.getElem?_cons_zero, List.getElem?_cons_succ, List.set_cons_zero, List.set_cons_succ, List.cons_append, List.nil_append, List.append_nil, List.replicate, List.length_cons, List.length_nil, Nat.reduceAdd, Nat.reduceSub, Nat.zero_add, wdat_no, wdat_d, wdat_town, wdat_ol, wdat_od, wfrz_no, wfrz_d, wfrz_town, wfrz_ol, wfrz_od, wval_no, wval_d, wval_town, wval_ol, wval_od, warg_no, warg_d, warg_town, warg_ol, warg_od, vals, gLen, gAbs, gMax2, gMin2, gInt, gTup, gList, wipeW, if_true, if_false, Bool.false_eq_true, Bool.not_true, Bool.not_false, reduceCtorEq, k4, g]
    obtain ⟨f1, e1, hw1⟩ := step
    obtain ⟨f2, n2, e2, hw2, l1, l2⟩ := tab2 ns N h1 xs f1 (n + 4) hw1 (by omega)
    refine ⟨f2, n2, ?_, hw2, by omega, by rw [List.length_cons]; omega⟩
    rw [loopF_cons]
    show (l__law_table_2 [Sc ns, .town, .d (.int (N : Int)), .no, .d x, .oll (tbL N f), .no, .no, .no, .no] n).bind _ = _
    rw [e1]
    exact e2
theorem table_ok (ns : List Int) (n : Nat) (hn : n + 20 ≤ big) : ∃ (N : Nat) (f : Nat → Nat → Int) (n' : Nat), 1 ≤ N ∧ N ≤ 6 ∧ Wd N f ∧ m__law_table [Sc ns, .town] n = some (.d (tbD N f), n') ∧ n ≤ n' ∧ n' ≤ n + 20 := by
  obtain ⟨d, d0, d1, k1⟩ := draw_ok ns n (by omega) 6 (by decide)
  have r1 : rng1 (.int (1 + d)) = some (rangeD 0 (1 + d).toNat) := rng1_ok (by omega) (by omega)
  obtain ⟨ms, n1, c1, hm, hmm, l1, l1'⟩ := comp_ranA (g := gOne 4) (own := [4]) (elt := eCall m__law_draw (aCons (eVar 0) (aCons (eVar 1) (aCons (eC (.int 4)) aNil)))) (ρ := [Sc ns, .town, I' (1 + d), .no, .no, .no, .no, .no, .no, .no]) 1 (fun x : PyData => x) PyData.int (fun _ => True) (rangeD 0 (1 + d).toNat) (n + 1) (by rw [rangeD_len]; omega) (fun x _ m hm => by
    obtain ⟨z, _, _, e1⟩ := draw_ok ns m (by omega) 4 (by decide)
    exact ⟨_, z, m + 1, rfl, by simp -implicitDefEqProofs only [eVar_ap, dVar_ap, eC_ap, dOf_ap, eFrz_ap, eBin_ap, bTest_ap, bTru_ap, bAnd_ap, bOr_ap, bNot_ap, eIf_ap, eB_ap, eAnd_ap, eOr_ap, aNil_ap, aCons_ap, sNil_ap, sCons_ap, eTup_ap, eLst_ap, eCall_ap, eApp_ap, oNone_ap, oSome_ap, eSl_ap, sNil'_ap, sSeq_ap, sBrk_ap, sRet_ap, sRetN_ap, sRetO_ap, sDrop_ap, sIf_ap, sSet_ap, sApp_ap, sTown_ap, sExt_ap, sIns_ap, sSetIx_ap, sAsg_ap, sPar_ap, iOf_ap, iVal_ap, iRng1_ap, iRng2_ap, sFor_ap, eComp_ap, bYes_ap, frzAt_ap, eUn_ap, eNotD_ap, eOrD_ap, eChain_ap, eListRg1_ap, eIsa_ap, eMt_ap, iEnumV_ap, iEnumF_ap, iZipV_ap, iZipF_ap, eTLen_ap, iRng3D_ap, sEnd_ap, eSs_ap, sPar3_ap, xPop_ap, xTup1_ap, xCat_ap, sSetX_ap, sAppX_ap, sParO_ap, sForEI_ap, sForK_ap, eRep_ap, eDicK_ap, eDicT_ap, sPut_ap, eAlt_ap, sTry_ap, eGetD_ap, eLockI_ap, iKeyF_ap, sSetDef_ap, eTupVals_ap, sNst_ap, frzNAt_ap, sAppN_ap, sStN_ap, eListRg2_ap, runB_ap, gOne_ap, gMany_ap, dI_ap, yesC_ap, dCmp_int, setD, kill_nx, kill_rt, kill_bk, Option.bind_some, Option.map_some, Option.bind_none, Option.map_none, List.getElem?_cons_zero, List.getElem?_cons_succ, List.set_cons_zero, List.set_cons_succ, List.cons_append, List.nil_append, List.append_nil, List.replicate, List.length_cons, List.length_nil, Nat.reduceAdd, Nat.reduceSub, Nat.zero_add, wdat_no, wdat_d, wdat_town, wdat_ol, wdat_od, wfrz_no, wfrz_d, wfrz_town, wfrz_ol, wfrz_od, wval_no, wval_d, wval_town, wval_ol, wval_od, warg_no, warg_d, warg_town, warg_ol, warg_od, vals, gLen, gAbs, gMax2, gMin2, gInt, gTup, gList, wipeW, if_true, if_false, Bool.false_eq_true, Bool.not_true, Bool.not_false, reduceCtorEq, e1], by omega, by omega, trivial⟩)
  rw [List.map_id'] at c1
  rw [rangeD_len] at hm l1'
  have hb : (rangeD 0 (1 + d).toNat).length ≤ big := le_big (by rw [rangeD_len]; omega)
  have N6 : ms.length ≤ 6 := by omega
  have dN : (1 + d : Int) = (ms.length : Int) := by omega
  have t1 := tab1 (Sc ns) (I' (1 + d)) ms (by omega) n1 ms [] (by simp; omega)
  have tb : ([] ++ ms.map fun a => ms.map fun b => PyData.int (sgI a b)) = tbL ms.length fun i j => sgI (ms.getD i 0) (ms.getD j 0) := by
    rw [List.nil_append, map_range (0 : Int) (fun a => ms.map fun b => PyData.int (sgI a b)) ms]
    refine List.map_congr_left fun i _ => ?_
    exact map_range (0 : Int) (fun b => PyData.int (sgI (ms.getD i 0) b)) ms
  rw [tb] at t1
  have hbm : ms.length ≤ big := le_big (by omega)
  obtain ⟨c, cc0, cc1, k3⟩ := draw_ok ns n1 (by omega) 3 (by decide)
  have r3 : rng1 (.int c) = some (rangeD 0 c.toNat) := rng1_ok (by omega) (by omega)
  obtain ⟨f', n2, t2, hw, l2, l2'⟩ := tab2 ns ms.length (by omega) (rangeD 0 c.toNat) (fun i j => sgI (ms.getD i 0) (ms.getD j 0)) (n1 + 1) (fun i j _ _ => sgI_cases _ _) (by rw [rangeD_len]; omega)
  rw [rangeD_len] at l2'
  have hb3 : (rangeD 0 c.toNat).length ≤ big := le_big (by rw [rangeD_len]; omega)
  have c4 := comp_mapA (g := gOne 9) (own := [9]) (elt := eApp gTup (sCons (dVar 9) sNil)) (ρ := [.no, .no, .no, .no, .no, .d (.list ((tbL ms.length f').map .list)), .no, .no, .no, .no]) (n := n2) (fun xs => PyData.list xs) (fun xs => PyData.tuple xs) (tbL ms.length f') fun xs hxs => ⟨_, rfl, by
    obtain ⟨i, _, rfl⟩ := List.mem_map.mp hxs
    have hb : ms.length ≤ big := hbm
    simp -implicitDefEqProofs only [eVar_ap, dVar_ap, eC_ap, dOf_ap, eFrz_ap, eBin_ap, bTest_ap, bTru_ap, bAnd_ap, bOr_ap, bNot_ap, eIf_ap, eB_ap, eAnd_ap, eOr_ap, aNil_ap, aCons_ap, sNil_ap, sCons_ap, eTup_ap, eLst_ap, eCall_ap, eApp_ap, oNone_ap, oSome_ap, eSl_ap, sNil'_ap, sSeq_ap, sBrk_ap, sRet_ap, sRetN_ap, sRetO_ap, sDrop_ap, sIf_ap, sSet_ap, sApp_ap, sTown_ap, sExt_ap, sIns_ap, sSetIx_ap, sAsg_ap, sPar_ap, iOf_ap, iVal_ap, iRng1_ap, iRng2_ap, sFor_ap, eComp_ap, bYes_ap, frzAt_ap, eUn_ap, eNotD_ap, eOrD_ap, eChain_ap, eListRg1_ap, eIsa_ap, eMt_ap, iEnumV_ap, iEnumF_ap, iZipV_ap, iZipF_ap, eTLen_ap, iRng3D_ap, sEnd_ap, eSs_ap, sPar3_ap, xPop_ap, xTup1_ap, xCat_ap, sSetX_ap, sAppX_ap, sParO_ap, sForEI_ap, sForK_ap, eRep_ap, eDicK_ap, eDicT_ap, sPut_ap, eAlt_ap, sTry_ap, eGetD_ap, eLockI_ap, iKeyF_ap, sSetDef_ap, eTupVals_ap, sNst_ap, frzNAt_ap, sAppN_ap, sStN_ap, eListRg2_ap, runB_ap, gOne_ap, gMany_ap, dI_ap, yesC_ap, dCmp_int, setD, kill_nx, kill_rt, kill_bk, Option.bind_some, Option.map_some, Option.bind_none, Option.map_none, List.getElem?_cons_zero, List.getElem?_cons_succ, List.set_cons_zero, List.set_cons_succ, List.cons_append, List.nil_append, List.append_nil, List.replicate, List.length_cons, List.length_nil, Nat.reduceAdd, Nat.reduceSub, Nat.zero_add, wdat_no, wdat_d, wdat_town, wdat_ol, wdat_od, wfrz_no, wfrz_d, wfrz_town, wfrz_ol, wfrz_od, wval_no, wval_d, wval_town, wval_ol, wval_od, warg_no, warg_d, warg_town, warg_ol, warg_od, vals, gLen, gAbs, gMax2, gMin2, gInt, gTup, gList, wipeW, if_true, if_false, Bool.false_eq_true, Bool.not_true, Bool.not_false, reduceCtorEq, List.length_map, List.length_range, hb]⟩
  have e4 : ((tbL ms.length f').map fun xs => PyData.tuple xs) = (List.range ms.length).map fun i => rwD ms.length (f' i) := by rw [List.map_map]; rfl
  rw [e4] at c4
  refine ⟨ms.length, f', n2, by omega, N6, hw, ?_, by omega, by omega⟩
  unfold m__law_table b__law_table
  rw [runB_ap]
  show ((sSeq _ _ [Sc ns, .town, .no, .no, .no, .no, .no, .no, .no, .no] n).bind _) = _
  rw [sSeq_nx (ρ' := [Sc ns, .town, I' (1 + d), .no, .no, .no, .no, .no, .no, .no]) (n' := n + 1) (by simp -implicitDefEqProofs only [eVar_ap, dVar_ap, eC_ap, dOf_ap, eFrz_ap, eBin_ap, bTest_ap, bTru_ap, bAnd_ap, bOr_ap, bNot_ap, eIf_ap, eB_ap, eAnd_ap, eOr_ap, aNil_ap, aCons_ap, sNil_ap, sCons_ap, eTup_ap, eLst_ap, eCall_ap, eApp_ap, oNone_ap, oSome_ap, eSl_ap, sNil'_ap, sSeq_ap, sBrk_ap, sRet_ap, sRetN_ap, sRetO_ap, sDrop_ap, sIf_ap, sSet_ap, sApp_ap, sTown_ap, sExt_ap, sIns_ap, sSetIx_ap, sAsg_ap, sPar_ap, iOf_ap, iVal_ap, iRng1_ap, iRng2_ap, sFor_ap, eComp_ap, bYes_ap, frzAt_ap, eUn_ap, eNotD_ap, eOrD_ap, eChain_ap, eListRg1_ap, eIsa_ap, eMt_ap, iEnumV_ap, iEnumF_ap, iZipV_ap, iZipF_ap, eTLen_ap, iRng3D_ap, sEnd_ap, eSs_ap, sPar3_ap, xPop_ap, xTup1_ap, xCat_ap, sSetX_ap, sAppX_ap, sParO_ap, sForEI_ap, sForK_ap, eRep_ap, eDicK_ap, eDicT_ap, sPut_ap, eAlt_ap, sTry_ap, eGetD_ap, eLockI_ap, iKeyF_ap, sSetDef_ap, eTupVals_ap, sNst_ap, frzNAt_ap, sAppN_ap, sStN_ap, eListRg2_ap, runB_ap, gOne_ap, gMany_ap, dI_ap, yesC_ap, dCmp_int, setD, kill_nx, kill_rt, kill_bk, Option.bind_some, Option.map_some, Option.bind_none, Option.map_none, List.getElem?_cons_zero, List.getElem?_cons_succ, List.set_cons_zero, List.set_cons_succ, List.cons_append, List.nil_append, List.append_nil, List.replicate, List.length_cons, List.length_nil, Nat.reduceAdd, Nat.reduceSub, Nat.zero_add, wdat_no, wdat_d, wdat_town, wdat_ol, wdat_od, wfrz_no, wfrz_d, wfrz_town, wfrz_ol, wfrz_od, wval_no, wval_d, wval_town, wval_ol, wval_od, warg_no, warg_d, warg_town, warg_ol, warg_od, vals, gLen, gAbs, gMax2, gMin2, gInt, gTup, gList, wipeW, if_true, if_false, Bool.false_eq_true, Bool.not_true, Bool.not_false, reduceCtorEq, k1, dAdd_int]),
    sSeq_nx (ρ' := [Sc ns, .town, I' (1 + d), .d (.list (ms.map .int)), .no, .no, .no, .no, .no, .no]) (n' := n1) (by simp -implicitDefEqProofs only [eVar_ap, dVar_ap, eC_ap, dOf_ap, eFrz_ap, eBin_ap, bTest_ap, bTru_ap, bAnd_ap, bOr_ap, bNot_ap, eIf_ap, eB_ap, eAnd_ap, eOr_ap, aNil_ap, aCons_ap, sNil_ap, sCons_ap, eTup_ap, eLst_ap, eCall_ap, eApp_ap, oNone_ap, oSome_ap, eSl_ap, sNil'_ap, sSeq_ap, sBrk_ap, sRet_ap, sRetN_ap, sRetO_ap, sDrop_ap, sIf_ap, sSet_ap, sApp_ap, sTown_ap, sExt_ap, sIns_ap, sSetIx_ap, sAsg_ap, sPar_ap, iOf_ap, iVal_ap, iRng1_ap, iRng2_ap, sFor_ap, eComp_ap, bYes_ap, frzAt_ap, eUn_ap, eNotD_ap, eOrD_ap, eChain_ap, eListRg1_ap, eIsa_ap, eMt_ap, iEnumV_ap, iEnumF_ap, iZipV_ap, iZipF_ap, eTLen_ap, iRng3D_ap, sEnd_ap, eSs_ap, sPar3_ap, xPop_ap, xTup1_ap, xCat_ap, sSetX_ap, sAppX_ap, sParO_ap, sForEI_ap, sForK_ap, eRep_ap, eDicK_ap, eDicT_ap, sPut_ap, eAlt_ap, sTry_ap, eGetD_ap, eLockI_ap, iKeyF_ap, sSetDef_ap, eTupVals_ap, sNst_ap, frzNAt_ap, sAppN_ap, sStN_ap, eListRg2_ap, runB_ap, gOne_ap, gMany_ap, dI_ap, yesC_ap, dCmp_int, setD, kill_nx, kill_rt, kill_bk, Option.bind_some, Option.map_some, Option.bind_none, Option.map_none, List.getElem?_cons_zero, List.getElem?_cons_succ, List.set_cons_zero, List.set_cons_succ, List.cons_append, List.nil_append, List.append_nil, List.replicate, List.length_cons, List.length_nil, Nat.reduceAdd, Nat.reduceSub, Nat.zero_add, wdat_no, wdat_d, wdat_town, wdat_ol, wdat_od, wfrz_no, wfrz_d, wfrz_town, wfrz_ol, wfrz_od, wval_no, wval_d, wval_town, wval_ol, wval_od, warg_no, warg_d, warg_town, warg_ol, warg_od, vals, gLen, gAbs, gMax2, gMin2, gInt, gTup, gList, wipeW, if_true, if_false, Bool.false_eq_true, Bool.not_true, Bool.not_false, reduceCtorEq, r1, hb, c1]),
    sSeq_nx (ρ' := [Sc ns, .town, I' (1 + d), .d (.list (ms.map .int)), .no, .oll [], .no, .no, .no, .no]) (n' := n1) (by simp -implicitDefEqProofs only [eVar_ap, dVar_ap, eC_ap, dOf_ap, eFrz_ap, eBin_ap, bTest_ap, bTru_ap, bAnd_ap, bOr_ap, bNot_ap, eIf_ap, eB_ap, eAnd_ap, eOr_ap, aNil_ap, aCons_ap, sNil_ap, sCons_ap, eTup_ap, eLst_ap, eCall_ap, eApp_ap, oNone_ap, oSome_ap, eSl_ap, sNil'_ap, sSeq_ap, sBrk_ap, sRet_ap, sRetN_ap, sRetO_ap, sDrop_ap, sIf_ap, sSet_ap, sApp_ap, sTown_ap, sExt_ap, sIns_ap, sSetIx_ap, sAsg_ap, sPar_ap, iOf_ap, iVal_ap, iRng1_ap, iRng2_ap, sFor_ap, eComp_ap, bYes_ap, frzAt_ap, eUn_ap, eNotD_ap, eOrD_ap, eChain_ap, eListRg1_ap, eIsa_ap, eMt_ap, iEnumV_ap, iEnumF_ap, iZipV_ap, iZipF_ap, eTLen_ap, iRng3D_ap, sEnd_ap, eSs_ap, sPar3_ap, xPop_ap, xTup1_ap, xCat_ap, sSetX_ap, sAppX_ap, sParO_ap, sForEI_ap, sForK_ap, eRep_ap, eDicK_ap, eDicT_ap, sPut_ap, eAlt_ap, sTry_ap, eGetD_ap, eLockI_ap, iKeyF_ap, sSetDef_ap, eTupVals_ap, sNst_ap, frzNAt_ap, sAppN_ap, sStN_ap, eListRg2_ap, runB_ap, gOne_ap, gMany_ap, dI_ap, yesC_ap, dCmp_int, setD, kill_nx, kill_rt, kill_bk, Option.bind_some, Option.map_some, Option.bind_none, Option.map_none, List.getElem?_cons_zero, List.getElem?_cons_succ, List.set_cons_zero, List.set_cons_succ, List.cons_append, List.nil_append, List.append_nil, List.replicate, List.length_cons, List.length_nil, Nat.reduceAdd, Nat.reduceSub, Nat.zero_add, wdat_no, wdat_d, wdat_town, wdat_ol, wdat_od, wfrz_no, wfrz_d, wfrz_town, wfrz_ol, wfrz_od, wval_no, wval_d, wval_town, wval_ol, wval_od, warg_no, warg_d, warg_town, warg_ol, warg_od, vals, gLen, gAbs, gMax2, gMin2, gInt, gTup, gList, wipeW, if_true, if_false, Bool.false_eq_true, Bool.not_true, Bool.not_false, reduceCtorEq]; rfl),
    sSeq_nx (ρ' := [Sc ns, .town, I' (1 + d), .no, .no, .oll (tbL ms.length fun i j => sgI (ms.getD i 0) (ms.getD j 0)), .no, .no, .no, .no]) (n' := n1) (by simp -implicitDefEqProofs only [eVar_ap, dVar_ap, eC_ap, dOf_ap, eFrz_ap, eBin_ap, bTest_ap, bTru_ap, bAnd_ap, bOr_ap, bNot_ap, eIf_ap, eB_ap, eAnd_ap, eOr_ap, aNil_ap, aCons_ap, sNil_ap, sCons_ap, eTup_ap, eLst_ap, eCall_ap, eApp_ap, oNone_ap, oSome_ap, eSl_ap, sNil'_ap, sSeq_ap, sBrk_ap, sRet_ap, sRetN_ap, sRetO_ap, sDrop_ap, sIf_ap, sSet_ap, sApp_ap, sTown_ap, sExt_ap, sIns_ap, sSetIx_ap, sAsg_ap, sPar_ap, iOf_ap, iVal_ap, iRng1_ap, iRng2_ap, sFor_ap, eComp_ap, bYes_ap, frzAt_ap, eUn_ap, eNotD_ap, eOrD_ap, eChain_ap, eListRg1_ap, eIsa_ap, eMt_ap, iEnumV_ap, iEnumF_ap, iZipV_ap, iZipF_ap, eTLen_ap, iRng3D_ap, sEnd_ap, eSs_ap, sPar3_ap, xPop_ap, xTup1_ap, xCat_ap, sSetX_ap, sAppX_ap, sParO_ap, sForEI_ap, sForK_ap, eRep_ap, eDicK_ap, eDicT_ap, sPut_ap, eAlt_ap, sTry_ap, eGetD_ap, eLockI_ap, iKeyF_ap, sSetDef_ap, eTupVals_ap, sNst_ap, frzNAt_ap, sAppN_ap, sStN_ap, eListRg2_ap, runB_ap, gOne_ap, gMany_ap, dI_ap, yesC_ap, dCmp_int, setD, kill_nx, kill_rt, kill_bk, Option.bind_some, Option.map_some, Option.bind_none, Option.map_none, List.getElem?_cons_zero, List.getElem?_cons_succ, List.set_cons_zero, List.set_cons_succ, List.cons_append, List.nil_append, List.append_nil, List.replicate, List.length_cons, List.length_nil, Nat.reduceAdd, Nat.reduceSub, Nat.zero_add, wdat_no, wdat_d, wdat_town, wdat_ol, wdat_od, wfrz_no, wfrz_d, wfrz_town, wfrz_ol, wfrz_od, wval_no, wval_d, wval_town, wval_ol, wval_od, warg_no, warg_d, warg_town, warg_ol, warg_od, vals, gLen, gAbs, gMax2, gMin2, gInt, gTup, gList, wipeW, if_true, if_false, Bool.false_eq_true, Bool.not_true, Bool.not_false, reduceCtorEq, iSeq, List.length_map, hbm, t1])]
  rw [dN] at *
  rw [sSeq_nx (ρ' := [.no, .no, .no, .no, .no, .oll (tbL ms.length f'), .no, .no, .no, .no]) (n' := n2) (by simp -implicitDefEqProofs only [eVar_ap, dVar_ap, eC_ap, dOf_ap, eFrz_ap, eBin_ap, bTest_ap, bTru_ap, bAnd_ap, bOr_ap, bNot_ap, eIf_ap, eB_ap, eAnd_ap, eOr_ap, aNil_ap, aCons_ap, sNil_ap, sCons_ap, eTup_ap, eLst_ap, eCall_ap, eApp_ap, oNone_ap, oSome_ap, eSl_ap, sNil'_ap, sSeq_ap, sBrk_ap, sRet_ap, sRetN_ap, sRetO_ap, sDrop_ap, sIf_ap, sSet_ap, sApp_ap, sTown_ap, sExt_ap, sIns_ap, sSetIx_ap, sAsg_ap, sPar_ap, iOf_ap, iVal_ap, iRng1_ap, iRng2_ap, sFor_ap, eComp_ap, bYes_ap, frzAt_ap, eUn_ap, eNotD_ap, eOrD_ap, eChain_ap, eListRg1_ap, eIsa_ap, eMt_ap, iEnumV_ap, iEnumF_ap, iZipV_ap, iZipF_ap, eTLen_ap, iRng3D_ap, sEnd_ap, eSs_ap, sPar3_ap, xPop_ap, xTup1_ap, xCat_ap, sSetX_ap, sAppX_ap, sParO_ap, sForEI_ap, sForK_ap, eRep_ap, eDicK_ap, eDicT_ap, sPut_ap, eAlt_ap, sTry_ap, eGetD_ap, eLockI_ap, iKeyF_ap, sSetDef_ap, eTupVals_ap, sNst_ap, frzNAt_ap, sAppN_ap, sStN_ap, eListRg2_ap, runB_ap, gOne_ap, gMany_ap, dI_ap, yesC_ap, dCmp_int, setD, kill_nx, kill_rt, kill_bk, Option.bind_some, Option.map_some, Option.bind_none, Option.map_none, List.getElem?_cons_zero, List.getElem?_cons_succ, List.set_cons_zero, List.set_cons_succ, List.cons_append, List.nil_append, List.append_nil, List.replicate, List.length_cons, List.length_nil, Nat.reduceAdd, Nat.reduceSub, Nat.zero_add, wdat_no, wdat_d, wdat_town, wdat_ol, wdat_od, wfrz_no, wfrz_d, wfrz_town, wfrz_ol, wfrz_od, wval_no, wval_d, wval_town, wval_ol, wval_od, warg_no, warg_d, warg_town, warg_ol, warg_od, vals, gLen, gAbs, gMax2, gMin2, gInt, gTup, gList, wipeW, if_true, if_false, Bool.false_eq_true, Bool.not_true, Bool.not_false, reduceCtorEq, k3, r3, hb3, t2])]
  simp -implicitDefEqProofs only [eVar_ap, dVar_ap, eC_ap, dOf_ap, eFrz_ap, eBin_ap, bTest_ap, bTru_ap, bAnd_ap, bOr_ap, bNot_ap, eIf_ap, eB_ap, eAnd_ap, eOr_ap, aNil_ap, aCons_ap, sNil_ap, sCons_ap, eTup_ap, eLst_ap, eCall_ap, eApp_ap, oNone_ap, oSome_ap, eSl_ap, sNil'_ap, sSeq_ap, sBrk_ap, sRet_ap, sRetN_ap, sRetO_ap, sDrop_ap, sIf_ap, sSet_ap, sApp_ap, sTown_ap, sExt_ap, sIns_ap, sSetIx_ap, sAsg_ap, sPar_ap, iOf_ap, iVal_ap, iRng1_ap, iRng2_ap, sFor_ap, eComp_ap, bYes_ap, frzAt_ap, eUn_ap, eNotD_ap, eOrD_ap, eChain_ap, eListRg1_ap, eIsa_ap, eMt_ap, iEnumV_ap, iEnumF_ap, iZipV_ap, iZipF_ap, eTLen_ap, iRng3D_ap, sEnd_ap, eSs_ap, sPar3_ap, xPop_ap, xTup1_ap, xCat_ap, sSetX_ap, sAppX_ap, sParO_ap, sForEI_ap, sForK_ap, eRep_ap, eDicK_ap, eDicT_ap, sPut_ap, eAlt_ap, sTry_ap, eGetD_ap, eLockI_ap, iKeyF_ap, sSetDef_ap, eTupVals_ap, sNst_ap, frzNAt_ap, sAppN_ap, sStN_ap, eListRg2_ap, runB_ap, gOne_ap, gMany_ap, dI_ap, yesC_ap, dCmp_int, setD, kill_nx, kill_rt, kill_bk, Option.bind_some, Option.map_some, Option.bind_none, Option.map_none, List.getElem?_cons_zero, List.getElem?_cons_succ, List.set_cons_zero, List.set_cons_succ, List.cons_append, List.nil_append, List.append_nil, List.replicate, List.length_cons, List.length_nil, Nat.reduceAdd, Nat.reduceSub, Nat.zero_add, wdat_no, wdat_d, wdat_town, wdat_ol, wdat_od, wfrz_no, wfrz_d, wfrz_town, wfrz_ol, wfrz_od, wval_no, wval_d, wval_town, wval_ol, wval_od, warg_no, warg_d, warg_town, warg_ol, warg_od, vals, gLen, gAbs, gMax2, gMin2, gInt, gTup, gList, wipeW, if_true, if_false, Bool.false_eq_true, Bool.not_true, Bool.not_false, reduceCtorEq, iSeq, List.length_map, List.length_range, hbm, c4]
end L2.Lv.Sh
namespace L2.Lv.Sh
open PySem PySem.Spec PyProof.Rows L2 L2.Lv
theorem lodd_ok {n : Nat} {f : Nat → Nat → Int} {i j : Nat} (hi : i < n) (hj : j < n) (m : Nat) : m__law_is_odd [.d (tbD n f), .d (.int (i : Int)), .d (.int (j : Int))] m = some (.d (.bool (oddB f i j)), m) := by
  have x1 := tbIx (f := f) hi
  have x2 := rwIx (g := f i) hj
  have x3 := tbIx (f := f) hj
  have x4 := rwIx (g := f j) hi
  have e : (!(f i j + f j i == 0)) = oddB f i j := by
    unfold oddB
    rw [Bool.eq_iff_iff]
    simp only [Bool.not_eq_true', beq_eq_false_iff_ne, ne_eq]
    omega
  unfold m__law_is_odd b__law_is_odd
  simp -implicitDefEqProofs only [eVar_ap, dVar_ap, eC_ap, dOf_ap, eFrz_ap, eBin_ap, bTest_ap, bTru_ap, bAnd_ap, bOr_ap, bNot_ap, eIf_ap, eB_ap, eAnd_ap, eOr_ap, aNil_ap, aCons_ap, sNil_ap, sCons_ap, eTup_ap, eLst_ap, eCall_ap, eApp_ap, oNone_ap, oSome_ap, eSl_ap, sNil'_ap, sSeq_ap, sBrk_ap, sRet_ap, sRetN_ap, sRetO_ap, sDrop_ap, sIf_ap, sSet_ap, sApp_ap, sTown_ap, sExt_ap, sIns_ap, sSetIx_ap, sAsg_ap, sPar_ap, iOf_ap, iVal_ap, iRng1_ap, iRng2_ap, sFor_ap, eComp_ap, bYes_ap, frzAt_ap, eUn_ap, eNotD_ap, eOrD_ap, eChain_ap, eListRg1_ap, eIsa_ap, eMt_ap, iEnumV_ap, iEnumF_ap, iZipV_ap, iZipF_ap, eTLen_ap, iRng3D_ap, sEnd_ap, eSs_ap, sPar3_ap, xPop_ap, xTup1_ap, xCat_ap, sSetX_ap, sAppX_ap, sParO_ap, sForEI_ap, sForK_ap, eRep_ap, eDicK_ap, eDicT_ap, sPut_ap, eAlt_ap, sTry_ap, eGetD_ap, eLockI_ap, iKeyF_ap, sSetDef_ap, eTupVals_ap, sNst_ap, frzNAt_ap, sAppN_ap, sStN_ap, eListRg2_ap, runB_ap, gOne_ap, gMany_ap, dI_ap, yesC_ap, dCmp_int, setD, kill_nx, kill_rt, kill_bk, Option.bind_some, Option.map_some, Option.bind_none, Option.map_none, List.getElem?_cons_zero, List.getElem?_cons_succ, List.set_cons_zero, List.set_cons_succ, List.cons_append, List.nil_append, List.append_nil, List.replicate, List.length_cons, List.length_nil, Nat.reduceAdd, Nat.reduceSub, Nat.zero_add, wdat_no, wdat_d, wdat_town, wdat_ol, wdat_od, wfrz_no, wfrz_d, wfrz_town, wfrz_ol, wfrz_od, wval_no, wval_d, wval_town, wval_ol, wval_od, warg_no, warg_d, warg_town, warg_ol, warg_od, vals, gLen, gAbs, gMax2, gMin2, gInt, gTup, gList, wipeW, if_true, if_false, Bool.false_eq_true, Bool.not_true, Bool.not_false, reduceCtorEq, x1, x2, x3, x4, dAdd_int, dNe_int, e]
theorem lchain_ok {n : Nat} {f : Nat → Nat → Int} (hw : Wd n f) {i j k : Nat} (hi : i < n) (hj : j < n) (hk : k < n) (m : Nat) : m__law_is_chain [.d (tbD n f), .d (.int (i : Int)), .d (.int (j : Int)), .d (.int (k : Int))] m = some (.d (.bool (chB f i j k)), m) := by
  have x1 := tbIx (f := f) hi
  have x2 := rwIx (g := f i) hj
  have x3 := tbIx (f := f) hj
  have x4 := rwIx (g := f j) hk
  have x5 := rwIx (g := f i) hk
  have w1 := hw i j hi hj
  have w2 := hw j k hj hk
  unfold m__law_is_chain b__law_is_chain chB
  generalize f i j = a at *
  generalize f j k = b at *
  generalize f i k = c at *
  have q1 : ((-1 : Int) == 1) = false := rfl
  have q2 : ((0 : Int) == 1) = false := rfl
  have q3 : ((1 : Int) == 1) = true := rfl
  have e1 : dIn (.int (-1)) (.tuple [.int (-1), .int (-1)]) = some (.d (.bool true)) := dIn_ints (-1) [-1, -1]
  have e2 : dIn (.int (-1)) (.tuple [.int (-1), .int 0]) = some (.d (.bool true)) := dIn_ints (-1) [-1, 0]
  have e3 : dIn (.int (-1)) (.tuple [.int 0, .int (-1)]) = some (.d (.bool true)) := dIn_ints (-1) [0, -1]
  have e4 : dIn (.int (-1)) (.tuple [.int 0, .int 0]) = some (.d (.bool false)) := dIn_ints (-1) [0, 0]
  rcases w1 with rfl | rfl | rfl <;> rcases w2 with rfl | rfl | rfl <;> (simp -implicitDefEqProofs only [eVar_ap, dVar_ap, eC_ap, dOf_ap, eFrz_ap, eBin_ap, bTest_ap, bTru_ap, bAnd_ap, bOr_ap, bNot_ap, eIf_ap, eB_ap, eAnd_ap, eOr_ap, aNil_ap, aCons_ap, sNil_ap, sCons_ap, eTup_ap, eLst_ap, eCall_ap, eApp_ap, oNone_ap, oSome_ap, eSl_ap, sNil'_ap, sSeq_ap, sBrk_ap, sRet_ap, sRetN_ap, sRetO_ap, sDrop_ap, sIf_ap, sSet_ap, sApp_ap, sTown_ap, sExt_ap, sIns_ap, sSetIx_ap, sAsg_ap, sPar_ap, iOf_ap, iVal_ap, iRng1_ap, iRng2_ap, sFor_ap, eComp_ap, bYes_ap, frzAt_ap, eUn_ap, eNotD_ap, eOrD_ap, eChain_ap, eListRg1_ap, eIsa_ap, eMt_ap, iEnumV_ap, iEnumF_ap, iZipV_ap, iZipF_ap, eTLen_ap, iRng3D_ap, sEnd_ap, eSs_ap, sPar3_ap, xPop_ap, xTup1_ap, xCat_ap, sSetX_ap, sAppX_ap, sParO_ap, sForEI_ap, sForK_ap, eRep_ap, eDicK_ap, eDicT_ap, sPut_ap, eAlt_ap, sTry_ap, eGetD_ap, eLockI_ap, iKeyF_ap, sSetDef_ap, eTupVals_ap, sNst_ap, frzNAt_ap, sAppN_ap, sStN_ap, eListRg2_ap, runB_ap, gOne_ap, gMany_ap, dI_ap, yesC_ap, dCmp_int, setD, kill_nx, kill_rt, kill_bk, Option.bind_some, Option.map_some, Option.bind_none, Option.map_none, List.getElem?_cons_zero, List.getElem?_cons_succ, List.set_cons_zero, List.set_cons_succ, List.cons_append, List.nil_append, List.append_nil, List.replicate, List.length_cons, List.length_nil, Nat.reduceAdd, Nat.reduceSub, Nat.zero_add, wdat_no, wdat_d, wdat_town, wdat_ol, wdat_od, wfrz_no, wfrz_d, wfrz_town, wfrz_ol, wfrz_od, wval_no, wval_d, wval_town, wval_ol, wval_od, warg_no, warg_d, warg_town, warg_ol, warg_od, vals, gLen, gAbs, gMax2, gMin2, gInt, gTup, gList, wipeW, if_true, if_false, Bool.false_eq_true, Bool.not_true, Bool.not_false, reduceCtorEq, x1, x2, x3, x4, x5, dEq_int, q1, q2, q3, dNeg, e1, e2, e3, e4, dNe_int] <;> rfl)
end L2.Lv.Sh
namespace L2.Lv.K10
open PySem PySem.Spec PyProof.Rows L2 L2.Lv L2.Lv.Sh
def topS (i : Nat) : Stmt := PySem.Challenge.pw_keyorders_k10_whole_papers_of_tables.main.body.getD i (.Pass ⟨0, 0, 0, 0⟩)
structure Facts (K : PySem.W.Frag) (mg : Str → Option Value) where
  d_is_whole : DF K mg "is_whole" (topS 1) ["thing", "low", "high"]
  d_is_table : DF K mg "is_table" (topS 3) ["thing"]
  d_is_odd : DF K mg "is_odd" (topS 4) ["table", "one", "other"]
  d_is_chain : DF K mg "is_chain" (topS 5) ["table", "one", "other", "third"]
  d_is_why_none : DF K mg "is_why_none" (topS 6) ["table", "thing"]
  d__law_same : DF K mg "_law_same" (topS 8) ["_law_got", "_law_due"]
  d__law_draw : DF K mg "_law_draw" (topS 9) ["_law_script", "_law_town", "_law_many"]
  d__law_table : DF K mg "_law_table" (topS 11) ["_law_script", "_law_town"]
  d__law_is_odd : DF K mg "_law_is_odd" (topS 12) ["_law_table_here", "_law_k", "_law_n"]
  d__law_is_chain : DF K mg "_law_is_chain" (topS 13) ["_law_table_here", "_law_k", "_law_n", "_law_m"]
  d__law_is_why : DF K mg "_law_is_why" (topS 14) ["_law_table_here", "_law_thing"]
  d__law_is_table : DF K mg "_law_is_table" (topS 15) ["_law_thing"]
  d__law_pick : DF K mg "_law_pick" (topS 10) ["_law_script", "_law_town", "_law_some"]
  d__law_bent : DF K mg "_law_bent" (topS 16) ["_law_script", "_law_town", "_law_thing"]
  d_law : DF K mg "law" (topS 17) ["_law_script"]
  z_all : mg "all" = none
  z_bool : mg "bool" = none
  z_int : mg "int" = none
  z_isinstance : mg "isinstance" = none
  z_len : mg "len" = none
  z_list : mg "list" = none
  z_min : mg "min" = none
  z_range : mg "range" = none
  z_str : mg "str" = none
  z_tuple : mg "tuple" = none
  z_zip : mg "zip" = none
section
variable {P : Program} {w : World} {K : PySem.W.Frag} {mg : Str → Option Value} {base : Heap}
/-! ### is_whole -/
abbrev st_is_whole : Stmt := topS 1
abbrev N_is_whole : List Str := ["thing", "low", "high"]
theorem sc_is_whole : FnScope N_is_whole ["thing", "low", "high"] (defScope st_is_whole) := ⟨rfl, rfl, rfl, by decide +kernel, rfl, by decide +kernel, by decide +kernel⟩
theorem ok_is_whole (T : Facts K mg)  : FnOk P w K mg base CX0 1 T.d_is_whole.f T.d_is_whole.fd ["thing", "low", "high"] (spOf K 3 m_is_whole) :=
  fn_val (N := N_is_whole) T.d_is_whole.F sc_is_whole fun cdv A outer s H E hr => (by exact (ss_one (by exact (ss_ret (by exact (ev_and (by exact (ev_isa isa_int (by rfl) T.z_isinstance bt_isinstance (by exact (eb_var (pv 0))) (pe_bltn (by rfl) T.z_int bt_int (by rfl)))) (ev_and (by exact (ev_notD (by exact (eb_of (by exact (ev_isa isa_bool (by rfl) T.z_isinstance bt_isinstance (by exact (eb_var (pv 0))) (pe_bltn (by rfl) T.z_bool bt_bool (by rfl)))))))) (ev_one (by exact (ev_chain (ov_le (hu0 hr)) (ov_le (hu0 hr)) (by exact (eb_var (pv 1))) (by exact (eb_var (pv 0))) (by exact (eb_var (pv 2)))))))))))))
/-! ### is_table -/
abbrev st_is_table : Stmt := topS 3
abbrev N_is_table : List Str := ["thing", "row", "one"]
theorem sc_is_table : FnScope N_is_table ["thing"] (defScope st_is_table) := ⟨rfl, rfl, rfl, by decide +kernel, rfl, by decide +kernel, by decide +kernel⟩
theorem ok_is_table (T : Facts K mg) (G_is_whole : FnOk P w K mg base CX0 1 T.d_is_whole.f T.d_is_whole.fd ["thing", "low", "high"] (spOf K 3 m_is_whole)) : FnOk P w K mg base CX0 2 T.d_is_table.f T.d_is_table.fd ["thing"] (spOf K 1 m_is_table) :=
  fn_val (N := N_is_table) T.d_is_table.F sc_is_table fun cdv A outer s H E hr => (by exact (ss_cons (by exact (ss_if (by exact (et_w (ew_or (by exact (et_not (by exact (et_tru (by exact (eb_of (by exact (ev_isa isa_tuple (by rfl) T.z_isinstance bt_isinstance (by exact (eb_var (pv 0))) (pe_bltn (by rfl) T.z_tuple bt_tuple (by rfl)))))) (fun _ => (by rfl)))))) (ew_or1 (by exact (et_not (by exact (et_chain (ov_le (hu0 hr)) (ov_le (hu0 hr)) (by exact (eb_of (by exact ev_int))) (by exact (eb_of (by exact (ev_callB cv_len (by rfl) T.z_len bt_len (by exact (ed_cons (by exact (eb_var (pv 0))) (by exact ed_nil))))))) (by exact (eb_of (by exact ev_int)))))))))))
    (by exact (ss_one (by exact (ss_ret (by exact ev_bl)))))
    (by exact ss_nil)))
    (by exact (ss_cons (by exact (ss_if (by exact (et_not (by exact (et_tru (by exact (eb_of (by exact (ev_callB (cv_all (by rfl)) (by rfl) T.z_all bt_all (by exact (ed_cons (by exact (eb_of (by exact (ev_lc (own:=[("row",1)]) (by rfl) sc_is_table.nd (by exact (ej_seq (by exact (eb_var (pv 0))))) (blkOk_by (N := N_is_table) (sc := defScope st_is_table) (by decide +kernel)) (fun _ _ _ _ _ => (by exact (eg_one (pg_name (i := 1) sc_is_table.nd (by rfl) (by first | exact .inl rfl | exact .inr rfl))))) (fun _ _ _ _ _ => ets_nil) (fun _ _ _ _ _ => (by exact (ev_and (by exact (ev_isa isa_tuple (by rfl) T.z_isinstance bt_isinstance (by exact (eb_var (pv 1))) (pe_bltn (by rfl) T.z_tuple bt_tuple (by rfl)))) (ev_one (by exact (ev_cmp (ov_eq (hu64 hr)) (by exact (eb_of (by exact (ev_callB cv_len (by rfl) T.z_len bt_len (by exact (ed_cons (by exact (eb_var (pv 1))) (by exact ed_nil))))))) (by exact (eb_of (by exact (ev_callB cv_len (by rfl) T.z_len bt_len (by exact (ed_cons (by exact (eb_var (pv 0))) (by exact ed_nil))))))) (nomark _))))))))))) (by exact ed_nil))))))) (fun _ => (by rfl))))))
    (by exact (ss_one (by exact (ss_ret (by exact ev_bl)))))
    (by exact ss_nil)))
    (by exact (ss_one (by exact (ss_ret (by exact (ev_callB (cv_all (by rfl)) (by rfl) T.z_all bt_all (by exact (ed_cons (by exact (eb_of (by exact (ev_lc (own:=[("row",1)]) (by rfl) sc_is_table.nd (by exact (ej_seq (by exact (eb_var (pv 0))))) (blkOk_by (N := N_is_table) (sc := defScope st_is_table) (by decide +kernel)) (fun _ _ _ _ _ => (by exact (eg_one (pg_name (i := 1) sc_is_table.nd (by rfl) (by first | exact .inl rfl | exact .inr rfl))))) (fun _ _ _ _ _ => ets_nil) (fun _ _ _ _ _ => (by exact (ev_callB (cv_all (by rfl)) (by rfl) T.z_all bt_all (by exact (ed_cons (by exact (eb_of (by exact (ev_lc (own:=[("one",2)]) (by rfl) sc_is_table.nd (by exact (ej_seq (by exact (eb_var (pv 1))))) (blkOk_by (N := N_is_table) (sc := relS _ (defScope st_is_table)) (by decide +kernel)) (fun _ _ _ _ _ => (by exact (eg_one (pg_name (i := 2) sc_is_table.nd (by rfl) (by first | exact .inl rfl | exact .inr rfl))))) (fun _ _ _ _ _ => ets_nil) (fun _ _ _ _ _ => (by exact (ev_callD T.d_is_whole G_is_whole hr (by decide) (by rfl) (by exact (ea_cons (by exact (ev_var (pv 2))) (by exact (ea_cons (by exact (ev_neg (by exact (eb_of (by exact ev_int))))) (by exact (ea_cons (by exact ev_int) (by exact ea_nil)))))))))))))) (by exact ed_nil)))))))))) (by exact ed_nil)))))))))))))
/-! ### is_odd -/
abbrev st_is_odd : Stmt := topS 4
abbrev N_is_odd : List Str := ["table", "one", "other"]
theorem sc_is_odd : FnScope N_is_odd ["table", "one", "other"] (defScope st_is_odd) := ⟨rfl, rfl, rfl, by decide +kernel, rfl, by decide +kernel, by decide +kernel⟩
theorem ok_is_odd (T : Facts K mg)  : FnOk P w K mg base CX0 1 T.d_is_odd.f T.d_is_odd.fd ["table", "one", "other"] (spOf K 3 m_is_odd) :=
  fn_val (N := N_is_odd) T.d_is_odd.F sc_is_odd fun cdv A outer s H E hr => (by exact (ss_one (by exact (ss_ret (by exact (ev_cmp (ov_ne (hu64 hr)) (by exact (eb_of (by exact (ev_ix ixv (by exact (eb_of (by exact (ev_ix ixv (by exact (eb_var (pv 0))) (by exact (eb_var (pv 1))) (fun _ _ => by rfl))))) (by exact (eb_var (pv 2))) (fun _ _ => by rfl))))) (by exact (eb_of (by exact (ev_bin ov_sub (by exact (eb_of (by exact ev_int))) (by exact (eb_of (by exact (ev_ix ixv (by exact (eb_of (by exact (ev_ix ixv (by exact (eb_var (pv 0))) (by exact (eb_var (pv 2))) (fun _ _ => by rfl))))) (by exact (eb_var (pv 1))) (fun _ _ => by rfl))))))))) (nomark _)))))))
/-! ### is_chain -/
abbrev st_is_chain : Stmt := topS 5
abbrev N_is_chain : List Str := ["table", "one", "other", "third", "first", "second"]
theorem sc_is_chain : FnScope N_is_chain ["table", "one", "other", "third"] (defScope st_is_chain) := ⟨rfl, rfl, rfl, by decide +kernel, rfl, by decide +kernel, by decide +kernel⟩
theorem ok_is_chain (T : Facts K mg)  : FnOk P w K mg base CX0 1 T.d_is_chain.f T.d_is_chain.fd ["table", "one", "other", "third"] (spOf K 4 m_is_chain) :=
  fn_val (N := N_is_chain) T.d_is_chain.F sc_is_chain fun cdv A outer s H E hr => (by exact (ss_cons (by exact (ss_set (i := 4) sc_is_chain.nd (by rfl) (by first | exact .inl rfl | exact .inr rfl) (by exact (ev_ix ixv (by exact (eb_of (by exact (ev_ix ixv (by exact (eb_var (pv 0))) (by exact (eb_var (pv 1))) (fun _ _ => by rfl))))) (by exact (eb_var (pv 2))) (fun _ _ => by rfl)))))
    (by exact (ss_cons (by exact (ss_end [2] (by exact (ss_set (i := 5) sc_is_chain.nd (by rfl) (by first | exact .inl rfl | exact .inr rfl) (by exact (ev_ix ixv (by exact (eb_of (by exact (ev_ix ixv (by exact (eb_var (pv 0))) (by exact (eb_var (pv 2))) (fun _ _ => by rfl))))) (by exact (eb_var (pv 3))) (fun _ _ => by rfl)))))))
    (by exact (ss_one (by exact (ss_ret (by exact (ev_and (by exact (ev_cmp (ov_lt (hu0 hr)) (by exact (eb_var (pv 4))) (by exact (eb_of (by exact ev_int))) (nomark _))) (ev_and (by exact (ev_cmp (ov_lt (hu0 hr)) (by exact (eb_var (pv 5))) (by exact (eb_of (by exact ev_int))) (nomark _))) (ev_one (by exact (ev_cmp (ov_ne (hu64 hr)) (by exact (eb_of (by exact (ev_ix ixv (by exact (eb_of (by exact (ev_ix ixv (by exact (eb_var (pv 0))) (by exact (eb_var (pv 1))) (fun _ _ => by rfl))))) (by exact (eb_var (pv 3))) (fun _ _ => by rfl))))) (by exact (eb_of (by exact (ev_callB (cv_min2 (by rfl)) (by rfl) T.z_min bt_min (by exact (ed_cons (by exact (eb_var (pv 4))) (by exact (ed_cons (by exact (eb_var (pv 5))) (by exact ed_nil))))))))) (nomark _)))))))))))))))
/-! ### is_why_none -/
abbrev st_is_why_none : Stmt := topS 6
abbrev N_is_why_none : List Str := ["table", "thing", "one"]
theorem sc_is_why_none : FnScope N_is_why_none ["table", "thing"] (defScope st_is_why_none) := ⟨rfl, rfl, rfl, by decide +kernel, rfl, by decide +kernel, by decide +kernel⟩
theorem ok_is_why_none (T : Facts K mg) (G_is_whole : FnOk P w K mg base CX0 1 T.d_is_whole.f T.d_is_whole.fd ["thing", "low", "high"] (spOf K 3 m_is_whole)) (G_is_odd : FnOk P w K mg base CX0 1 T.d_is_odd.f T.d_is_odd.fd ["table", "one", "other"] (spOf K 3 m_is_odd)) (G_is_chain : FnOk P w K mg base CX0 1 T.d_is_chain.f T.d_is_chain.fd ["table", "one", "other", "third"] (spOf K 4 m_is_chain)) : FnOk P w K mg base CX0 2 T.d_is_why_none.f T.d_is_why_none.fd ["table", "thing"] (spOf K 2 m_is_why_none) :=
  fn_val (N := N_is_why_none) T.d_is_why_none.F sc_is_why_none fun cdv A outer s H E hr => (by exact (ss_cons (by exact (ss_if (by exact (et_w (ew_or (by exact (et_not (by exact (et_tru (by exact (eb_of (by exact (ev_isa isa_tuple (by rfl) T.z_isinstance bt_isinstance (by exact (eb_var (pv 1))) (pe_bltn (by rfl) T.z_tuple bt_tuple (by rfl)))))) (fun _ => (by rfl)))))) (ew_or (by exact (et_cmp (ov_notIn (hu65 hr)) (by exact (eb_of (by exact (ev_callB cv_len (by rfl) T.z_len bt_len (by exact (ed_cons (by exact (eb_var (pv 1))) (by exact ed_nil))))))) (by exact (eb_of (by exact (ev_tup (by exact (ea_cons (by exact ev_int) (by exact (ea_cons (by exact ev_int) (by exact ea_nil))))))))) (by with_unfolding_all rfl))) (ew_or1 (by exact (et_cmp (ov_ne (hu64 hr)) (by exact (eb_of (by exact (ev_ix ixv (by exact (eb_var (pv 1))) (by exact (eb_of (by exact ev_int))) (fun _ _ => by rfl))))) (by exact (eb_of (by exact (ev_ife (by exact (et_cmp (ov_eq (hu64 hr)) (by exact (eb_of (by exact (ev_callB cv_len (by rfl) T.z_len bt_len (by exact (ed_cons (by exact (eb_var (pv 1))) (by exact ed_nil))))))) (by exact (eb_of (by exact ev_int))) (nomark _))) (by exact ev_str) (by exact ev_str))))) (nomark _))))))))
    (by exact (ss_one (by exact (ss_ret (by exact ev_bl)))))
    (by exact ss_nil)))
    (by exact (ss_cons (by exact (ss_if (by exact (et_not (by exact (et_tru (by exact (eb_of (by exact (ev_callB (cv_all (by rfl)) (by rfl) T.z_all bt_all (by exact (ed_cons (by exact (eb_of (by exact (ev_lc (own:=[("one",2)]) (by rfl) sc_is_why_none.nd (by exact (ej_seq (by exact (eb_of (by exact (ev_slice slv (by exact (eb_var (pv 1))) (by exact (eo_some (by exact (eb_of (by exact ev_int))))) (by exact eo_none))))))) (blkOk_by (N := N_is_why_none) (sc := defScope st_is_why_none) (by decide +kernel)) (fun _ _ _ _ _ => (by exact (eg_one (pg_name (i := 2) sc_is_why_none.nd (by rfl) (by first | exact .inl rfl | exact .inr rfl))))) (fun _ _ _ _ _ => ets_nil) (fun _ _ _ _ _ => (by exact (ev_callD T.d_is_whole G_is_whole hr (by decide) (by rfl) (by exact (ea_cons (by exact (ev_var (pv 2))) (by exact (ea_cons (by exact ev_int) (by exact (ea_cons (by exact (ev_bin ov_sub (by exact (eb_of (by exact (ev_callB cv_len (by rfl) T.z_len bt_len (by exact (ed_cons (by exact (eb_var (pv 0))) (by exact ed_nil))))))) (by exact (eb_of (by exact ev_int))))) (by exact ea_nil)))))))))))))) (by exact ed_nil))))))) (fun _ => (by rfl))))))
    (by exact (ss_one (by exact (ss_ret (by exact ev_bl)))))
    (by exact ss_nil)))
    (by exact (ss_cons (by exact (ss_if (by exact (et_cmp (ov_eq (hu64 hr)) (by exact (eb_of (by exact (ev_callB cv_len (by rfl) T.z_len bt_len (by exact (ed_cons (by exact (eb_var (pv 1))) (by exact ed_nil))))))) (by exact (eb_of (by exact ev_int))) (nomark _)))
    (by exact (ss_one (by exact (ss_ret (by exact (ev_callD T.d_is_odd G_is_odd hr (by decide) (by rfl) (by exact (ea_cons (by exact (ev_var (pv 0))) (by exact (ea_cons (by exact (ev_ix ixv (by exact (eb_var (pv 1))) (by exact (eb_of (by exact ev_int))) (fun _ _ => by rfl))) (by exact (ea_cons (by exact (ev_ix ixv (by exact (eb_var (pv 1))) (by exact (eb_of (by exact ev_int))) (fun _ _ => by rfl))) (by exact ea_nil)))))))))))))
    (by exact ss_nil)))
    (by exact (ss_one (by exact (ss_ret (by exact (ev_callD T.d_is_chain G_is_chain hr (by decide) (by rfl) (by exact (ea_cons (by exact (ev_var (pv 0))) (by exact (ea_cons (by exact (ev_ix ixv (by exact (eb_var (pv 1))) (by exact (eb_of (by exact ev_int))) (fun _ _ => by rfl))) (by exact (ea_cons (by exact (ev_ix ixv (by exact (eb_var (pv 1))) (by exact (eb_of (by exact ev_int))) (fun _ _ => by rfl))) (by exact (ea_cons (by exact (ev_ix ixv (by exact (eb_var (pv 1))) (by exact (eb_of (by exact ev_int))) (fun _ _ => by rfl))) (by exact ea_nil)))))))))))))))))))))
/-! ### _law_same -/
abbrev st__law_same : Stmt := topS 8
abbrev N__law_same : List Str := ["_law_got", "_law_due", "_law_one", "_law_other"]
theorem sc__law_same : FnScope N__law_same ["_law_got", "_law_due"] (defScope st__law_same) := ⟨rfl, rfl, rfl, by decide +kernel, rfl, by decide +kernel, by decide +kernel⟩
theorem ok__law_same_ (T : Facts K mg)  : ∀ k, FnOk P w K mg base CX0 (k + 0) T.d__law_same.f T.d__law_same.fd ["_law_got", "_law_due"] (spOf K 2 (m__law_same_ k))
  | 0 => fn_none
  | k + 1 => by
    have G := ok__law_same_ T  k
    have h0 : k + 0 ≤ k + 0 := Nat.le_refl _
    show FnOk P w K mg base CX0 (k + 0 + 1) _ _ _ _
    exact fn_val (N := N__law_same) T.d__law_same.F sc__law_same fun cdv A outer s H E hr => ((by exact (ss_cons (by exact (ss_if (by exact (et_cmp (ov_isN) (by exact (eb_var (pv 1))) (by exact (eb_of (by exact ev_non))) (nomark _)))
    (by exact (ss_one (by exact (ss_ret (by exact (ev_cmp (ov_isN) (by exact (eb_var (pv 0))) (by exact (eb_of (by exact ev_non))) (nomark _)))))))
    (by exact ss_nil)))
    (by exact (ss_cons (by exact (ss_if (by exact (et_tru (by exact (eb_of (by exact (ev_isa isa_bool (by rfl) T.z_isinstance bt_isinstance (by exact (eb_var (pv 1))) (pe_bltn (by rfl) T.z_bool bt_bool (by rfl)))))) (fun _ => (by rfl))))
    (by exact (ss_one (by exact (ss_ret (by exact (ev_and (by exact (ev_isa isa_bool (by rfl) T.z_isinstance bt_isinstance (by exact (eb_var (pv 0))) (pe_bltn (by rfl) T.z_bool bt_bool (by rfl)))) (ev_one (by exact (ev_cmp (ov_eq (hu64 hr)) (by exact (eb_var (pv 0))) (by exact (eb_var (pv 1))) (nomark _))))))))))
    (by exact ss_nil)))
    (by exact (ss_cons (by exact (ss_if (by exact (et_tru (by exact (eb_of (by exact (ev_isa isa_tuple (by rfl) T.z_isinstance bt_isinstance (by exact (eb_var (pv 1))) (pe_bltn (by rfl) T.z_tuple bt_tuple (by rfl)))))) (fun _ => (by rfl))))
    (by exact (ss_cons (by exact (ss_if (by exact (et_w (ew_or (by exact (et_not (by exact (et_tru (by exact (eb_of (by exact (ev_isa isa_tuple (by rfl) T.z_isinstance bt_isinstance (by exact (eb_var (pv 0))) (pe_bltn (by rfl) T.z_tuple bt_tuple (by rfl)))))) (fun _ => (by rfl)))))) (ew_or1 (by exact (et_cmp (ov_ne (hu64 hr)) (by exact (eb_of (by exact (ev_callB cv_len (by rfl) T.z_len bt_len (by exact (ed_cons (by exact (eb_var (pv 0))) (by exact ed_nil))))))) (by exact (eb_of (by exact (ev_callB cv_len (by rfl) T.z_len bt_len (by exact (ed_cons (by exact (eb_var (pv 1))) (by exact ed_nil))))))) (nomark _)))))))
    (by exact (ss_one (by exact (ss_ret (by exact ev_bl)))))
    (by exact ss_nil)))
    (by exact (ss_one (by exact (ss_ret (by exact (ev_callB (cv_all (by rfl)) (by rfl) T.z_all bt_all (by exact (ed_cons (by exact (eb_of (by exact (ev_lc (own:=[("_law_one",2),("_law_other",3)]) (by rfl) sc__law_same.nd (by exact (ej_zip (by rfl) T.z_zip (by exact (eb_var (pv 0))) (by exact (eb_var (pv 1))))) (blkOk_by (N := N__law_same) (sc := defScope st__law_same) (by decide +kernel)) (fun _ _ _ _ _ => (by exact (eg_many (by rfl) (egs_cons (pg_name (i := 2) sc__law_same.nd (by rfl) (by first | exact .inl rfl | exact .inr rfl)) (egs_cons (pg_name (i := 3) sc__law_same.nd (by rfl) (by first | exact .inl rfl | exact .inr rfl)) egs_nil))))) (fun _ _ _ _ _ => ets_nil) (fun _ _ _ _ _ => (by exact (ev_callD T.d__law_same G hr h0 (by rfl) (by exact (ea_cons (by exact (ev_var (pv 2))) (by exact (ea_cons (by exact (ev_var (pv 3))) (by exact ea_nil)))))))))))) (by exact ed_nil)))))))))))
    (by exact ss_nil)))
    (by exact (ss_cons (by exact (ss_if (by exact (et_tru (by exact (eb_of (by exact (ev_isa isa_str (by rfl) T.z_isinstance bt_isinstance (by exact (eb_var (pv 1))) (pe_bltn (by rfl) T.z_str bt_str (by rfl)))))) (fun _ => (by rfl))))
    (by exact (ss_one (by exact (ss_ret (by exact (ev_and (by exact (ev_isa isa_str (by rfl) T.z_isinstance bt_isinstance (by exact (eb_var (pv 0))) (pe_bltn (by rfl) T.z_str bt_str (by rfl)))) (ev_one (by exact (ev_cmp (ov_eq (hu64 hr)) (by exact (eb_var (pv 0))) (by exact (eb_var (pv 1))) (nomark _))))))))))
    (by exact ss_nil)))
    (by exact (ss_one (by exact (ss_ret (by exact (ev_and (by exact (ev_isa isa_int (by rfl) T.z_isinstance bt_isinstance (by exact (eb_var (pv 0))) (pe_bltn (by rfl) T.z_int bt_int (by rfl)))) (ev_and (by exact (ev_notD (by exact (eb_of (by exact (ev_isa isa_bool (by rfl) T.z_isinstance bt_isinstance (by exact (eb_var (pv 0))) (pe_bltn (by rfl) T.z_bool bt_bool (by rfl)))))))) (ev_one (by exact (ev_cmp (ov_eq (hu64 hr)) (by exact (eb_var (pv 0))) (by exact (eb_var (pv 1))) (nomark _))))))))))))))))))))
theorem ok__law_same (T : Facts K mg)  : FnOk P w K mg base CX0 12 T.d__law_same.f T.d__law_same.fd ["_law_got", "_law_due"] (spOf K 2 m__law_same) := ok__law_same_ T  12
/-! ### _law_draw -/
abbrev st__law_draw : Stmt := topS 9
abbrev N__law_draw : List Str := ["_law_script", "_law_town", "_law_many", "_law_k", "_law_cell", "_law_number"]
theorem sc__law_draw : FnScope N__law_draw ["_law_script", "_law_town", "_law_many"] (defScope st__law_draw) := ⟨rfl, rfl, rfl, by decide +kernel, rfl, by decide +kernel, by decide +kernel⟩
theorem ok__law_draw (T : Facts K mg)  : FnOk P w K mg base CX0 1 T.d__law_draw.f T.d__law_draw.fd ["_law_script", "_law_town", "_law_many"] (spOf K 3 m__law_draw) :=
  fn_val (N := N__law_draw) T.d__law_draw.F sc__law_draw fun cdv A outer s H E hr => (by exact (ss_cons (by exact (ss_town (pv 1)))
    (by exact (ss_cons (by exact (ss_set (i := 3) sc__law_draw.nd (by rfl) (by first | exact .inl rfl | exact .inr rfl) (by exact (ev_tlen (by rfl) T.z_len (pv 1)))))
    (by exact (ss_cons (by exact (ss_set (i := 4) sc__law_draw.nd (by rfl) (by first | exact .inl rfl | exact .inr rfl) (by exact ev_int)))
    (by exact (ss_cons (by exact (ss_if (by exact (et_tru (by exact (eb_var (pv 0))) (fun _ => (by rfl))))
    (by exact (ss_one (by exact (ss_set (i := 4) sc__law_draw.nd (by rfl) (by first | exact .inl rfl | exact .inr rfl) (by exact (ev_ix ixv (by exact (eb_var (pv 0))) (by exact (eb_of (by exact (ev_bin ov_mod (by exact (eb_var (pv 3))) (by exact (eb_of (by exact (ev_callB cv_len (by rfl) T.z_len bt_len (by exact (ed_cons (by exact (eb_var (pv 0))) (by exact ed_nil))))))))))) (fun _ _ => by rfl)))))))
    (by exact ss_nil)))
    (by exact (ss_cons (by exact (ss_set (i := 5) sc__law_draw.nd (by rfl) (by first | exact .inl rfl | exact .inr rfl) (by exact (ev_bin ov_mod (by exact (eb_of (by exact (ev_bin ov_add (by exact (eb_var (pv 4))) (by exact (eb_of (by exact (ev_bin ov_mul (by exact (eb_of (by exact ev_int))) (by exact (eb_var (pv 3))))))))))) (by exact (eb_of (by exact ev_int)))))))
    (by exact (ss_cons (by exact (ss_set (i := 5) sc__law_draw.nd (by rfl) (by first | exact .inl rfl | exact .inr rfl) (by exact (ev_bin ov_mod (by exact (eb_of (by exact (ev_bin ov_mul (by exact (eb_of (by exact (ev_bin ov_mod (by exact (eb_of (by exact (ev_bin ov_mul (by exact (eb_var (pv 5))) (by exact (eb_var (pv 5))))))) (by exact (eb_of (by exact ev_int))))))) (by exact (eb_of (by exact ev_int))))))) (by exact (eb_of (by exact ev_int)))))))
    (by exact (ss_one (by exact (ss_ret (by exact (ev_bin ov_mod (by exact (eb_of (by exact (ev_bin ov_div (by exact (eb_var (pv 5))) (by exact (eb_of (by exact ev_int))))))) (by exact (eb_var (pv 2)))))))))))))))))))))
/-! ### _law_table -/
abbrev st__law_table : Stmt := topS 11
abbrev N__law_table : List Str := ["_law_script", "_law_town", "_law_many", "_law_marks", "_law_k", "_law_rows", "_law_one", "_law_other", "_law_word", "_law_row"]
theorem sc__law_table : FnScope N__law_table ["_law_script", "_law_town"] (defScope st__law_table) := ⟨rfl, rfl, rfl, by decide +kernel, rfl, by decide +kernel, by decide +kernel⟩
theorem ok__law_table (T : Facts K mg) (G__law_draw : FnOk P w K mg base CX0 1 T.d__law_draw.f T.d__law_draw.fd ["_law_script", "_law_town", "_law_many"] (spOf K 3 m__law_draw)) : FnOk P w K mg base CX0 2 T.d__law_table.f T.d__law_table.fd ["_law_script", "_law_town"] (spOf K 2 m__law_table) :=
  fn_val (N := N__law_table) T.d__law_table.F sc__law_table fun cdv A outer s H E hr => (by exact (ss_cons (by exact (ss_set (i := 2) sc__law_table.nd (by rfl) (by first | exact .inl rfl | exact .inr rfl) (ev_frz (by exact (ev_bin ov_add (by exact (eb_of (by exact ev_int))) (by exact (eb_of (by exact (ev_callD T.d__law_draw G__law_draw hr (by decide) (by rfl) (by exact (ea_cons (by exact (ev_var (pv 0))) (by exact (ea_cons (by exact (ev_var (pv 1))) (by exact (ea_cons (by exact ev_int) (by exact ea_nil))))))))))))))))
    (by exact (ss_cons (by exact (ss_setLcF (i := 3) (own:=[("_law_k",4)]) (by rfl) sc__law_table.nd (by rfl) (by rfl) (by rfl) (by exact (ej_of (ei_range1 (by rfl) T.z_range (by exact (eb_var (pv 2)))))) (blkOk_by (N := N__law_table) (sc := defScope st__law_table) (by decide +kernel)) (fun _ _ _ _ _ => (by exact (eg_one (pg_name (i := 4) sc__law_table.nd (by rfl) (by first | exact .inl rfl | exact .inr rfl))))) (fun _ _ _ _ _ => ets_nil) (fun _ _ _ _ _ => (by exact (ev_callD T.d__law_draw G__law_draw hr (by decide) (by rfl) (by exact (ea_cons (by exact (ev_var (pv 0))) (by exact (ea_cons (by exact (ev_var (pv 1))) (by exact (ea_cons (by exact ev_int) (by exact ea_nil))))))))))))
    (by exact (ss_cons (by exact (ss_nst 5 (ss_set (i := 5) sc__law_table.nd (by rfl) (by first | exact .inl rfl | exact .inr rfl) (by exact (ev_lst (by exact ea_nil))))))
    (by exact (ss_cons (by exact (ss_end [3] (by exact (ss_for PassesOwn.never (by rfl) (by exact (ei_seq (by exact (ev_var (pv 3))))) (by exact (eg_one (pg_name (i := 6) sc__law_table.nd (by rfl) (by first | exact .inl rfl | exact .inr rfl))))
    (by exact (ss_one (by exact (ss_end [6] (by exact (ss_appendN (pv 5) (by exact (ev_lc (own:=[("_law_other",7)]) (by rfl) sc__law_table.nd (by exact (ej_seq (by exact (eb_var (pv 3))))) (blkOk_by (N := N__law_table) (sc := defScope st__law_table) (by decide +kernel)) (fun _ _ _ _ _ => (by exact (eg_one (pg_name (i := 7) sc__law_table.nd (by rfl) (by first | exact .inl rfl | exact .inr rfl))))) (fun _ _ _ _ _ => ets_nil) (fun _ _ _ _ _ => (by exact (ev_ife (by exact (et_cmp (ov_lt (hu0 hr)) (by exact (eb_var (pv 6))) (by exact (eb_var (pv 7))) (nomark _))) (by exact (ev_neg (by exact (eb_of (by exact ev_int))))) (by exact (ev_ife (by exact (et_cmp (ov_gt (hu0 hr)) (by exact (eb_var (pv 6))) (by exact (eb_var (pv 7))) (nomark _))) (by exact ev_int) (by exact ev_int))))))))))))))))))
    (by exact (ss_cons (by exact (ss_end [0, 1, 2] (by exact (ss_for PassesOwn.never (by rfl) (by exact (ei_range1 (by rfl) T.z_range (by exact (eb_of (by exact (ev_callD T.d__law_draw G__law_draw hr (by decide) (by rfl) (by exact (ea_cons (by exact (ev_var (pv 0))) (by exact (ea_cons (by exact (ev_var (pv 1))) (by exact (ea_cons (by exact ev_int) (by exact ea_nil))))))))))))) (by exact (eg_one (pg_name (i := 4) sc__law_table.nd (by rfl) (by first | exact .inl rfl | exact .inr rfl))))
    (by exact (ss_cons (by exact (ss_end [4] (by exact (ss_asg (by exact (ev_tup (by exact (ea_cons (by exact (ev_callD T.d__law_draw G__law_draw hr (by decide) (by rfl) (by exact (ea_cons (by exact (ev_var (pv 0))) (by exact (ea_cons (by exact (ev_var (pv 1))) (by exact (ea_cons (by exact (ev_var (pv 2))) (by exact ea_nil))))))))) (by exact (ea_cons (by exact (ev_callD T.d__law_draw G__law_draw hr (by decide) (by rfl) (by exact (ea_cons (by exact (ev_var (pv 0))) (by exact (ea_cons (by exact (ev_var (pv 1))) (by exact (ea_cons (by exact (ev_var (pv 2))) (by exact ea_nil))))))))) (by exact ea_nil))))))) (by exact (eg_many (by rfl) (egs_cons (pg_name (i := 6) sc__law_table.nd (by rfl) (by first | exact .inl rfl | exact .inr rfl)) (egs_cons (pg_name (i := 7) sc__law_table.nd (by rfl) (by first | exact .inl rfl | exact .inr rfl)) egs_nil))))))))
    (by exact (ss_cons (by exact (ss_set (i := 8) sc__law_table.nd (by rfl) (by first | exact .inl rfl | exact .inr rfl) (by exact (ev_bin ov_sub (by exact (eb_of (by exact (ev_callD T.d__law_draw G__law_draw hr (by decide) (by rfl) (by exact (ea_cons (by exact (ev_var (pv 0))) (by exact (ea_cons (by exact (ev_var (pv 1))) (by exact (ea_cons (by exact ev_int) (by exact ea_nil))))))))))) (by exact (eb_of (by exact ev_int)))))))
    (by exact (ss_cons (by exact (ss_setN (pv 5) (by exact (eb_var (pv 6))) (fun _ _ => by rfl) (by exact (eb_var (pv 7))) (by exact (ev_var (pv 8))) (fun _ => (by rfl))))
    (by exact (ss_one (by exact (ss_end [6, 7, 8] (by exact (ss_if (by exact (et_cmp (ov_gt (hu0 hr)) (by exact (eb_of (by exact (ev_callD T.d__law_draw G__law_draw hr (by decide) (by rfl) (by exact (ea_cons (by exact (ev_var (pv 0))) (by exact (ea_cons (by exact (ev_var (pv 1))) (by exact (ea_cons (by exact ev_int) (by exact ea_nil))))))))))) (by exact (eb_of (by exact ev_int))) (nomark _)))
    (by exact (ss_one (by exact (ss_end [6, 7, 8] (by exact (ss_setN (pv 5) (by exact (eb_var (pv 7))) (fun _ _ => by rfl) (by exact (eb_var (pv 6))) (by exact (ev_neg (by exact (eb_var (pv 8))))) (fun _ => (by rfl))))))))
    (by exact ss_nil)))))))))))))))))
    (by exact (ss_one (by exact (ss_frzN (i := 5) (ss_ret (by exact (ev_callTy cv_tup (by rfl) T.z_tuple bt_tuple (by exact (ed_cons (by exact (eb_of (by exact (ev_lc (own:=[("_law_row",9)]) (by rfl) sc__law_table.nd (by exact (ej_seq (by exact (eb_var (pv 5))))) (blkOk_by (N := N__law_table) (sc := defScope st__law_table) (by decide +kernel)) (fun _ _ _ _ _ => (by exact (eg_one (pg_name (i := 9) sc__law_table.nd (by rfl) (by first | exact .inl rfl | exact .inr rfl))))) (fun _ _ _ _ _ => ets_nil) (fun _ _ _ _ _ => (by exact (ev_callTy cv_tup (by rfl) T.z_tuple bt_tuple (by exact (ed_cons (by exact (eb_var (pv 9))) (by exact ed_nil)))))))))) (by exact ed_nil))))))))))))))))))))
/-! ### _law_is_odd -/
abbrev st__law_is_odd : Stmt := topS 12
abbrev N__law_is_odd : List Str := ["_law_table_here", "_law_k", "_law_n"]
theorem sc__law_is_odd : FnScope N__law_is_odd ["_law_table_here", "_law_k", "_law_n"] (defScope st__law_is_odd) := ⟨rfl, rfl, rfl, by decide +kernel, rfl, by decide +kernel, by decide +kernel⟩
theorem ok__law_is_odd (T : Facts K mg)  : FnOk P w K mg base CX0 1 T.d__law_is_odd.f T.d__law_is_odd.fd ["_law_table_here", "_law_k", "_law_n"] (spOf K 3 m__law_is_odd) :=
  fn_val (N := N__law_is_odd) T.d__law_is_odd.F sc__law_is_odd fun cdv A outer s H E hr => (by exact (ss_one (by exact (ss_ret (by exact (ev_cmp (ov_ne (hu64 hr)) (by exact (eb_of (by exact (ev_bin ov_add (by exact (eb_of (by exact (ev_ix ixv (by exact (eb_of (by exact (ev_ix ixv (by exact (eb_var (pv 0))) (by exact (eb_var (pv 1))) (fun _ _ => by rfl))))) (by exact (eb_var (pv 2))) (fun _ _ => by rfl))))) (by exact (eb_of (by exact (ev_ix ixv (by exact (eb_of (by exact (ev_ix ixv (by exact (eb_var (pv 0))) (by exact (eb_var (pv 2))) (fun _ _ => by rfl))))) (by exact (eb_var (pv 1))) (fun _ _ => by rfl))))))))) (by exact (eb_of (by exact ev_int))) (nomark _)))))))
/-! ### _law_is_chain -/
abbrev st__law_is_chain : Stmt := topS 13
abbrev N__law_is_chain : List Str := ["_law_table_here", "_law_k", "_law_n", "_law_m"]
theorem sc__law_is_chain : FnScope N__law_is_chain ["_law_table_here", "_law_k", "_law_n", "_law_m"] (defScope st__law_is_chain) := ⟨rfl, rfl, rfl, by decide +kernel, rfl, by decide +kernel, by decide +kernel⟩
theorem ok__law_is_chain (T : Facts K mg)  : FnOk P w K mg base CX0 1 T.d__law_is_chain.f T.d__law_is_chain.fd ["_law_table_here", "_law_k", "_law_n", "_law_m"] (spOf K 4 m__law_is_chain) :=
  fn_val (N := N__law_is_chain) T.d__law_is_chain.F sc__law_is_chain fun cdv A outer s H E hr => (by exact (ss_cons (by exact (ss_if (by exact (et_w (ew_or (by exact (et_cmp (ov_eq (hu64 hr)) (by exact (eb_of (by exact (ev_ix ixv (by exact (eb_of (by exact (ev_ix ixv (by exact (eb_var (pv 0))) (by exact (eb_var (pv 1))) (fun _ _ => by rfl))))) (by exact (eb_var (pv 2))) (fun _ _ => by rfl))))) (by exact (eb_of (by exact ev_int))) (nomark _))) (ew_or1 (by exact (et_cmp (ov_eq (hu64 hr)) (by exact (eb_of (by exact (ev_ix ixv (by exact (eb_of (by exact (ev_ix ixv (by exact (eb_var (pv 0))) (by exact (eb_var (pv 2))) (fun _ _ => by rfl))))) (by exact (eb_var (pv 3))) (fun _ _ => by rfl))))) (by exact (eb_of (by exact ev_int))) (nomark _)))))))
    (by exact (ss_one (by exact (ss_ret (by exact ev_bl)))))
    (by exact ss_nil)))
    (by exact (ss_one (by exact (ss_ret (by exact (ev_cmp (ov_ne (hu64 hr)) (by exact (eb_of (by exact (ev_ix ixv (by exact (eb_of (by exact (ev_ix ixv (by exact (eb_var (pv 0))) (by exact (eb_var (pv 1))) (fun _ _ => by rfl))))) (by exact (eb_var (pv 3))) (fun _ _ => by rfl))))) (by exact (eb_of (by exact (ev_ife (by exact (et_cmp (ov_in (hu65 hr)) (by exact (eb_of (by exact (ev_neg (by exact (eb_of (by exact ev_int))))))) (by exact (eb_of (by exact (ev_tup (by exact (ea_cons (by exact (ev_ix ixv (by exact (eb_of (by exact (ev_ix ixv (by exact (eb_var (pv 0))) (by exact (eb_var (pv 1))) (fun _ _ => by rfl))))) (by exact (eb_var (pv 2))) (fun _ _ => by rfl))) (by exact (ea_cons (by exact (ev_ix ixv (by exact (eb_of (by exact (ev_ix ixv (by exact (eb_var (pv 0))) (by exact (eb_var (pv 2))) (fun _ _ => by rfl))))) (by exact (eb_var (pv 3))) (fun _ _ => by rfl))) (by exact ea_nil))))))))) (by with_unfolding_all rfl))) (by exact (ev_neg (by exact (eb_of (by exact ev_int))))) (by exact ev_int))))) (nomark _)))))))))
/-! ### _law_is_why -/
abbrev st__law_is_why : Stmt := topS 14
abbrev N__law_is_why : List Str := ["_law_table_here", "_law_thing", "_law_one"]
theorem sc__law_is_why : FnScope N__law_is_why ["_law_table_here", "_law_thing"] (defScope st__law_is_why) := ⟨rfl, rfl, rfl, by decide +kernel, rfl, by decide +kernel, by decide +kernel⟩
theorem ok__law_is_why (T : Facts K mg) (G__law_is_odd : FnOk P w K mg base CX0 1 T.d__law_is_odd.f T.d__law_is_odd.fd ["_law_table_here", "_law_k", "_law_n"] (spOf K 3 m__law_is_odd)) (G__law_is_chain : FnOk P w K mg base CX0 1 T.d__law_is_chain.f T.d__law_is_chain.fd ["_law_table_here", "_law_k", "_law_n", "_law_m"] (spOf K 4 m__law_is_chain)) : FnOk P w K mg base CX0 2 T.d__law_is_why.f T.d__law_is_why.fd ["_law_table_here", "_law_thing"] (spOf K 2 m__law_is_why) :=
  fn_val (N := N__law_is_why) T.d__law_is_why.F sc__law_is_why fun cdv A outer s H E hr => (by exact (ss_cons (by exact (ss_if (by exact (et_w (ew_or (by exact (et_not (by exact (et_tru (by exact (eb_of (by exact (ev_isa isa_tuple (by rfl) T.z_isinstance bt_isinstance (by exact (eb_var (pv 1))) (pe_bltn (by rfl) T.z_tuple bt_tuple (by rfl)))))) (fun _ => (by rfl)))))) (ew_or1 (by exact (et_cmp (ov_lt (hu0 hr)) (by exact (eb_of (by exact (ev_callB cv_len (by rfl) T.z_len bt_len (by exact (ed_cons (by exact (eb_var (pv 1))) (by exact ed_nil))))))) (by exact (eb_of (by exact ev_int))) (nomark _)))))))
    (by exact (ss_one (by exact (ss_ret (by exact ev_bl)))))
    (by exact ss_nil)))
    (by exact (ss_cons (by exact (ss_for PassesOwn.never (by rfl) (by exact (ei_seq (by exact (ev_slice slv (by exact (eb_var (pv 1))) (by exact (eo_some (by exact (eb_of (by exact ev_int))))) (by exact eo_none))))) (by exact (eg_one (pg_name (i := 2) sc__law_is_why.nd (by rfl) (by first | exact .inl rfl | exact .inr rfl))))
    (by exact (ss_one (by exact (ss_end [2] (by exact (ss_if (by exact (et_w (ew_or (by exact (et_not (by exact (et_tru (by exact (eb_of (by exact (ev_isa isa_int (by rfl) T.z_isinstance bt_isinstance (by exact (eb_var (pv 2))) (pe_bltn (by rfl) T.z_int bt_int (by rfl)))))) (fun _ => (by rfl)))))) (ew_or (by exact (et_tru (by exact (eb_of (by exact (ev_isa isa_bool (by rfl) T.z_isinstance bt_isinstance (by exact (eb_var (pv 2))) (pe_bltn (by rfl) T.z_bool bt_bool (by rfl)))))) (fun _ => (by rfl)))) (ew_or (by exact (et_cmp (ov_lt (hu0 hr)) (by exact (eb_var (pv 2))) (by exact (eb_of (by exact ev_int))) (nomark _))) (ew_or1 (by exact (et_cmp (ov_ge (hu0 hr)) (by exact (eb_var (pv 2))) (by exact (eb_of (by exact (ev_callB cv_len (by rfl) T.z_len bt_len (by exact (ed_cons (by exact (eb_var (pv 0))) (by exact ed_nil))))))) (nomark _)))))))))
    (by exact (ss_one (by exact (ss_ret (by exact ev_bl)))))
    (by exact ss_nil)))))))))
    (by exact (ss_cons (by exact (ss_if (by exact (et_cmp (ov_eq (hu64 hr)) (by exact (eb_of (by exact (ev_ix ixv (by exact (eb_var (pv 1))) (by exact (eb_of (by exact ev_int))) (fun _ _ => by rfl))))) (by exact (eb_of (by exact ev_str))) (nomark _)))
    (by exact (ss_one (by exact (ss_ret (by exact (ev_and (by exact (ev_cmp (ov_eq (hu64 hr)) (by exact (eb_of (by exact (ev_callB cv_len (by rfl) T.z_len bt_len (by exact (ed_cons (by exact (eb_var (pv 1))) (by exact ed_nil))))))) (by exact (eb_of (by exact ev_int))) (nomark _))) (ev_one (by exact (ev_callD T.d__law_is_odd G__law_is_odd hr (by decide) (by rfl) (by exact (ea_cons (by exact (ev_var (pv 0))) (by exact (ea_cons (by exact (ev_ix ixv (by exact (eb_var (pv 1))) (by exact (eb_of (by exact ev_int))) (fun _ _ => by rfl))) (by exact (ea_cons (by exact (ev_ix ixv (by exact (eb_var (pv 1))) (by exact (eb_of (by exact ev_int))) (fun _ _ => by rfl))) (by exact ea_nil))))))))))))))))
    (by exact ss_nil)))
    (by exact (ss_one (by exact (ss_ret (by exact (ev_and (by exact (ev_cmp (ov_eq (hu64 hr)) (by exact (eb_of (by exact (ev_ix ixv (by exact (eb_var (pv 1))) (by exact (eb_of (by exact ev_int))) (fun _ _ => by rfl))))) (by exact (eb_of (by exact ev_str))) (nomark _))) (ev_and (by exact (ev_cmp (ov_eq (hu64 hr)) (by exact (eb_of (by exact (ev_callB cv_len (by rfl) T.z_len bt_len (by exact (ed_cons (by exact (eb_var (pv 1))) (by exact ed_nil))))))) (by exact (eb_of (by exact ev_int))) (nomark _))) (ev_one (by exact (ev_callD T.d__law_is_chain G__law_is_chain hr (by decide) (by rfl) (by exact (ea_cons (by exact (ev_var (pv 0))) (by exact (ea_cons (by exact (ev_ix ixv (by exact (eb_var (pv 1))) (by exact (eb_of (by exact ev_int))) (fun _ _ => by rfl))) (by exact (ea_cons (by exact (ev_ix ixv (by exact (eb_var (pv 1))) (by exact (eb_of (by exact ev_int))) (fun _ _ => by rfl))) (by exact (ea_cons (by exact (ev_ix ixv (by exact (eb_var (pv 1))) (by exact (eb_of (by exact ev_int))) (fun _ _ => by rfl))) (by exact ea_nil)))))))))))))))))))))))))
/-! ### _law_is_table -/
abbrev st__law_is_table : Stmt := topS 15
abbrev N__law_is_table : List Str := ["_law_thing", "_law_row", "_law_one"]
theorem sc__law_is_table : FnScope N__law_is_table ["_law_thing"] (defScope st__law_is_table) := ⟨rfl, rfl, rfl, by decide +kernel, rfl, by decide +kernel, by decide +kernel⟩
theorem ok__law_is_table (T : Facts K mg)  : FnOk P w K mg base CX0 1 T.d__law_is_table.f T.d__law_is_table.fd ["_law_thing"] (spOf K 1 m__law_is_table) :=
  fn_val (N := N__law_is_table) T.d__law_is_table.F sc__law_is_table fun cdv A outer s H E hr => (by exact (ss_cons (by exact (ss_if (by exact (et_w (ew_or (by exact (et_not (by exact (et_tru (by exact (eb_of (by exact (ev_isa isa_tuple (by rfl) T.z_isinstance bt_isinstance (by exact (eb_var (pv 0))) (pe_bltn (by rfl) T.z_tuple bt_tuple (by rfl)))))) (fun _ => (by rfl)))))) (ew_or1 (by exact (et_not (by exact (et_chain (ov_le (hu0 hr)) (ov_le (hu0 hr)) (by exact (eb_of (by exact ev_int))) (by exact (eb_of (by exact (ev_callB cv_len (by rfl) T.z_len bt_len (by exact (ed_cons (by exact (eb_var (pv 0))) (by exact ed_nil))))))) (by exact (eb_of (by exact ev_int)))))))))))
    (by exact (ss_one (by exact (ss_ret (by exact ev_bl)))))
    (by exact ss_nil)))
    (by exact (ss_cons (by exact (ss_end [0] (by exact (ss_for PassesOwn.never (by rfl) (by exact (ei_seq (by exact (ev_var (pv 0))))) (by exact (eg_one (pg_name (i := 1) sc__law_is_table.nd (by rfl) (by first | exact .inl rfl | exact .inr rfl))))
    (by exact (ss_cons (by exact (ss_if (by exact (et_w (ew_or (by exact (et_not (by exact (et_tru (by exact (eb_of (by exact (ev_isa isa_tuple (by rfl) T.z_isinstance bt_isinstance (by exact (eb_var (pv 1))) (pe_bltn (by rfl) T.z_tuple bt_tuple (by rfl)))))) (fun _ => (by rfl)))))) (ew_or1 (by exact (et_cmp (ov_ne (hu64 hr)) (by exact (eb_of (by exact (ev_callB cv_len (by rfl) T.z_len bt_len (by exact (ed_cons (by exact (eb_var (pv 1))) (by exact ed_nil))))))) (by exact (eb_of (by exact (ev_callB cv_len (by rfl) T.z_len bt_len (by exact (ed_cons (by exact (eb_var (pv 0))) (by exact ed_nil))))))) (nomark _)))))))
    (by exact (ss_one (by exact (ss_ret (by exact ev_bl)))))
    (by exact ss_nil)))
    (by exact (ss_one (by exact (ss_forK [1] PassesOwn.never (by rfl) (by exact (ei_seq (by exact (ev_var (pv 1))))) (by exact (eg_one (pg_name (i := 2) sc__law_is_table.nd (by rfl) (by first | exact .inl rfl | exact .inr rfl))))
    (by exact (ss_one (by exact (ss_end [2] (by exact (ss_if (by exact (et_w (ew_or (by exact (et_not (by exact (et_tru (by exact (eb_of (by exact (ev_isa isa_int (by rfl) T.z_isinstance bt_isinstance (by exact (eb_var (pv 2))) (pe_bltn (by rfl) T.z_int bt_int (by rfl)))))) (fun _ => (by rfl)))))) (ew_or (by exact (et_tru (by exact (eb_of (by exact (ev_isa isa_bool (by rfl) T.z_isinstance bt_isinstance (by exact (eb_var (pv 2))) (pe_bltn (by rfl) T.z_bool bt_bool (by rfl)))))) (fun _ => (by rfl)))) (ew_or1 (by exact (et_cmp (ov_notIn (hu65 hr)) (by exact (eb_var (pv 2))) (by exact (eb_of (by exact (ev_tup (by exact (ea_cons (by exact (ev_neg (by exact (eb_of (by exact ev_int))))) (by exact (ea_cons (by exact ev_int) (by exact (ea_cons (by exact ev_int) (by exact ea_nil))))))))))) (by with_unfolding_all rfl))))))))
    (by exact (ss_one (by exact (ss_ret (by exact ev_bl)))))
    (by exact ss_nil)))))))))))))))))
    (by exact (ss_one (by exact (ss_ret (by exact ev_bl)))))))))
/-! ### _law_pick -/
abbrev st__law_pick : Stmt := topS 10
abbrev N__law_pick : List Str := ["_law_script", "_law_town", "_law_some"]
theorem sc__law_pick : FnScope N__law_pick ["_law_script", "_law_town", "_law_some"] (defScope st__law_pick) := ⟨rfl, rfl, rfl, by decide +kernel, rfl, by decide +kernel, by decide +kernel⟩
theorem ok__law_pick (T : Facts K mg) (G__law_draw : FnOk P w K mg base CX0 1 T.d__law_draw.f T.d__law_draw.fd ["_law_script", "_law_town", "_law_many"] (spOf K 3 m__law_draw)) : FnOk P w K mg base CX0 2 T.d__law_pick.f T.d__law_pick.fd ["_law_script", "_law_town", "_law_some"] (spOf K 3 m__law_pick) :=
  fn_val (N := N__law_pick) T.d__law_pick.F sc__law_pick fun cdv A outer s H E hr => (by exact (ss_one (by exact (ss_ret (by exact (ev_ix ixv (by exact (eb_var (pv 2))) (by exact (eb_of (by exact (ev_callD T.d__law_draw G__law_draw hr (by decide) (by rfl) (by exact (ea_cons (by exact (ev_var (pv 0))) (by exact (ea_cons (by exact (ev_var (pv 1))) (by exact (ea_cons (by exact (ev_callB cv_len (by rfl) T.z_len bt_len (by exact (ed_cons (by exact (eb_var (pv 2))) (by exact ed_nil))))) (by exact ea_nil))))))))))) (fun _ _ => by rfl)))))))
/-! ### _law_bent -/
abbrev st__law_bent : Stmt := topS 16
abbrev N__law_bent : List Str := ["_law_script", "_law_town", "_law_thing", "_law_odd", "_law_at", "_law_way"]
theorem sc__law_bent : FnScope N__law_bent ["_law_script", "_law_town", "_law_thing"] (defScope st__law_bent) := ⟨rfl, rfl, rfl, by decide +kernel, rfl, by decide +kernel, by decide +kernel⟩
theorem ok__law_bent_ (T : Facts K mg) (G__law_draw : FnOk P w K mg base CX0 1 T.d__law_draw.f T.d__law_draw.fd ["_law_script", "_law_town", "_law_many"] (spOf K 3 m__law_draw)) (G__law_pick : FnOk P w K mg base CX0 2 T.d__law_pick.f T.d__law_pick.fd ["_law_script", "_law_town", "_law_some"] (spOf K 3 m__law_pick)) : ∀ k, FnOk P w K mg base CX0 (k + 2) T.d__law_bent.f T.d__law_bent.fd ["_law_script", "_law_town", "_law_thing"] (spOf K 3 (m__law_bent_v2_ k))
  | 0 => fn_none
  | k + 1 => by
    have G := ok__law_bent_ T G__law_draw G__law_pick k
    have h0 : k + 2 ≤ k + 2 := Nat.le_refl _
    show FnOk P w K mg base CX0 (k + 2 + 1) _ _ _ _
    exact fn_val (N := N__law_bent) T.d__law_bent.F sc__law_bent fun cdv A outer s H E hr => ((by exact (ss_cons (by exact (ss_set (i := 3) sc__law_bent.nd (by rfl) (by first | exact .inl rfl | exact .inr rfl) (ev_frz (by exact (ev_lst (by exact (ea_cons (by exact ev_non) (by exact (ea_cons (by exact ev_bl) (by exact (ea_cons (by exact ev_bl) (by exact (ea_cons (by exact (ev_neg (by exact (eb_of (by exact ev_int))))) (by exact (ea_cons (by exact (ev_neg (by exact (eb_of (by exact ev_int))))) (by exact (ea_cons (by exact ev_int) (by exact (ea_cons (by exact ev_int) (by exact (ea_cons (by exact ev_int) (by exact (ea_cons (by exact ev_str) (by exact (ea_cons (by exact (ev_tup (by exact ea_nil))) (by exact (ea_cons (by exact (ev_tup (by exact (ea_cons (by exact ev_int) (by exact ea_nil))))) (by exact (ea_cons (by exact (ev_lst (by exact (ea_cons (by exact ev_int) (by exact ea_nil))))) (by exact (ea_cons (by exact (ev_tup (by exact (ea_cons (by exact ev_int) (by exact (ea_cons (by exact ev_int) (by exact ea_nil))))))) (by exact (ea_cons (by exact (ev_bin ov_repT (by exact (eb_of (by exact (ev_tup (by exact (ea_cons (by exact ev_int) (by exact ea_nil))))))) (by exact (eb_of (by exact ev_int))))) (by exact (ea_cons (by exact (ev_bin ov_repT (by exact (eb_of (by exact (ev_tup (by exact (ea_cons (by exact ev_int) (by exact ea_nil))))))) (by exact (eb_of (by exact ev_int))))) (by exact ea_nil))))))))))))))))))))))))))))))))))))
    (by exact (ss_cons (by exact (ss_end [3] (by exact (ss_if (by exact (et_w (ew_or (by exact (et_not (by exact (et_tru (by exact (eb_of (by exact (ev_isa isa_tuple (by rfl) T.z_isinstance bt_isinstance (by exact (eb_var (pv 2))) (pe_bltn (by rfl) T.z_tuple bt_tuple (by rfl)))))) (fun _ => (by rfl)))))) (ew_or (by exact (et_cmp (ov_eq (hu64 hr)) (by exact (eb_var (pv 2))) (by exact (eb_of (by exact (ev_tup (by exact ea_nil))))) (nomark _))) (ew_or1 (by exact (et_cmp (ov_eq (hu64 hr)) (by exact (eb_of (by exact (ev_callD T.d__law_draw G__law_draw hr (by omega) (by rfl) (by exact (ea_cons (by exact (ev_var (pv 0))) (by exact (ea_cons (by exact (ev_var (pv 1))) (by exact (ea_cons (by exact ev_int) (by exact ea_nil))))))))))) (by exact (eb_of (by exact ev_int))) (nomark _))))))))
    (by exact (ss_one (by exact (ss_ret (by exact (ev_callD T.d__law_pick G__law_pick hr (by omega) (by rfl) (by exact (ea_cons (by exact (ev_var (pv 0))) (by exact (ea_cons (by exact (ev_var (pv 1))) (by exact (ea_cons (by exact (ev_var (pv 3))) (by exact ea_nil)))))))))))))
    (by exact ss_nil)))))
    (by exact (ss_cons (by exact (ss_set (i := 4) sc__law_bent.nd (by rfl) (by first | exact .inl rfl | exact .inr rfl) (by exact (ev_callD T.d__law_draw G__law_draw hr (by omega) (by rfl) (by exact (ea_cons (by exact (ev_var (pv 0))) (by exact (ea_cons (by exact (ev_var (pv 1))) (by exact (ea_cons (by exact (ev_callB cv_len (by rfl) T.z_len bt_len (by exact (ed_cons (by exact (eb_var (pv 2))) (by exact ed_nil))))) (by exact ea_nil)))))))))))
    (by exact (ss_cons (by exact (ss_set (i := 5) sc__law_bent.nd (by rfl) (by first | exact .inl rfl | exact .inr rfl) (by exact (ev_callD T.d__law_draw G__law_draw hr (by omega) (by rfl) (by exact (ea_cons (by exact (ev_var (pv 0))) (by exact (ea_cons (by exact (ev_var (pv 1))) (by exact (ea_cons (by exact ev_int) (by exact ea_nil)))))))))))
    (by exact (ss_cons (by exact (ss_if (by exact (et_cmp (ov_eq (hu64 hr)) (by exact (eb_var (pv 5))) (by exact (eb_of (by exact ev_int))) (nomark _)))
    (by exact (ss_one (by exact (ss_ret (by exact (ev_bin ov_add (by exact (eb_of (by exact (ev_slice slv (by exact (eb_var (pv 2))) (by exact eo_none) (by exact (eo_some (by exact (eb_var (pv 4))))))))) (by exact (eb_of (by exact (ev_slice slv (by exact (eb_var (pv 2))) (by exact (eo_some (by exact (eb_of (by exact (ev_bin ov_add (by exact (eb_var (pv 4))) (by exact (eb_of (by exact ev_int))))))))) (by exact eo_none)))))))))))
    (by exact ss_nil)))
    (by exact (ss_cons (by exact (ss_if (by exact (et_cmp (ov_eq (hu64 hr)) (by exact (eb_var (pv 5))) (by exact (eb_of (by exact ev_int))) (nomark _)))
    (by exact (ss_one (by exact (ss_ret (by exact (ev_bin ov_add (by exact (eb_of (by exact (ev_bin ov_add (by exact (eb_of (by exact (ev_slice slv (by exact (eb_var (pv 2))) (by exact eo_none) (by exact (eo_some (by exact (eb_var (pv 4))))))))) (by exact (eb_of (by exact (ev_tup (by exact (ea_cons (by exact (ev_ix ixv (by exact (eb_var (pv 2))) (by exact (eb_var (pv 4))) (fun _ _ => by rfl))) (by exact ea_nil))))))))))) (by exact (eb_of (by exact (ev_slice slv (by exact (eb_var (pv 2))) (by exact (eo_some (by exact (eb_var (pv 4))))) (by exact eo_none)))))))))))
    (by exact ss_nil)))
    (by exact (ss_cons (by exact (ss_end [5] (by exact (ss_if (by exact (et_cmp (ov_eq (hu64 hr)) (by exact (eb_var (pv 5))) (by exact (eb_of (by exact ev_int))) (nomark _)))
    (by exact (ss_one (by exact (ss_ret (by exact (ev_callTy cv_list (by rfl) T.z_list bt_list (by exact (ed_cons (by exact (eb_var (pv 2))) (by exact ed_nil)))))))))
    (by exact ss_nil)))))
    (by exact (ss_one (by exact (ss_ret (by exact (ev_bin ov_add (by exact (eb_of (by exact (ev_bin ov_add (by exact (eb_of (by exact (ev_slice slv (by exact (eb_var (pv 2))) (by exact eo_none) (by exact (eo_some (by exact (eb_var (pv 4))))))))) (by exact (eb_of (by exact (ev_tup (by exact (ea_cons (by exact (ev_callD T.d__law_bent G hr h0 (by rfl) (by exact (ea_cons (by exact (ev_var (pv 0))) (by exact (ea_cons (by exact (ev_var (pv 1))) (by exact (ea_cons (by exact (ev_ix ixv (by exact (eb_var (pv 2))) (by exact (eb_var (pv 4))) (fun _ _ => by rfl))) (by exact ea_nil))))))))) (by exact ea_nil))))))))))) (by exact (eb_of (by exact (ev_slice slv (by exact (eb_var (pv 2))) (by exact (eo_some (by exact (eb_of (by exact (ev_bin ov_add (by exact (eb_var (pv 4))) (by exact (eb_of (by exact ev_int))))))))) (by exact eo_none))))))))))))))))))))))))))
theorem ok__law_bent (T : Facts K mg) (G__law_draw : FnOk P w K mg base CX0 1 T.d__law_draw.f T.d__law_draw.fd ["_law_script", "_law_town", "_law_many"] (spOf K 3 m__law_draw)) (G__law_pick : FnOk P w K mg base CX0 2 T.d__law_pick.f T.d__law_pick.fd ["_law_script", "_law_town", "_law_some"] (spOf K 3 m__law_pick)) : FnOk P w K mg base CX0 12 T.d__law_bent.f T.d__law_bent.fd ["_law_script", "_law_town", "_law_thing"] (spOf K 3 m__law_bent_v2) := ok__law_bent_ T G__law_draw G__law_pick 10
/-! ### law -/
abbrev st_law : Stmt := topS 17
abbrev N_law : List Str := ["_law_script", "_law_town", "_law_k", "_law_table_here", "_law_every", "_law_things", "_law_one", "_law_other", "_law_third", "_law_thing", "_law_wide", "_law_many", "_law_j"]
theorem sc_law : FnScope N_law ["_law_script"] (defScope st_law) := ⟨rfl, rfl, rfl, by decide +kernel, rfl, by decide +kernel, by decide +kernel⟩
-- l_law_3: head 0:_law_script 1:_law_town 3:_law_table_here 4:_law_every 5:_law_things 6:_law_one of 13
def l_law_3 : Fs :=
    (sSeq (sSet 5 (eFrz (eBin dAdd (dVar 5) (dOf (eLst (aCons (eTup (aCons (eC (.str "odd")) (aCons (eVar 6) (aCons (eVar 7) aNil)))) (aCons (eTup (aCons (eC (.str "odds")) (aCons (eVar 6) (aCons (eVar 7) aNil)))) (aCons (eTup (aCons (eC (.str "odd")) (aCons (eVar 6) (aCons (eC (.bool true)) aNil)))) aNil))))))))
    (sEnd [7] (sSet 5 (eFrz (eBin dAdd (dVar 5) (dOf (eComp (iOf (dVar 4)) (gOne 8) [8] bYes (eTup (aCons (eC (.str "chain")) (aCons (eVar 6) (aCons (eVar 7) (aCons (eVar 8) aNil))))))))))))
-- l_law_2: head 0:_law_script 1:_law_town 3:_law_table_here 4:_law_every 5:_law_things of 13
def l_law_2 : Fs :=
    (sEnd [6] (sFor (iVal (eVar 4)) (gOne 7)
    l_law_3))
-- l_law_4: head 0:_law_script 1:_law_town 3:_law_table_here of 13
def l_law_4 : Fs :=
    (sEnd [9] (sIf (bNot (bTru (dOf (eCall m__law_same (aCons (eCall m_is_why_none (aCons (eVar 3) (aCons (eVar 9) aNil))) (aCons (eCall m__law_is_why (aCons (eVar 3) (aCons (eVar 9) aNil))) aNil))))))
    (sRet (eC (.bool false)))
    sNil'))
-- l_law_6: head 0:_law_script 1:_law_town of 13
def l_law_6 : Fs :=
    (sEnd [6] (sIf (bNot (bTru (dOf (eCall m__law_same (aCons (eCall m_is_table (aCons (eVar 6) aNil)) (aCons (eCall m__law_is_table (aCons (eVar 6) aNil)) aNil))))))
    (sRet (eC (.bool false)))
    sNil'))
-- l_law_5: head 0:_law_script 1:_law_town of 13
def l_law_5 : Fs :=
    (sForK [9] (iVal (eBin dAdd (dOf (eLst (aCons (eVar 9) aNil))) (dOf (eComp (iRng1 (dOf (eC (.int 4)))) (gOne 12) [12] bYes (eCall m__law_bent_v2 (aCons (eVar 0) (aCons (eVar 1) (aCons (eVar 9) aNil)))))))) (gOne 6)
    l_law_6)
-- l_law_1: head 0:_law_script 1:_law_town of 13
def l_law_1 : Fs :=
    (sSeq (sEnd [2] (sSet 3 (eFrz (eCall m__law_table (aCons (eVar 0) (aCons (eVar 1) aNil))))))
    (sSeq (sSet 4 (eFrz (eListRg2 (dOf (eUn dNeg (dOf (eC (.int 1))))) (dOf (eBin dAdd (dOf (eApp gLen (sCons (dVar 3) sNil))) (dOf (eC (.int 1))))))))
    (sSeq (sSet 5 (eFrz (eLst (aCons (eC .none) (aCons (eC (.int 7)) (aCons (eTup aNil) (aCons (eC (.str "odd")) (aCons (eTup (aCons (eC (.str "odd")) aNil)) (aCons (eTup (aCons (eC (.str "odd")) (aCons (eC (.int 0)) aNil))) (aCons (eTup (aCons (eC (.str "chain")) (aCons (eC (.int 0)) (aCons (eC (.int 0)) aNil)))) (aCons (eTup (aCons (eC (.str "odd")) (aCons (eC (.int 0)) (aCons (eC (.int 0)) (aCons (eC (.int 0)) aNil))))) (aCons (eLst (aCons (eC (.str "odd")) (aCons (eC (.int 0)) (aCons (eC (.int 0)) aNil)))) (aCons (eTup (aCons (eC (.int 0)) (aCons (eC (.int 0)) (aCons (eC (.int 0)) aNil)))) aNil)))))))))))))
    (sSeq (sEnd [4] (sFor (iVal (eVar 4)) (gOne 6)
    l_law_2))
    (sSeq (sForK [5] (iVal (eBin dAdd (dVar 5) (dOf (eLst (aCons (eTup (aCons (eC (.str "chain")) (aCons (eC (.int 0)) (aCons (eC (.int 0)) (aCons (eC .none) aNil))))) (aCons (eTup (aCons (eC (.str "odd")) (aCons (eC (.int 0)) (aCons (eC (.str "0")) aNil)))) (aCons (eLst (aCons (eC (.str "chain")) (aCons (eC (.int 0)) (aCons (eC (.int 0)) (aCons (eC (.int 0)) aNil))))) (aCons (eTup (aCons (eC (.str "chain")) (aCons (eC (.int 0)) (aCons (eC (.int 0)) (aCons (eC (.int 0)) (aCons (eC (.int 0)) aNil)))))) aNil)))))))) (gOne 9)
    l_law_4)
    (sSeq (sSet 10 (eApp gTup (sCons (dOf (eComp (iOf (dOf (eTup (aCons (eC (.int 6)) (aCons (eC (.int 6)) (aCons (eC (.int 6)) (aCons (eC (.int 6)) (aCons (eC (.int 6)) (aCons (eC (.int 6)) aNil))))))))) (gOne 11) [11] bYes (eBin dRepT (dOf (eTup (aCons (eC (.int 0)) aNil))) (dVar 11)))) sNil)))
    (sForK [3, 10] (iVal (eLst (aCons (eVar 3) (aCons (eApp gList (sCons (dVar 3) sNil)) (aCons (eSl dSl (dVar 3) oNone (oSome (dOf (eUn dNeg (dOf (eC (.int 1))))))) (aCons (eBin dAdd (dVar 3) (dOf (eSl dSl (dVar 3) oNone (oSome (dOf (eC (.int 1))))))) (aCons (eTup aNil) (aCons (eC .none) (aCons (eVar 10) (aCons (eBin dRepT (dOf (eTup (aCons (eBin dRepT (dOf (eTup (aCons (eC (.int 0)) aNil))) (dOf (eC (.int 7)))) aNil))) (dOf (eC (.int 7)))) (aCons (eTup (aCons (eTup (aCons (eC (.int 1)) aNil)) aNil)) aNil))))))))))) (gOne 9)
    l_law_5)))))))
def b_law : Fs :=
    (sSeq (sEnd [0, 1] (sFor (iRng1 (dOf (eC (.int 4)))) (gOne 2)
    l_law_1))
    (sRet (eC (.bool true))))
theorem ok_law (T : Facts K mg) (G_is_table : FnOk P w K mg base CX0 2 T.d_is_table.f T.d_is_table.fd ["thing"] (spOf K 1 m_is_table)) (G_is_why_none : FnOk P w K mg base CX0 2 T.d_is_why_none.f T.d_is_why_none.fd ["table", "thing"] (spOf K 2 m_is_why_none)) (G__law_same : FnOk P w K mg base CX0 12 T.d__law_same.f T.d__law_same.fd ["_law_got", "_law_due"] (spOf K 2 m__law_same)) (G__law_table : FnOk P w K mg base CX0 2 T.d__law_table.f T.d__law_table.fd ["_law_script", "_law_town"] (spOf K 2 m__law_table)) (G__law_is_why : FnOk P w K mg base CX0 2 T.d__law_is_why.f T.d__law_is_why.fd ["_law_table_here", "_law_thing"] (spOf K 2 m__law_is_why)) (G__law_is_table : FnOk P w K mg base CX0 1 T.d__law_is_table.f T.d__law_is_table.fd ["_law_thing"] (spOf K 1 m__law_is_table)) (G__law_bent : FnOk P w K mg base CX0 12 T.d__law_bent.f T.d__law_bent.fd ["_law_script", "_law_town", "_law_thing"] (spOf K 3 m__law_bent_v2)) (m : Nat) (hm : ∀ ns : List Int, ns.length ≤ m → ∃ n', b_law (.d (.list (ns.map .int)) :: .town :: List.replicate 11 .no) 0 = some (.rt (.d (.bool true)) n')) : FnOk P w K mg base CX0 13 T.d_law.f T.d_law.fd ["_law_script"] (spLaw K m) :=
  fn_law (N := N_law) T.d_law.F sc_law rfl rfl (by first | exact .inl rfl | exact .inr rfl) (fun cdv A outer s H E hr => (by exact (ss_cons (by exact (ss_end [0, 1] (by exact (ss_for PassesOwn.never (by rfl) (by exact (ei_range1 (by rfl) T.z_range (by exact (eb_of (by exact ev_int))))) (by exact (eg_one (pg_name (i := 2) sc_law.nd (by rfl) (by first | exact .inl rfl | exact .inr rfl))))
    (by exact (ss_cons (by exact (ss_end [2] (by exact (ss_set (i := 3) sc_law.nd (by rfl) (by first | exact .inl rfl | exact .inr rfl) (ev_frz (by exact (ev_callD T.d__law_table G__law_table hr (by decide) (by rfl) (by exact (ea_cons (by exact (ev_var (pv 0))) (by exact (ea_cons (by exact (ev_var (pv 1))) (by exact ea_nil))))))))))))
    (by exact (ss_cons (by exact (ss_set (i := 4) sc_law.nd (by rfl) (by first | exact .inl rfl | exact .inr rfl) (ev_frz (by exact (ev_listRg2 (by rfl) (by rfl) T.z_list (by rfl) T.z_range (by exact (eb_of (by exact (ev_neg (by exact (eb_of (by exact ev_int))))))) (by exact (eb_of (by exact (ev_bin ov_add (by exact (eb_of (by exact (ev_callB cv_len (by rfl) T.z_len bt_len (by exact (ed_cons (by exact (eb_var (pv 3))) (by exact ed_nil))))))) (by exact (eb_of (by exact ev_int))))))))))))
    (by exact (ss_cons (by exact (ss_set (i := 5) sc_law.nd (by rfl) (by first | exact .inl rfl | exact .inr rfl) (ev_frz (by exact (ev_lst (by exact (ea_cons (by exact ev_non) (by exact (ea_cons (by exact ev_int) (by exact (ea_cons (by exact (ev_tup (by exact ea_nil))) (by exact (ea_cons (by exact ev_str) (by exact (ea_cons (by exact (ev_tup (by exact (ea_cons (by exact ev_str) (by exact ea_nil))))) (by exact (ea_cons (by exact (ev_tup (by exact (ea_cons (by exact ev_str) (by exact (ea_cons (by exact ev_int) (by exact ea_nil))))))) (by exact (ea_cons (by exact (ev_tup (by exact (ea_cons (by exact ev_str) (by exact (ea_cons (by exact ev_int) (by exact (ea_cons (by exact ev_int) (by exact ea_nil))))))))) (by exact (ea_cons (by exact (ev_tup (by exact (ea_cons (by exact ev_str) (by exact (ea_cons (by exact ev_int) (by exact (ea_cons (by exact ev_int) (by exact (ea_cons (by exact ev_int) (by exact ea_nil))))))))))) (by exact (ea_cons (by exact (ev_lst (by exact (ea_cons (by exact ev_str) (by exact (ea_cons (by exact ev_int) (by exact (ea_cons (by exact ev_int) (by exact ea_nil))))))))) (by exact (ea_cons (by exact (ev_tup (by exact (ea_cons (by exact ev_int) (by exact (ea_cons (by exact ev_int) (by exact (ea_cons (by exact ev_int) (by exact ea_nil))))))))) (by exact ea_nil))))))))))))))))))))))))))
    (by exact (ss_cons (by exact (ss_end [4] (by exact (ss_for PassesOwn.never (by rfl) (by exact (ei_seq (by exact (ev_var (pv 4))))) (by exact (eg_one (pg_name (i := 6) sc_law.nd (by rfl) (by first | exact .inl rfl | exact .inr rfl))))
    (by exact (ss_one (by exact (ss_end [6] (by exact (ss_for PassesOwn.never (by rfl) (by exact (ei_seq (by exact (ev_var (pv 4))))) (by exact (eg_one (pg_name (i := 7) sc_law.nd (by rfl) (by first | exact .inl rfl | exact .inr rfl))))
    (by exact (ss_cons (by exact (ss_set (i := 5) sc_law.nd (by rfl) (by first | exact .inl rfl | exact .inr rfl) (ev_frz (by exact (ev_bin ov_add (by exact (eb_var (pv 5))) (by exact (eb_of (by exact (ev_lst (by exact (ea_cons (by exact (ev_tup (by exact (ea_cons (by exact ev_str) (by exact (ea_cons (by exact (ev_var (pv 6))) (by exact (ea_cons (by exact (ev_var (pv 7))) (by exact ea_nil))))))))) (by exact (ea_cons (by exact (ev_tup (by exact (ea_cons (by exact ev_str) (by exact (ea_cons (by exact (ev_var (pv 6))) (by exact (ea_cons (by exact (ev_var (pv 7))) (by exact ea_nil))))))))) (by exact (ea_cons (by exact (ev_tup (by exact (ea_cons (by exact ev_str) (by exact (ea_cons (by exact (ev_var (pv 6))) (by exact (ea_cons (by exact ev_bl) (by exact ea_nil))))))))) (by exact ea_nil))))))))))))))))
    (by exact (ss_one (by exact (ss_end [7] (by exact (ss_set (i := 5) sc_law.nd (by rfl) (by first | exact .inl rfl | exact .inr rfl) (ev_frz (by exact (ev_bin ov_add (by exact (eb_var (pv 5))) (by exact (eb_of (by exact (ev_lc (own:=[("_law_third",8)]) (by rfl) sc_law.nd (by exact (ej_seq (by exact (eb_var (pv 4))))) (blkOk_by (N := N_law) (sc := defScope st_law) (by decide +kernel)) (fun _ _ _ _ _ => (by exact (eg_one (pg_name (i := 8) sc_law.nd (by rfl) (by first | exact .inl rfl | exact .inr rfl))))) (fun _ _ _ _ _ => ets_nil) (fun _ _ _ _ _ => (by exact (ev_tup (by exact (ea_cons (by exact ev_str) (by exact (ea_cons (by exact (ev_var (pv 6))) (by exact (ea_cons (by exact (ev_var (pv 7))) (by exact (ea_cons (by exact (ev_var (pv 8))) (by exact ea_nil)))))))))))))))))))))))))))))))))))))
    (by exact (ss_cons (by exact (ss_forK [5] PassesOwn.never (by rfl) (by exact (ei_seq (by exact (ev_bin ov_add (by exact (eb_var (pv 5))) (by exact (eb_of (by exact (ev_lst (by exact (ea_cons (by exact (ev_tup (by exact (ea_cons (by exact ev_str) (by exact (ea_cons (by exact ev_int) (by exact (ea_cons (by exact ev_int) (by exact (ea_cons (by exact ev_non) (by exact ea_nil))))))))))) (by exact (ea_cons (by exact (ev_tup (by exact (ea_cons (by exact ev_str) (by exact (ea_cons (by exact ev_int) (by exact (ea_cons (by exact ev_str) (by exact ea_nil))))))))) (by exact (ea_cons (by exact (ev_lst (by exact (ea_cons (by exact ev_str) (by exact (ea_cons (by exact ev_int) (by exact (ea_cons (by exact ev_int) (by exact (ea_cons (by exact ev_int) (by exact ea_nil))))))))))) (by exact (ea_cons (by exact (ev_tup (by exact (ea_cons (by exact ev_str) (by exact (ea_cons (by exact ev_int) (by exact (ea_cons (by exact ev_int) (by exact (ea_cons (by exact ev_int) (by exact (ea_cons (by exact ev_int) (by exact ea_nil))))))))))))) (by exact ea_nil))))))))))))))))) (by exact (eg_one (pg_name (i := 9) sc_law.nd (by rfl) (by first | exact .inl rfl | exact .inr rfl))))
    (by exact (ss_one (by exact (ss_end [9] (by exact (ss_if (by exact (et_not (by exact (et_tru (by exact (eb_of (by exact (ev_callD T.d__law_same G__law_same hr (by decide) (by rfl) (by exact (ea_cons (by exact (ev_callD T.d_is_why_none G_is_why_none hr (by decide) (by rfl) (by exact (ea_cons (by exact (ev_var (pv 3))) (by exact (ea_cons (by exact (ev_var (pv 9))) (by exact ea_nil))))))) (by exact (ea_cons (by exact (ev_callD T.d__law_is_why G__law_is_why hr (by decide) (by rfl) (by exact (ea_cons (by exact (ev_var (pv 3))) (by exact (ea_cons (by exact (ev_var (pv 9))) (by exact ea_nil))))))) (by exact ea_nil))))))))) (fun _ => (by rfl))))))
    (by exact (ss_one (by exact (ss_ret (by exact ev_bl)))))
    (by exact ss_nil)))))))))
    (by exact (ss_cons (by exact (ss_set (i := 10) sc_law.nd (by rfl) (by first | exact .inl rfl | exact .inr rfl) (by exact (ev_callTy cv_tup (by rfl) T.z_tuple bt_tuple (by exact (ed_cons (by exact (eb_of (by exact (ev_lc (own:=[("_law_many",11)]) (by rfl) sc_law.nd (by exact (ej_seq (by exact (eb_of (by exact (ev_tup (by exact (ea_cons (by exact ev_int) (by exact (ea_cons (by exact ev_int) (by exact (ea_cons (by exact ev_int) (by exact (ea_cons (by exact ev_int) (by exact (ea_cons (by exact ev_int) (by exact (ea_cons (by exact ev_int) (by exact ea_nil))))))))))))))))))) (blkOk_by (N := N_law) (sc := defScope st_law) (by decide +kernel)) (fun _ _ _ _ _ => (by exact (eg_one (pg_name (i := 11) sc_law.nd (by rfl) (by first | exact .inl rfl | exact .inr rfl))))) (fun _ _ _ _ _ => ets_nil) (fun _ _ _ _ _ => (by exact (ev_bin ov_repT (by exact (eb_of (by exact (ev_tup (by exact (ea_cons (by exact ev_int) (by exact ea_nil))))))) (by exact (eb_var (pv 11)))))))))) (by exact ed_nil)))))))
    (by exact (ss_one (by exact (ss_forK [3, 10] PassesOwn.never (by rfl) (by exact (ei_seq (by exact (ev_lst (by exact (ea_cons (by exact (ev_var (pv 3))) (by exact (ea_cons (by exact (ev_callTy cv_list (by rfl) T.z_list bt_list (by exact (ed_cons (by exact (eb_var (pv 3))) (by exact ed_nil))))) (by exact (ea_cons (by exact (ev_slice slv (by exact (eb_var (pv 3))) (by exact eo_none) (by exact (eo_some (by exact (eb_of (by exact (ev_neg (by exact (eb_of (by exact ev_int))))))))))) (by exact (ea_cons (by exact (ev_bin ov_add (by exact (eb_var (pv 3))) (by exact (eb_of (by exact (ev_slice slv (by exact (eb_var (pv 3))) (by exact eo_none) (by exact (eo_some (by exact (eb_of (by exact ev_int))))))))))) (by exact (ea_cons (by exact (ev_tup (by exact ea_nil))) (by exact (ea_cons (by exact ev_non) (by exact (ea_cons (by exact (ev_var (pv 10))) (by exact (ea_cons (by exact (ev_bin ov_repT (by exact (eb_of (by exact (ev_tup (by exact (ea_cons (by exact (ev_bin ov_repT (by exact (eb_of (by exact (ev_tup (by exact (ea_cons (by exact ev_int) (by exact ea_nil))))))) (by exact (eb_of (by exact ev_int))))) (by exact ea_nil))))))) (by exact (eb_of (by exact ev_int))))) (by exact (ea_cons (by exact (ev_tup (by exact (ea_cons (by exact (ev_tup (by exact (ea_cons (by exact ev_int) (by exact ea_nil))))) (by exact ea_nil))))) (by exact ea_nil))))))))))))))))))))))) (by exact (eg_one (pg_name (i := 9) sc_law.nd (by rfl) (by first | exact .inl rfl | exact .inr rfl))))
    (by exact (ss_one (by exact (ss_forK [9] PassesOwn.never (by rfl) (by exact (ei_seq (by exact (ev_bin ov_add (by exact (eb_of (by exact (ev_lst (by exact (ea_cons (by exact (ev_var (pv 9))) (by exact ea_nil))))))) (by exact (eb_of (by exact (ev_lc (own:=[("_law_j",12)]) (by rfl) sc_law.nd (by exact (ej_of (ei_range1 (by rfl) T.z_range (by exact (eb_of (by exact ev_int)))))) (blkOk_by (N := N_law) (sc := defScope st_law) (by decide +kernel)) (fun _ _ _ _ _ => (by exact (eg_one (pg_name (i := 12) sc_law.nd (by rfl) (by first | exact .inl rfl | exact .inr rfl))))) (fun _ _ _ _ _ => ets_nil) (fun _ _ _ _ _ => (by exact (ev_callD T.d__law_bent G__law_bent hr (by decide) (by rfl) (by exact (ea_cons (by exact (ev_var (pv 0))) (by exact (ea_cons (by exact (ev_var (pv 1))) (by exact (ea_cons (by exact (ev_var (pv 9))) (by exact ea_nil)))))))))))))))))) (by exact (eg_one (pg_name (i := 6) sc_law.nd (by rfl) (by first | exact .inl rfl | exact .inr rfl))))
    (by exact (ss_one (by exact (ss_end [6] (by exact (ss_if (by exact (et_not (by exact (et_tru (by exact (eb_of (by exact (ev_callD T.d__law_same G__law_same hr (by decide) (by rfl) (by exact (ea_cons (by exact (ev_callD T.d_is_table G_is_table hr (by decide) (by rfl) (by exact (ea_cons (by exact (ev_var (pv 6))) (by exact ea_nil))))) (by exact (ea_cons (by exact (ev_callD T.d__law_is_table G__law_is_table hr (by decide) (by rfl) (by exact (ea_cons (by exact (ev_var (pv 6))) (by exact ea_nil))))) (by exact ea_nil))))))))) (fun _ => (by rfl))))))
    (by exact (ss_one (by exact (ss_ret (by exact ev_bl)))))
    (by exact ss_nil)))))))))))))))))))))))))))))))
    (by exact (ss_one (by exact (ss_ret (by exact ev_bl)))))))) hm
theorem ok_all (T : Facts K mg) (m : Nat) (hm : ∀ ns : List Int, ns.length ≤ m → ∃ n', b_law (.d (.list (ns.map .int)) :: .town :: List.replicate 11 .no) 0 = some (.rt (.d (.bool true)) n')) : FnOk P w K mg base CX0 13 T.d_law.f T.d_law.fd ["_law_script"] (spLaw K m) := by
  have G_is_whole := ok_is_whole (P := P) (w := w) (base := base) T
  have G_is_table := ok_is_table (P := P) (w := w) (base := base) T G_is_whole
  have G_is_odd := ok_is_odd (P := P) (w := w) (base := base) T
  have G_is_chain := ok_is_chain (P := P) (w := w) (base := base) T
  have G_is_why_none := ok_is_why_none (P := P) (w := w) (base := base) T G_is_whole G_is_odd G_is_chain
  have G__law_same := ok__law_same (P := P) (w := w) (base := base) T
  have G__law_draw := ok__law_draw (P := P) (w := w) (base := base) T
  have G__law_table := ok__law_table (P := P) (w := w) (base := base) T G__law_draw
  have G__law_is_odd := ok__law_is_odd (P := P) (w := w) (base := base) T
  have G__law_is_chain := ok__law_is_chain (P := P) (w := w) (base := base) T
  have G__law_is_why := ok__law_is_why (P := P) (w := w) (base := base) T G__law_is_odd G__law_is_chain
  have G__law_is_table := ok__law_is_table (P := P) (w := w) (base := base) T
  have G__law_pick := ok__law_pick (P := P) (w := w) (base := base) T G__law_draw
  have G__law_bent := ok__law_bent (P := P) (w := w) (base := base) T G__law_draw G__law_pick
  exact ok_law T G_is_table G_is_why_none G__law_same G__law_table G__law_is_why G__law_is_table G__law_bent m hm
end
theorem all_mk {l : PySem.W.OpenLaw} {w : World} {K : PySem.W.Frag} {h : Heap} {mg : Str → Option Value} {fa : Addr} (X : K.In h) (G : h.Ns mainGlobals mg) (hfa : mg "law" = some (.ref fa)) (m : Nat) (hm : ∀ ns : List Int, ns.length ≤ m → ∃ n', b_law (.d (.list (ns.map .int)) :: .town :: List.replicate 11 .no) 0 = some (.rt (.d (.bool true)) n'))
    {f0 : Addr} {od0 an0 : Option Addr} {sl0 : Array (Option Value)} {oc0 kV0 dc0 pm0 cd0 ct0 : Value}
    {f1 : Addr} {od1 an1 : Option Addr} {sl1 : Array (Option Value)} {oc1 kV1 dc1 pm1 cd1 ct1 : Value}
    {f2 : Addr} {od2 an2 : Option Addr} {sl2 : Array (Option Value)} {oc2 kV2 dc2 pm2 cd2 ct2 : Value}
    {f3 : Addr} {od3 an3 : Option Addr} {sl3 : Array (Option Value)} {oc3 kV3 dc3 pm3 cd3 ct3 : Value}
    {f4 : Addr} {od4 an4 : Option Addr} {sl4 : Array (Option Value)} {oc4 kV4 dc4 pm4 cd4 ct4 : Value}
    {f5 : Addr} {od5 an5 : Option Addr} {sl5 : Array (Option Value)} {oc5 kV5 dc5 pm5 cd5 ct5 : Value}
    {f6 : Addr} {od6 an6 : Option Addr} {sl6 : Array (Option Value)} {oc6 kV6 dc6 pm6 cd6 ct6 : Value}
    {f7 : Addr} {od7 an7 : Option Addr} {sl7 : Array (Option Value)} {oc7 kV7 dc7 pm7 cd7 ct7 : Value}
    {f8 : Addr} {od8 an8 : Option Addr} {sl8 : Array (Option Value)} {oc8 kV8 dc8 pm8 cd8 ct8 : Value}
    {f9 : Addr} {od9 an9 : Option Addr} {sl9 : Array (Option Value)} {oc9 kV9 dc9 pm9 cd9 ct9 : Value}
    {f10 : Addr} {od10 an10 : Option Addr} {sl10 : Array (Option Value)} {oc10 kV10 dc10 pm10 cd10 ct10 : Value}
    {f11 : Addr} {od11 an11 : Option Addr} {sl11 : Array (Option Value)} {oc11 kV11 dc11 pm11 cd11 ct11 : Value}
    {f12 : Addr} {od12 an12 : Option Addr} {sl12 : Array (Option Value)} {oc12 kV12 dc12 pm12 cd12 ct12 : Value}
    {f13 : Addr} {od13 an13 : Option Addr} {sl13 : Array (Option Value)} {oc13 kV13 dc13 pm13 cd13 ct13 : Value}
    {f14 : Addr} {od14 an14 : Option Addr} {sl14 : Array (Option Value)} {oc14 kV14 dc14 pm14 cd14 ct14 : Value}
    (a0 : PySem.W.nsIn K mainGlobals "is_whole" = some (some (.ref f0))) (l0 : K.lookup f0 = some ⟨oc0, od0, .func (PySem.W.fnOf "is_whole" "is_whole" (defArgs (topS 1)) (defBody (topS 1)) (defScope (topS 1)) .none kV0 dc0 pm0 an0 cd0 ct0), sl0⟩) (c0 : PySem.W.codeIn K cd0 "is_whole" = true) (k0 : PySem.W.keepIn K (.ref f0) = true)
    (a1 : PySem.W.nsIn K mainGlobals "is_table" = some (some (.ref f1))) (l1 : K.lookup f1 = some ⟨oc1, od1, .func (PySem.W.fnOf "is_table" "is_table" (defArgs (topS 3)) (defBody (topS 3)) (defScope (topS 3)) .none kV1 dc1 pm1 an1 cd1 ct1), sl1⟩) (c1 : PySem.W.codeIn K cd1 "is_table" = true) (k1 : PySem.W.keepIn K (.ref f1) = true)
    (a2 : PySem.W.nsIn K mainGlobals "is_odd" = some (some (.ref f2))) (l2 : K.lookup f2 = some ⟨oc2, od2, .func (PySem.W.fnOf "is_odd" "is_odd" (defArgs (topS 4)) (defBody (topS 4)) (defScope (topS 4)) .none kV2 dc2 pm2 an2 cd2 ct2), sl2⟩) (c2 : PySem.W.codeIn K cd2 "is_odd" = true) (k2 : PySem.W.keepIn K (.ref f2) = true)
    (a3 : PySem.W.nsIn K mainGlobals "is_chain" = some (some (.ref f3))) (l3 : K.lookup f3 = some ⟨oc3, od3, .func (PySem.W.fnOf "is_chain" "is_chain" (defArgs (topS 5)) (defBody (topS 5)) (defScope (topS 5)) .none kV3 dc3 pm3 an3 cd3 ct3), sl3⟩) (c3 : PySem.W.codeIn K cd3 "is_chain" = true) (k3 : PySem.W.keepIn K (.ref f3) = true)
    (a4 : PySem.W.nsIn K mainGlobals "is_why_none" = some (some (.ref f4))) (l4 : K.lookup f4 = some ⟨oc4, od4, .func (PySem.W.fnOf "is_why_none" "is_why_none" (defArgs (topS 6)) (defBody (topS 6)) (defScope (topS 6)) .none kV4 dc4 pm4 an4 cd4 ct4), sl4⟩) (c4 : PySem.W.codeIn K cd4 "is_why_none" = true) (k4 : PySem.W.keepIn K (.ref f4) = true)
    (a5 : PySem.W.nsIn K mainGlobals "_law_same" = some (some (.ref f5))) (l5 : K.lookup f5 = some ⟨oc5, od5, .func (PySem.W.fnOf "_law_same" "_law_same" (defArgs (topS 8)) (defBody (topS 8)) (defScope (topS 8)) .none kV5 dc5 pm5 an5 cd5 ct5), sl5⟩) (c5 : PySem.W.codeIn K cd5 "_law_same" = true) (k5 : PySem.W.keepIn K (.ref f5) = true)
    (a6 : PySem.W.nsIn K mainGlobals "_law_draw" = some (some (.ref f6))) (l6 : K.lookup f6 = some ⟨oc6, od6, .func (PySem.W.fnOf "_law_draw" "_law_draw" (defArgs (topS 9)) (defBody (topS 9)) (defScope (topS 9)) .none kV6 dc6 pm6 an6 cd6 ct6), sl6⟩) (c6 : PySem.W.codeIn K cd6 "_law_draw" = true) (k6 : PySem.W.keepIn K (.ref f6) = true)
    (a7 : PySem.W.nsIn K mainGlobals "_law_table" = some (some (.ref f7))) (l7 : K.lookup f7 = some ⟨oc7, od7, .func (PySem.W.fnOf "_law_table" "_law_table" (defArgs (topS 11)) (defBody (topS 11)) (defScope (topS 11)) .none kV7 dc7 pm7 an7 cd7 ct7), sl7⟩) (c7 : PySem.W.codeIn K cd7 "_law_table" = true) (k7 : PySem.W.keepIn K (.ref f7) = true)
    (a8 : PySem.W.nsIn K mainGlobals "_law_is_odd" = some (some (.ref f8))) (l8 : K.lookup f8 = some ⟨oc8, od8, .func (PySem.W.fnOf "_law_is_odd" "_law_is_odd" (defArgs (topS 12)) (defBody (topS 12)) (defScope (topS 12)) .none kV8 dc8 pm8 an8 cd8 ct8), sl8⟩) (c8 : PySem.W.codeIn K cd8 "_law_is_odd" = true) (k8 : PySem.W.keepIn K (.ref f8) = true)
    (a9 : PySem.W.nsIn K mainGlobals "_law_is_chain" = some (some (.ref f9))) (l9 : K.lookup f9 = some ⟨oc9, od9, .func (PySem.W.fnOf "_law_is_chain" "_law_is_chain" (defArgs (topS 13)) (defBody (topS 13)) (defScope (topS 13)) .none kV9 dc9 pm9 an9 cd9 ct9), sl9⟩) (c9 : PySem.W.codeIn K cd9 "_law_is_chain" = true) (k9 : PySem.W.keepIn K (.ref f9) = true)
    (a10 : PySem.W.nsIn K mainGlobals "_law_is_why" = some (some (.ref f10))) (l10 : K.lookup f10 = some ⟨oc10, od10, .func (PySem.W.fnOf "_law_is_why" "_law_is_why" (defArgs (topS 14)) (defBody (topS 14)) (defScope (topS 14)) .none kV10 dc10 pm10 an10 cd10 ct10), sl10⟩) (c10 : PySem.W.codeIn K cd10 "_law_is_why" = true) (k10 : PySem.W.keepIn K (.ref f10) = true)
    (a11 : PySem.W.nsIn K mainGlobals "_law_is_table" = some (some (.ref f11))) (l11 : K.lookup f11 = some ⟨oc11, od11, .func (PySem.W.fnOf "_law_is_table" "_law_is_table" (defArgs (topS 15)) (defBody (topS 15)) (defScope (topS 15)) .none kV11 dc11 pm11 an11 cd11 ct11), sl11⟩) (c11 : PySem.W.codeIn K cd11 "_law_is_table" = true) (k11 : PySem.W.keepIn K (.ref f11) = true)
    (a12 : PySem.W.nsIn K mainGlobals "_law_pick" = some (some (.ref f12))) (l12 : K.lookup f12 = some ⟨oc12, od12, .func (PySem.W.fnOf "_law_pick" "_law_pick" (defArgs (topS 10)) (defBody (topS 10)) (defScope (topS 10)) .none kV12 dc12 pm12 an12 cd12 ct12), sl12⟩) (c12 : PySem.W.codeIn K cd12 "_law_pick" = true) (k12 : PySem.W.keepIn K (.ref f12) = true)
    (a13 : PySem.W.nsIn K mainGlobals "_law_bent" = some (some (.ref f13))) (l13 : K.lookup f13 = some ⟨oc13, od13, .func (PySem.W.fnOf "_law_bent" "_law_bent" (defArgs (topS 16)) (defBody (topS 16)) (defScope (topS 16)) .none kV13 dc13 pm13 an13 cd13 ct13), sl13⟩) (c13 : PySem.W.codeIn K cd13 "_law_bent" = true) (k13 : PySem.W.keepIn K (.ref f13) = true)
    (a14 : PySem.W.nsIn K mainGlobals "law" = some (some (.ref f14))) (l14 : K.lookup f14 = some ⟨oc14, od14, .func (PySem.W.fnOf "law" "law" (defArgs (topS 17)) (defBody (topS 17)) (defScope (topS 17)) .none kV14 dc14 pm14 an14 cd14 ct14), sl14⟩) (c14 : PySem.W.codeIn K cd14 "law" = true) (k14 : PySem.W.keepIn K (.ref f14) = true)
    (z0 : PySem.W.nsIn K mainGlobals "all" = some none)
    (z1 : PySem.W.nsIn K mainGlobals "bool" = some none)
    (z2 : PySem.W.nsIn K mainGlobals "int" = some none)
    (z3 : PySem.W.nsIn K mainGlobals "isinstance" = some none)
    (z4 : PySem.W.nsIn K mainGlobals "len" = some none)
    (z5 : PySem.W.nsIn K mainGlobals "list" = some none)
    (z6 : PySem.W.nsIn K mainGlobals "min" = some none)
    (z7 : PySem.W.nsIn K mainGlobals "range" = some none)
    (z8 : PySem.W.nsIn K mainGlobals "str" = some none)
    (z9 : PySem.W.nsIn K mainGlobals "tuple" = some none)
    (z10 : PySem.W.nsIn K mainGlobals "zip" = some none) :
    ∃ fd : FuncData, (∀ (s : Shared) (v : Value), BindsTo s fd ⟨[v], []⟩ [("_law_script", v)]) ∧ ∀ base : Heap, K.In base → base.Ns mainGlobals mg → FnOk l.prog w K mg base CX0 13 fa fd ["_law_script"] (spLaw K m) := by
  have e := hfa.symm.trans (PySem.W.mg_of X G a14)
  cases e
  let T : Facts K mg := ⟨⟨_, _, fun_mk (st := topS 1) l0 c0 k0, Fun.binds (st := topS 1) (x := "is_whole") (qual := "is_whole") (fun_mk l0 c0 k0) (fun _ _ _ _ _ _ us hl => match us, hl with | [_, _, _], _ => (by rfl)), PySem.W.mg_of X G a0⟩,
    ⟨_, _, fun_mk (st := topS 3) l1 c1 k1, Fun.binds (st := topS 3) (x := "is_table") (qual := "is_table") (fun_mk l1 c1 k1) (fun _ _ _ _ _ _ us hl => match us, hl with | [_], _ => (by rfl)), PySem.W.mg_of X G a1⟩,
    ⟨_, _, fun_mk (st := topS 4) l2 c2 k2, Fun.binds (st := topS 4) (x := "is_odd") (qual := "is_odd") (fun_mk l2 c2 k2) (fun _ _ _ _ _ _ us hl => match us, hl with | [_, _, _], _ => (by rfl)), PySem.W.mg_of X G a2⟩,
    ⟨_, _, fun_mk (st := topS 5) l3 c3 k3, Fun.binds (st := topS 5) (x := "is_chain") (qual := "is_chain") (fun_mk l3 c3 k3) (fun _ _ _ _ _ _ us hl => match us, hl with | [_, _, _, _], _ => (by rfl)), PySem.W.mg_of X G a3⟩,
    ⟨_, _, fun_mk (st := topS 6) l4 c4 k4, Fun.binds (st := topS 6) (x := "is_why_none") (qual := "is_why_none") (fun_mk l4 c4 k4) (fun _ _ _ _ _ _ us hl => match us, hl with | [_, _], _ => (by rfl)), PySem.W.mg_of X G a4⟩,
    ⟨_, _, fun_mk (st := topS 8) l5 c5 k5, Fun.binds (st := topS 8) (x := "_law_same") (qual := "_law_same") (fun_mk l5 c5 k5) (fun _ _ _ _ _ _ us hl => match us, hl with | [_, _], _ => (by rfl)), PySem.W.mg_of X G a5⟩,
    ⟨_, _, fun_mk (st := topS 9) l6 c6 k6, Fun.binds (st := topS 9) (x := "_law_draw") (qual := "_law_draw") (fun_mk l6 c6 k6) (fun _ _ _ _ _ _ us hl => match us, hl with | [_, _, _], _ => (by rfl)), PySem.W.mg_of X G a6⟩,
    ⟨_, _, fun_mk (st := topS 11) l7 c7 k7, Fun.binds (st := topS 11) (x := "_law_table") (qual := "_law_table") (fun_mk l7 c7 k7) (fun _ _ _ _ _ _ us hl => match us, hl with | [_, _], _ => (by rfl)), PySem.W.mg_of X G a7⟩,
    ⟨_, _, fun_mk (st := topS 12) l8 c8 k8, Fun.binds (st := topS 12) (x := "_law_is_odd") (qual := "_law_is_odd") (fun_mk l8 c8 k8) (fun _ _ _ _ _ _ us hl => match us, hl with | [_, _, _], _ => (by rfl)), PySem.W.mg_of X G a8⟩,
    ⟨_, _, fun_mk (st := topS 13) l9 c9 k9, Fun.binds (st := topS 13) (x := "_law_is_chain") (qual := "_law_is_chain") (fun_mk l9 c9 k9) (fun _ _ _ _ _ _ us hl => match us, hl with | [_, _, _, _], _ => (by rfl)), PySem.W.mg_of X G a9⟩,
    ⟨_, _, fun_mk (st := topS 14) l10 c10 k10, Fun.binds (st := topS 14) (x := "_law_is_why") (qual := "_law_is_why") (fun_mk l10 c10 k10) (fun _ _ _ _ _ _ us hl => match us, hl with | [_, _], _ => (by rfl)), PySem.W.mg_of X G a10⟩,
    ⟨_, _, fun_mk (st := topS 15) l11 c11 k11, Fun.binds (st := topS 15) (x := "_law_is_table") (qual := "_law_is_table") (fun_mk l11 c11 k11) (fun _ _ _ _ _ _ us hl => match us, hl with | [_], _ => (by rfl)), PySem.W.mg_of X G a11⟩,
    ⟨_, _, fun_mk (st := topS 10) l12 c12 k12, Fun.binds (st := topS 10) (x := "_law_pick") (qual := "_law_pick") (fun_mk l12 c12 k12) (fun _ _ _ _ _ _ us hl => match us, hl with | [_, _, _], _ => (by rfl)), PySem.W.mg_of X G a12⟩,
    ⟨_, _, fun_mk (st := topS 16) l13 c13 k13, Fun.binds (st := topS 16) (x := "_law_bent") (qual := "_law_bent") (fun_mk l13 c13 k13) (fun _ _ _ _ _ _ us hl => match us, hl with | [_, _, _], _ => (by rfl)), PySem.W.mg_of X G a13⟩,
    ⟨_, _, fun_mk (st := topS 17) l14 c14 k14, Fun.binds (st := topS 17) (x := "law") (qual := "law") (fun_mk l14 c14 k14) (fun _ _ _ _ _ _ us hl => match us, hl with | [_], _ => (by rfl)), PySem.W.mg_of X G a14⟩,
    PySem.W.mg_none_of X G z0,
    PySem.W.mg_none_of X G z1,
    PySem.W.mg_none_of X G z2,
    PySem.W.mg_none_of X G z3,
    PySem.W.mg_none_of X G z4,
    PySem.W.mg_none_of X G z5,
    PySem.W.mg_none_of X G z6,
    PySem.W.mg_none_of X G z7,
    PySem.W.mg_none_of X G z8,
    PySem.W.mg_none_of X G z9,
    PySem.W.mg_none_of X G z10⟩
  exact ⟨PySem.W.fnOf "law" "law" (defArgs (topS 17)) (defBody (topS 17)) (defScope (topS 17)) .none kV14 dc14 pm14 an14 cd14 ct14, fun s v => .of_eq rfl, fun base _ _ => ok_all T m hm⟩
end L2.Lv.K10
namespace L2.Lv.K10
open PySem PySem.Spec PyProof.Rows L2 L2.Lv L2.Lv.Sh
/-! bent things -/
def fd (k : Nat) (y : PyData) : Prop := y.canLay0 = true ∧ y.depth ≤ k
theorem fd_tup {k : Nat} {ys : List PyData} : fd (k + 1) (.tuple ys) ↔ ∀ y ∈ ys, fd k y := by
  unfold fd
  simp only [PyData.canLay0, PyData.depth]
  rw [layAll_mem]
  have := depAll_mem k ys
  constructor
  · rintro ⟨h1, h2⟩ y hy
    exact ⟨h1 y hy, this.mp (by omega) y hy⟩
  · intro h
    have h2 := this.mpr fun y hy => (h y hy).2
    exact ⟨fun y hy => (h y hy).1, by omega⟩
theorem fd_lst {k : Nat} {ys : List PyData} (h : ∀ y ∈ ys, fd k y) : fd (k + 1) (.list ys) := by
  have := fd_tup.mpr h
  unfold fd at this ⊢
  simpa only [PyData.canLay0, PyData.depth] using this
theorem fd_le {j k : Nat} {y : PyData} (h : fd j y) (l : j ≤ k) : fd k y := ⟨h.1, Nat.le_trans h.2 l⟩
theorem fd_shp {y : PyData} (h : fd 60 y) : shp y = true := (shp_iff y).mpr ⟨h.1, Nat.le_trans h.2 (by decide)⟩
theorem nc_fd {k : Nat} {x : PyData} (h : nc k x = true) : fd k x := ⟨(nc_self k x h).1, (nc_self k x h).2.1⟩
theorem cut_mem {xs : List PyData} {lo hi : Option Int} {y : PyData} (h : y ∈ cutD xs lo hi) : y ∈ xs := List.mem_of_mem_drop (List.mem_of_mem_take h)
theorem cut_len (xs : List PyData) (lo hi : Option Int) : (cutD xs lo hi).length ≤ xs.length := by
  unfold cutD
  rw [List.length_take, List.length_drop]; omega
def oddV : List PyData := [.none, .bool true, .bool false, .int (-2), .int (-1), .int 0, .int 1, .int 2, .str "0", .tuple [], .tuple [.int 0], .list [.int 0], .tuple [.int 0, .int 0], .tuple [.int 0, .int 0, .int 0, .int 0, .int 0, .int 0], .tuple [.int 0, .int 0, .int 0, .int 0, .int 0, .int 0, .int 0]]
theorem odd_fd : ∀ y ∈ oddV, fd 2 y := by
  have h : oddV.all (fun y => y.canLay0 && decide (y.depth ≤ 2)) = true := by decide +kernel
  intro y hy
  have := List.all_eq_true.mp h y hy
  simpa [fd] using this
def Bt (ns : List Int) (g : Fn) (x : PyData) (c k : Nat) : Prop := ∀ n, n + c ≤ big → ∃ w y n', g [Sc ns, .town, .d x] n = some (w, n') ∧ w.frz = .d y ∧ n ≤ n' ∧ n' ≤ n + c ∧ fd k y
theorem eqv_nil {xs : List PyData} (h : shp (.tuple xs) = true) : dEq (.tuple xs) (.tuple []) = some (.d (.bool xs.isEmpty)) := by
  have h2 : shp (.tuple []) = true := by decide +kernel
  show (if _ then _ else _) = _
  rw [h, h2]
  cases xs <;> simp [PyData.eqv, PyData.eqvAll]
theorem le_big2 {k : Nat} (h : k ≤ 3000000) : k ≤ big := Nat.le_trans h (by decide)
theorem bent_step (ns : List Int) (g : Fn) (c k : Nat) (x : PyData) (hx : nc (k + 1) x = true) (hk : k + 1 ≤ 60) (hg : ∀ xs, x = .tuple xs → ∀ y ∈ xs, Bt ns g y c (k + 2)) : Bt ns (runB 6 (b__law_bent_v2 g)) x (4 + c) (k + 3) := by
  intro n hn
  have r6 : dRepT (.tuple [.int 0]) (.int 6) = some (.d (.tuple [.int 0, .int 0, .int 0, .int 0, .int 0, .int 0])) := by rfl
  have r7 : dRepT (.tuple [.int 0]) (.int 7) = some (.d (.tuple [.int 0, .int 0, .int 0, .int 0, .int 0, .int 0, .int 0])) := by rfl
  have hne : oddV ≠ [] := by decide
  cases x with
  | tuple xs =>
    have hx' := hx
    simp [nc] at hx'
    obtain ⟨hl, hxs⟩ := hx'
    have hfd : ∀ y ∈ xs, fd k y := fun y hy => nc_fd (hxs y hy)
    by_cases he : xs = []
    · subst he
      have e1 := eqv_nil (xs := []) (by decide +kernel)
      have e1 : dEq (.tuple []) (.tuple []) = some (.d (.bool true)) := e1
      obtain ⟨y, hy, e2⟩ := pick_ok ns n (by omega) oddV hne
      have e2 : m__law_pick [Sc ns, .town, .d (.list [.none, .bool true, .bool false, .int (-2), .int (-1), .int 0, .int 1, .int 2, .str "0", .tuple [], .tuple [.int 0], .list [.int 0], .tuple [.int 0, .int 0], .tuple [.int 0, .int 0, .int 0, .int 0, .int 0, .int 0], .tuple [.int 0, .int 0, .int 0, .int 0, .int 0, .int 0, .int 0]])] n = some (.d y, n + 1) := e2
      refine ⟨.d y, y, n + 1, ?_, rfl, by omega, by omega, fd_le (odd_fd y hy) (by omega)⟩
      unfold b__law_bent_v2
      simp -implicitDefEqProofs only [eVar_ap, dVar_ap, eC_ap, dOf_ap, eFrz_ap, eBin_ap, bTest_ap, bTru_ap, bAnd_ap, bOr_ap, bNot_ap, eIf_ap, eB_ap, eAnd_ap, eOr_ap, aNil_ap, aCons_ap, sNil_ap, sCons_ap, eTup_ap, eLst_ap, eCall_ap, eApp_ap, oNone_ap, oSome_ap, eSl_ap, sNil'_ap, sSeq_ap, sBrk_ap, sRet_ap, sRetN_ap, sRetO_ap, sDrop_ap, sIf_ap, sSet_ap, sApp_ap, sTown_ap, sExt_ap, sIns_ap, sSetIx_ap, sAsg_ap, sPar_ap, iOf_ap, iVal_ap, iRng1_ap, iRng2_ap, sFor_ap, eComp_ap, bYes_ap, frzAt_ap, eUn_ap, eNotD_ap, eOrD_ap, eChain_ap, eListRg1_ap, eIsa_ap, eMt_ap, iEnumV_ap, iEnumF_ap, iZipV_ap, iZipF_ap, eTLen_ap, iRng3D_ap, sEnd_ap, eSs_ap, sPar3_ap, xPop_ap, xTup1_ap, xCat_ap, sSetX_ap, sAppX_ap, sParO_ap, sForEI_ap, sForK_ap, eRep_ap, eDicK_ap, eDicT_ap, sPut_ap, eAlt_ap, sTry_ap, eGetD_ap, eLockI_ap, iKeyF_ap, sSetDef_ap, eTupVals_ap, sNst_ap, frzNAt_ap, sAppN_ap, sStN_ap, eListRg2_ap, runB_ap, gOne_ap, gMany_ap, dI_ap, yesC_ap, dCmp_int, setD, kill_nx, kill_rt, kill_bk, Option.bind_some, Option.map_some, Option.bind_none, Option.map_none, List.getElem?_cons_zero, List.getElem?_cons_succ, List.set_cons_zero, List.set_cons_succ, List.cons_append, List.nil_append, List.append_nil, List.replicate, List.length_cons, List.length_nil, Nat.reduceAdd, Nat.reduceSub, Nat.zero_add, wdat_no, wdat_d, wdat_town, wdat_ol, wdat_od, wfrz_no, wfrz_d, wfrz_town, wfrz_ol, wfrz_od, wval_no, wval_d, wval_town, wval_ol, wval_od, warg_no, warg_d, warg_town, warg_ol, warg_od, vals, gLen, gAbs, gMax2, gMin2, gInt, gTup, gList, wipeW, if_true, if_false, Bool.false_eq_true, Bool.not_true, Bool.not_false, reduceCtorEq, dNeg, r6, r7, i1t, dTru_bool, e1, e2]
    · have hsh : shp (.tuple xs) = true := nc_shp hx hk
      have e1 := eqv_nil hsh
      have e0 : xs.isEmpty = false := by simpa using he
      rw [e0] at e1
      obtain ⟨r, r0, r1, e2⟩ := draw_ok ns n (by omega) 4 (by decide)
      by_cases c0 : r = 0
      · subst c0
        have e3 : dEq (.int 0) (.int 0) = some (.d (.bool true)) := by simp [dEq_int]
        obtain ⟨y, hy, e4⟩ := pick_ok ns (n + 1) (by omega) oddV hne
        have e4 : m__law_pick [Sc ns, .town, .d (.list [.none, .bool true, .bool false, .int (-2), .int (-1), .int 0, .int 1, .int 2, .str "0", .tuple [], .tuple [.int 0], .list [.int 0], .tuple [.int 0, .int 0], .tuple [.int 0, .int 0, .int 0, .int 0, .int 0, .int 0], .tuple [.int 0, .int 0, .int 0, .int 0, .int 0, .int 0, .int 0]])] (n + 1) = some (.d y, (n + 1) + 1) := e4
        refine ⟨.d y, y, n + 1 + 1, ?_, rfl, by omega, by omega, fd_le (odd_fd y hy) (by omega)⟩
        unfold b__law_bent_v2
        simp -implicitDefEqProofs only [eVar_ap, dVar_ap, eC_ap, dOf_ap, eFrz_ap, eBin_ap, bTest_ap, bTru_ap, bAnd_ap, bOr_ap, bNot_ap, eIf_ap, eB_ap, eAnd_ap, eOr_ap, aNil_ap, aCons_ap, sNil_ap, sCons_ap, eTup_ap, eLst_ap, eCall_ap, eApp_ap, oNone_ap, oSome_ap, eSl_ap, sNil'_ap, sSeq_ap, sBrk_ap, sRet_ap, sRetN_ap, sRetO_ap, sDrop_ap, sIf_ap, sSet_ap, sApp_ap, sTown_ap, sExt_ap, sIns_ap, sSetIx_ap, sAsg_ap, sPar_ap, iOf_ap, iVal_ap, iRng1_ap, iRng2_ap, sFor_ap, eComp_ap, bYes_ap, frzAt_ap, eUn_ap, eNotD_ap, eOrD_ap, eChain_ap, eListRg1_ap, eIsa_ap, eMt_ap, iEnumV_ap, iEnumF_ap, iZipV_ap, iZipF_ap, eTLen_ap, iRng3D_ap, sEnd_ap, eSs_ap, sPar3_ap, xPop_ap, xTup1_ap, xCat_ap, sSetX_ap, sAppX_ap, sParO_ap, sForEI_ap, sForK_ap, eRep_ap, eDicK_ap, eDicT_ap, sPut_ap, eAlt_ap, sTry_ap, eGetD_ap, eLockI_ap, iKeyF_ap, sSetDef_ap, eTupVals_ap, sNst_ap, frzNAt_ap, sAppN_ap, sStN_ap, eListRg2_ap, runB_ap, gOne_ap, gMany_ap, dI_ap, yesC_ap, dCmp_int, setD, kill_nx, kill_rt, kill_bk, Option.bind_some, Option.map_some, Option.bind_none, Option.map_none, List.getElem?_cons_zero, List.getElem?_cons_succ, List.set_cons_zero, List.set_cons_succ, List.cons_append, List.nil_append, List.append_nil, List.replicate, List.length_cons, List.length_nil, Nat.reduceAdd, Nat.reduceSub, Nat.zero_add, wdat_no, wdat_d, wdat_town, wdat_ol, wdat_od, wfrz_no, wfrz_d, wfrz_town, wfrz_ol, wfrz_od, wval_no, wval_d, wval_town, wval_ol, wval_od, warg_no, warg_d, warg_town, warg_ol, warg_od, vals, gLen, gAbs, gMax2, gMin2, gInt, gTup, gList, wipeW, if_true, if_false, Bool.false_eq_true, Bool.not_true, Bool.not_false, reduceCtorEq, dNeg, r6, r7, i1t, dTru_bool, e1, e2, e3, e4]
      · have e3 : dEq (.int r) (.int 0) = some (.d (.bool false)) := by rw [dEq_int, beq_eq_false_iff_ne.mpr c0]
        have hlen : 0 < xs.length := List.length_pos_iff.mpr he
        obtain ⟨a, a0, a1, e4⟩ := draw_ok ns (n + 1) (by omega) (xs.length : Int) (by omega)
        obtain ⟨b, b0, b1, e5⟩ := draw_ok ns (n + 1 + 1) (by omega) 7 (by decide)
        have ha : a.toNat < xs.length := by omega
        have ix := ixT xs a a0 ha
        have hmem : xs[a.toNat] ∈ xs := List.getElem_mem _
        have l1 := cut_len xs none (some a)
        have l2 := cut_len xs (some (a + 1)) none
        have l3 := cut_len xs (some a) none
        have s1 : dSl (.tuple xs) none (some a) = some (.d (.tuple (cutD xs none (some a)))) := rfl
        have s2 : dSl (.tuple xs) (some (a + 1)) none = some (.d (.tuple (cutD xs (some (a + 1)) none))) := rfl
        have s3 : dSl (.tuple xs) (some a) none = some (.d (.tuple (cutD xs (some a) none))) := rfl
        by_cases b0' : b = 0
        · subst b0'
          have e6 : dEq (.int 0) (.int 0) = some (.d (.bool true)) := by simp [dEq_int]
          have d1 := dAdd_tup (cutD xs none (some a)) (cutD xs (some (a + 1)) none) (le_big2 (by omega))
          refine ⟨.d (.tuple (cutD xs none (some a) ++ cutD xs (some (a + 1)) none)), .tuple (cutD xs none (some a) ++ cutD xs (some (a + 1)) none), n + 1 + 1 + 1, ?_, rfl, by omega, by omega, fd_le (fd_tup.mpr fun y hy => ?_) (show k + 1 ≤ k + 3 by omega)⟩
          · unfold b__law_bent_v2
            simp -implicitDefEqProofs only [eVar_ap, dVar_ap, eC_ap, dOf_ap, eFrz_ap, eBin_ap, bTest_ap, bTru_ap, bAnd_ap, bOr_ap, bNot_ap, eIf_ap, eB_ap, eAnd_ap, eOr_ap, aNil_ap, aCons_ap, sNil_ap, sCons_ap, eTup_ap, eLst_ap, eCall_ap, eApp_ap, oNone_ap, oSome_ap, eSl_ap, sNil'_ap, sSeq_ap, sBrk_ap, sRet_ap, sRetN_ap, sRetO_ap, sDrop_ap, sIf_ap, sSet_ap, sApp_ap, sTown_ap, sExt_ap, sIns_ap, sSetIx_ap, sAsg_ap, sPar_ap, iOf_ap, iVal_ap, iRng1_ap, iRng2_ap, sFor_ap, eComp_ap, bYes_ap, frzAt_ap, eUn_ap, eNotD_ap, eOrD_ap, eChain_ap, eListRg1_ap, eIsa_ap, eMt_ap, iEnumV_ap, iEnumF_ap, iZipV_ap, iZipF_ap, eTLen_ap, iRng3D_ap, sEnd_ap, eSs_ap, sPar3_ap, xPop_ap, xTup1_ap, xCat_ap, sSetX_ap, sAppX_ap, sParO_ap, sForEI_ap, sForK_ap, eRep_ap, eDicK_ap, eDicT_ap, sPut_ap, eAlt_ap, sTry_ap, eGetD_ap, eLockI_ap, iKeyF_ap, sSetDef_ap, eTupVals_ap, sNst_ap, frzNAt_ap, sAppN_ap, sStN_ap, eListRg2_ap, runB_ap, gOne_ap, gMany_ap, dI_ap, yesC_ap, dCmp_int, setD, kill_nx, kill_rt, kill_bk, Option.bind_some, Option.map_some, Option.bind_none, Option.map_none, List.getElem?_cons_zero, List.getElem?_cons_succ, List.set_cons_zero, List.set_cons_succ, List.cons_append, List.nil_append, List.append_nil, List.replicate, List.length_cons, List.length_nil, Nat.reduceAdd, Nat.reduceSub, Nat.zero_add, wdat_no, wdat_d, wdat_town, wdat_ol, wdat_od, wfrz_no, wfrz_d, wfrz_town, wfrz_ol, wfrz_od, wval_no, wval_d, wval_town, wval_ol, wval_od, warg_no, warg_d, warg_town, warg_ol, warg_od, vals, gLen, gAbs, gMax2, gMin2, gInt, gTup, gList, wipeW, if_true, if_false, Bool.false_eq_true, Bool.not_true, Bool.not_false, reduceCtorEq, dNeg, r6, r7, i1t, dTru_bool, e1, e2, e3, e4, e5, e6, s1, s2, dAdd_int, d1]
          · rcases List.mem_append.mp hy with hy | hy <;> exact hfd y (cut_mem hy)
        have e6 : dEq (.int b) (.int 0) = some (.d (.bool false)) := by rw [dEq_int, beq_eq_false_iff_ne.mpr b0']
        by_cases b1' : b = 1
        · subst b1'
          have e7 : dEq (.int 1) (.int 1) = some (.d (.bool true)) := by simp [dEq_int]
          have d1 := dAdd_tup (cutD xs none (some a)) [xs[a.toNat]] (le_big2 (by simp; omega))
          have d2 := dAdd_tup (cutD xs none (some a) ++ [xs[a.toNat]]) (cutD xs (some a) none) (le_big2 (by simp; omega))
          refine ⟨.d (.tuple (cutD xs none (some a) ++ [xs[a.toNat]] ++ cutD xs (some a) none)), .tuple (cutD xs none (some a) ++ [xs[a.toNat]] ++ cutD xs (some a) none), n + 1 + 1 + 1, ?_, rfl, by omega, by omega, fd_le (fd_tup.mpr fun y hy => ?_) (show k + 1 ≤ k + 3 by omega)⟩
          · unfold b__law_bent_v2
            simp -implicitDefEqProofs only [eVar_ap, dVar_ap, eC_ap, dOf_ap, eFrz_ap, eBin_ap, bTest_ap, bTru_ap, bAnd_ap, bOr_ap, bNot_ap, eIf_ap, eB_ap, eAnd_ap, eOr_ap, aNil_ap, aCons_ap, sNil_ap, sCons_ap, eTup_ap, eLst_ap, eCall_ap, eApp_ap, oNone_ap, oSome_ap, eSl_ap, sNil'_ap, sSeq_ap, sBrk_ap, sRet_ap, sRetN_ap, sRetO_ap, sDrop_ap, sIf_ap, sSet_ap, sApp_ap, sTown_ap, sExt_ap, sIns_ap, sSetIx_ap, sAsg_ap, sPar_ap, iOf_ap, iVal_ap, iRng1_ap, iRng2_ap, sFor_ap, eComp_ap, bYes_ap, frzAt_ap, eUn_ap, eNotD_ap, eOrD_ap, eChain_ap, eListRg1_ap, eIsa_ap, eMt_ap, iEnumV_ap, iEnumF_ap, iZipV_ap, iZipF_ap, eTLen_ap, iRng3D_ap, sEnd_ap, eSs_ap, sPar3_ap, xPop_ap, xTup1_ap, xCat_ap, sSetX_ap, sAppX_ap, sParO_ap, sForEI_ap, sForK_ap, eRep_ap, eDicK_ap, eDicT_ap, sPut_ap, eAlt_ap, sTry_ap, eGetD_ap, eLockI_ap, iKeyF_ap, sSetDef_ap, eTupVals_ap, sNst_ap, frzNAt_ap, sAppN_ap, sStN_ap, eListRg2_ap, runB_ap, gOne_ap, gMany_ap, dI_ap, yesC_ap, dCmp_int, setD, kill_nx, kill_rt, kill_bk, Option.bind_some, Option.map_some, Option.bind_none, Option.map_none, List.getElem?_cons_zero, List.getElem?_cons_succ, List.set_cons_zero, List.set_cons_succ, List.cons_append, List.nil_append, List.append_nil, List.replicate, List.length_cons, List.length_nil, Nat.reduceAdd, Nat.reduceSub, Nat.zero_add, wdat_no, wdat_d, wdat_town, wdat_ol, wdat_od, wfrz_no, wfrz_d, wfrz_town, wfrz_ol, wfrz_od, wval_no, wval_d, wval_town, wval_ol, wval_od, warg_no, warg_d, warg_town, warg_ol, warg_od, vals, gLen, gAbs, gMax2, gMin2, gInt, gTup, gList, wipeW, if_true, if_false, Bool.false_eq_true, Bool.not_true, Bool.not_false, reduceCtorEq, dNeg, r6, r7, i1t, dTru_bool, e1, e2, e3, e4, e5, e6, e7, s1, s3, ix, dAdd_int, d1, d2]
          · rcases List.mem_append.mp hy with hy | hy
            · rcases List.mem_append.mp hy with hy | hy
              · exact hfd y (cut_mem hy)
              · rw [List.mem_singleton.mp hy]; exact hfd _ hmem
            · exact hfd y (cut_mem hy)
        have e7 : dEq (.int b) (.int 1) = some (.d (.bool false)) := by rw [dEq_int, beq_eq_false_iff_ne.mpr b1']
        by_cases b2' : b = 2
        · subst b2'
          have e8 : dEq (.int 2) (.int 2) = some (.d (.bool true)) := by simp [dEq_int]
          refine ⟨.ol xs, .list xs, n + 1 + 1 + 1, ?_, rfl, by omega, by omega, fd_le (fd_lst hfd) (by omega)⟩
          unfold b__law_bent_v2
          simp -implicitDefEqProofs only [eVar_ap, dVar_ap, eC_ap, dOf_ap, eFrz_ap, eBin_ap, bTest_ap, bTru_ap, bAnd_ap, bOr_ap, bNot_ap, eIf_ap, eB_ap, eAnd_ap, eOr_ap, aNil_ap, aCons_ap, sNil_ap, sCons_ap, eTup_ap, eLst_ap, eCall_ap, eApp_ap, oNone_ap, oSome_ap, eSl_ap, sNil'_ap, sSeq_ap, sBrk_ap, sRet_ap, sRetN_ap, sRetO_ap, sDrop_ap, sIf_ap, sSet_ap, sApp_ap, sTown_ap, sExt_ap, sIns_ap, sSetIx_ap, sAsg_ap, sPar_ap, iOf_ap, iVal_ap, iRng1_ap, iRng2_ap, sFor_ap, eComp_ap, bYes_ap, frzAt_ap, eUn_ap, eNotD_ap, eOrD_ap, eChain_ap, eListRg1_ap, eIsa_ap, eMt_ap, iEnumV_ap, iEnumF_ap, iZipV_ap, iZipF_ap, eTLen_ap, iRng3D_ap, sEnd_ap, eSs_ap, sPar3_ap, xPop_ap, xTup1_ap, xCat_ap, sSetX_ap, sAppX_ap, sParO_ap, sForEI_ap, sForK_ap, eRep_ap, eDicK_ap, eDicT_ap, sPut_ap, eAlt_ap, sTry_ap, eGetD_ap, eLockI_ap, iKeyF_ap, sSetDef_ap, eTupVals_ap, sNst_ap, frzNAt_ap, sAppN_ap, sStN_ap, eListRg2_ap, runB_ap, gOne_ap, gMany_ap, dI_ap, yesC_ap, dCmp_int, setD, kill_nx, kill_rt, kill_bk, Option.bind_some, Option.map_some, Option.bind_none, Option.map_none, List.getElem?_cons_zero, List.getElem?_cons_succ, List.set_cons_zero, List.set_cons_succ, List.cons_append, List.nil_append, List.append_nil, List.replicate, List.length_cons, List.length_nil, Nat.reduceAdd, Nat.reduceSub, Nat.zero_add, wdat_no, wdat_d, wdat_town, wdat_ol, wdat_od, wfrz_no, wfrz_d, wfrz_town, wfrz_ol, wfrz_od, wval_no, wval_d, wval_town, wval_ol, wval_od, warg_no, warg_d, warg_town, warg_ol, warg_od, vals, gLen, gAbs, gMax2, gMin2, gInt, gTup, gList, wipeW, if_true, if_false, Bool.false_eq_true, Bool.not_true, Bool.not_false, reduceCtorEq, dNeg, r6, r7, i1t, dTru_bool, e1, e2, e3, e4, e5, e6, e7, e8]
        have e8 : dEq (.int b) (.int 2) = some (.d (.bool false)) := by rw [dEq_int, beq_eq_false_iff_ne.mpr b2']
        obtain ⟨w, z, n', f1, f2, f3, f4, f5⟩ := hg xs rfl _ hmem (n + 1 + 1 + 1) (by omega)
        have d1 := dAdd_tup (cutD xs none (some a)) [z] (le_big2 (by simp; omega))
        have d2 := dAdd_tup (cutD xs none (some a) ++ [z]) (cutD xs (some (a + 1)) none) (le_big2 (by simp; omega))
        refine ⟨.d (.tuple (cutD xs none (some a) ++ [z] ++ cutD xs (some (a + 1)) none)), .tuple (cutD xs none (some a) ++ [z] ++ cutD xs (some (a + 1)) none), n', ?_, rfl, by omega, by omega, fd_tup.mpr fun y hy => ?_⟩
        · have wa : w.arg = some (.d z) := by
            cases w with
            | d u => cases f2; rfl
            | ol u => cases f2; rfl
            | _ => cases f2
          unfold b__law_bent_v2
          simp -implicitDefEqProofs only [eVar_ap, dVar_ap, eC_ap, dOf_ap, eFrz_ap, eBin_ap, bTest_ap, bTru_ap, bAnd_ap, bOr_ap, bNot_ap, eIf_ap, eB_ap, eAnd_ap, eOr_ap, aNil_ap, aCons_ap, sNil_ap, sCons_ap, eTup_ap, eLst_ap, eCall_ap, eApp_ap, oNone_ap, oSome_ap, eSl_ap, sNil'_ap, sSeq_ap, sBrk_ap, sRet_ap, sRetN_ap, sRetO_ap, sDrop_ap, sIf_ap, sSet_ap, sApp_ap, sTown_ap, sExt_ap, sIns_ap, sSetIx_ap, sAsg_ap, sPar_ap, iOf_ap, iVal_ap, iRng1_ap, iRng2_ap, sFor_ap, eComp_ap, bYes_ap, frzAt_ap, eUn_ap, eNotD_ap, eOrD_ap, eChain_ap, eListRg1_ap, eIsa_ap, eMt_ap, iEnumV_ap, iEnumF_ap, iZipV_ap, iZipF_ap, eTLen_ap, iRng3D_ap, sEnd_ap, eSs_ap, sPar3_ap, xPop_ap, xTup1_ap, xCat_ap, sSetX_ap, sAppX_ap, sParO_ap, sForEI_ap, sForK_ap, eRep_ap, eDicK_ap, eDicT_ap, sPut_ap, eAlt_ap, sTry_ap, eGetD_ap, eLockI_ap, iKeyF_ap, sSetDef_ap, eTupVals_ap, sNst_ap, frzNAt_ap, sAppN_ap, sStN_ap, eListRg2_ap, runB_ap, gOne_ap, gMany_ap, dI_ap, yesC_ap, dCmp_int, setD, kill_nx, kill_rt, kill_bk, Option.bind_some, Option.map_some, Option.bind_none, Option.map_none, List.getElem?_cons_zero, List.getElem?_cons_succ, List.set_cons_zero, List.set_cons_succ, List.cons_append, List.nil_append, List.append_nil, List.replicate, List.length_cons, List.length_nil, Nat.reduceAdd, Nat.reduceSub, Nat.zero_add, wdat_no, wdat_d, wdat_town, wdat_ol, wdat_od, wfrz_no, wfrz_d, wfrz_town, wfrz_ol, wfrz_od, wval_no, wval_d, wval_town, wval_ol, wval_od, warg_no, warg_d, warg_town, warg_ol, warg_od, vals, gLen, gAbs, gMax2, gMin2, gInt, gTup, gList, wipeW, if_true, if_false, Bool.false_eq_true, Bool.not_true, Bool.not_false, reduceCtorEq, dNeg, r6, r7, i1t, dTru_bool, e1, e2, e3, e4, e5, e6, e7, e8, s1, s2, ix, f1, wa, dAdd_int, d1, d2]
        · rcases List.mem_append.mp hy with hy | hy
          · rcases List.mem_append.mp hy with hy | hy
            · exact fd_le (hfd y (cut_mem hy)) (by omega)
            · rw [List.mem_singleton.mp hy]; exact f5
          · exact fd_le (hfd y (cut_mem hy)) (by omega)
  | list xs => simp [nc] at hx
  | dict xs => simp [nc] at hx
  | none =>
    obtain ⟨y, hy, e2⟩ := pick_ok ns n (by omega) oddV hne
    have e2 : m__law_pick [Sc ns, .town, .d (.list [.none, .bool true, .bool false, .int (-2), .int (-1), .int 0, .int 1, .int 2, .str "0", .tuple [], .tuple [.int 0], .list [.int 0], .tuple [.int 0, .int 0], .tuple [.int 0, .int 0, .int 0, .int 0, .int 0, .int 0], .tuple [.int 0, .int 0, .int 0, .int 0, .int 0, .int 0, .int 0]])] n = some (.d y, n + 1) := e2
    refine ⟨.d y, y, n + 1, ?_, rfl, by omega, by omega, fd_le (odd_fd y hy) (by omega)⟩
    unfold b__law_bent_v2
    simp -implicitDefEqProofs only [eVar_ap, dVar_ap, eC_ap, dOf_ap, eFrz_ap, eBin_ap, bTest_ap, bTru_ap, bAnd_ap, bOr_ap, bNot_ap, eIf_ap, eB_ap, eAnd_ap, eOr_ap, aNil_ap, aCons_ap, sNil_ap, sCons_ap, eTup_ap, eLst_ap, eCall_ap, eApp_ap, oNone_ap, oSome_ap, eSl_ap, sNil'_ap, sSeq_ap, sBrk_ap, sRet_ap, sRetN_ap, sRetO_ap, sDrop_ap, sIf_ap, sSet_ap, sApp_ap, sTown_ap, sExt_ap, sIns_ap, sSetIx_ap, sAsg_ap, sPar_ap, iOf_ap, iVal_ap, iRng1_ap, iRng2_ap, sFor_ap, eComp_ap, bYes_ap, frzAt_ap, eUn_ap, eNotD_ap, eOrD_ap, eChain_ap, eListRg1_ap, eIsa_ap, eMt_ap, iEnumV_ap, iEnumF_ap, iZipV_ap, iZipF_ap, eTLen_ap, iRng3D_ap, sEnd_ap, eSs_ap, sPar3_ap, xPop_ap, xTup1_ap, xCat_ap, sSetX_ap, sAppX_ap, sParO_ap, sForEI_ap, sForK_ap, eRep_ap, eDicK_ap, eDicT_ap, sPut_ap, eAlt_ap, sTry_ap, eGetD_ap, eLockI_ap, iKeyF_ap, sSetDef_ap, eTupVals_ap, sNst_ap, frzNAt_ap, sAppN_ap, sStN_ap, eListRg2_ap, runB_ap, gOne_ap, gMany_ap, dI_ap, yesC_ap, dCmp_int, setD, kill_nx, kill_rt, kill_bk, Option.bind_some, Option.map_some, Option.bind_none, Option.map_none, List.getElem?_cons_zero, List.getElem?_cons_succ, List.set_cons_zero, List.set_cons_succ, List.cons_append, List.nil_append, List.append_nil, List.replicate, List.length_cons, List.length_nil, Nat.reduceAdd, Nat.reduceSub, Nat.zero_add, wdat_no, wdat_d, wdat_town, wdat_ol, wdat_od, wfrz_no, wfrz_d, wfrz_town, wfrz_ol, wfrz_od, wval_no, wval_d, wval_town, wval_ol, wval_od, warg_no, warg_d, warg_town, warg_ol, warg_od, vals, gLen, gAbs, gMax2, gMin2, gInt, gTup, gList, wipeW, if_true, if_false, Bool.false_eq_true, Bool.not_true, Bool.not_false, reduceCtorEq, dNeg, r6, r7, isa_t_n, dTru_bool, e2]
  | bool b =>
    obtain ⟨y, hy, e2⟩ := pick_ok ns n (by omega) oddV hne
    have e2 : m__law_pick [Sc ns, .town, .d (.list [.none, .bool true, .bool false, .int (-2), .int (-1), .int 0, .int 1, .int 2, .str "0", .tuple [], .tuple [.int 0], .list [.int 0], .tuple [.int 0, .int 0], .tuple [.int 0, .int 0, .int 0, .int 0, .int 0, .int 0], .tuple [.int 0, .int 0, .int 0, .int 0, .int 0, .int 0, .int 0]])] n = some (.d y, n + 1) := e2
    refine ⟨.d y, y, n + 1, ?_, rfl, by omega, by omega, fd_le (odd_fd y hy) (by omega)⟩
    unfold b__law_bent_v2
    simp -implicitDefEqProofs only [eVar_ap, dVar_ap, eC_ap, dOf_ap, eFrz_ap, eBin_ap, bTest_ap, bTru_ap, bAnd_ap, bOr_ap, bNot_ap, eIf_ap, eB_ap, eAnd_ap, eOr_ap, aNil_ap, aCons_ap, sNil_ap, sCons_ap, eTup_ap, eLst_ap, eCall_ap, eApp_ap, oNone_ap, oSome_ap, eSl_ap, sNil'_ap, sSeq_ap, sBrk_ap, sRet_ap, sRetN_ap, sRetO_ap, sDrop_ap, sIf_ap, sSet_ap, sApp_ap, sTown_ap, sExt_ap, sIns_ap, sSetIx_ap, sAsg_ap, sPar_ap, iOf_ap, iVal_ap, iRng1_ap, iRng2_ap, sFor_ap, eComp_ap, bYes_ap, frzAt_ap, eUn_ap, eNotD_ap, eOrD_ap, eChain_ap, eListRg1_ap, eIsa_ap, eMt_ap, iEnumV_ap, iEnumF_ap, iZipV_ap, iZipF_ap, eTLen_ap, iRng3D_ap, sEnd_ap, eSs_ap, sPar3_ap, xPop_ap, xTup1_ap, xCat_ap, sSetX_ap, sAppX_ap, sParO_ap, sForEI_ap, sForK_ap, eRep_ap, eDicK_ap, eDicT_ap, sPut_ap, eAlt_ap, sTry_ap, eGetD_ap, eLockI_ap, iKeyF_ap, sSetDef_ap, eTupVals_ap, sNst_ap, frzNAt_ap, sAppN_ap, sStN_ap, eListRg2_ap, runB_ap, gOne_ap, gMany_ap, dI_ap, yesC_ap, dCmp_int, setD, kill_nx, kill_rt, kill_bk, Option.bind_some, Option.map_some, Option.bind_none, Option.map_none, List.getElem?_cons_zero, List.getElem?_cons_succ, List.set_cons_zero, List.set_cons_succ, List.cons_append, List.nil_append, List.append_nil, List.replicate, List.length_cons, List.length_nil, Nat.reduceAdd, Nat.reduceSub, Nat.zero_add, wdat_no, wdat_d, wdat_town, wdat_ol, wdat_od, wfrz_no, wfrz_d, wfrz_town, wfrz_ol, wfrz_od, wval_no, wval_d, wval_town, wval_ol, wval_od, warg_no, warg_d, warg_town, warg_ol, warg_od, vals, gLen, gAbs, gMax2, gMin2, gInt, gTup, gList, wipeW, if_true, if_false, Bool.false_eq_true, Bool.not_true, Bool.not_false, reduceCtorEq, dNeg, r6, r7, isa_t_b, dTru_bool, e2]
  | int b =>
    obtain ⟨y, hy, e2⟩ := pick_ok ns n (by omega) oddV hne
    have e2 : m__law_pick [Sc ns, .town, .d (.list [.none, .bool true, .bool false, .int (-2), .int (-1), .int 0, .int 1, .int 2, .str "0", .tuple [], .tuple [.int 0], .list [.int 0], .tuple [.int 0, .int 0], .tuple [.int 0, .int 0, .int 0, .int 0, .int 0, .int 0], .tuple [.int 0, .int 0, .int 0, .int 0, .int 0, .int 0, .int 0]])] n = some (.d y, n + 1) := e2
    refine ⟨.d y, y, n + 1, ?_, rfl, by omega, by omega, fd_le (odd_fd y hy) (by omega)⟩
    unfold b__law_bent_v2
    simp -implicitDefEqProofs only [eVar_ap, dVar_ap, eC_ap, dOf_ap, eFrz_ap, eBin_ap, bTest_ap, bTru_ap, bAnd_ap, bOr_ap, bNot_ap, eIf_ap, eB_ap, eAnd_ap, eOr_ap, aNil_ap, aCons_ap, sNil_ap, sCons_ap, eTup_ap, eLst_ap, eCall_ap, eApp_ap, oNone_ap, oSome_ap, eSl_ap, sNil'_ap, sSeq_ap, sBrk_ap, sRet_ap, sRetN_ap, sRetO_ap, sDrop_ap, sIf_ap, sSet_ap, sApp_ap, sTown_ap, sExt_ap, sIns_ap, sSetIx_ap, sAsg_ap, sPar_ap, iOf_ap, iVal_ap, iRng1_ap, iRng2_ap, sFor_ap, eComp_ap, bYes_ap, frzAt_ap, eUn_ap, eNotD_ap, eOrD_ap, eChain_ap, eListRg1_ap, eIsa_ap, eMt_ap, iEnumV_ap, iEnumF_ap, iZipV_ap, iZipF_ap, eTLen_ap, iRng3D_ap, sEnd_ap, eSs_ap, sPar3_ap, xPop_ap, xTup1_ap, xCat_ap, sSetX_ap, sAppX_ap, sParO_ap, sForEI_ap, sForK_ap, eRep_ap, eDicK_ap, eDicT_ap, sPut_ap, eAlt_ap, sTry_ap, eGetD_ap, eLockI_ap, iKeyF_ap, sSetDef_ap, eTupVals_ap, sNst_ap, frzNAt_ap, sAppN_ap, sStN_ap, eListRg2_ap, runB_ap, gOne_ap, gMany_ap, dI_ap, yesC_ap, dCmp_int, setD, kill_nx, kill_rt, kill_bk, Option.bind_some, Option.map_some, Option.bind_none, Option.map_none, List.getElem?_cons_zero, List.getElem?_cons_succ, List.set_cons_zero, List.set_cons_succ, List.cons_append, List.nil_append, List.append_nil, List.replicate, List.length_cons, List.length_nil, Nat.reduceAdd, Nat.reduceSub, Nat.zero_add, wdat_no, wdat_d, wdat_town, wdat_ol, wdat_od, wfrz_no, wfrz_d, wfrz_town, wfrz_ol, wfrz_od, wval_no, wval_d, wval_town, wval_ol, wval_od, warg_no, warg_d, warg_town, warg_ol, warg_od, vals, gLen, gAbs, gMax2, gMin2, gInt, gTup, gList, wipeW, if_true, if_false, Bool.false_eq_true, Bool.not_true, Bool.not_false, reduceCtorEq, dNeg, r6, r7, isa_t_i, dTru_bool, e2]
  | str b =>
    obtain ⟨y, hy, e2⟩ := pick_ok ns n (by omega) oddV hne
    have e2 : m__law_pick [Sc ns, .town, .d (.list [.none, .bool true, .bool false, .int (-2), .int (-1), .int 0, .int 1, .int 2, .str "0", .tuple [], .tuple [.int 0], .list [.int 0], .tuple [.int 0, .int 0], .tuple [.int 0, .int 0, .int 0, .int 0, .int 0, .int 0], .tuple [.int 0, .int 0, .int 0, .int 0, .int 0, .int 0, .int 0]])] n = some (.d y, n + 1) := e2
    refine ⟨.d y, y, n + 1, ?_, rfl, by omega, by omega, fd_le (odd_fd y hy) (by omega)⟩
    unfold b__law_bent_v2
    simp -implicitDefEqProofs only [eVar_ap, dVar_ap, eC_ap, dOf_ap, eFrz_ap, eBin_ap, bTest_ap, bTru_ap, bAnd_ap, bOr_ap, bNot_ap, eIf_ap, eB_ap, eAnd_ap, eOr_ap, aNil_ap, aCons_ap, sNil_ap, sCons_ap, eTup_ap, eLst_ap, eCall_ap, eApp_ap, oNone_ap, oSome_ap, eSl_ap, sNil'_ap, sSeq_ap, sBrk_ap, sRet_ap, sRetN_ap, sRetO_ap, sDrop_ap, sIf_ap, sSet_ap, sApp_ap, sTown_ap, sExt_ap, sIns_ap, sSetIx_ap, sAsg_ap, sPar_ap, iOf_ap, iVal_ap, iRng1_ap, iRng2_ap, sFor_ap, eComp_ap, bYes_ap, frzAt_ap, eUn_ap, eNotD_ap, eOrD_ap, eChain_ap, eListRg1_ap, eIsa_ap, eMt_ap, iEnumV_ap, iEnumF_ap, iZipV_ap, iZipF_ap, eTLen_ap, iRng3D_ap, sEnd_ap, eSs_ap, sPar3_ap, xPop_ap, xTup1_ap, xCat_ap, sSetX_ap, sAppX_ap, sParO_ap, sForEI_ap, sForK_ap, eRep_ap, eDicK_ap, eDicT_ap, sPut_ap, eAlt_ap, sTry_ap, eGetD_ap, eLockI_ap, iKeyF_ap, sSetDef_ap, eTupVals_ap, sNst_ap, frzNAt_ap, sAppN_ap, sStN_ap, eListRg2_ap, runB_ap, gOne_ap, gMany_ap, dI_ap, yesC_ap, dCmp_int, setD, kill_nx, kill_rt, kill_bk, Option.bind_some, Option.map_some, Option.bind_none, Option.map_none, List.getElem?_cons_zero, List.getElem?_cons_succ, List.set_cons_zero, List.set_cons_succ, List.cons_append, List.nil_append, List.append_nil, List.replicate, List.length_cons, List.length_nil, Nat.reduceAdd, Nat.reduceSub, Nat.zero_add, wdat_no, wdat_d, wdat_town, wdat_ol, wdat_od, wfrz_no, wfrz_d, wfrz_town, wfrz_ol, wfrz_od, wval_no, wval_d, wval_town, wval_ol, wval_od, warg_no, warg_d, warg_town, warg_ol, warg_od, vals, gLen, gAbs, gMax2, gMin2, gInt, gTup, gList, wipeW, if_true, if_false, Bool.false_eq_true, Bool.not_true, Bool.not_false, reduceCtorEq, dNeg, r6, r7, isa_t_s, dTru_bool, e2]
theorem bent_ok (ns : List Int) : ∀ (k : Nat) (x : PyData), nc (k + 1) x = true → ∀ f, k ≤ f → k ≤ 20 → Bt ns (m__law_bent_v2_ (f + 1)) x (4 * (k + 1)) (k + 3)
  | 0, x, hx, f, _, _ => by
    have := bent_step ns (m__law_bent_v2_ f) 0 0 x hx (by decide) (fun xs e y hy => by
      subst e
      simp [nc] at hx
      exact (hx.2 y hy).elim)
    exact this
  | k + 1, x, hx, f, hf, hk => by
    obtain ⟨f, rfl⟩ : ∃ j, f = j + 1 := ⟨f - 1, by omega⟩
    have := bent_step ns (m__law_bent_v2_ (f + 1)) (4 * (k + 1)) (k + 1) x hx (by omega) (fun xs e y hy => by
      subst e
      simp [nc] at hx
      exact bent_ok ns k y (hx.2 y hy) f (by omega) (by omega))
    have e : 4 + 4 * (k + 1) = 4 * (k + 1 + 1) := by omega
    rw [e] at this
    exact this
/-! a turn -/
def Gd (L : List PyData) : Prop := ∀ y ∈ L, fd 60 y
theorem Gd.app {L M : List PyData} (h : Gd L) (h2 : Gd M) : Gd (L ++ M) := fun y hy => (List.mem_append.mp hy).elim (h y) (h2 y)
theorem Gd.cons {x : PyData} {L : List PyData} (h : fd 60 x) (h2 : Gd L) : Gd (x :: L) := fun y hy => (List.mem_cons.mp hy).elim (fun e => e ▸ h) (h2 y)
theorem Gd.nil : Gd [] := fun _ h => by cases h
theorem bent_lst (ns : List Int) (g : Fn) (xs : List PyData) : Bt ns (runB 6 (b__law_bent_v2 g)) (.list xs) 4 3 := by
  intro n hn
  have r6 : dRepT (.tuple [.int 0]) (.int 6) = some (.d (.tuple [.int 0, .int 0, .int 0, .int 0, .int 0, .int 0])) := by rfl
  have r7 : dRepT (.tuple [.int 0]) (.int 7) = some (.d (.tuple [.int 0, .int 0, .int 0, .int 0, .int 0, .int 0, .int 0])) := by rfl
  have hne : oddV ≠ [] := by decide
  have i2 : isa "tuple" (.list xs) = false := rfl
  obtain ⟨y, hy, e2⟩ := pick_ok ns n (by omega) oddV hne
  have e2 : m__law_pick [Sc ns, .town, .d (.list [.none, .bool true, .bool false, .int (-2), .int (-1), .int 0, .int 1, .int 2, .str "0", .tuple [], .tuple [.int 0], .list [.int 0], .tuple [.int 0, .int 0], .tuple [.int 0, .int 0, .int 0, .int 0, .int 0, .int 0], .tuple [.int 0, .int 0, .int 0, .int 0, .int 0, .int 0, .int 0]])] n = some (.d y, n + 1) := e2
  refine ⟨.d y, y, n + 1, ?_, rfl, by omega, by omega, fd_le (odd_fd y hy) (by omega)⟩
  unfold b__law_bent_v2
  simp -implicitDefEqProofs only [eVar_ap, dVar_ap, eC_ap, dOf_ap, eFrz_ap, eBin_ap, bTest_ap, bTru_ap, bAnd_ap, bOr_ap, bNot_ap, eIf_ap, eB_ap, eAnd_ap, eOr_ap, aNil_ap, aCons_ap, sNil_ap, sCons_ap, eTup_ap, eLst_ap, eCall_ap, eApp_ap, oNone_ap, oSome_ap, eSl_ap, sNil'_ap, sSeq_ap, sBrk_ap, sRet_ap, sRetN_ap, sRetO_ap, sDrop_ap, sIf_ap, sSet_ap, sApp_ap, sTown_ap, sExt_ap, sIns_ap, sSetIx_ap, sAsg_ap, sPar_ap, iOf_ap, iVal_ap, iRng1_ap, iRng2_ap, sFor_ap, eComp_ap, bYes_ap, frzAt_ap, eUn_ap, eNotD_ap, eOrD_ap, eChain_ap, eListRg1_ap, eIsa_ap, eMt_ap, iEnumV_ap, iEnumF_ap, iZipV_ap, iZipF_ap, eTLen_ap, iRng3D_ap, sEnd_ap, eSs_ap, sPar3_ap, xPop_ap, xTup1_ap, xCat_ap, sSetX_ap, sAppX_ap, sParO_ap, sForEI_ap, sForK_ap, eRep_ap, eDicK_ap, eDicT_ap, sPut_ap, eAlt_ap, sTry_ap, eGetD_ap, eLockI_ap, iKeyF_ap, sSetDef_ap, eTupVals_ap, sNst_ap, frzNAt_ap, sAppN_ap, sStN_ap, eListRg2_ap, runB_ap, gOne_ap, gMany_ap, dI_ap, yesC_ap, dCmp_int, setD, kill_nx, kill_rt, kill_bk, Option.bind_some, Option.map_some, Option.bind_none, Option.map_none, List.getElem?_cons_zero, List.getElem?_cons_succ, List.set_cons_zero, List.set_cons_succ, List.cons_append, List.nil_append, List.append_nil, List.replicate, List.length_cons, List.length_nil, Nat.reduceAdd, Nat.reduceSub, Nat.zero_add, wdat_no, wdat_d, wdat_town, wdat_ol, wdat_od, wfrz_no, wfrz_d, wfrz_town, wfrz_ol, wfrz_od, wval_no, wval_d, wval_town, wval_ol, wval_od, warg_no, warg_d, warg_town, warg_ol, warg_od, vals, gLen, gAbs, gMax2, gMin2, gInt, gTup, gList, wipeW, if_true, if_false, Bool.false_eq_true, Bool.not_true, Bool.not_false, reduceCtorEq, dNeg, r6, r7, i2, dTru_bool, e2]
/-! tables, of any things -/
def rowB (k : Nat) : PyData → Bool
  | .tuple ys => ys.length == k && ys.all (isW (-1) 1)
  | _ => false
def tabB : PyData → Bool
  | .tuple xs => (decide (1 ≤ xs.length) && decide (xs.length ≤ 6)) && xs.all (rowB xs.length)
  | _ => false
def lenB (k : Nat) : PyData → Bool
  | .tuple ys => ys.length == k
  | _ => false
def entB : PyData → Bool
  | .tuple ys => ys.all (isW (-1) 1)
  | _ => false
theorem row_split (k : Nat) (r : PyData) : rowB k r = (lenB k r && entB r) := by
  cases r <;> rfl
theorem table_any {x : PyData} (h : shp x = true) (m : Nat) : m_is_table [.d x] m = some (.d (.bool (tabB x)), m) := by
  cases x with
  | tuple xs =>
    unfold m_is_table b_is_table
    have i1 : isa "tuple" (.tuple xs) = true := rfl
    by_cases c1 : 1 ≤ xs.length
    · have b1 : rLe 1 (xs.length : Int) = true := decide_eq_true (by omega)
      by_cases c2 : xs.length ≤ 6
      · have b2 : rLe (xs.length : Int) 6 = true := decide_eq_true (by omega)
        have hb : xs.length ≤ big := le_big (by omega)
        have c3 := comp_same (g := gOne 1) (own := [1]) (elt := eAnd (eIsa "tuple" (dVar 1)) (eBin dEq (dOf (eApp gLen (sCons (dVar 1) sNil))) (dOf (eApp gLen (sCons (dVar 0) sNil))))) (ρ := [.d (.tuple xs), .no, .no]) (n := m) (fun r => .bool (lenB xs.length r)) xs fun r hr => ⟨_, rfl, by
          have hs := shp_mem h r hr
          cases r with
          | tuple ys =>
            have i2 : isa "tuple" (.tuple ys) = true := rfl
            have l := len3 ys xs.length
            simp -implicitDefEqProofs only [eVar_ap, dVar_ap, eC_ap, dOf_ap, eFrz_ap, eBin_ap, bTest_ap, bTru_ap, bAnd_ap, bOr_ap, bNot_ap, eIf_ap, eB_ap, eAnd_ap, eOr_ap, aNil_ap, aCons_ap, sNil_ap, sCons_ap, eTup_ap, eLst_ap, eCall_ap, eApp_ap, oNone_ap, oSome_ap, eSl_ap, sNil'_ap, sSeq_ap, sBrk_ap, sRet_ap, sRetN_ap, sRetO_ap, sDrop_ap, sIf_ap, sSet_ap, sApp_ap, sTown_ap, sExt_ap, sIns_ap, sSetIx_ap, sAsg_ap, sPar_ap, iOf_ap, iVal_ap, iRng1_ap, iRng2_ap, sFor_ap, eComp_ap, bYes_ap, frzAt_ap, eUn_ap, eNotD_ap, eOrD_ap, eChain_ap, eListRg1_ap, eIsa_ap, eMt_ap, iEnumV_ap, iEnumF_ap, iZipV_ap, iZipF_ap, eTLen_ap, iRng3D_ap, sEnd_ap, eSs_ap, sPar3_ap, xPop_ap, xTup1_ap, xCat_ap, sSetX_ap, sAppX_ap, sParO_ap, sForEI_ap, sForK_ap, eRep_ap, eDicK_ap, eDicT_ap, sPut_ap, eAlt_ap, sTry_ap, eGetD_ap, eLockI_ap, iKeyF_ap, sSetDef_ap, eTupVals_ap, sNst_ap, frzNAt_ap, sAppN_ap, sStN_ap, eListRg2_ap, runB_ap, gOne_ap, gMany_ap, dI_ap, yesC_ap, dCmp_int, setD, kill_nx, kill_rt, kill_bk, Option.bind_some, Option.map_some, Option.bind_none, Option.map_none, List.getElem?_cons_zero, List.getElem?_cons_succ, List.set_cons_zero, List.set_cons_succ, List.cons_append, List.nil_append, List.append_nil, List.replicate, List.length_cons, List.length_nil, Nat.reduceAdd, Nat.reduceSub, Nat.zero_add, wdat_no, wdat_d, wdat_town, wdat_ol, wdat_od, wfrz_no, wfrz_d, wfrz_town, wfrz_ol, wfrz_od, wval_no, wval_d, wval_town, wval_ol, wval_od, warg_no, warg_d, warg_town, warg_ol, warg_od, vals, gLen, gAbs, gMax2, gMin2, gInt, gTup, gList, wipeW, if_true, if_false, Bool.false_eq_true, Bool.not_true, Bool.not_false, reduceCtorEq, i2, dTru_bool, l, lenB]
          | dict kvs => exact absurd rfl (noD hs kvs)
          | list ys =>
            have i2 : isa "tuple" (.list ys) = false := rfl
            simp -implicitDefEqProofs only [eVar_ap, dVar_ap, eC_ap, dOf_ap, eFrz_ap, eBin_ap, bTest_ap, bTru_ap, bAnd_ap, bOr_ap, bNot_ap, eIf_ap, eB_ap, eAnd_ap, eOr_ap, aNil_ap, aCons_ap, sNil_ap, sCons_ap, eTup_ap, eLst_ap, eCall_ap, eApp_ap, oNone_ap, oSome_ap, eSl_ap, sNil'_ap, sSeq_ap, sBrk_ap, sRet_ap, sRetN_ap, sRetO_ap, sDrop_ap, sIf_ap, sSet_ap, sApp_ap, sTown_ap, sExt_ap, sIns_ap, sSetIx_ap, sAsg_ap, sPar_ap, iOf_ap, iVal_ap, iRng1_ap, iRng2_ap, sFor_ap, eComp_ap, bYes_ap, frzAt_ap, eUn_ap, eNotD_ap, eOrD_ap, eChain_ap, eListRg1_ap, eIsa_ap, eMt_ap, iEnumV_ap, iEnumF_ap, iZipV_ap, iZipF_ap, eTLen_ap, iRng3D_ap, sEnd_ap, eSs_ap, sPar3_ap, xPop_ap, xTup1_ap, xCat_ap, sSetX_ap, sAppX_ap, sParO_ap, sForEI_ap, sForK_ap, eRep_ap, eDicK_ap, eDicT_ap, sPut_ap, eAlt_ap, sTry_ap, eGetD_ap, eLockI_ap, iKeyF_ap, sSetDef_ap, eTupVals_ap, sNst_ap, frzNAt_ap, sAppN_ap, sStN_ap, eListRg2_ap, runB_ap, gOne_ap, gMany_ap, dI_ap, yesC_ap, dCmp_int, setD, kill_nx, kill_rt, kill_bk, Option.bind_some, Option.map_some, Option.bind_none, Option.map_none, List.getElem?_cons_zero, List.getElem?_cons_succ, List.set_cons_zero, List.set_cons_succ, List.cons_append, List.nil_append, List.append_nil, List.replicate, List.length_cons, List.length_nil, Nat.reduceAdd, Nat.reduceSub, Nat.zero_add, wdat_no, wdat_d, wdat_town, wdat_ol, wdat_od, wfrz_no, wfrz_d, wfrz_town, wfrz_ol, wfrz_od, wval_no, wval_d, wval_town, wval_ol, wval_od, warg_no, warg_d, warg_town, warg_ol, warg_od, vals, gLen, gAbs, gMax2, gMin2, gInt, gTup, gList, wipeW, if_true, if_false, Bool.false_eq_true, Bool.not_true, Bool.not_false, reduceCtorEq, i2, dTru_bool, lenB]
          | _ => simp -implicitDefEqProofs only [eVar_ap, dVar_ap, eC_ap, dOf_ap, eFrz_ap, eBin_ap, bTest_ap, bTru_ap, bAnd_ap, bOr_ap, bNot_ap, eIf_ap, eB_ap, eAnd_ap, eOr_ap, aNil_ap, aCons_ap, sNil_ap, sCons_ap, eTup_ap, eLst_ap, eCall_ap, eApp_ap, oNone_ap, oSome_ap, eSl_ap, sNil'_ap, sSeq_ap, sBrk_ap, sRet_ap, sRetN_ap, sRetO_ap, sDrop_ap, sIf_ap, sSet_ap, sApp_ap, sTown_ap, sExt_ap, sIns_ap, sSetIx_ap, sAsg_ap, sPar_ap, iOf_ap, iVal_ap, iRng1_ap, iRng2_ap, sFor_ap, eComp_ap, bYes_ap, frzAt_ap, eUn_ap, eNotD_ap, eOrD_ap, eChain_ap, eListRg1_ap, eIsa_ap, eMt_ap, iEnumV_ap, iEnumF_ap, iZipV_ap, iZipF_ap, eTLen_ap, iRng3D_ap, sEnd_ap, eSs_ap, sPar3_ap, xPop_ap, xTup1_ap, xCat_ap, sSetX_ap, sAppX_ap, sParO_ap, sForEI_ap, sForK_ap, eRep_ap, eDicK_ap, eDicT_ap, sPut_ap, eAlt_ap, sTry_ap, eGetD_ap, eLockI_ap, iKeyF_ap, sSetDef_ap, eTupVals_ap, sNst_ap, frzNAt_ap, sAppN_ap, sStN_ap, eListRg2_ap, runB_ap, gOne_ap, gMany_ap, dI_ap, yesC_ap, dCmp_int, setD, kill_nx, kill_rt, kill_bk, Option.bind_some, Option.map_some, Option.bind_none, Option.map_none, List.getElem?_cons_zero, List.getElem?_cons_succ, List.set_cons_zero, List.set_cons_succ, List.cons_append, List.nil_append, List.append_nil, List.replicate, List.length_cons, List.length_nil, Nat.reduceAdd, Nat.reduceSub, Nat.zero_add, wdat_no, wdat_d, wdat_town, wdat_ol, wdat_od, wfrz_no, wfrz_d, wfrz_town, wfrz_ol, wfrz_od, wval_no, wval_d, wval_town, wval_ol, wval_od, warg_no, warg_d, warg_town, warg_ol, warg_od, vals, gLen, gAbs, gMax2, gMin2, gInt, gTup, gList, wipeW, if_true, if_false, Bool.false_eq_true, Bool.not_true, Bool.not_false, reduceCtorEq, isa_t_i, isa_t_b, isa_t_s, isa_t_n, dTru_bool, lenB]⟩
        have g3 := gAll_map (lenB xs.length) xs
        cases e3 : xs.all (lenB xs.length) with
        | false =>
          rw [e3] at g3
          have ef : xs.all (rowB xs.length) = false := by
            rw [List.all_eq_false] at e3 ⊢
            obtain ⟨r, hr, q⟩ := e3
            exact ⟨r, hr, by rw [row_split]; simp at q; simp [q]⟩
          simp -implicitDefEqProofs only [eVar_ap, dVar_ap, eC_ap, dOf_ap, eFrz_ap, eBin_ap, bTest_ap, bTru_ap, bAnd_ap, bOr_ap, bNot_ap, eIf_ap, eB_ap, eAnd_ap, eOr_ap, aNil_ap, aCons_ap, sNil_ap, sCons_ap, eTup_ap, eLst_ap, eCall_ap, eApp_ap, oNone_ap, oSome_ap, eSl_ap, sNil'_ap, sSeq_ap, sBrk_ap, sRet_ap, sRetN_ap, sRetO_ap, sDrop_ap, sIf_ap, sSet_ap, sApp_ap, sTown_ap, sExt_ap, sIns_ap, sSetIx_ap, sAsg_ap, sPar_ap, iOf_ap, iVal_ap, iRng1_ap, iRng2_ap, sFor_ap, eComp_ap, bYes_ap, frzAt_ap, eUn_ap, eNotD_ap, eOrD_ap, eChain_ap, eListRg1_ap, eIsa_ap, eMt_ap, iEnumV_ap, iEnumF_ap, iZipV_ap, iZipF_ap, eTLen_ap, iRng3D_ap, sEnd_ap, eSs_ap, sPar3_ap, xPop_ap, xTup1_ap, xCat_ap, sSetX_ap, sAppX_ap, sParO_ap, sForEI_ap, sForK_ap, eRep_ap, eDicK_ap, eDicT_ap, sPut_ap, eAlt_ap, sTry_ap, eGetD_ap, eLockI_ap, iKeyF_ap, sSetDef_ap, eTupVals_ap, sNst_ap, frzNAt_ap, sAppN_ap, sStN_ap, eListRg2_ap, runB_ap, gOne_ap, gMany_ap, dI_ap, yesC_ap, dCmp_int, setD, kill_nx, kill_rt, kill_bk, Option.bind_some, Option.map_some, Option.bind_none, Option.map_none, List.getElem?_cons_zero, List.getElem?_cons_succ, List.set_cons_zero, List.set_cons_succ, List.cons_append, List.nil_append, List.append_nil, List.replicate, List.length_cons, List.length_nil, Nat.reduceAdd, Nat.reduceSub, Nat.zero_add, wdat_no, wdat_d, wdat_town, wdat_ol, wdat_od, wfrz_no, wfrz_d, wfrz_town, wfrz_ol, wfrz_od, wval_no, wval_d, wval_town, wval_ol, wval_od, warg_no, warg_d, warg_town, warg_ol, warg_od, vals, gLen, gAbs, gMax2, gMin2, gInt, gTup, gList, wipeW, if_true, if_false, Bool.false_eq_true, Bool.not_true, Bool.not_false, reduceCtorEq, i1, dTru_bool, b1, b2, iSeq, hb, c3, g3, tabB, c1, c2, decide_true, Bool.and_self, ef, Bool.true_and]
        | true =>
          rw [e3] at g3
          have tup : ∀ r ∈ xs, ∃ ys, r = .tuple ys := fun r hr => by
            have := List.all_eq_true.mp e3 r hr
            cases r with
            | tuple ys => exact ⟨ys, rfl⟩
            | _ => cases this
          have c4 := comp_same (g := gOne 1) (own := [1]) (elt := eApp gAll (sCons (dOf (eComp (iOf (dVar 1)) (gOne 2) [2] bYes (eCall m_is_whole (aCons (eVar 2) (aCons (eUn dNeg (dOf (eC (.int 1)))) (aCons (eC (.int 1)) aNil)))))) sNil)) (ρ := [.d (.tuple xs), .no, .no]) (n := m) (fun r => .bool (entB r)) xs fun r hr => ⟨_, rfl, by
            obtain ⟨ys, rfl⟩ := tup r hr
            have hs := shp_mem h _ hr
            have lb : (ys.length == xs.length) = true := List.all_eq_true.mp e3 _ hr
            have lb : ys.length = xs.length := by simpa using lb
            have hby : ys.length ≤ big := by rw [lb]; exact hb
            have c5 := comp_same (g := gOne 2) (own := [2]) (elt := eCall m_is_whole (aCons (eVar 2) (aCons (eUn dNeg (dOf (eC (.int 1)))) (aCons (eC (.int 1)) aNil)))) (ρ := [.d (.tuple xs), .d (.tuple ys), .no]) (n := m) (fun y => .bool (isW (-1) 1 y)) ys fun y hy => ⟨_, rfl, by
              have w := whole_any (shp_mem hs y hy) (-1) 1 m
              simp -implicitDefEqProofs only [eVar_ap, dVar_ap, eC_ap, dOf_ap, eFrz_ap, eBin_ap, bTest_ap, bTru_ap, bAnd_ap, bOr_ap, bNot_ap, eIf_ap, eB_ap, eAnd_ap, eOr_ap, aNil_ap, aCons_ap, sNil_ap, sCons_ap, eTup_ap, eLst_ap, eCall_ap, eApp_ap, oNone_ap, oSome_ap, eSl_ap, sNil'_ap, sSeq_ap, sBrk_ap, sRet_ap, sRetN_ap, sRetO_ap, sDrop_ap, sIf_ap, sSet_ap, sApp_ap, sTown_ap, sExt_ap, sIns_ap, sSetIx_ap, sAsg_ap, sPar_ap, iOf_ap, iVal_ap, iRng1_ap, iRng2_ap, sFor_ap, eComp_ap, bYes_ap, frzAt_ap, eUn_ap, eNotD_ap, eOrD_ap, eChain_ap, eListRg1_ap, eIsa_ap, eMt_ap, iEnumV_ap, iEnumF_ap, iZipV_ap, iZipF_ap, eTLen_ap, iRng3D_ap, sEnd_ap, eSs_ap, sPar3_ap, xPop_ap, xTup1_ap, xCat_ap, sSetX_ap, sAppX_ap, sParO_ap, sForEI_ap, sForK_ap, eRep_ap, eDicK_ap, eDicT_ap, sPut_ap, eAlt_ap, sTry_ap, eGetD_ap, eLockI_ap, iKeyF_ap, sSetDef_ap, eTupVals_ap, sNst_ap, frzNAt_ap, sAppN_ap, sStN_ap, eListRg2_ap, runB_ap, gOne_ap, gMany_ap, dI_ap, yesC_ap, dCmp_int, setD, kill_nx, kill_rt, kill_bk, Option.bind_some, Option.map_some, Option.bind_none, Option.map_none, List.getElem?_cons_zero, List.getElem?_cons_succ, List.set_cons_zero, List.set_cons_succ, List.cons_append, List.nil_append, List.append_nil, List.replicate, List.length_cons, List.length_nil, Nat.reduceAdd, Nat.reduceSub, Nat.zero_add, wdat_no, wdat_d, wdat_town, wdat_ol, wdat_od, wfrz_no, wfrz_d, wfrz_town, wfrz_ol, wfrz_od, wval_no, wval_d, wval_town, wval_ol, wval_od, warg_no, warg_d, warg_town, warg_ol, warg_od, vals, gLen, gAbs, gMax2, gMin2, gInt, gTup, gList, wipeW, if_true, if_false, Bool.false_eq_true, Bool.not_true, Bool.not_false, reduceCtorEq, dNeg, w]⟩
            have g5 := gAll_map (isW (-1) 1) ys
            simp -implicitDefEqProofs only [eVar_ap, dVar_ap, eC_ap, dOf_ap, eFrz_ap, eBin_ap, bTest_ap, bTru_ap, bAnd_ap, bOr_ap, bNot_ap, eIf_ap, eB_ap, eAnd_ap, eOr_ap, aNil_ap, aCons_ap, sNil_ap, sCons_ap, eTup_ap, eLst_ap, eCall_ap, eApp_ap, oNone_ap, oSome_ap, eSl_ap, sNil'_ap, sSeq_ap, sBrk_ap, sRet_ap, sRetN_ap, sRetO_ap, sDrop_ap, sIf_ap, sSet_ap, sApp_ap, sTown_ap, sExt_ap, sIns_ap, sSetIx_ap, sAsg_ap, sPar_ap, iOf_ap, iVal_ap, iRng1_ap, iRng2_ap, sFor_ap, eComp_ap, bYes_ap, frzAt_ap, eUn_ap, eNotD_ap, eOrD_ap, eChain_ap, eListRg1_ap, eIsa_ap, eMt_ap, iEnumV_ap, iEnumF_ap, iZipV_ap, iZipF_ap, eTLen_ap, iRng3D_ap, sEnd_ap, eSs_ap, sPar3_ap, xPop_ap, xTup1_ap, xCat_ap, sSetX_ap, sAppX_ap, sParO_ap, sForEI_ap, sForK_ap, eRep_ap, eDicK_ap, eDicT_ap, sPut_ap, eAlt_ap, sTry_ap, eGetD_ap, eLockI_ap, iKeyF_ap, sSetDef_ap, eTupVals_ap, sNst_ap, frzNAt_ap, sAppN_ap, sStN_ap, eListRg2_ap, runB_ap, gOne_ap, gMany_ap, dI_ap, yesC_ap, dCmp_int, setD, kill_nx, kill_rt, kill_bk, Option.bind_some, Option.map_some, Option.bind_none, Option.map_none, List.getElem?_cons_zero, List.getElem?_cons_succ, List.set_cons_zero, List.set_cons_succ, List.cons_append, List.nil_append, List.append_nil, List.replicate, List.length_cons, List.length_nil, Nat.reduceAdd, Nat.reduceSub, Nat.zero_add, wdat_no, wdat_d, wdat_town, wdat_ol, wdat_od, wfrz_no, wfrz_d, wfrz_town, wfrz_ol, wfrz_od, wval_no, wval_d, wval_town, wval_ol, wval_od, warg_no, warg_d, warg_town, warg_ol, warg_od, vals, gLen, gAbs, gMax2, gMin2, gInt, gTup, gList, wipeW, if_true, if_false, Bool.false_eq_true, Bool.not_true, Bool.not_false, reduceCtorEq, iSeq, hby, c5, g5, entB]⟩
          have g4 := gAll_map entB xs
          have ef : xs.all (rowB xs.length) = xs.all entB := by
            rw [Bool.eq_iff_iff, List.all_eq_true, List.all_eq_true]
            constructor
            · intro q r hr
              have := q r hr
              rw [row_split, Bool.and_eq_true] at this
              exact this.2
            · intro q r hr
              rw [row_split, List.all_eq_true.mp e3 r hr, q r hr]; rfl
          simp -implicitDefEqProofs only [eVar_ap, dVar_ap, eC_ap, dOf_ap, eFrz_ap, eBin_ap, bTest_ap, bTru_ap, bAnd_ap, bOr_ap, bNot_ap, eIf_ap, eB_ap, eAnd_ap, eOr_ap, aNil_ap, aCons_ap, sNil_ap, sCons_ap, eTup_ap, eLst_ap, eCall_ap, eApp_ap, oNone_ap, oSome_ap, eSl_ap, sNil'_ap, sSeq_ap, sBrk_ap, sRet_ap, sRetN_ap, sRetO_ap, sDrop_ap, sIf_ap, sSet_ap, sApp_ap, sTown_ap, sExt_ap, sIns_ap, sSetIx_ap, sAsg_ap, sPar_ap, iOf_ap, iVal_ap, iRng1_ap, iRng2_ap, sFor_ap, eComp_ap, bYes_ap, frzAt_ap, eUn_ap, eNotD_ap, eOrD_ap, eChain_ap, eListRg1_ap, eIsa_ap, eMt_ap, iEnumV_ap, iEnumF_ap, iZipV_ap, iZipF_ap, eTLen_ap, iRng3D_ap, sEnd_ap, eSs_ap, sPar3_ap, xPop_ap, xTup1_ap, xCat_ap, sSetX_ap, sAppX_ap, sParO_ap, sForEI_ap, sForK_ap, eRep_ap, eDicK_ap, eDicT_ap, sPut_ap, eAlt_ap, sTry_ap, eGetD_ap, eLockI_ap, iKeyF_ap, sSetDef_ap, eTupVals_ap, sNst_ap, frzNAt_ap, sAppN_ap, sStN_ap, eListRg2_ap, runB_ap, gOne_ap, gMany_ap, dI_ap, yesC_ap, dCmp_int, setD, kill_nx, kill_rt, kill_bk, Option.bind_some, Option.map_some, Option.bind_none, Option.map_none, List.getElem?_cons_zero, List.getElem?_cons_succ, List.set_cons_zero, List.set_cons_succ, List.cons_append, List.nil_append, List.append_nil, List.replicate, List.length_cons, List.length_nil, Nat.reduceAdd, Nat.reduceSub, Nat.zero_add, wdat_no, wdat_d, wdat_town, wdat_ol, wdat_od, wfrz_no, wfrz_d, wfrz_town, wfrz_ol, wfrz_od, wval_no, wval_d, wval_town, wval_ol, wval_od, warg_no, warg_d, warg_town, warg_ol, warg_od, vals, gLen, gAbs, gMax2, gMin2, gInt, gTup, gList, wipeW, if_true, if_false, Bool.false_eq_true, Bool.not_true, Bool.not_false, reduceCtorEq, i1, dTru_bool, b1, b2, iSeq, hb, c3, g3, c4, g4, tabB, c1, c2, decide_true, Bool.and_self, ef, Bool.true_and]
      · have b2 : rLe (xs.length : Int) 6 = false := decide_eq_false (by omega)
        simp -implicitDefEqProofs only [eVar_ap, dVar_ap, eC_ap, dOf_ap, eFrz_ap, eBin_ap, bTest_ap, bTru_ap, bAnd_ap, bOr_ap, bNot_ap, eIf_ap, eB_ap, eAnd_ap, eOr_ap, aNil_ap, aCons_ap, sNil_ap, sCons_ap, eTup_ap, eLst_ap, eCall_ap, eApp_ap, oNone_ap, oSome_ap, eSl_ap, sNil'_ap, sSeq_ap, sBrk_ap, sRet_ap, sRetN_ap, sRetO_ap, sDrop_ap, sIf_ap, sSet_ap, sApp_ap, sTown_ap, sExt_ap, sIns_ap, sSetIx_ap, sAsg_ap, sPar_ap, iOf_ap, iVal_ap, iRng1_ap, iRng2_ap, sFor_ap, eComp_ap, bYes_ap, frzAt_ap, eUn_ap, eNotD_ap, eOrD_ap, eChain_ap, eListRg1_ap, eIsa_ap, eMt_ap, iEnumV_ap, iEnumF_ap, iZipV_ap, iZipF_ap, eTLen_ap, iRng3D_ap, sEnd_ap, eSs_ap, sPar3_ap, xPop_ap, xTup1_ap, xCat_ap, sSetX_ap, sAppX_ap, sParO_ap, sForEI_ap, sForK_ap, eRep_ap, eDicK_ap, eDicT_ap, sPut_ap, eAlt_ap, sTry_ap, eGetD_ap, eLockI_ap, iKeyF_ap, sSetDef_ap, eTupVals_ap, sNst_ap, frzNAt_ap, sAppN_ap, sStN_ap, eListRg2_ap, runB_ap, gOne_ap, gMany_ap, dI_ap, yesC_ap, dCmp_int, setD, kill_nx, kill_rt, kill_bk, Option.bind_some, Option.map_some, Option.bind_none, Option.map_none, List.getElem?_cons_zero, List.getElem?_cons_succ, List.set_cons_zero, List.set_cons_succ, List.cons_append, List.nil_append, List.append_nil, List.replicate, List.length_cons, List.length_nil, Nat.reduceAdd, Nat.reduceSub, Nat.zero_add, wdat_no, wdat_d, wdat_town, wdat_ol, wdat_od, wfrz_no, wfrz_d, wfrz_town, wfrz_ol, wfrz_od, wval_no, wval_d, wval_town, wval_ol, wval_od, warg_no, warg_d, warg_town, warg_ol, warg_od, vals, gLen, gAbs, gMax2, gMin2, gInt, gTup, gList, wipeW, if_true, if_false, Bool.false_eq_true, Bool.not_true, Bool.not_false, reduceCtorEq, i1, dTru_bool, b1, b2, tabB, c1, c2, decide_true, decide_false, Bool.true_and, Bool.false_and]
    · have b1 : rLe 1 (xs.length : Int) = false := decide_eq_false (by omega)
      simp -implicitDefEqProofs only [eVar_ap, dVar_ap, eC_ap, dOf_ap, eFrz_ap, eBin_ap, bTest_ap, bTru_ap, bAnd_ap, bOr_ap, bNot_ap, eIf_ap, eB_ap, eAnd_ap, eOr_ap, aNil_ap, aCons_ap, sNil_ap, sCons_ap, eTup_ap, eLst_ap, eCall_ap, eApp_ap, oNone_ap, oSome_ap, eSl_ap, sNil'_ap, sSeq_ap, sBrk_ap, sRet_ap, sRetN_ap, sRetO_ap, sDrop_ap, sIf_ap, sSet_ap, sApp_ap, sTown_ap, sExt_ap, sIns_ap, sSetIx_ap, sAsg_ap, sPar_ap, iOf_ap, iVal_ap, iRng1_ap, iRng2_ap, sFor_ap, eComp_ap, bYes_ap, frzAt_ap, eUn_ap, eNotD_ap, eOrD_ap, eChain_ap, eListRg1_ap, eIsa_ap, eMt_ap, iEnumV_ap, iEnumF_ap, iZipV_ap, iZipF_ap, eTLen_ap, iRng3D_ap, sEnd_ap, eSs_ap, sPar3_ap, xPop_ap, xTup1_ap, xCat_ap, sSetX_ap, sAppX_ap, sParO_ap, sForEI_ap, sForK_ap, eRep_ap, eDicK_ap, eDicT_ap, sPut_ap, eAlt_ap, sTry_ap, eGetD_ap, eLockI_ap, iKeyF_ap, sSetDef_ap, eTupVals_ap, sNst_ap, frzNAt_ap, sAppN_ap, sStN_ap, eListRg2_ap, runB_ap, gOne_ap, gMany_ap, dI_ap, yesC_ap, dCmp_int, setD, kill_nx, kill_rt, kill_bk, Option.bind_some, Option.map_some, Option.bind_none, Option.map_none, List.getElem?_cons_zero, List.getElem?_cons_succ, List.set_cons_zero, List.set_cons_succ, List.cons_append, List.nil_append, List.append_nil, List.replicate, List.length_cons, List.length_nil, Nat.reduceAdd, Nat.reduceSub, Nat.zero_add, wdat_no, wdat_d, wdat_town, wdat_ol, wdat_od, wfrz_no, wfrz_d, wfrz_town, wfrz_ol, wfrz_od, wval_no, wval_d, wval_town, wval_ol, wval_od, warg_no, warg_d, warg_town, warg_ol, warg_od, vals, gLen, gAbs, gMax2, gMin2, gInt, gTup, gList, wipeW, if_true, if_false, Bool.false_eq_true, Bool.not_true, Bool.not_false, reduceCtorEq, i1, dTru_bool, b1, tabB, c1, decide_false, Bool.false_and]
  | none => rfl
  | bool b => rfl
  | str s => rfl
  | list xs => rfl
  | int i => rfl
  | dict kvs => exact absurd rfl (noD h kvs)
theorem ent_in (i : Int) : decide (i ∈ [(-1 : Int), 0, 1]) = isW (-1) 1 (.int i) := by
  unfold isW
  rw [Bool.eq_iff_iff]
  simp
  omega
theorem ltable_any {x : PyData} (h : shp x = true) (m : Nat) : m__law_is_table [.d x] m = some (.d (.bool (tabB x)), m) := by
  cases x with
  | tuple xs =>
    unfold m__law_is_table b__law_is_table
    have i1 : isa "tuple" (.tuple xs) = true := rfl
    by_cases c1 : 1 ≤ xs.length
    · have b1 : rLe 1 (xs.length : Int) = true := decide_eq_true (by omega)
      by_cases c2 : xs.length ≤ 6
      · have b2 : rLe (xs.length : Int) 6 = true := decide_eq_true (by omega)
        have e1 := loopF_find (g := gOne 1) (body := l__law_is_table_1) (ρ := [.d (.tuple xs), .no, .no]) (n := m) (fun r : PyData => r) (fun r => if rowB xs.length r then none else some (.d (.bool false))) xs fun r hr => ⟨_, rfl, by
          have hs := shp_mem h r hr
          unfold l__law_is_table_1
          cases r with
          | tuple ys =>
            have i2 : isa "tuple" (.tuple ys) = true := rfl
            have l := dNe_int (ys.length : Int) (xs.length : Int)
            by_cases c3 : ys.length = xs.length
            · have e0 : (!((ys.length : Int) == (xs.length : Int))) = false := by rw [c3]; simp
              rw [e0] at l
              have e2 := loopF_find (g := gOne 2) (body := l__law_is_table_2) (ρ := [.d (.tuple xs), .no, .no]) (n := m) (fun y : PyData => y) (fun y => if isW (-1) 1 y then none else some (.d (.bool false))) ys fun y hy => ⟨_, rfl, by
                have hy' := shp_mem hs y hy
                unfold l__law_is_table_2
                cases y with
                | int i =>
                  have d := dNotIn_ints i [-1, 0, 1]
                  rw [ent_in] at d
                  have d : dNotIn (.int i) (.tuple [.int (-1), .int 0, .int 1]) = some (.d (.bool (!isW (-1) 1 (.int i)))) := d
                  cases q : isW (-1) 1 (.int i) with
                  | true => rw [q] at d; simp -implicitDefEqProofs only [eVar_ap, dVar_ap, eC_ap, dOf_ap, eFrz_ap, eBin_ap, bTest_ap, bTru_ap, bAnd_ap, bOr_ap, bNot_ap, eIf_ap, eB_ap, eAnd_ap, eOr_ap, aNil_ap, aCons_ap, sNil_ap, sCons_ap, eTup_ap, eLst_ap, eCall_ap, eApp_ap, oNone_ap, oSome_ap, eSl_ap, sNil'_ap, sSeq_ap, sBrk_ap, sRet_ap, sRetN_ap, sRetO_ap, sDrop_ap, sIf_ap, sSet_ap, sApp_ap, sTown_ap, sExt_ap, sIns_ap, sSetIx_ap, sAsg_ap, sPar_ap, iOf_ap, iVal_ap, iRng1_ap, iRng2_ap, sFor_ap, eComp_ap, bYes_ap, frzAt_ap, eUn_ap, eNotD_ap, eOrD_ap, eChain_ap, eListRg1_ap, eIsa_ap, eMt_ap, iEnumV_ap, iEnumF_ap, iZipV_ap, iZipF_ap, eTLen_ap, iRng3D_ap, sEnd_ap, eSs_ap, sPar3_ap, xPop_ap, xTup1_ap, xCat_ap, sSetX_ap, sAppX_ap, sParO_ap, sForEI_ap, sForK_ap, eRep_ap, eDicK_ap, eDicT_ap, sPut_ap, eAlt_ap, sTry_ap, eGetD_ap, eLockI_ap, iKeyF_ap, sSetDef_ap, eTupVals_ap, sNst_ap, frzNAt_ap, sAppN_ap, sStN_ap, eListRg2_ap, runB_ap, gOne_ap, gMany_ap, dI_ap, yesC_ap, dCmp_int, setD, kill_nx, kill_rt, kill_bk, Option.bind_some, Option.map_some, Option.bind_none, Option.map_none, List.getElem?_cons_zero, List.getElem?_cons_succ, List.set_cons_zero, List.set_cons_succ, List.cons_append, List.nil_append, List.append_nil, List.replicate, List.length_cons, List.length_nil, Nat.reduceAdd, Nat.reduceSub, Nat.zero_add, wdat_no, wdat_d, wdat_town, wdat_ol, wdat_od, wfrz_no, wfrz_d, wfrz_town, wfrz_ol, wfrz_od, wval_no, wval_d, wval_town, wval_ol, wval_od, warg_no, warg_d, warg_town, warg_ol, warg_od, vals, gLen, gAbs, gMax2, gMin2, gInt, gTup, gList, wipeW, if_true, if_false, Bool.false_eq_true, Bool.not_true, Bool.not_false, reduceCtorEq, isa_i_i, isa_b_i, dTru_bool, dNeg, d, Bool.not_true] <;> rfl
                  | false => rw [q] at d; simp -implicitDefEqProofs only [eVar_ap, dVar_ap, eC_ap, dOf_ap, eFrz_ap, eBin_ap, bTest_ap, bTru_ap, bAnd_ap, bOr_ap, bNot_ap, eIf_ap, eB_ap, eAnd_ap, eOr_ap, aNil_ap, aCons_ap, sNil_ap, sCons_ap, eTup_ap, eLst_ap, eCall_ap, eApp_ap, oNone_ap, oSome_ap, eSl_ap, sNil'_ap, sSeq_ap, sBrk_ap, sRet_ap, sRetN_ap, sRetO_ap, sDrop_ap, sIf_ap, sSet_ap, sApp_ap, sTown_ap, sExt_ap, sIns_ap, sSetIx_ap, sAsg_ap, sPar_ap, iOf_ap, iVal_ap, iRng1_ap, iRng2_ap, sFor_ap, eComp_ap, bYes_ap, frzAt_ap, eUn_ap, eNotD_ap, eOrD_ap, eChain_ap, eListRg1_ap, eIsa_ap, eMt_ap, iEnumV_ap, iEnumF_ap, iZipV_ap, iZipF_ap, eTLen_ap, iRng3D_ap, sEnd_ap, eSs_ap, sPar3_ap, xPop_ap, xTup1_ap, xCat_ap, sSetX_ap, sAppX_ap, sParO_ap, sForEI_ap, sForK_ap, eRep_ap, eDicK_ap, eDicT_ap, sPut_ap, eAlt_ap, sTry_ap, eGetD_ap, eLockI_ap, iKeyF_ap, sSetDef_ap, eTupVals_ap, sNst_ap, frzNAt_ap, sAppN_ap, sStN_ap, eListRg2_ap, runB_ap, gOne_ap, gMany_ap, dI_ap, yesC_ap, dCmp_int, setD, kill_nx, kill_rt, kill_bk, Option.bind_some, Option.map_some, Option.bind_none, Option.map_none, List.getElem?_cons_zero, List.getElem?_cons_succ, List.set_cons_zero, List.set_cons_succ, List.cons_append, List.nil_append, List.append_nil, List.replicate, List.length_cons, List.length_nil, Nat.reduceAdd, Nat.reduceSub, Nat.zero_add, wdat_no, wdat_d, wdat_town, wdat_ol, wdat_od, wfrz_no, wfrz_d, wfrz_town, wfrz_ol, wfrz_od, wval_no, wval_d, wval_town, wval_ol, wval_od, warg_no, warg_d, warg_town, warg_ol, warg_od, vals, gLen, gAbs, gMax2, gMin2, gInt, gTup, gList, wipeW, if_true, if_false, Bool.false_eq_true, Bool.not_true, Bool.not_false, reduceCtorEq, isa_i_i, isa_b_i, dTru_bool, dNeg, d, Bool.not_false] <;> rfl
                | dict kvs => exact absurd rfl (noD hy' kvs)
                | bool b => simp -implicitDefEqProofs only [eVar_ap, dVar_ap, eC_ap, dOf_ap, eFrz_ap, eBin_ap, bTest_ap, bTru_ap, bAnd_ap, bOr_ap, bNot_ap, eIf_ap, eB_ap, eAnd_ap, eOr_ap, aNil_ap, aCons_ap, sNil_ap, sCons_ap, eTup_ap, eLst_ap, eCall_ap, eApp_ap, oNone_ap, oSome_ap, eSl_ap, sNil'_ap, sSeq_ap, sBrk_ap, sRet_ap, sRetN_ap, sRetO_ap, sDrop_ap, sIf_ap, sSet_ap, sApp_ap, sTown_ap, sExt_ap, sIns_ap, sSetIx_ap, sAsg_ap, sPar_ap, iOf_ap, iVal_ap, iRng1_ap, iRng2_ap, sFor_ap, eComp_ap, bYes_ap, frzAt_ap, eUn_ap, eNotD_ap, eOrD_ap, eChain_ap, eListRg1_ap, eIsa_ap, eMt_ap, iEnumV_ap, iEnumF_ap, iZipV_ap, iZipF_ap, eTLen_ap, iRng3D_ap, sEnd_ap, eSs_ap, sPar3_ap, xPop_ap, xTup1_ap, xCat_ap, sSetX_ap, sAppX_ap, sParO_ap, sForEI_ap, sForK_ap, eRep_ap, eDicK_ap, eDicT_ap, sPut_ap, eAlt_ap, sTry_ap, eGetD_ap, eLockI_ap, iKeyF_ap, sSetDef_ap, eTupVals_ap, sNst_ap, frzNAt_ap, sAppN_ap, sStN_ap, eListRg2_ap, runB_ap, gOne_ap, gMany_ap, dI_ap, yesC_ap, dCmp_int, setD, kill_nx, kill_rt, kill_bk, Option.bind_some, Option.map_some, Option.bind_none, Option.map_none, List.getElem?_cons_zero, List.getElem?_cons_succ, List.set_cons_zero, List.set_cons_succ, List.cons_append, List.nil_append, List.append_nil, List.replicate, List.length_cons, List.length_nil, Nat.reduceAdd, Nat.reduceSub, Nat.zero_add, wdat_no, wdat_d, wdat_town, wdat_ol, wdat_od, wfrz_no, wfrz_d, wfrz_town, wfrz_ol, wfrz_od, wval_no, wval_d, wval_town, wval_ol, wval_od, warg_no, warg_d, warg_town, warg_ol, warg_od, vals, gLen, gAbs, gMax2, gMin2, gInt, gTup, gList, wipeW, if_true, if_false, Bool.false_eq_true, Bool.not_true, Bool.not_false, reduceCtorEq, isa_i_b, isa_b_b, dTru_bool] <;> rfl
                | list zs =>
                  have i3 : isa "int" (.list zs) = false := rfl
                  simp -implicitDefEqProofs only [eVar_ap, dVar_ap, eC_ap, dOf_ap, eFrz_ap, eBin_ap, bTest_ap, bTru_ap, bAnd_ap, bOr_ap, bNot_ap, eIf_ap, eB_ap, eAnd_ap, eOr_ap, aNil_ap, aCons_ap, sNil_ap, sCons_ap, eTup_ap, eLst_ap, eCall_ap, eApp_ap, oNone_ap, oSome_ap, eSl_ap, sNil'_ap, sSeq_ap, sBrk_ap, sRet_ap, sRetN_ap, sRetO_ap, sDrop_ap, sIf_ap, sSet_ap, sApp_ap, sTown_ap, sExt_ap, sIns_ap, sSetIx_ap, sAsg_ap, sPar_ap, iOf_ap, iVal_ap, iRng1_ap, iRng2_ap, sFor_ap, eComp_ap, bYes_ap, frzAt_ap, eUn_ap, eNotD_ap, eOrD_ap, eChain_ap, eListRg1_ap, eIsa_ap, eMt_ap, iEnumV_ap, iEnumF_ap, iZipV_ap, iZipF_ap, eTLen_ap, iRng3D_ap, sEnd_ap, eSs_ap, sPar3_ap, xPop_ap, xTup1_ap, xCat_ap, sSetX_ap, sAppX_ap, sParO_ap, sForEI_ap, sForK_ap, eRep_ap, eDicK_ap, eDicT_ap, sPut_ap, eAlt_ap, sTry_ap, eGetD_ap, eLockI_ap, iKeyF_ap, sSetDef_ap, eTupVals_ap, sNst_ap, frzNAt_ap, sAppN_ap, sStN_ap, eListRg2_ap, runB_ap, gOne_ap, gMany_ap, dI_ap, yesC_ap, dCmp_int, setD, kill_nx, kill_rt, kill_bk, Option.bind_some, Option.map_some, Option.bind_none, Option.map_none, List.getElem?_cons_zero, List.getElem?_cons_succ, List.set_cons_zero, List.set_cons_succ, List.cons_append, List.nil_append, List.append_nil, List.replicate, List.length_cons, List.length_nil, Nat.reduceAdd, Nat.reduceSub, Nat.zero_add, wdat_no, wdat_d, wdat_town, wdat_ol, wdat_od, wfrz_no, wfrz_d, wfrz_town, wfrz_ol, wfrz_od, wval_no, wval_d, wval_town, wval_ol, wval_od, warg_no, warg_d, warg_town, warg_ol, warg_od, vals, gLen, gAbs, gMax2, gMin2, gInt, gTup, gList, wipeW, if_true, if_false, Bool.false_eq_true, Bool.not_true, Bool.not_false, reduceCtorEq, i3, dTru_bool] <;> rfl
                | tuple zs =>
                  have i3 : isa "int" (.tuple zs) = false := rfl
                  simp -implicitDefEqProofs only [eVar_ap, dVar_ap, eC_ap, dOf_ap, eFrz_ap, eBin_ap, bTest_ap, bTru_ap, bAnd_ap, bOr_ap, bNot_ap, eIf_ap, eB_ap, eAnd_ap, eOr_ap, aNil_ap, aCons_ap, sNil_ap, sCons_ap, eTup_ap, eLst_ap, eCall_ap, eApp_ap, oNone_ap, oSome_ap, eSl_ap, sNil'_ap, sSeq_ap, sBrk_ap, sRet_ap, sRetN_ap, sRetO_ap, sDrop_ap, sIf_ap, sSet_ap, sApp_ap, sTown_ap, sExt_ap, sIns_ap, sSetIx_ap, sAsg_ap, sPar_ap, iOf_ap, iVal_ap, iRng1_ap, iRng2_ap, sFor_ap, eComp_ap, bYes_ap, frzAt_ap, eUn_ap, eNotD_ap, eOrD_ap, eChain_ap, eListRg1_ap, eIsa_ap, eMt_ap, iEnumV_ap, iEnumF_ap, iZipV_ap, iZipF_ap, eTLen_ap, iRng3D_ap, sEnd_ap, eSs_ap, sPar3_ap, xPop_ap, xTup1_ap, xCat_ap, sSetX_ap, sAppX_ap, sParO_ap, sForEI_ap, sForK_ap, eRep_ap, eDicK_ap, eDicT_ap, sPut_ap, eAlt_ap, sTry_ap, eGetD_ap, eLockI_ap, iKeyF_ap, sSetDef_ap, eTupVals_ap, sNst_ap, frzNAt_ap, sAppN_ap, sStN_ap, eListRg2_ap, runB_ap, gOne_ap, gMany_ap, dI_ap, yesC_ap, dCmp_int, setD, kill_nx, kill_rt, kill_bk, Option.bind_some, Option.map_some, Option.bind_none, Option.map_none, List.getElem?_cons_zero, List.getElem?_cons_succ, List.set_cons_zero, List.set_cons_succ, List.cons_append, List.nil_append, List.append_nil, List.replicate, List.length_cons, List.length_nil, Nat.reduceAdd, Nat.reduceSub, Nat.zero_add, wdat_no, wdat_d, wdat_town, wdat_ol, wdat_od, wfrz_no, wfrz_d, wfrz_town, wfrz_ol, wfrz_od, wval_no, wval_d, wval_town, wval_ol, wval_od, warg_no, warg_d, warg_town, warg_ol, warg_od, vals, gLen, gAbs, gMax2, gMin2, gInt, gTup, gList, wipeW, if_true, if_false, Bool.false_eq_true, Bool.not_true, Bool.not_false, reduceCtorEq, i3, dTru_bool] <;> rfl
                | none => simp -implicitDefEqProofs only [eVar_ap, dVar_ap, eC_ap, dOf_ap, eFrz_ap, eBin_ap, bTest_ap, bTru_ap, bAnd_ap, bOr_ap, bNot_ap, eIf_ap, eB_ap, eAnd_ap, eOr_ap, aNil_ap, aCons_ap, sNil_ap, sCons_ap, eTup_ap, eLst_ap, eCall_ap, eApp_ap, oNone_ap, oSome_ap, eSl_ap, sNil'_ap, sSeq_ap, sBrk_ap, sRet_ap, sRetN_ap, sRetO_ap, sDrop_ap, sIf_ap, sSet_ap, sApp_ap, sTown_ap, sExt_ap, sIns_ap, sSetIx_ap, sAsg_ap, sPar_ap, iOf_ap, iVal_ap, iRng1_ap, iRng2_ap, sFor_ap, eComp_ap, bYes_ap, frzAt_ap, eUn_ap, eNotD_ap, eOrD_ap, eChain_ap, eListRg1_ap, eIsa_ap, eMt_ap, iEnumV_ap, iEnumF_ap, iZipV_ap, iZipF_ap, eTLen_ap, iRng3D_ap, sEnd_ap, eSs_ap, sPar3_ap, xPop_ap, xTup1_ap, xCat_ap, sSetX_ap, sAppX_ap, sParO_ap, sForEI_ap, sForK_ap, eRep_ap, eDicK_ap, eDicT_ap, sPut_ap, eAlt_ap, sTry_ap, eGetD_ap, eLockI_ap, iKeyF_ap, sSetDef_ap, eTupVals_ap, sNst_ap, frzNAt_ap, sAppN_ap, sStN_ap, eListRg2_ap, runB_ap, gOne_ap, gMany_ap, dI_ap, yesC_ap, dCmp_int, setD, kill_nx, kill_rt, kill_bk, Option.bind_some, Option.map_some, Option.bind_none, Option.map_none, List.getElem?_cons_zero, List.getElem?_cons_succ, List.set_cons_zero, List.set_cons_succ, List.cons_append, List.nil_append, List.append_nil, List.replicate, List.length_cons, List.length_nil, Nat.reduceAdd, Nat.reduceSub, Nat.zero_add, wdat_no, wdat_d, wdat_town, wdat_ol, wdat_od, wfrz_no, wfrz_d, wfrz_town, wfrz_ol, wfrz_od, wval_no, wval_d, wval_town, wval_ol, wval_od, warg_no, warg_d, warg_town, warg_ol, warg_od, vals, gLen, gAbs, gMax2, gMin2, gInt, gTup, gList, wipeW, if_true, if_false, Bool.false_eq_true, Bool.not_true, Bool.not_false, reduceCtorEq, isa_i_n, dTru_bool] <;> rfl
                | str s => simp -implicitDefEqProofs only [eVar_ap, dVar_ap, eC_ap, dOf_ap, eFrz_ap, eBin_ap, bTest_ap, bTru_ap, bAnd_ap, bOr_ap, bNot_ap, eIf_ap, eB_ap, eAnd_ap, eOr_ap, aNil_ap, aCons_ap, sNil_ap, sCons_ap, eTup_ap, eLst_ap, eCall_ap, eApp_ap, oNone_ap, oSome_ap, eSl_ap, sNil'_ap, sSeq_ap, sBrk_ap, sRet_ap, sRetN_ap, sRetO_ap, sDrop_ap, sIf_ap, sSet_ap, sApp_ap, sTown_ap, sExt_ap, sIns_ap, sSetIx_ap, sAsg_ap, sPar_ap, iOf_ap, iVal_ap, iRng1_ap, iRng2_ap, sFor_ap, eComp_ap, bYes_ap, frzAt_ap, eUn_ap, eNotD_ap, eOrD_ap, eChain_ap, eListRg1_ap, eIsa_ap, eMt_ap, iEnumV_ap, iEnumF_ap, iZipV_ap, iZipF_ap, eTLen_ap, iRng3D_ap, sEnd_ap, eSs_ap, sPar3_ap, xPop_ap, xTup1_ap, xCat_ap, sSetX_ap, sAppX_ap, sParO_ap, sForEI_ap, sForK_ap, eRep_ap, eDicK_ap, eDicT_ap, sPut_ap, eAlt_ap, sTry_ap, eGetD_ap, eLockI_ap, iKeyF_ap, sSetDef_ap, eTupVals_ap, sNst_ap, frzNAt_ap, sAppN_ap, sStN_ap, eListRg2_ap, runB_ap, gOne_ap, gMany_ap, dI_ap, yesC_ap, dCmp_int, setD, kill_nx, kill_rt, kill_bk, Option.bind_some, Option.map_some, Option.bind_none, Option.map_none, List.getElem?_cons_zero, List.getElem?_cons_succ, List.set_cons_zero, List.set_cons_succ, List.cons_append, List.nil_append, List.append_nil, List.replicate, List.length_cons, List.length_nil, Nat.reduceAdd, Nat.reduceSub, Nat.zero_add, wdat_no, wdat_d, wdat_town, wdat_ol, wdat_od, wfrz_no, wfrz_d, wfrz_town, wfrz_ol, wfrz_od, wval_no, wval_d, wval_town, wval_ol, wval_od, warg_no, warg_d, warg_town, warg_ol, warg_od, vals, gLen, gAbs, gMax2, gMin2, gInt, gTup, gList, wipeW, if_true, if_false, Bool.false_eq_true, Bool.not_true, Bool.not_false, reduceCtorEq, isa_i_s, dTru_bool] <;> rfl⟩
              rw [List.map_id'] at e2
              cases q : ys.all (isW (-1) 1) with
              | true =>
                have z : ys.findSome? (fun y => if isW (-1) 1 y then none else some (W.d (.bool false))) = none := List.findSome?_eq_none_iff.mpr fun y hy => by
                  rw [List.all_eq_true.mp q y hy] <;> rfl
                have rb : rowB xs.length (.tuple ys) = true := by simp [rowB, c3, q]
                rw [z] at e2
                rw [rb]
                simp -implicitDefEqProofs only [eVar_ap, dVar_ap, eC_ap, dOf_ap, eFrz_ap, eBin_ap, bTest_ap, bTru_ap, bAnd_ap, bOr_ap, bNot_ap, eIf_ap, eB_ap, eAnd_ap, eOr_ap, aNil_ap, aCons_ap, sNil_ap, sCons_ap, eTup_ap, eLst_ap, eCall_ap, eApp_ap, oNone_ap, oSome_ap, eSl_ap, sNil'_ap, sSeq_ap, sBrk_ap, sRet_ap, sRetN_ap, sRetO_ap, sDrop_ap, sIf_ap, sSet_ap, sApp_ap, sTown_ap, sExt_ap, sIns_ap, sSetIx_ap, sAsg_ap, sPar_ap, iOf_ap, iVal_ap, iRng1_ap, iRng2_ap, sFor_ap, eComp_ap, bYes_ap, frzAt_ap, eUn_ap, eNotD_ap, eOrD_ap, eChain_ap, eListRg1_ap, eIsa_ap, eMt_ap, iEnumV_ap, iEnumF_ap, iZipV_ap, iZipF_ap, eTLen_ap, iRng3D_ap, sEnd_ap, eSs_ap, sPar3_ap, xPop_ap, xTup1_ap, xCat_ap, sSetX_ap, sAppX_ap, sParO_ap, sForEI_ap, sForK_ap, eRep_ap, eDicK_ap, eDicT_ap, sPut_ap, eAlt_ap, sTry_ap, eGetD_ap, eLockI_ap, iKeyF_ap, sSetDef_ap, eTupVals_ap, sNst_ap, frzNAt_ap, sAppN_ap, sStN_ap, eListRg2_ap, runB_ap, gOne_ap, gMany_ap, dI_ap, yesC_ap, dCmp_int, setD, kill_nx, kill_rt, kill_bk, Option.bind_some, Option.map_some, Option.bind_none, Option.map_none, List.getElem?_cons_zero, List.getElem?_cons_succ, List.set_cons_zero, List.set_cons_succ, List.cons_append, List.nil_append, List.append_nil, List.replicate, List.length_cons, List.length_nil, Nat.reduceAdd, Nat.reduceSub, Nat.zero_add, wdat_no, wdat_d, wdat_town, wdat_ol, wdat_od, wfrz_no, wfrz_d, wfrz_town, wfrz_ol, wfrz_od, wval_no, wval_d, wval_town, wval_ol, wval_od, warg_no, warg_d, warg_town, warg_ol, warg_od, vals, gLen, gAbs, gMax2, gMin2, gInt, gTup, gList, wipeW, if_true, if_false, Bool.false_eq_true, Bool.not_true, Bool.not_false, reduceCtorEq, i2, dTru_bool, l, iSeq, e2] <;> rfl
              | false =>
                have rb : rowB xs.length (.tuple ys) = false := by simp [rowB, q]
                obtain ⟨y, hy, qy⟩ := List.all_eq_false.mp q
                have z : ys.findSome? (fun y => if isW (-1) 1 y then none else some (W.d (.bool false))) = some (.d (.bool false)) := by
                  cases w : ys.findSome? (fun y => if isW (-1) 1 y then none else some (W.d (.bool false))) with
                  | none =>
                    have := List.findSome?_eq_none_iff.mp w y hy
                    simp at qy
                    rw [qy] at this
                    cases this
                  | some v =>
                    obtain ⟨y', _, e⟩ := List.exists_of_findSome?_eq_some w
                    split at e
                    · cases e
                    · exact e.symm
                rw [z] at e2
                rw [rb]
                simp -implicitDefEqProofs only [eVar_ap, dVar_ap, eC_ap, dOf_ap, eFrz_ap, eBin_ap, bTest_ap, bTru_ap, bAnd_ap, bOr_ap, bNot_ap, eIf_ap, eB_ap, eAnd_ap, eOr_ap, aNil_ap, aCons_ap, sNil_ap, sCons_ap, eTup_ap, eLst_ap, eCall_ap, eApp_ap, oNone_ap, oSome_ap, eSl_ap, sNil'_ap, sSeq_ap, sBrk_ap, sRet_ap, sRetN_ap, sRetO_ap, sDrop_ap, sIf_ap, sSet_ap, sApp_ap, sTown_ap, sExt_ap, sIns_ap, sSetIx_ap, sAsg_ap, sPar_ap, iOf_ap, iVal_ap, iRng1_ap, iRng2_ap, sFor_ap, eComp_ap, bYes_ap, frzAt_ap, eUn_ap, eNotD_ap, eOrD_ap, eChain_ap, eListRg1_ap, eIsa_ap, eMt_ap, iEnumV_ap, iEnumF_ap, iZipV_ap, iZipF_ap, eTLen_ap, iRng3D_ap, sEnd_ap, eSs_ap, sPar3_ap, xPop_ap, xTup1_ap, xCat_ap, sSetX_ap, sAppX_ap, sParO_ap, sForEI_ap, sForK_ap, eRep_ap, eDicK_ap, eDicT_ap, sPut_ap, eAlt_ap, sTry_ap, eGetD_ap, eLockI_ap, iKeyF_ap, sSetDef_ap, eTupVals_ap, sNst_ap, frzNAt_ap, sAppN_ap, sStN_ap, eListRg2_ap, runB_ap, gOne_ap, gMany_ap, dI_ap, yesC_ap, dCmp_int, setD, kill_nx, kill_rt, kill_bk, Option.bind_some, Option.map_some, Option.bind_none, Option.map_none, List.getElem?_cons_zero, List.getElem?_cons_succ, List.set_cons_zero, List.set_cons_succ, List.cons_append, List.nil_append, List.append_nil, List.replicate, List.length_cons, List.length_nil, Nat.reduceAdd, Nat.reduceSub, Nat.zero_add, wdat_no, wdat_d, wdat_town, wdat_ol, wdat_od, wfrz_no, wfrz_d, wfrz_town, wfrz_ol, wfrz_od, wval_no, wval_d, wval_town, wval_ol, wval_od, warg_no, warg_d, warg_town, warg_ol, warg_od, vals, gLen, gAbs, gMax2, gMin2, gInt, gTup, gList, wipeW, if_true, if_false, Bool.false_eq_true, Bool.not_true, Bool.not_false, reduceCtorEq, i2, dTru_bool, l, iSeq, e2] <;> rfl
            · have e0 : (!((ys.length : Int) == (xs.length : Int))) = true := by
                rw [Bool.not_eq_true', beq_eq_false_iff_ne]; omega
              rw [e0] at l
              have rb : rowB xs.length (.tuple ys) = false := by simp [rowB, c3]
              rw [rb]
              simp -implicitDefEqProofs only [eVar_ap, dVar_ap, eC_ap, dOf_ap, eFrz_ap, eBin_ap, bTest_ap, bTru_ap, bAnd_ap, bOr_ap, bNot_ap, eIf_ap, eB_ap, eAnd_ap, eOr_ap, aNil_ap, aCons_ap, sNil_ap, sCons_ap, eTup_ap, eLst_ap, eCall_ap, eApp_ap, oNone_ap, oSome_ap, eSl_ap, sNil'_ap, sSeq_ap, sBrk_ap, sRet_ap, sRetN_ap, sRetO_ap, sDrop_ap, sIf_ap, sSet_ap, sApp_ap, sTown_ap, sExt_ap, sIns_ap, sSetIx_ap, sAsg_ap, sPar_ap, iOf_ap, iVal_ap, iRng1_ap, iRng2_ap, sFor_ap, eComp_ap, bYes_ap, frzAt_ap, eUn_ap, eNotD_ap, eOrD_ap, eChain_ap, eListRg1_ap, eIsa_ap, eMt_ap, iEnumV_ap, iEnumF_ap, iZipV_ap, iZipF_ap, eTLen_ap, iRng3D_ap, sEnd_ap, eSs_ap, sPar3_ap, xPop_ap, xTup1_ap, xCat_ap, sSetX_ap, sAppX_ap, sParO_ap, sForEI_ap, sForK_ap, eRep_ap, eDicK_ap, eDicT_ap, sPut_ap, eAlt_ap, sTry_ap, eGetD_ap, eLockI_ap, iKeyF_ap, sSetDef_ap, eTupVals_ap, sNst_ap, frzNAt_ap, sAppN_ap, sStN_ap, eListRg2_ap, runB_ap, gOne_ap, gMany_ap, dI_ap, yesC_ap, dCmp_int, setD, kill_nx, kill_rt, kill_bk, Option.bind_some, Option.map_some, Option.bind_none, Option.map_none, List.getElem?_cons_zero, List.getElem?_cons_succ, List.set_cons_zero, List.set_cons_succ, List.cons_append, List.nil_append, List.append_nil, List.replicate, List.length_cons, List.length_nil, Nat.reduceAdd, Nat.reduceSub, Nat.zero_add, wdat_no, wdat_d, wdat_town, wdat_ol, wdat_od, wfrz_no, wfrz_d, wfrz_town, wfrz_ol, wfrz_od, wval_no, wval_d, wval_town, wval_ol, wval_od, warg_no, warg_d, warg_town, warg_ol, warg_od, vals, gLen, gAbs, gMax2, gMin2, gInt, gTup, gList, wipeW, if_true, if_false, Bool.false_eq_true, Bool.not_true, Bool.not_false, reduceCtorEq, i2, dTru_bool, l] <;> rfl
          | dict kvs => exact absurd rfl (noD hs kvs)
          | list ys =>
            have i2 : isa "tuple" (.list ys) = false := rfl
            simp -implicitDefEqProofs only [eVar_ap, dVar_ap, eC_ap, dOf_ap, eFrz_ap, eBin_ap, bTest_ap, bTru_ap, bAnd_ap, bOr_ap, bNot_ap, eIf_ap, eB_ap, eAnd_ap, eOr_ap, aNil_ap, aCons_ap, sNil_ap, sCons_ap, eTup_ap, eLst_ap, eCall_ap, eApp_ap, oNone_ap, oSome_ap, eSl_ap, sNil'_ap, sSeq_ap, sBrk_ap, sRet_ap, sRetN_ap, sRetO_ap, sDrop_ap, sIf_ap, sSet_ap, sApp_ap, sTown_ap, sExt_ap, sIns_ap, sSetIx_ap, sAsg_ap, sPar_ap, iOf_ap, iVal_ap, iRng1_ap, iRng2_ap, sFor_ap, eComp_ap, bYes_ap, frzAt_ap, eUn_ap, eNotD_ap, eOrD_ap, eChain_ap, eListRg1_ap, eIsa_ap, eMt_ap, iEnumV_ap, iEnumF_ap, iZipV_ap, iZipF_ap, eTLen_ap, iRng3D_ap, sEnd_ap, eSs_ap, sPar3_ap, xPop_ap, xTup1_ap, xCat_ap, sSetX_ap, sAppX_ap, sParO_ap, sForEI_ap, sForK_ap, eRep_ap, eDicK_ap, eDicT_ap, sPut_ap, eAlt_ap, sTry_ap, eGetD_ap, eLockI_ap, iKeyF_ap, sSetDef_ap, eTupVals_ap, sNst_ap, frzNAt_ap, sAppN_ap, sStN_ap, eListRg2_ap, runB_ap, gOne_ap, gMany_ap, dI_ap, yesC_ap, dCmp_int, setD, kill_nx, kill_rt, kill_bk, Option.bind_some, Option.map_some, Option.bind_none, Option.map_none, List.getElem?_cons_zero, List.getElem?_cons_succ, List.set_cons_zero, List.set_cons_succ, List.cons_append, List.nil_append, List.append_nil, List.replicate, List.length_cons, List.length_nil, Nat.reduceAdd, Nat.reduceSub, Nat.zero_add, wdat_no, wdat_d, wdat_town, wdat_ol, wdat_od, wfrz_no, wfrz_d, wfrz_town, wfrz_ol, wfrz_od, wval_no, wval_d, wval_town, wval_ol, wval_od, warg_no, warg_d, warg_town, warg_ol, warg_od, vals, gLen, gAbs, gMax2, gMin2, gInt, gTup, gList, wipeW, if_true, if_false, Bool.false_eq_true, Bool.not_true, Bool.not_false, reduceCtorEq, i2, dTru_bool] <;> rfl
          | none => simp -implicitDefEqProofs only [eVar_ap, dVar_ap, eC_ap, dOf_ap, eFrz_ap, eBin_ap, bTest_ap, bTru_ap, bAnd_ap, bOr_ap, bNot_ap, eIf_ap, eB_ap, eAnd_ap, eOr_ap, aNil_ap, aCons_ap, sNil_ap, sCons_ap, eTup_ap, eLst_ap, eCall_ap, eApp_ap, oNone_ap, oSome_ap, eSl_ap, sNil'_ap, sSeq_ap, sBrk_ap, sRet_ap, sRetN_ap, sRetO_ap, sDrop_ap, sIf_ap, sSet_ap, sApp_ap, sTown_ap, sExt_ap, sIns_ap, sSetIx_ap, sAsg_ap, sPar_ap, iOf_ap, iVal_ap, iRng1_ap, iRng2_ap, sFor_ap, eComp_ap, bYes_ap, frzAt_ap, eUn_ap, eNotD_ap, eOrD_ap, eChain_ap, eListRg1_ap, eIsa_ap, eMt_ap, iEnumV_ap, iEnumF_ap, iZipV_ap, iZipF_ap, eTLen_ap, iRng3D_ap, sEnd_ap, eSs_ap, sPar3_ap, xPop_ap, xTup1_ap, xCat_ap, sSetX_ap, sAppX_ap, sParO_ap, sForEI_ap, sForK_ap, eRep_ap, eDicK_ap, eDicT_ap, sPut_ap, eAlt_ap, sTry_ap, eGetD_ap, eLockI_ap, iKeyF_ap, sSetDef_ap, eTupVals_ap, sNst_ap, frzNAt_ap, sAppN_ap, sStN_ap, eListRg2_ap, runB_ap, gOne_ap, gMany_ap, dI_ap, yesC_ap, dCmp_int, setD, kill_nx, kill_rt, kill_bk, Option.bind_some, Option.map_some, Option.bind_none, Option.map_none, List.getElem?_cons_zero, List.getElem?_cons_succ, List.set_cons_zero, List.set_cons_succ, List.cons_append, List.nil_append, List.append_nil, List.replicate, List.length_cons, List.length_nil, Nat.reduceAdd, Nat.reduceSub, Nat.zero_add, wdat_no, wdat_d, wdat_town, wdat_ol, wdat_od, wfrz_no, wfrz_d, wfrz_town, wfrz_ol, wfrz_od, wval_no, wval_d, wval_town, wval_ol, wval_od, warg_no, warg_d, warg_town, warg_ol, warg_od, vals, gLen, gAbs, gMax2, gMin2, gInt, gTup, gList, wipeW, if_true, if_false, Bool.false_eq_true, Bool.not_true, Bool.not_false, reduceCtorEq, isa_t_n, dTru_bool] <;> rfl
          | bool b => simp -implicitDefEqProofs only [eVar_ap, dVar_ap, eC_ap, dOf_ap, eFrz_ap, eBin_ap, bTest_ap, bTru_ap, bAnd_ap, bOr_ap, bNot_ap, eIf_ap, eB_ap, eAnd_ap, eOr_ap, aNil_ap, aCons_ap, sNil_ap, sCons_ap, eTup_ap, eLst_ap, eCall_ap, eApp_ap, oNone_ap, oSome_ap, eSl_ap, sNil'_ap, sSeq_ap, sBrk_ap, sRet_ap, sRetN_ap, sRetO_ap, sDrop_ap, sIf_ap, sSet_ap, sApp_ap, sTown_ap, sExt_ap, sIns_ap, sSetIx_ap, sAsg_ap, sPar_ap, iOf_ap, iVal_ap, iRng1_ap, iRng2_ap, sFor_ap, eComp_ap, bYes_ap, frzAt_ap, eUn_ap, eNotD_ap, eOrD_ap, eChain_ap, eListRg1_ap, eIsa_ap, eMt_ap, iEnumV_ap, iEnumF_ap, iZipV_ap, iZipF_ap, eTLen_ap, iRng3D_ap, sEnd_ap, eSs_ap, sPar3_ap, xPop_ap, xTup1_ap, xCat_ap, sSetX_ap, sAppX_ap, sParO_ap, sForEI_ap, sForK_ap, eRep_ap, eDicK_ap, eDicT_ap, sPut_ap, eAlt_ap, sTry_ap, eGetD_ap, eLockI_ap, iKeyF_ap, sSetDef_ap, eTupVals_ap, sNst_ap, frzNAt_ap, sAppN_ap, sStN_ap, eListRg2_ap, runB_ap, gOne_ap, gMany_ap, dI_ap, yesC_ap, dCmp_int, setD, kill_nx, kill_rt, kill_bk, Option.bind_some, Option.map_some, Option.bind_none, Option.map_none, List.getElem?_cons_zero, List.getElem?_cons_succ, List.set_cons_zero, List.set_cons_succ, List.cons_append, List.nil_append, List.append_nil, List.replicate, List.length_cons, List.length_nil, Nat.reduceAdd, Nat.reduceSub, Nat.zero_add, wdat_no, wdat_d, wdat_town, wdat_ol, wdat_od, wfrz_no, wfrz_d, wfrz_town, wfrz_ol, wfrz_od, wval_no, wval_d, wval_town, wval_ol, wval_od, warg_no, warg_d, warg_town, warg_ol, warg_od, vals, gLen, gAbs, gMax2, gMin2, gInt, gTup, gList, wipeW, if_true, if_false, Bool.false_eq_true, Bool.not_true, Bool.not_false, reduceCtorEq, isa_t_b, dTru_bool] <;> rfl
          | int b => simp -implicitDefEqProofs only [eVar_ap, dVar_ap, eC_ap, dOf_ap, eFrz_ap, eBin_ap, bTest_ap, bTru_ap, bAnd_ap, bOr_ap, bNot_ap, eIf_ap, eB_ap, eAnd_ap, eOr_ap, aNil_ap, aCons_ap, sNil_ap, sCons_ap, eTup_ap, eLst_ap, eCall_ap, eApp_ap, oNone_ap, oSome_ap, eSl_ap, sNil'_ap, sSeq_ap, sBrk_ap, sRet_ap, sRetN_ap, sRetO_ap, sDrop_ap, sIf_ap, sSet_ap, sApp_ap, sTown_ap, sExt_ap, sIns_ap, sSetIx_ap, sAsg_ap, sPar_ap, iOf_ap, iVal_ap, iRng1_ap, iRng2_ap, sFor_ap, eComp_ap, bYes_ap, frzAt_ap, eUn_ap, eNotD_ap, eOrD_ap, eChain_ap, eListRg1_ap, eIsa_ap, eMt_ap, iEnumV_ap, iEnumF_ap, iZipV_ap, iZipF_ap, eTLen_ap, iRng3D_ap, sEnd_ap, eSs_ap, sPar3_ap, xPop_ap, xTup1_ap, xCat_ap, sSetX_ap, sAppX_ap, sParO_ap, sForEI_ap, sForK_ap, eRep_ap, eDicK_ap, eDicT_ap, sPut_ap, eAlt_ap, sTry_ap, eGetD_ap, eLockI_ap, iKeyF_ap, sSetDef_ap, eTupVals_ap, sNst_ap, frzNAt_ap, sAppN_ap, sStN_ap, eListRg2_ap, runB_ap, gOne_ap, gMany_ap, dI_ap, yesC_ap, dCmp_int, setD, kill_nx, kill_rt, kill_bk, Option.bind_some, Option.map_some, Option.bind_none, Option.map_none, List.getElem?_cons_zero, List.getElem?_cons_succ, List.set_cons_zero, List.set_cons_succ, List.cons_append, List.nil_append, List.append_nil, List.replicate, List.length_cons, List.length_nil, Nat.reduceAdd, Nat.reduceSub, Nat.zero_add, wdat_no, wdat_d, wdat_town, wdat_ol, wdat_od, wfrz_no, wfrz_d, wfrz_town, wfrz_ol, wfrz_od, wval_no, wval_d, wval_town, wval_ol, wval_od, warg_no, warg_d, warg_town, warg_ol, warg_od, vals, gLen, gAbs, gMax2, gMin2, gInt, gTup, gList, wipeW, if_true, if_false, Bool.false_eq_true, Bool.not_true, Bool.not_false, reduceCtorEq, isa_t_i, dTru_bool] <;> rfl
          | str b => simp -implicitDefEqProofs only [eVar_ap, dVar_ap, eC_ap, dOf_ap, eFrz_ap, eBin_ap, bTest_ap, bTru_ap, bAnd_ap, bOr_ap, bNot_ap, eIf_ap, eB_ap, eAnd_ap, eOr_ap, aNil_ap, aCons_ap, sNil_ap, sCons_ap, eTup_ap, eLst_ap, eCall_ap, eApp_ap, oNone_ap, oSome_ap, eSl_ap, sNil'_ap, sSeq_ap, sBrk_ap, sRet_ap, sRetN_ap, sRetO_ap, sDrop_ap, sIf_ap, sSet_ap, sApp_ap, sTown_ap, sExt_ap, sIns_ap, sSetIx_ap, sAsg_ap, sPar_ap, iOf_ap, iVal_ap, iRng1_ap, iRng2_ap, sFor_ap, eComp_ap, bYes_ap, frzAt_ap, eUn_ap, eNotD_ap, eOrD_ap, eChain_ap, eListRg1_ap, eIsa_ap, eMt_ap, iEnumV_ap, iEnumF_ap, iZipV_ap, iZipF_ap, eTLen_ap, iRng3D_ap, sEnd_ap, eSs_ap, sPar3_ap, xPop_ap, xTup1_ap, xCat_ap, sSetX_ap, sAppX_ap, sParO_ap, sForEI_ap, sForK_ap, eRep_ap, eDicK_ap, eDicT_ap, sPut_ap, eAlt_ap, sTry_ap, eGetD_ap, eLockI_ap, iKeyF_ap, sSetDef_ap, eTupVals_ap, sNst_ap, frzNAt_ap, sAppN_ap, sStN_ap, eListRg2_ap, runB_ap, gOne_ap, gMany_ap, dI_ap, yesC_ap, dCmp_int, setD, kill_nx, kill_rt, kill_bk, Option.bind_some, Option.map_some, Option.bind_none, Option.map_none, List.getElem?_cons_zero, List.getElem?_cons_succ, List.set_cons_zero, List.set_cons_succ, List.cons_append, List.nil_append, List.append_nil, List.replicate, List.length_cons, List.length_nil, Nat.reduceAdd, Nat.reduceSub, Nat.zero_add, wdat_no, wdat_d, wdat_town, wdat_ol, wdat_od, wfrz_no, wfrz_d, wfrz_town, wfrz_ol, wfrz_od, wval_no, wval_d, wval_town, wval_ol, wval_od, warg_no, warg_d, warg_town, warg_ol, warg_od, vals, gLen, gAbs, gMax2, gMin2, gInt, gTup, gList, wipeW, if_true, if_false, Bool.false_eq_true, Bool.not_true, Bool.not_false, reduceCtorEq, isa_t_s, dTru_bool] <;> rfl⟩
        rw [List.map_id'] at e1
        cases q : xs.all (rowB xs.length) with
        | true =>
          have z : xs.findSome? (fun r => if rowB xs.length r then none else some (W.d (.bool false))) = none := List.findSome?_eq_none_iff.mpr fun y hy => by
            rw [List.all_eq_true.mp q y hy] <;> rfl
          rw [z] at e1
          simp -implicitDefEqProofs only [eVar_ap, dVar_ap, eC_ap, dOf_ap, eFrz_ap, eBin_ap, bTest_ap, bTru_ap, bAnd_ap, bOr_ap, bNot_ap, eIf_ap, eB_ap, eAnd_ap, eOr_ap, aNil_ap, aCons_ap, sNil_ap, sCons_ap, eTup_ap, eLst_ap, eCall_ap, eApp_ap, oNone_ap, oSome_ap, eSl_ap, sNil'_ap, sSeq_ap, sBrk_ap, sRet_ap, sRetN_ap, sRetO_ap, sDrop_ap, sIf_ap, sSet_ap, sApp_ap, sTown_ap, sExt_ap, sIns_ap, sSetIx_ap, sAsg_ap, sPar_ap, iOf_ap, iVal_ap, iRng1_ap, iRng2_ap, sFor_ap, eComp_ap, bYes_ap, frzAt_ap, eUn_ap, eNotD_ap, eOrD_ap, eChain_ap, eListRg1_ap, eIsa_ap, eMt_ap, iEnumV_ap, iEnumF_ap, iZipV_ap, iZipF_ap, eTLen_ap, iRng3D_ap, sEnd_ap, eSs_ap, sPar3_ap, xPop_ap, xTup1_ap, xCat_ap, sSetX_ap, sAppX_ap, sParO_ap, sForEI_ap, sForK_ap, eRep_ap, eDicK_ap, eDicT_ap, sPut_ap, eAlt_ap, sTry_ap, eGetD_ap, eLockI_ap, iKeyF_ap, sSetDef_ap, eTupVals_ap, sNst_ap, frzNAt_ap, sAppN_ap, sStN_ap, eListRg2_ap, runB_ap, gOne_ap, gMany_ap, dI_ap, yesC_ap, dCmp_int, setD, kill_nx, kill_rt, kill_bk, Option.bind_some, Option.map_some, Option.bind_none, Option.map_none, List.getElem?_cons_zero, List.getElem?_cons_succ, List.set_cons_zero, List.set_cons_succ, List.cons_append, List.nil_append, List.append_nil, List.replicate, List.length_cons, List.length_nil, Nat.reduceAdd, Nat.reduceSub, Nat.zero_add, wdat_no, wdat_d, wdat_town, wdat_ol, wdat_od, wfrz_no, wfrz_d, wfrz_town, wfrz_ol, wfrz_od, wval_no, wval_d, wval_town, wval_ol, wval_od, warg_no, warg_d, warg_town, warg_ol, warg_od, vals, gLen, gAbs, gMax2, gMin2, gInt, gTup, gList, wipeW, if_true, if_false, Bool.false_eq_true, Bool.not_true, Bool.not_false, reduceCtorEq, i1, dTru_bool, b1, b2, iSeq, e1, tabB, c1, c2, decide_true, Bool.and_self, q]
        | false =>
          obtain ⟨y, hy, qy⟩ := List.all_eq_false.mp q
          have z : xs.findSome? (fun r => if rowB xs.length r then none else some (W.d (.bool false))) = some (.d (.bool false)) := by
            cases w : xs.findSome? (fun r => if rowB xs.length r then none else some (W.d (.bool false))) with
            | none =>
              have := List.findSome?_eq_none_iff.mp w y hy
              simp at qy
              rw [qy] at this
              cases this
            | some v =>
              obtain ⟨y', _, e⟩ := List.exists_of_findSome?_eq_some w
              split at e
              · cases e
              · exact e.symm
          rw [z] at e1
          simp -implicitDefEqProofs only [eVar_ap, dVar_ap, eC_ap, dOf_ap, eFrz_ap, eBin_ap, bTest_ap, bTru_ap, bAnd_ap, bOr_ap, bNot_ap, eIf_ap, eB_ap, eAnd_ap, eOr_ap, aNil_ap, aCons_ap, sNil_ap, sCons_ap, eTup_ap, eLst_ap, eCall_ap, eApp_ap, oNone_ap, oSome_ap, eSl_ap, sNil'_ap, sSeq_ap, sBrk_ap, sRet_ap, sRetN_ap, sRetO_ap, sDrop_ap, sIf_ap, sSet_ap, sApp_ap, sTown_ap, sExt_ap, sIns_ap, sSetIx_ap, sAsg_ap, sPar_ap, iOf_ap, iVal_ap, iRng1_ap, iRng2_ap, sFor_ap, eComp_ap, bYes_ap, frzAt_ap, eUn_ap, eNotD_ap, eOrD_ap, eChain_ap, eListRg1_ap, eIsa_ap, eMt_ap, iEnumV_ap, iEnumF_ap, iZipV_ap, iZipF_ap, eTLen_ap, iRng3D_ap, sEnd_ap, eSs_ap, sPar3_ap, xPop_ap, xTup1_ap, xCat_ap, sSetX_ap, sAppX_ap, sParO_ap, sForEI_ap, sForK_ap, eRep_ap, eDicK_ap, eDicT_ap, sPut_ap, eAlt_ap, sTry_ap, eGetD_ap, eLockI_ap, iKeyF_ap, sSetDef_ap, eTupVals_ap, sNst_ap, frzNAt_ap, sAppN_ap, sStN_ap, eListRg2_ap, runB_ap, gOne_ap, gMany_ap, dI_ap, yesC_ap, dCmp_int, setD, kill_nx, kill_rt, kill_bk, Option.bind_some, Option.map_some, Option.bind_none, Option.map_none, List.getElem?_cons_zero, List.getElem?_cons_succ, List.set_cons_zero, List.set_cons_succ, List.cons_append, List.nil_append, List.append_nil, List.replicate, List.length_cons, List.length_nil, Nat.reduceAdd, Nat.reduceSub, Nat.zero_add, wdat_no, wdat_d, wdat_town, wdat_ol, wdat_od, wfrz_no, wfrz_d, wfrz_town, wfrz_ol, wfrz_od, wval_no, wval_d, wval_town, wval_ol, wval_od, warg_no, warg_d, warg_town, warg_ol, warg_od, vals, gLen, gAbs, gMax2, gMin2, gInt, gTup, gList, wipeW, if_true, if_false, Bool.false_eq_true, Bool.not_true, Bool.not_false, reduceCtorEq, i1, dTru_bool, b1, b2, iSeq, e1, tabB, c1, c2, decide_true, Bool.and_self, q, Bool.and_false]
      · have b2 : rLe (xs.length : Int) 6 = false := decide_eq_false (by omega)
        simp -implicitDefEqProofs only [eVar_ap, dVar_ap, eC_ap, dOf_ap, eFrz_ap, eBin_ap, bTest_ap, bTru_ap, bAnd_ap, bOr_ap, bNot_ap, eIf_ap, eB_ap, eAnd_ap, eOr_ap, aNil_ap, aCons_ap, sNil_ap, sCons_ap, eTup_ap, eLst_ap, eCall_ap, eApp_ap, oNone_ap, oSome_ap, eSl_ap, sNil'_ap, sSeq_ap, sBrk_ap, sRet_ap, sRetN_ap, sRetO_ap, sDrop_ap, sIf_ap, sSet_ap, sApp_ap, sTown_ap, sExt_ap, sIns_ap, sSetIx_ap, sAsg_ap, sPar_ap, iOf_ap, iVal_ap, iRng1_ap, iRng2_ap, sFor_ap, eComp_ap, bYes_ap, frzAt_ap, eUn_ap, eNotD_ap, eOrD_ap, eChain_ap, eListRg1_ap, eIsa_ap, eMt_ap, iEnumV_ap, iEnumF_ap, iZipV_ap, iZipF_ap, eTLen_ap, iRng3D_ap, sEnd_ap, eSs_ap, sPar3_ap, xPop_ap, xTup1_ap, xCat_ap, sSetX_ap, sAppX_ap, sParO_ap, sForEI_ap, sForK_ap, eRep_ap, eDicK_ap, eDicT_ap, sPut_ap, eAlt_ap, sTry_ap, eGetD_ap, eLockI_ap, iKeyF_ap, sSetDef_ap, eTupVals_ap, sNst_ap, frzNAt_ap, sAppN_ap, sStN_ap, eListRg2_ap, runB_ap, gOne_ap, gMany_ap, dI_ap, yesC_ap, dCmp_int, setD, kill_nx, kill_rt, kill_bk, Option.bind_some, Option.map_some, Option.bind_none, Option.map_none, List.getElem?_cons_zero, List.getElem?_cons_succ, List.set_cons_zero, List.set_cons_succ, List.cons_append, List.nil_append, List.append_nil, List.replicate, List.length_cons, List.length_nil, Nat.reduceAdd, Nat.reduceSub, Nat.zero_add, wdat_no, wdat_d, wdat_town, wdat_ol, wdat_od, wfrz_no, wfrz_d, wfrz_town, wfrz_ol, wfrz_od, wval_no, wval_d, wval_town, wval_ol, wval_od, warg_no, warg_d, warg_town, warg_ol, warg_od, vals, gLen, gAbs, gMax2, gMin2, gInt, gTup, gList, wipeW, if_true, if_false, Bool.false_eq_true, Bool.not_true, Bool.not_false, reduceCtorEq, i1, dTru_bool, b1, b2, tabB, c1, c2, decide_true, decide_false, Bool.true_and, Bool.false_and]
    · have b1 : rLe 1 (xs.length : Int) = false := decide_eq_false (by omega)
      simp -implicitDefEqProofs only [eVar_ap, dVar_ap, eC_ap, dOf_ap, eFrz_ap, eBin_ap, bTest_ap, bTru_ap, bAnd_ap, bOr_ap, bNot_ap, eIf_ap, eB_ap, eAnd_ap, eOr_ap, aNil_ap, aCons_ap, sNil_ap, sCons_ap, eTup_ap, eLst_ap, eCall_ap, eApp_ap, oNone_ap, oSome_ap, eSl_ap, sNil'_ap, sSeq_ap, sBrk_ap, sRet_ap, sRetN_ap, sRetO_ap, sDrop_ap, sIf_ap, sSet_ap, sApp_ap, sTown_ap, sExt_ap, sIns_ap, sSetIx_ap, sAsg_ap, sPar_ap, iOf_ap, iVal_ap, iRng1_ap, iRng2_ap, sFor_ap, eComp_ap, bYes_ap, frzAt_ap, eUn_ap, eNotD_ap, eOrD_ap, eChain_ap, eListRg1_ap, eIsa_ap, eMt_ap, iEnumV_ap, iEnumF_ap, iZipV_ap, iZipF_ap, eTLen_ap, iRng3D_ap, sEnd_ap, eSs_ap, sPar3_ap, xPop_ap, xTup1_ap, xCat_ap, sSetX_ap, sAppX_ap, sParO_ap, sForEI_ap, sForK_ap, eRep_ap, eDicK_ap, eDicT_ap, sPut_ap, eAlt_ap, sTry_ap, eGetD_ap, eLockI_ap, iKeyF_ap, sSetDef_ap, eTupVals_ap, sNst_ap, frzNAt_ap, sAppN_ap, sStN_ap, eListRg2_ap, runB_ap, gOne_ap, gMany_ap, dI_ap, yesC_ap, dCmp_int, setD, kill_nx, kill_rt, kill_bk, Option.bind_some, Option.map_some, Option.bind_none, Option.map_none, List.getElem?_cons_zero, List.getElem?_cons_succ, List.set_cons_zero, List.set_cons_succ, List.cons_append, List.nil_append, List.append_nil, List.replicate, List.length_cons, List.length_nil, Nat.reduceAdd, Nat.reduceSub, Nat.zero_add, wdat_no, wdat_d, wdat_town, wdat_ol, wdat_od, wfrz_no, wfrz_d, wfrz_town, wfrz_ol, wfrz_od, wval_no, wval_d, wval_town, wval_ol, wval_od, warg_no, warg_d, warg_town, warg_ol, warg_od, vals, gLen, gAbs, gMax2, gMin2, gInt, gTup, gList, wipeW, if_true, if_false, Bool.false_eq_true, Bool.not_true, Bool.not_false, reduceCtorEq, i1, dTru_bool, b1, tabB, c1, decide_false, Bool.false_and]
  | none => rfl
  | bool b => rfl
  | str s => rfl
  | list xs => rfl
  | int i => rfl
  | dict kvs => exact absurd rfl (noD h kvs)
/-! papers, of any things -/
theorem find_all (P : PyData → Bool) (w : W) : ∀ xs : List PyData, xs.findSome? (fun y => if P y then none else some w) = if xs.all P then none else some w
  | [] => rfl
  | x :: xs => by
    have ih := find_all P w xs
    rw [List.findSome?_cons, List.all_cons]
    cases P x with
    | true => simpa using ih
    | false => rfl
abbrev sOdd : Str := "odd"
abbrev sChain : Str := "chain"
theorem wd_ne {x : PyData} {s : Str} (h : shp x = true) (h2 : shp (.str s) = true) : dNe x (.str s) = some (.d (.bool (!wd x s))) := by
  have e := wd_eq h h2
  unfold dEq at e
  rw [h, h2] at e
  have e : PyData.eqv x (.str s) = wd x s := by simpa using e
  unfold dNe
  rw [h, h2, e]
  rfl
def nI : PyData → Nat
  | .int i => i.toNat
  | _ => 0
def whyB (N : Nat) (f : Nat → Nat → Int) : PyData → Bool
  | .tuple [h, a, b] => wd h sOdd && ((isW 0 ((N : Int) - 1) a && isW 0 ((N : Int) - 1) b) && oddB f (nI a) (nI b))
  | .tuple [h, a, b, c] => wd h sChain && ((isW 0 ((N : Int) - 1) a && (isW 0 ((N : Int) - 1) b && isW 0 ((N : Int) - 1) c)) && chB f (nI a) (nI b) (nI c))
  | _ => false
theorem whyB_len (N : Nat) (f : Nat → Nat → Int) : ∀ xs : List PyData, xs.length ≠ 3 → xs.length ≠ 4 → whyB N f (.tuple xs) = false
  | [], _, _ => rfl
  | [_], _, _ => rfl
  | [_, _], _, _ => rfl
  | [_, _, _], h, _ => absurd rfl h
  | [_, _, _, _], _, h => absurd rfl h
  | _ :: _ :: _ :: _ :: _ :: _, _, _ => rfl
theorem isW_nat {N : Nat} {x : PyData} (h : isW 0 ((N : Int) - 1) x = true) : nI x < N ∧ x = .int ((nI x : Nat) : Int) := by
  obtain ⟨i, rfl, h1, h2⟩ := isW_int h
  have : nI (.int i) = i.toNat := rfl
  rw [this]
  exact ⟨by omega, by congr 1; omega⟩
theorem wd_two {h : PyData} (q : wd h sOdd = true) : wd h sChain = false := by
  cases h with
  | str w =>
    have : w = sOdd := by simpa [wd] using q
    subst this
    decide +kernel
  | _ => cases q
theorem shO : shp (.str sOdd) = true := by decide +kernel
theorem shC : shp (.str sChain) = true := by decide +kernel
theorem wn_any {N : Nat} (f : Nat → Nat → Int) {x : PyData} (h : shp x = true) (m : Nat) : m_is_why_none [.d (tbD N f), .d x] m = some (.d (.bool (whyB N f x)), m) := by
  cases x with
  | tuple xs =>
    unfold m_is_why_none b_is_why_none
    have i1 : isa "tuple" (.tuple xs) = true := rfl
    by_cases l3 : xs.length = 3
    · match xs, l3 with
      | [hd, a, b], _ =>
        have hh := shp_mem h hd (by simp)
        have z1 : dNotIn (.int ((0 + 1 + 1 + 1 : Nat) : Int)) (.tuple [.int 3, .int 4]) = some (.d (.bool false)) := by rfl
        have z2 : dEq (.int ((0 + 1 + 1 + 1 : Nat) : Int)) (.int 3) = some (.d (.bool true)) := by rfl
        have x0 : dIx (.tuple [hd, a, b]) (.int 0) = some (.d hd) := rfl
        have x1 : dIx (.tuple [hd, a, b]) (.int 1) = some (.d a) := rfl
        have x2 : dIx (.tuple [hd, a, b]) (.int 2) = some (.d b) := rfl
        have w := wd_ne hh shO
        have w : dNe hd (.str "odd") = some (.d (.bool (!wd hd sOdd))) := w
        cases q : wd hd sOdd with
        | false =>
          rw [q] at w
          have e : whyB N f (.tuple [hd, a, b]) = false := by simp [whyB, q]
          simp -implicitDefEqProofs only [eVar_ap, dVar_ap, eC_ap, dOf_ap, eFrz_ap, eBin_ap, bTest_ap, bTru_ap, bAnd_ap, bOr_ap, bNot_ap, eIf_ap, eB_ap, eAnd_ap, eOr_ap, aNil_ap, aCons_ap, sNil_ap, sCons_ap, eTup_ap, eLst_ap, eCall_ap, eApp_ap, oNone_ap, oSome_ap, eSl_ap, sNil'_ap, sSeq_ap, sBrk_ap, sRet_ap, sRetN_ap, sRetO_ap, sDrop_ap, sIf_ap, sSet_ap, sApp_ap, sTown_ap, sExt_ap, sIns_ap, sSetIx_ap, sAsg_ap, sPar_ap, iOf_ap, iVal_ap, iRng1_ap, iRng2_ap, sFor_ap, eComp_ap, bYes_ap, frzAt_ap, eUn_ap, eNotD_ap, eOrD_ap, eChain_ap, eListRg1_ap, eIsa_ap, eMt_ap, iEnumV_ap, iEnumF_ap, iZipV_ap, iZipF_ap, eTLen_ap, iRng3D_ap, sEnd_ap, eSs_ap, sPar3_ap, xPop_ap, xTup1_ap, xCat_ap, sSetX_ap, sAppX_ap, sParO_ap, sForEI_ap, sForK_ap, eRep_ap, eDicK_ap, eDicT_ap, sPut_ap, eAlt_ap, sTry_ap, eGetD_ap, eLockI_ap, iKeyF_ap, sSetDef_ap, eTupVals_ap, sNst_ap, frzNAt_ap, sAppN_ap, sStN_ap, eListRg2_ap, runB_ap, gOne_ap, gMany_ap, dI_ap, yesC_ap, dCmp_int, setD, kill_nx, kill_rt, kill_bk, Option.bind_some, Option.map_some, Option.bind_none, Option.map_none, List.getElem?_cons_zero, List.getElem?_cons_succ, List.set_cons_zero, List.set_cons_succ, List.cons_append, List.nil_append, List.append_nil, List.replicate, List.length_cons, List.length_nil, Nat.reduceAdd, Nat.reduceSub, Nat.zero_add, wdat_no, wdat_d, wdat_town, wdat_ol, wdat_od, wfrz_no, wfrz_d, wfrz_town, wfrz_ol, wfrz_od, wval_no, wval_d, wval_town, wval_ol, wval_od, warg_no, warg_d, warg_town, warg_ol, warg_od, vals, gLen, gAbs, gMax2, gMin2, gInt, gTup, gList, wipeW, if_true, if_false, Bool.false_eq_true, Bool.not_true, Bool.not_false, reduceCtorEq, i1, dTru_bool, z1, x0, z2, w, Bool.not_false, e]
        | true =>
          rw [q] at w
          have k1 : cutD [hd, a, b] (some 1) none = [a, b] := cutD_drop1 _ _
          have hb : 2 ≤ big := le_big (by decide)
          have c1 := comp_same (g := gOne 2) (own := [2]) (elt := eCall m_is_whole (aCons (eVar 2) (aCons (eC (.int 0)) (aCons (eBin dSub (dOf (eApp gLen (sCons (dVar 0) sNil))) (dOf (eC (.int 1)))) aNil)))) (ρ := [.d (tbD N f), .d (.tuple [hd, a, b]), .no]) (n := m) (fun y => .bool (isW 0 ((N : Int) - 1) y)) [a, b] fun y hy => ⟨_, rfl, by
            have w := whole_any (shp_mem h y (List.mem_cons_of_mem _ hy)) 0 ((N : Int) - 1) m
            simp -implicitDefEqProofs only [eVar_ap, dVar_ap, eC_ap, dOf_ap, eFrz_ap, eBin_ap, bTest_ap, bTru_ap, bAnd_ap, bOr_ap, bNot_ap, eIf_ap, eB_ap, eAnd_ap, eOr_ap, aNil_ap, aCons_ap, sNil_ap, sCons_ap, eTup_ap, eLst_ap, eCall_ap, eApp_ap, oNone_ap, oSome_ap, eSl_ap, sNil'_ap, sSeq_ap, sBrk_ap, sRet_ap, sRetN_ap, sRetO_ap, sDrop_ap, sIf_ap, sSet_ap, sApp_ap, sTown_ap, sExt_ap, sIns_ap, sSetIx_ap, sAsg_ap, sPar_ap, iOf_ap, iVal_ap, iRng1_ap, iRng2_ap, sFor_ap, eComp_ap, bYes_ap, frzAt_ap, eUn_ap, eNotD_ap, eOrD_ap, eChain_ap, eListRg1_ap, eIsa_ap, eMt_ap, iEnumV_ap, iEnumF_ap, iZipV_ap, iZipF_ap, eTLen_ap, iRng3D_ap, sEnd_ap, eSs_ap, sPar3_ap, xPop_ap, xTup1_ap, xCat_ap, sSetX_ap, sAppX_ap, sParO_ap, sForEI_ap, sForK_ap, eRep_ap, eDicK_ap, eDicT_ap, sPut_ap, eAlt_ap, sTry_ap, eGetD_ap, eLockI_ap, iKeyF_ap, sSetDef_ap, eTupVals_ap, sNst_ap, frzNAt_ap, sAppN_ap, sStN_ap, eListRg2_ap, runB_ap, gOne_ap, gMany_ap, dI_ap, yesC_ap, dCmp_int, setD, kill_nx, kill_rt, kill_bk, Option.bind_some, Option.map_some, Option.bind_none, Option.map_none, List.getElem?_cons_zero, List.getElem?_cons_succ, List.set_cons_zero, List.set_cons_succ, List.cons_append, List.nil_append, List.append_nil, List.replicate, List.length_cons, List.length_nil, Nat.reduceAdd, Nat.reduceSub, Nat.zero_add, wdat_no, wdat_d, wdat_town, wdat_ol, wdat_od, wfrz_no, wfrz_d, wfrz_town, wfrz_ol, wfrz_od, wval_no, wval_d, wval_town, wval_ol, wval_od, warg_no, warg_d, warg_town, warg_ol, warg_od, vals, gLen, gAbs, gMax2, gMin2, gInt, gTup, gList, wipeW, if_true, if_false, Bool.false_eq_true, Bool.not_true, Bool.not_false, reduceCtorEq, List.length_map, List.length_range, dSub_int, w]⟩
          have g1 := gAll_map (isW 0 ((N : Int) - 1)) [a, b]
          have e0 : [a, b].all (isW 0 ((N : Int) - 1)) = (isW 0 ((N : Int) - 1) a && isW 0 ((N : Int) - 1) b) := by simp
          rw [e0] at g1
          simp only [List.map_cons, List.map_nil] at c1 g1
          cases p : isW 0 ((N : Int) - 1) a && isW 0 ((N : Int) - 1) b with
          | false =>
            rw [p] at g1
            have e : whyB N f (.tuple [hd, a, b]) = false := by simp only [whyB, q, p, Bool.true_and, Bool.false_and]
            simp -implicitDefEqProofs only [eVar_ap, dVar_ap, eC_ap, dOf_ap, eFrz_ap, eBin_ap, bTest_ap, bTru_ap, bAnd_ap, bOr_ap, bNot_ap, eIf_ap, eB_ap, eAnd_ap, eOr_ap, aNil_ap, aCons_ap, sNil_ap, sCons_ap, eTup_ap, eLst_ap, eCall_ap, eApp_ap, oNone_ap, oSome_ap, eSl_ap, sNil'_ap, sSeq_ap, sBrk_ap, sRet_ap, sRetN_ap, sRetO_ap, sDrop_ap, sIf_ap, sSet_ap, sApp_ap, sTown_ap, sExt_ap, sIns_ap, sSetIx_ap, sAsg_ap, sPar_ap, iOf_ap, iVal_ap, iRng1_ap, iRng2_ap, sFor_ap, eComp_ap, bYes_ap, frzAt_ap, eUn_ap, eNotD_ap, eOrD_ap, eChain_ap, eListRg1_ap, eIsa_ap, eMt_ap, iEnumV_ap, iEnumF_ap, iZipV_ap, iZipF_ap, eTLen_ap, iRng3D_ap, sEnd_ap, eSs_ap, sPar3_ap, xPop_ap, xTup1_ap, xCat_ap, sSetX_ap, sAppX_ap, sParO_ap, sForEI_ap, sForK_ap, eRep_ap, eDicK_ap, eDicT_ap, sPut_ap, eAlt_ap, sTry_ap, eGetD_ap, eLockI_ap, iKeyF_ap, sSetDef_ap, eTupVals_ap, sNst_ap, frzNAt_ap, sAppN_ap, sStN_ap, eListRg2_ap, runB_ap, gOne_ap, gMany_ap, dI_ap, yesC_ap, dCmp_int, setD, kill_nx, kill_rt, kill_bk, Option.bind_some, Option.map_some, Option.bind_none, Option.map_none, List.getElem?_cons_zero, List.getElem?_cons_succ, List.set_cons_zero, List.set_cons_succ, List.cons_append, List.nil_append, List.append_nil, List.replicate, List.length_cons, List.length_nil, Nat.reduceAdd, Nat.reduceSub, Nat.zero_add, wdat_no, wdat_d, wdat_town, wdat_ol, wdat_od, wfrz_no, wfrz_d, wfrz_town, wfrz_ol, wfrz_od, wval_no, wval_d, wval_town, wval_ol, wval_od, warg_no, warg_d, warg_town, warg_ol, warg_od, vals, gLen, gAbs, gMax2, gMin2, gInt, gTup, gList, wipeW, if_true, if_false, Bool.false_eq_true, Bool.not_true, Bool.not_false, reduceCtorEq, i1, dTru_bool, z1, x0, z2, w, Bool.not_true, dSl, k1, iSeq, hb, c1, g1, e]
          | true =>
            rw [p] at g1
            rw [Bool.and_eq_true] at p
            obtain ⟨a1, a2⟩ := isW_nat p.1
            obtain ⟨b1, b2⟩ := isW_nat p.2
            have e : whyB N f (.tuple [hd, a, b]) = oddB f (nI a) (nI b) := by simp only [whyB, q, p.1, p.2, Bool.true_and]
            have o := odd_ok (f := f) a1 b1 m
            rw [← a2, ← b2] at o
            simp -implicitDefEqProofs only [eVar_ap, dVar_ap, eC_ap, dOf_ap, eFrz_ap, eBin_ap, bTest_ap, bTru_ap, bAnd_ap, bOr_ap, bNot_ap, eIf_ap, eB_ap, eAnd_ap, eOr_ap, aNil_ap, aCons_ap, sNil_ap, sCons_ap, eTup_ap, eLst_ap, eCall_ap, eApp_ap, oNone_ap, oSome_ap, eSl_ap, sNil'_ap, sSeq_ap, sBrk_ap, sRet_ap, sRetN_ap, sRetO_ap, sDrop_ap, sIf_ap, sSet_ap, sApp_ap, sTown_ap, sExt_ap, sIns_ap, sSetIx_ap, sAsg_ap, sPar_ap, iOf_ap, iVal_ap, iRng1_ap, iRng2_ap, sFor_ap, eComp_ap, bYes_ap, frzAt_ap, eUn_ap, eNotD_ap, eOrD_ap, eChain_ap, eListRg1_ap, eIsa_ap, eMt_ap, iEnumV_ap, iEnumF_ap, iZipV_ap, iZipF_ap, eTLen_ap, iRng3D_ap, sEnd_ap, eSs_ap, sPar3_ap, xPop_ap, xTup1_ap, xCat_ap, sSetX_ap, sAppX_ap, sParO_ap, sForEI_ap, sForK_ap, eRep_ap, eDicK_ap, eDicT_ap, sPut_ap, eAlt_ap, sTry_ap, eGetD_ap, eLockI_ap, iKeyF_ap, sSetDef_ap, eTupVals_ap, sNst_ap, frzNAt_ap, sAppN_ap, sStN_ap, eListRg2_ap, runB_ap, gOne_ap, gMany_ap, dI_ap, yesC_ap, dCmp_int, setD, kill_nx, kill_rt, kill_bk, Option.bind_some, Option.map_some, Option.bind_none, Option.map_none, List.getElem?_cons_zero, List.getElem?_cons_succ, List.set_cons_zero, List.set_cons_succ, List.cons_append, List.nil_append, List.append_nil, List.replicate, List.length_cons, List.length_nil, Nat.reduceAdd, Nat.reduceSub, Nat.zero_add, wdat_no, wdat_d, wdat_town, wdat_ol, wdat_od, wfrz_no, wfrz_d, wfrz_town, wfrz_ol, wfrz_od, wval_no, wval_d, wval_town, wval_ol, wval_od, warg_no, warg_d, warg_town, warg_ol, warg_od, vals, gLen, gAbs, gMax2, gMin2, gInt, gTup, gList, wipeW, if_true, if_false, Bool.false_eq_true, Bool.not_true, Bool.not_false, reduceCtorEq, i1, dTru_bool, z1, x0, z2, w, Bool.not_true, dSl, k1, iSeq, hb, c1, g1, x1, x2, o, e]
    by_cases l4 : xs.length = 4
    · match xs, l4 with
      | [hd, a, b, c], _ =>
        have hh := shp_mem h hd (by simp)
        have z1 : dNotIn (.int ((0 + 1 + 1 + 1 + 1 : Nat) : Int)) (.tuple [.int 3, .int 4]) = some (.d (.bool false)) := by rfl
        have z2 : dEq (.int ((0 + 1 + 1 + 1 + 1 : Nat) : Int)) (.int 3) = some (.d (.bool false)) := by rfl
        have x0 : dIx (.tuple [hd, a, b, c]) (.int 0) = some (.d hd) := rfl
        have x1 : dIx (.tuple [hd, a, b, c]) (.int 1) = some (.d a) := rfl
        have x2 : dIx (.tuple [hd, a, b, c]) (.int 2) = some (.d b) := rfl
        have x3 : dIx (.tuple [hd, a, b, c]) (.int 3) = some (.d c) := rfl
        have w := wd_ne hh shC
        have w : dNe hd (.str "chain") = some (.d (.bool (!wd hd sChain))) := w
        cases q : wd hd sChain with
        | false =>
          rw [q] at w
          have e : whyB N f (.tuple [hd, a, b, c]) = false := by simp [whyB, q]
          simp -implicitDefEqProofs only [eVar_ap, dVar_ap, eC_ap, dOf_ap, eFrz_ap, eBin_ap, bTest_ap, bTru_ap, bAnd_ap, bOr_ap, bNot_ap, eIf_ap, eB_ap, eAnd_ap, eOr_ap, aNil_ap, aCons_ap, sNil_ap, sCons_ap, eTup_ap, eLst_ap, eCall_ap, eApp_ap, oNone_ap, oSome_ap, eSl_ap, sNil'_ap, sSeq_ap, sBrk_ap, sRet_ap, sRetN_ap, sRetO_ap, sDrop_ap, sIf_ap, sSet_ap, sApp_ap, sTown_ap, sExt_ap, sIns_ap, sSetIx_ap, sAsg_ap, sPar_ap, iOf_ap, iVal_ap, iRng1_ap, iRng2_ap, sFor_ap, eComp_ap, bYes_ap, frzAt_ap, eUn_ap, eNotD_ap, eOrD_ap, eChain_ap, eListRg1_ap, eIsa_ap, eMt_ap, iEnumV_ap, iEnumF_ap, iZipV_ap, iZipF_ap, eTLen_ap, iRng3D_ap, sEnd_ap, eSs_ap, sPar3_ap, xPop_ap, xTup1_ap, xCat_ap, sSetX_ap, sAppX_ap, sParO_ap, sForEI_ap, sForK_ap, eRep_ap, eDicK_ap, eDicT_ap, sPut_ap, eAlt_ap, sTry_ap, eGetD_ap, eLockI_ap, iKeyF_ap, sSetDef_ap, eTupVals_ap, sNst_ap, frzNAt_ap, sAppN_ap, sStN_ap, eListRg2_ap, runB_ap, gOne_ap, gMany_ap, dI_ap, yesC_ap, dCmp_int, setD, kill_nx, kill_rt, kill_bk, Option.bind_some, Option.map_some, Option.bind_none, Option.map_none, List.getElem?_cons_zero, List.getElem?_cons_succ, List.set_cons_zero, List.set_cons_succ, List.cons_append, List.nil_append, List.append_nil, List.replicate, List.length_cons, List.length_nil, Nat.reduceAdd, Nat.reduceSub, Nat.zero_add, wdat_no, wdat_d, wdat_town, wdat_ol, wdat_od, wfrz_no, wfrz_d, wfrz_town, wfrz_ol, wfrz_od, wval_no, wval_d, wval_town, wval_ol, wval_od, warg_no, warg_d, warg_town, warg_ol, warg_od, vals, gLen, gAbs, gMax2, gMin2, gInt, gTup, gList, wipeW, if_true, if_false, Bool.false_eq_true, Bool.not_true, Bool.not_false, reduceCtorEq, i1, dTru_bool, z1, x0, z2, w, Bool.not_false, e]
        | true =>
          rw [q] at w
          have k1 : cutD [hd, a, b, c] (some 1) none = [a, b, c] := cutD_drop1 _ _
          have hb : 3 ≤ big := le_big (by decide)
          have c1 := comp_same (g := gOne 2) (own := [2]) (elt := eCall m_is_whole (aCons (eVar 2) (aCons (eC (.int 0)) (aCons (eBin dSub (dOf (eApp gLen (sCons (dVar 0) sNil))) (dOf (eC (.int 1)))) aNil)))) (ρ := [.d (tbD N f), .d (.tuple [hd, a, b, c]), .no]) (n := m) (fun y => .bool (isW 0 ((N : Int) - 1) y)) [a, b, c] fun y hy => ⟨_, rfl, by
            have w := whole_any (shp_mem h y (List.mem_cons_of_mem _ hy)) 0 ((N : Int) - 1) m
            simp -implicitDefEqProofs only [eVar_ap, dVar_ap, eC_ap, dOf_ap, eFrz_ap, eBin_ap, bTest_ap, bTru_ap, bAnd_ap, bOr_ap, bNot_ap, eIf_ap, eB_ap, eAnd_ap, eOr_ap, aNil_ap, aCons_ap, sNil_ap, sCons_ap, eTup_ap, eLst_ap, eCall_ap, eApp_ap, oNone_ap, oSome_ap, eSl_ap, sNil'_ap, sSeq_ap, sBrk_ap, sRet_ap, sRetN_ap, sRetO_ap, sDrop_ap, sIf_ap, sSet_ap, sApp_ap, sTown_ap, sExt_ap, sIns_ap, sSetIx_ap, sAsg_ap, sPar_ap, iOf_ap, iVal_ap, iRng1_ap, iRng2_ap, sFor_ap, eComp_ap, bYes_ap, frzAt_ap, eUn_ap, eNotD_ap, eOrD_ap, eChain_ap, eListRg1_ap, eIsa_ap, eMt_ap, iEnumV_ap, iEnumF_ap, iZipV_ap, iZipF_ap, eTLen_ap, iRng3D_ap, sEnd_ap, eSs_ap, sPar3_ap, xPop_ap, xTup1_ap, xCat_ap, sSetX_ap, sAppX_ap, sParO_ap, sForEI_ap, sForK_ap, eRep_ap, eDicK_ap, eDicT_ap, sPut_ap, eAlt_ap, sTry_ap, eGetD_ap, eLockI_ap, iKeyF_ap, sSetDef_ap, eTupVals_ap, sNst_ap, frzNAt_ap, sAppN_ap, sStN_ap, eListRg2_ap, runB_ap, gOne_ap, gMany_ap, dI_ap, yesC_ap, dCmp_int, setD, kill_nx, kill_rt, kill_bk, Option.bind_some, Option.map_some, Option.bind_none, Option.map_none, List.getElem?_cons_zero, List.getElem?_cons_succ, List.set_cons_zero, List.set_cons_succ, List.cons_append, List.nil_append, List.append_nil, List.replicate, List.length_cons, List.length_nil, Nat.reduceAdd, Nat.reduceSub, Nat.zero_add, wdat_no, wdat_d, wdat_town, wdat_ol, wdat_od, wfrz_no, wfrz_d, wfrz_town, wfrz_ol, wfrz_od, wval_no, wval_d, wval_town, wval_ol, wval_od, warg_no, warg_d, warg_town, warg_ol, warg_od, vals, gLen, gAbs, gMax2, gMin2, gInt, gTup, gList, wipeW, if_true, if_false, Bool.false_eq_true, Bool.not_true, Bool.not_false, reduceCtorEq, List.length_map, List.length_range, dSub_int, w]⟩
          have g1 := gAll_map (isW 0 ((N : Int) - 1)) [a, b, c]
          have e0 : [a, b, c].all (isW 0 ((N : Int) - 1)) = (isW 0 ((N : Int) - 1) a && (isW 0 ((N : Int) - 1) b && isW 0 ((N : Int) - 1) c)) := by simp
          rw [e0] at g1
          simp only [List.map_cons, List.map_nil] at c1 g1
          cases p : isW 0 ((N : Int) - 1) a && (isW 0 ((N : Int) - 1) b && isW 0 ((N : Int) - 1) c) with
          | false =>
            rw [p] at g1
            have e : whyB N f (.tuple [hd, a, b, c]) = false := by simp only [whyB, q, p, Bool.true_and, Bool.false_and]
            simp -implicitDefEqProofs only [eVar_ap, dVar_ap, eC_ap, dOf_ap, eFrz_ap, eBin_ap, bTest_ap, bTru_ap, bAnd_ap, bOr_ap, bNot_ap, eIf_ap, eB_ap, eAnd_ap, eOr_ap, aNil_ap, aCons_ap, sNil_ap, sCons_ap, eTup_ap, eLst_ap, eCall_ap, eApp_ap, oNone_ap, oSome_ap, eSl_ap, sNil'_ap, sSeq_ap, sBrk_ap, sRet_ap, sRetN_ap, sRetO_ap, sDrop_ap, sIf_ap, sSet_ap, sApp_ap, sTown_ap, sExt_ap, sIns_ap, sSetIx_ap, sAsg_ap, sPar_ap, iOf_ap, iVal_ap, iRng1_ap, iRng2_ap, sFor_ap, eComp_ap, bYes_ap, frzAt_ap, eUn_ap, eNotD_ap, eOrD_ap, eChain_ap, eListRg1_ap, eIsa_ap, eMt_ap, iEnumV_ap, iEnumF_ap, iZipV_ap, iZipF_ap, eTLen_ap, iRng3D_ap, sEnd_ap, eSs_ap, sPar3_ap, xPop_ap, xTup1_ap, xCat_ap, sSetX_ap, sAppX_ap, sParO_ap, sForEI_ap, sForK_ap, eRep_ap, eDicK_ap, eDicT_ap, sPut_ap, eAlt_ap, sTry_ap, eGetD_ap, eLockI_ap, iKeyF_ap, sSetDef_ap, eTupVals_ap, sNst_ap, frzNAt_ap, sAppN_ap, sStN_ap, eListRg2_ap, runB_ap, gOne_ap, gMany_ap, dI_ap, yesC_ap, dCmp_int, setD, kill_nx, kill_rt, kill_bk, Option.bind_some, Option.map_some, Option.bind_none, Option.map_none, List.getElem?_cons_zero, List.getElem?_cons_succ, List.set_cons_zero, List.set_cons_succ, List.cons_append, List.nil_append, List.append_nil, List.replicate, List.length_cons, List.length_nil, Nat.reduceAdd, Nat.reduceSub, Nat.zero_add, wdat_no, wdat_d, wdat_town, wdat_ol, wdat_od, wfrz_no, wfrz_d, wfrz_town, wfrz_ol, wfrz_od, wval_no, wval_d, wval_town, wval_ol, wval_od, warg_no, warg_d, warg_town, warg_ol, warg_od, vals, gLen, gAbs, gMax2, gMin2, gInt, gTup, gList, wipeW, if_true, if_false, Bool.false_eq_true, Bool.not_true, Bool.not_false, reduceCtorEq, i1, dTru_bool, z1, x0, z2, w, Bool.not_true, dSl, k1, iSeq, hb, c1, g1, e]
          | true =>
            rw [p] at g1
            rw [Bool.and_eq_true, Bool.and_eq_true] at p
            obtain ⟨a1, a2⟩ := isW_nat p.1
            obtain ⟨b1, b2⟩ := isW_nat p.2.1
            obtain ⟨c1', c2⟩ := isW_nat p.2.2
            have e : whyB N f (.tuple [hd, a, b, c]) = chB f (nI a) (nI b) (nI c) := by simp only [whyB, q, p.1, p.2.1, p.2.2, Bool.true_and]
            have o := chain_ok (f := f) a1 b1 c1' m
            rw [← a2, ← b2, ← c2] at o
            simp -implicitDefEqProofs only [eVar_ap, dVar_ap, eC_ap, dOf_ap, eFrz_ap, eBin_ap, bTest_ap, bTru_ap, bAnd_ap, bOr_ap, bNot_ap, eIf_ap, eB_ap, eAnd_ap, eOr_ap, aNil_ap, aCons_ap, sNil_ap, sCons_ap, eTup_ap, eLst_ap, eCall_ap, eApp_ap, oNone_ap, oSome_ap, eSl_ap, sNil'_ap, sSeq_ap, sBrk_ap, sRet_ap, sRetN_ap, sRetO_ap, sDrop_ap, sIf_ap, sSet_ap, sApp_ap, sTown_ap, sExt_ap, sIns_ap, sSetIx_ap, sAsg_ap, sPar_ap, iOf_ap, iVal_ap, iRng1_ap, iRng2_ap, sFor_ap, eComp_ap, bYes_ap, frzAt_ap, eUn_ap, eNotD_ap, eOrD_ap, eChain_ap, eListRg1_ap, eIsa_ap, eMt_ap, iEnumV_ap, iEnumF_ap, iZipV_ap, iZipF_ap, eTLen_ap, iRng3D_ap, sEnd_ap, eSs_ap, sPar3_ap, xPop_ap, xTup1_ap, xCat_ap, sSetX_ap, sAppX_ap, sParO_ap, sForEI_ap, sForK_ap, eRep_ap, eDicK_ap, eDicT_ap, sPut_ap, eAlt_ap, sTry_ap, eGetD_ap, eLockI_ap, iKeyF_ap, sSetDef_ap, eTupVals_ap, sNst_ap, frzNAt_ap, sAppN_ap, sStN_ap, eListRg2_ap, runB_ap, gOne_ap, gMany_ap, dI_ap, yesC_ap, dCmp_int, setD, kill_nx, kill_rt, kill_bk, Option.bind_some, Option.map_some, Option.bind_none, Option.map_none, List.getElem?_cons_zero, List.getElem?_cons_succ, List.set_cons_zero, List.set_cons_succ, List.cons_append, List.nil_append, List.append_nil, List.replicate, List.length_cons, List.length_nil, Nat.reduceAdd, Nat.reduceSub, Nat.zero_add, wdat_no, wdat_d, wdat_town, wdat_ol, wdat_od, wfrz_no, wfrz_d, wfrz_town, wfrz_ol, wfrz_od, wval_no, wval_d, wval_town, wval_ol, wval_od, warg_no, warg_d, warg_town, warg_ol, warg_od, vals, gLen, gAbs, gMax2, gMin2, gInt, gTup, gList, wipeW, if_true, if_false, Bool.false_eq_true, Bool.not_true, Bool.not_false, reduceCtorEq, i1, dTru_bool, z1, x0, z2, w, Bool.not_true, dSl, k1, iSeq, hb, c1, g1, x1, x2, x3, o, e]
    · have z := dNotIn_ints (xs.length : Int) [3, 4]
      have z : dNotIn (.int (xs.length : Int)) (.tuple [.int 3, .int 4]) = some (.d (.bool true)) := by
        have e : (!decide ((xs.length : Int) ∈ [(3 : Int), 4])) = true := by simp; omega
        rw [e] at z
        exact z
      have e := whyB_len N f xs l3 l4
      simp -implicitDefEqProofs only [eVar_ap, dVar_ap, eC_ap, dOf_ap, eFrz_ap, eBin_ap, bTest_ap, bTru_ap, bAnd_ap, bOr_ap, bNot_ap, eIf_ap, eB_ap, eAnd_ap, eOr_ap, aNil_ap, aCons_ap, sNil_ap, sCons_ap, eTup_ap, eLst_ap, eCall_ap, eApp_ap, oNone_ap, oSome_ap, eSl_ap, sNil'_ap, sSeq_ap, sBrk_ap, sRet_ap, sRetN_ap, sRetO_ap, sDrop_ap, sIf_ap, sSet_ap, sApp_ap, sTown_ap, sExt_ap, sIns_ap, sSetIx_ap, sAsg_ap, sPar_ap, iOf_ap, iVal_ap, iRng1_ap, iRng2_ap, sFor_ap, eComp_ap, bYes_ap, frzAt_ap, eUn_ap, eNotD_ap, eOrD_ap, eChain_ap, eListRg1_ap, eIsa_ap, eMt_ap, iEnumV_ap, iEnumF_ap, iZipV_ap, iZipF_ap, eTLen_ap, iRng3D_ap, sEnd_ap, eSs_ap, sPar3_ap, xPop_ap, xTup1_ap, xCat_ap, sSetX_ap, sAppX_ap, sParO_ap, sForEI_ap, sForK_ap, eRep_ap, eDicK_ap, eDicT_ap, sPut_ap, eAlt_ap, sTry_ap, eGetD_ap, eLockI_ap, iKeyF_ap, sSetDef_ap, eTupVals_ap, sNst_ap, frzNAt_ap, sAppN_ap, sStN_ap, eListRg2_ap, runB_ap, gOne_ap, gMany_ap, dI_ap, yesC_ap, dCmp_int, setD, kill_nx, kill_rt, kill_bk, Option.bind_some, Option.map_some, Option.bind_none, Option.map_none, List.getElem?_cons_zero, List.getElem?_cons_succ, List.set_cons_zero, List.set_cons_succ, List.cons_append, List.nil_append, List.append_nil, List.replicate, List.length_cons, List.length_nil, Nat.reduceAdd, Nat.reduceSub, Nat.zero_add, wdat_no, wdat_d, wdat_town, wdat_ol, wdat_od, wfrz_no, wfrz_d, wfrz_town, wfrz_ol, wfrz_od, wval_no, wval_d, wval_town, wval_ol, wval_od, warg_no, warg_d, warg_town, warg_ol, warg_od, vals, gLen, gAbs, gMax2, gMin2, gInt, gTup, gList, wipeW, if_true, if_false, Bool.false_eq_true, Bool.not_true, Bool.not_false, reduceCtorEq, i1, dTru_bool, z, e]
  | none => rfl
  | bool b => rfl
  | str s => rfl
  | list xs => rfl
  | int i => rfl
  | dict kvs => exact absurd rfl (noD h kvs)
theorem lw_loop {N : Nat} (f : Nat → Nat → Int) (w : W) (m : Nat) (xs : List PyData) (h : ∀ y ∈ xs, shp y = true) : loopF (gOne 2) l__law_is_why_1 xs [.d (tbD N f), w, .no] m = some (if xs.all (isW 0 ((N : Int) - 1)) then .nx [.d (tbD N f), w, .no] m else .rt (.d (.bool false)) m) := by
  have e2 := loopF_find (g := gOne 2) (body := l__law_is_why_1) (ρ := [.d (tbD N f), w, .no]) (n := m) (fun y : PyData => y) (fun y => if isW 0 ((N : Int) - 1) y then none else some (.d (.bool false))) xs fun y hy => ⟨_, rfl, by
    have hy' := h y hy
    unfold l__law_is_why_1
    cases y with
    | int i =>
      have e : isW 0 ((N : Int) - 1) (.int i) = (decide (0 ≤ i) && decide (i ≤ (N : Int) - 1)) := rfl
      by_cases a1 : i < 0
      · have : decide (0 ≤ i) = false := decide_eq_false (by omega)
        rw [this, Bool.false_and] at e
        rw [e]
        simp -implicitDefEqProofs only [eVar_ap, dVar_ap, eC_ap, dOf_ap, eFrz_ap, eBin_ap, bTest_ap, bTru_ap, bAnd_ap, bOr_ap, bNot_ap, eIf_ap, eB_ap, eAnd_ap, eOr_ap, aNil_ap, aCons_ap, sNil_ap, sCons_ap, eTup_ap, eLst_ap, eCall_ap, eApp_ap, oNone_ap, oSome_ap, eSl_ap, sNil'_ap, sSeq_ap, sBrk_ap, sRet_ap, sRetN_ap, sRetO_ap, sDrop_ap, sIf_ap, sSet_ap, sApp_ap, sTown_ap, sExt_ap, sIns_ap, sSetIx_ap, sAsg_ap, sPar_ap, iOf_ap, iVal_ap, iRng1_ap, iRng2_ap, sFor_ap, eComp_ap, bYes_ap, frzAt_ap, eUn_ap, eNotD_ap, eOrD_ap, eChain_ap, eListRg1_ap, eIsa_ap, eMt_ap, iEnumV_ap, iEnumF_ap, iZipV_ap, iZipF_ap, eTLen_ap, iRng3D_ap, sEnd_ap, eSs_ap, sPar3_ap, xPop_ap, xTup1_ap, xCat_ap, sSetX_ap, sAppX_ap, sParO_ap, sForEI_ap, sForK_ap, eRep_ap, eDicK_ap, eDicT_ap, sPut_ap, eAlt_ap, sTry_ap, eGetD_ap, eLockI_ap, iKeyF_ap, sSetDef_ap, eTupVals_ap, sNst_ap, frzNAt_ap, sAppN_ap, sStN_ap, eListRg2_ap, runB_ap, gOne_ap, gMany_ap, dI_ap, yesC_ap, dCmp_int, setD, kill_nx, kill_rt, kill_bk, Option.bind_some, Option.map_some, Option.bind_none, Option.map_none, List.getElem?_cons_zero, List.getElem?_cons_succ, List.set_cons_zero, List.set_cons_succ, List.cons_append, List.nil_append, List.append_nil, List.replicate, List.length_cons, List.length_nil, Nat.reduceAdd, Nat.reduceSub, Nat.zero_add, wdat_no, wdat_d, wdat_town, wdat_ol, wdat_od, wfrz_no, wfrz_d, wfrz_town, wfrz_ol, wfrz_od, wval_no, wval_d, wval_town, wval_ol, wval_od, warg_no, warg_d, warg_town, warg_ol, warg_od, vals, gLen, gAbs, gMax2, gMin2, gInt, gTup, gList, wipeW, if_true, if_false, Bool.false_eq_true, Bool.not_true, Bool.not_false, reduceCtorEq, isa_i_i, isa_b_i, dTru_bool, rLt_t a1] <;> rfl
      · have a0 : decide (0 ≤ i) = true := decide_eq_true (by omega)
        rw [a0, Bool.true_and] at e
        by_cases a2 : i ≥ (N : Int)
        · have g : rGe i (N : Int) = true := decide_eq_true a2
          rw [decide_eq_false (show ¬ i ≤ (N : Int) - 1 by omega)] at e
          rw [e]
          simp -implicitDefEqProofs only [eVar_ap, dVar_ap, eC_ap, dOf_ap, eFrz_ap, eBin_ap, bTest_ap, bTru_ap, bAnd_ap, bOr_ap, bNot_ap, eIf_ap, eB_ap, eAnd_ap, eOr_ap, aNil_ap, aCons_ap, sNil_ap, sCons_ap, eTup_ap, eLst_ap, eCall_ap, eApp_ap, oNone_ap, oSome_ap, eSl_ap, sNil'_ap, sSeq_ap, sBrk_ap, sRet_ap, sRetN_ap, sRetO_ap, sDrop_ap, sIf_ap, sSet_ap, sApp_ap, sTown_ap, sExt_ap, sIns_ap, sSetIx_ap, sAsg_ap, sPar_ap, iOf_ap, iVal_ap, iRng1_ap, iRng2_ap, sFor_ap, eComp_ap, bYes_ap, frzAt_ap, eUn_ap, eNotD_ap, eOrD_ap, eChain_ap, eListRg1_ap, eIsa_ap, eMt_ap, iEnumV_ap, iEnumF_ap, iZipV_ap, iZipF_ap, eTLen_ap, iRng3D_ap, sEnd_ap, eSs_ap, sPar3_ap, xPop_ap, xTup1_ap, xCat_ap, sSetX_ap, sAppX_ap, sParO_ap, sForEI_ap, sForK_ap, eRep_ap, eDicK_ap, eDicT_ap, sPut_ap, eAlt_ap, sTry_ap, eGetD_ap, eLockI_ap, iKeyF_ap, sSetDef_ap, eTupVals_ap, sNst_ap, frzNAt_ap, sAppN_ap, sStN_ap, eListRg2_ap, runB_ap, gOne_ap, gMany_ap, dI_ap, yesC_ap, dCmp_int, setD, kill_nx, kill_rt, kill_bk, Option.bind_some, Option.map_some, Option.bind_none, Option.map_none, List.getElem?_cons_zero, List.getElem?_cons_succ, List.set_cons_zero, List.set_cons_succ, List.cons_append, List.nil_append, List.append_nil, List.replicate, List.length_cons, List.length_nil, Nat.reduceAdd, Nat.reduceSub, Nat.zero_add, wdat_no, wdat_d, wdat_town, wdat_ol, wdat_od, wfrz_no, wfrz_d, wfrz_town, wfrz_ol, wfrz_od, wval_no, wval_d, wval_town, wval_ol, wval_od, warg_no, warg_d, warg_town, warg_ol, warg_od, vals, gLen, gAbs, gMax2, gMin2, gInt, gTup, gList, wipeW, if_true, if_false, Bool.false_eq_true, Bool.not_true, Bool.not_false, reduceCtorEq, isa_i_i, isa_b_i, dTru_bool, rLt_f a1, List.length_map, List.length_range, g] <;> rfl
        · have g : rGe i (N : Int) = false := decide_eq_false a2
          rw [decide_eq_true (show i ≤ (N : Int) - 1 by omega)] at e
          rw [e]
          simp -implicitDefEqProofs only [eVar_ap, dVar_ap, eC_ap, dOf_ap, eFrz_ap, eBin_ap, bTest_ap, bTru_ap, bAnd_ap, bOr_ap, bNot_ap, eIf_ap, eB_ap, eAnd_ap, eOr_ap, aNil_ap, aCons_ap, sNil_ap, sCons_ap, eTup_ap, eLst_ap, eCall_ap, eApp_ap, oNone_ap, oSome_ap, eSl_ap, sNil'_ap, sSeq_ap, sBrk_ap, sRet_ap, sRetN_ap, sRetO_ap, sDrop_ap, sIf_ap, sSet_ap, sApp_ap, sTown_ap, sExt_ap, sIns_ap, sSetIx_ap, sAsg_ap, sPar_ap, iOf_ap, iVal_ap, iRng1_ap, iRng2_ap, sFor_ap, eComp_ap, bYes_ap, frzAt_ap, eUn_ap, eNotD_ap, eOrD_ap, eChain_ap, eListRg1_ap, eIsa_ap, eMt_ap, iEnumV_ap, iEnumF_ap, iZipV_ap, iZipF_ap, eTLen_ap, iRng3D_ap, sEnd_ap, eSs_ap, sPar3_ap, xPop_ap, xTup1_ap, xCat_ap, sSetX_ap, sAppX_ap, sParO_ap, sForEI_ap, sForK_ap, eRep_ap, eDicK_ap, eDicT_ap, sPut_ap, eAlt_ap, sTry_ap, eGetD_ap, eLockI_ap, iKeyF_ap, sSetDef_ap, eTupVals_ap, sNst_ap, frzNAt_ap, sAppN_ap, sStN_ap, eListRg2_ap, runB_ap, gOne_ap, gMany_ap, dI_ap, yesC_ap, dCmp_int, setD, kill_nx, kill_rt, kill_bk, Option.bind_some, Option.map_some, Option.bind_none, Option.map_none, List.getElem?_cons_zero, List.getElem?_cons_succ, List.set_cons_zero, List.set_cons_succ, List.cons_append, List.nil_append, List.append_nil, List.replicate, List.length_cons, List.length_nil, Nat.reduceAdd, Nat.reduceSub, Nat.zero_add, wdat_no, wdat_d, wdat_town, wdat_ol, wdat_od, wfrz_no, wfrz_d, wfrz_town, wfrz_ol, wfrz_od, wval_no, wval_d, wval_town, wval_ol, wval_od, warg_no, warg_d, warg_town, warg_ol, warg_od, vals, gLen, gAbs, gMax2, gMin2, gInt, gTup, gList, wipeW, if_true, if_false, Bool.false_eq_true, Bool.not_true, Bool.not_false, reduceCtorEq, isa_i_i, isa_b_i, dTru_bool, rLt_f a1, List.length_map, List.length_range, g] <;> rfl
    | dict kvs => exact absurd rfl (noD hy' kvs)
    | bool b => simp -implicitDefEqProofs only [eVar_ap, dVar_ap, eC_ap, dOf_ap, eFrz_ap, eBin_ap, bTest_ap, bTru_ap, bAnd_ap, bOr_ap, bNot_ap, eIf_ap, eB_ap, eAnd_ap, eOr_ap, aNil_ap, aCons_ap, sNil_ap, sCons_ap, eTup_ap, eLst_ap, eCall_ap, eApp_ap, oNone_ap, oSome_ap, eSl_ap, sNil'_ap, sSeq_ap, sBrk_ap, sRet_ap, sRetN_ap, sRetO_ap, sDrop_ap, sIf_ap, sSet_ap, sApp_ap, sTown_ap, sExt_ap, sIns_ap, sSetIx_ap, sAsg_ap, sPar_ap, iOf_ap, iVal_ap, iRng1_ap, iRng2_ap, sFor_ap, eComp_ap, bYes_ap, frzAt_ap, eUn_ap, eNotD_ap, eOrD_ap, eChain_ap, eListRg1_ap, eIsa_ap, eMt_ap, iEnumV_ap, iEnumF_ap, iZipV_ap, iZipF_ap, eTLen_ap, iRng3D_ap, sEnd_ap, eSs_ap, sPar3_ap, xPop_ap, xTup1_ap, xCat_ap, sSetX_ap, sAppX_ap, sParO_ap, sForEI_ap, sForK_ap, eRep_ap, eDicK_ap, eDicT_ap, sPut_ap, eAlt_ap, sTry_ap, eGetD_ap, eLockI_ap, iKeyF_ap, sSetDef_ap, eTupVals_ap, sNst_ap, frzNAt_ap, sAppN_ap, sStN_ap, eListRg2_ap, runB_ap, gOne_ap, gMany_ap, dI_ap, yesC_ap, dCmp_int, setD, kill_nx, kill_rt, kill_bk, Option.bind_some, Option.map_some, Option.bind_none, Option.map_none, List.getElem?_cons_zero, List.getElem?_cons_succ, List.set_cons_zero, List.set_cons_succ, List.cons_append, List.nil_append, List.append_nil, List.replicate, List.length_cons, List.length_nil, Nat.reduceAdd, Nat.reduceSub, Nat.zero_add, wdat_no, wdat_d, wdat_town, wdat_ol, wdat_od, wfrz_no, wfrz_d, wfrz_town, wfrz_ol, wfrz_od, wval_no, wval_d, wval_town, wval_ol, wval_od, warg_no, warg_d, warg_town, warg_ol, warg_od, vals, gLen, gAbs, gMax2, gMin2, gInt, gTup, gList, wipeW, if_true, if_false, Bool.false_eq_true, Bool.not_true, Bool.not_false, reduceCtorEq, isa_i_b, isa_b_b, dTru_bool] <;> rfl
    | list zs =>
      have i3 : isa "int" (.list zs) = false := rfl
      simp -implicitDefEqProofs only [eVar_ap, dVar_ap, eC_ap, dOf_ap, eFrz_ap, eBin_ap, bTest_ap, bTru_ap, bAnd_ap, bOr_ap, bNot_ap, eIf_ap, eB_ap, eAnd_ap, eOr_ap, aNil_ap, aCons_ap, sNil_ap, sCons_ap, eTup_ap, eLst_ap, eCall_ap, eApp_ap, oNone_ap, oSome_ap, eSl_ap, sNil'_ap, sSeq_ap, sBrk_ap, sRet_ap, sRetN_ap, sRetO_ap, sDrop_ap, sIf_ap, sSet_ap, sApp_ap, sTown_ap, sExt_ap, sIns_ap, sSetIx_ap, sAsg_ap, sPar_ap, iOf_ap, iVal_ap, iRng1_ap, iRng2_ap, sFor_ap, eComp_ap, bYes_ap, frzAt_ap, eUn_ap, eNotD_ap, eOrD_ap, eChain_ap, eListRg1_ap, eIsa_ap, eMt_ap, iEnumV_ap, iEnumF_ap, iZipV_ap, iZipF_ap, eTLen_ap, iRng3D_ap, sEnd_ap, eSs_ap, sPar3_ap, xPop_ap, xTup1_ap, xCat_ap, sSetX_ap, sAppX_ap, sParO_ap, sForEI_ap, sForK_ap, eRep_ap, eDicK_ap, eDicT_ap, sPut_ap, eAlt_ap, sTry_ap, eGetD_ap, eLockI_ap, iKeyF_ap, sSetDef_ap, eTupVals_ap, sNst_ap, frzNAt_ap, sAppN_ap, sStN_ap, eListRg2_ap, runB_ap, gOne_ap, gMany_ap, dI_ap, yesC_ap, dCmp_int, setD, kill_nx, kill_rt, kill_bk, Option.bind_some, Option.map_some, Option.bind_none, Option.map_none, List.getElem?_cons_zero, List.getElem?_cons_succ, List.set_cons_zero, List.set_cons_succ, List.cons_append, List.nil_append, List.append_nil, List.replicate, List.length_cons, List.length_nil, Nat.reduceAdd, Nat.reduceSub, Nat.zero_add, wdat_no, wdat_d, wdat_town, wdat_ol, wdat_od, wfrz_no, wfrz_d, wfrz_town, wfrz_ol, wfrz_od, wval_no, wval_d, wval_town, wval_ol, wval_od, warg_no, warg_d, warg_town, warg_ol, warg_od, vals, gLen, gAbs, gMax2, gMin2, gInt, gTup, gList, wipeW, if_true, if_false, Bool.false_eq_true, Bool.not_true, Bool.not_false, reduceCtorEq, i3, dTru_bool] <;> rfl
    | tuple zs =>
      have i3 : isa "int" (.tuple zs) = false := rfl
      simp -implicitDefEqProofs only [eVar_ap, dVar_ap, eC_ap, dOf_ap, eFrz_ap, eBin_ap, bTest_ap, bTru_ap, bAnd_ap, bOr_ap, bNot_ap, eIf_ap, eB_ap, eAnd_ap, eOr_ap, aNil_ap, aCons_ap, sNil_ap, sCons_ap, eTup_ap, eLst_ap, eCall_ap, eApp_ap, oNone_ap, oSome_ap, eSl_ap, sNil'_ap, sSeq_ap, sBrk_ap, sRet_ap, sRetN_ap, sRetO_ap, sDrop_ap, sIf_ap, sSet_ap, sApp_ap, sTown_ap, sExt_ap, sIns_ap, sSetIx_ap, sAsg_ap, sPar_ap, iOf_ap, iVal_ap, iRng1_ap, iRng2_ap, sFor_ap, eComp_ap, bYes_ap, frzAt_ap, eUn_ap, eNotD_ap, eOrD_ap, eChain_ap, eListRg1_ap, eIsa_ap, eMt_ap, iEnumV_ap, iEnumF_ap, iZipV_ap, iZipF_ap, eTLen_ap, iRng3D_ap, sEnd_ap, eSs_ap, sPar3_ap, xPop_ap, xTup1_ap, xCat_ap, sSetX_ap, sAppX_ap, sParO_ap, sForEI_ap, sForK_ap, eRep_ap, eDicK_ap, eDicT_ap, sPut_ap, eAlt_ap, sTry_ap, eGetD_ap, eLockI_ap, iKeyF_ap, sSetDef_ap, eTupVals_ap, sNst_ap, frzNAt_ap, sAppN_ap, sStN_ap, eListRg2_ap, runB_ap, gOne_ap, gMany_ap, dI_ap, yesC_ap, dCmp_int, setD, kill_nx, kill_rt, kill_bk, Option.bind_some, Option.map_some, Option.bind_none, Option.map_none, List.getElem?_cons_zero, List.getElem?_cons_succ, List.set_cons_zero, List.set_cons_succ, List.cons_append, List.nil_append, List.append_nil, List.replicate, List.length_cons, List.length_nil, Nat.reduceAdd, Nat.reduceSub, Nat.zero_add, wdat_no, wdat_d, wdat_town, wdat_ol, wdat_od, wfrz_no, wfrz_d, wfrz_town, wfrz_ol, wfrz_od, wval_no, wval_d, wval_town, wval_ol, wval_od, warg_no, warg_d, warg_town, warg_ol, warg_od, vals, gLen, gAbs, gMax2, gMin2, gInt, gTup, gList, wipeW, if_true, if_false, Bool.false_eq_true, Bool.not_true, Bool.not_false, reduceCtorEq, i3, dTru_bool] <;> rfl
    | none => simp -implicitDefEqProofs only [eVar_ap, dVar_ap, eC_ap, dOf_ap, eFrz_ap, eBin_ap, bTest_ap, bTru_ap, bAnd_ap, bOr_ap, bNot_ap, eIf_ap, eB_ap, eAnd_ap, eOr_ap, aNil_ap, aCons_ap, sNil_ap, sCons_ap, eTup_ap, eLst_ap, eCall_ap, eApp_ap, oNone_ap, oSome_ap, eSl_ap, sNil'_ap, sSeq_ap, sBrk_ap, sRet_ap, sRetN_ap, sRetO_ap, sDrop_ap, sIf_ap, sSet_ap, sApp_ap, sTown_ap, sExt_ap, sIns_ap, sSetIx_ap, sAsg_ap, sPar_ap, iOf_ap, iVal_ap, iRng1_ap, iRng2_ap, sFor_ap, eComp_ap, bYes_ap, frzAt_ap, eUn_ap, eNotD_ap, eOrD_ap, eChain_ap, eListRg1_ap, eIsa_ap, eMt_ap, iEnumV_ap, iEnumF_ap, iZipV_ap, iZipF_ap, eTLen_ap, iRng3D_ap, sEnd_ap, eSs_ap, sPar3_ap, xPop_ap, xTup1_ap, xCat_ap, sSetX_ap, sAppX_ap, sParO_ap, sForEI_ap, sForK_ap, eRep_ap, eDicK_ap, eDicT_ap, sPut_ap, eAlt_ap, sTry_ap, eGetD_ap, eLockI_ap, iKeyF_ap, sSetDef_ap, eTupVals_ap, sNst_ap, frzNAt_ap, sAppN_ap, sStN_ap, eListRg2_ap, runB_ap, gOne_ap, gMany_ap, dI_ap, yesC_ap, dCmp_int, setD, kill_nx, kill_rt, kill_bk, Option.bind_some, Option.map_some, Option.bind_none, Option.map_none, List.getElem?_cons_zero, List.getElem?_cons_succ, List.set_cons_zero, List.set_cons_succ, List.cons_append, List.nil_append, List.append_nil, List.replicate, List.length_cons, List.length_nil, Nat.reduceAdd, Nat.reduceSub, Nat.zero_add, wdat_no, wdat_d, wdat_town, wdat_ol, wdat_od, wfrz_no, wfrz_d, wfrz_town, wfrz_ol, wfrz_od, wval_no, wval_d, wval_town, wval_ol, wval_od, warg_no, warg_d, warg_town, warg_ol, warg_od, vals, gLen, gAbs, gMax2, gMin2, gInt, gTup, gList, wipeW, if_true, if_false, Bool.false_eq_true, Bool.not_true, Bool.not_false, reduceCtorEq, isa_i_n, dTru_bool] <;> rfl
    | str s => simp -implicitDefEqProofs only [eVar_ap, dVar_ap, eC_ap, dOf_ap, eFrz_ap, eBin_ap, bTest_ap, bTru_ap, bAnd_ap, bOr_ap, bNot_ap, eIf_ap, eB_ap, eAnd_ap, eOr_ap, aNil_ap, aCons_ap, sNil_ap, sCons_ap, eTup_ap, eLst_ap, eCall_ap, eApp_ap, oNone_ap, oSome_ap, eSl_ap, sNil'_ap, sSeq_ap, sBrk_ap, sRet_ap, sRetN_ap, sRetO_ap, sDrop_ap, sIf_ap, sSet_ap, sApp_ap, sTown_ap, sExt_ap, sIns_ap, sSetIx_ap, sAsg_ap, sPar_ap, iOf_ap, iVal_ap, iRng1_ap, iRng2_ap, sFor_ap, eComp_ap, bYes_ap, frzAt_ap, eUn_ap, eNotD_ap, eOrD_ap, eChain_ap, eListRg1_ap, eIsa_ap, eMt_ap, iEnumV_ap, iEnumF_ap, iZipV_ap, iZipF_ap, eTLen_ap, iRng3D_ap, sEnd_ap, eSs_ap, sPar3_ap, xPop_ap, xTup1_ap, xCat_ap, sSetX_ap, sAppX_ap, sParO_ap, sForEI_ap, sForK_ap, eRep_ap, eDicK_ap, eDicT_ap, sPut_ap, eAlt_ap, sTry_ap, eGetD_ap, eLockI_ap, iKeyF_ap, sSetDef_ap, eTupVals_ap, sNst_ap, frzNAt_ap, sAppN_ap, sStN_ap, eListRg2_ap, runB_ap, gOne_ap, gMany_ap, dI_ap, yesC_ap, dCmp_int, setD, kill_nx, kill_rt, kill_bk, Option.bind_some, Option.map_some, Option.bind_none, Option.map_none, List.getElem?_cons_zero, List.getElem?_cons_succ, List.set_cons_zero, List.set_cons_succ, List.cons_append, List.nil_append, List.append_nil, List.replicate, List.length_cons, List.length_nil, Nat.reduceAdd, Nat.reduceSub, Nat.zero_add, wdat_no, wdat_d, wdat_town, wdat_ol, wdat_od, wfrz_no, wfrz_d, wfrz_town, wfrz_ol, wfrz_od, wval_no, wval_d, wval_town, wval_ol, wval_od, warg_no, warg_d, warg_town, warg_ol, warg_od, vals, gLen, gAbs, gMax2, gMin2, gInt, gTup, gList, wipeW, if_true, if_false, Bool.false_eq_true, Bool.not_true, Bool.not_false, reduceCtorEq, isa_i_s, dTru_bool] <;> rfl⟩
  rw [List.map_id', find_all] at e2
  rw [e2]
  cases xs.all (isW 0 ((N : Int) - 1)) <;> rfl
theorem lw_any {N : Nat} {f : Nat → Nat → Int} (hw : Wd N f) {x : PyData} (h : shp x = true) (m : Nat) : m__law_is_why [.d (tbD N f), .d x] m = some (.d (.bool (whyB N f x)), m) := by
  cases x with
  | tuple xs =>
    unfold m__law_is_why b__law_is_why
    have i1 : isa "tuple" (.tuple xs) = true := rfl
    have tl : cutD xs (some 1) none = xs.tail := cutD_tail xs
    have lp := lw_loop (N := N) f (.d (.tuple xs)) m xs.tail fun y hy => shp_mem h y (List.mem_of_mem_tail hy)
    by_cases l2 : xs.length < 3
    · have g := rLt_t (show (xs.length : Int) < 3 by omega)
      have e := whyB_len N f xs (by omega) (by omega)
      simp -implicitDefEqProofs only [eVar_ap, dVar_ap, eC_ap, dOf_ap, eFrz_ap, eBin_ap, bTest_ap, bTru_ap, bAnd_ap, bOr_ap, bNot_ap, eIf_ap, eB_ap, eAnd_ap, eOr_ap, aNil_ap, aCons_ap, sNil_ap, sCons_ap, eTup_ap, eLst_ap, eCall_ap, eApp_ap, oNone_ap, oSome_ap, eSl_ap, sNil'_ap, sSeq_ap, sBrk_ap, sRet_ap, sRetN_ap, sRetO_ap, sDrop_ap, sIf_ap, sSet_ap, sApp_ap, sTown_ap, sExt_ap, sIns_ap, sSetIx_ap, sAsg_ap, sPar_ap, iOf_ap, iVal_ap, iRng1_ap, iRng2_ap, sFor_ap, eComp_ap, bYes_ap, frzAt_ap, eUn_ap, eNotD_ap, eOrD_ap, eChain_ap, eListRg1_ap, eIsa_ap, eMt_ap, iEnumV_ap, iEnumF_ap, iZipV_ap, iZipF_ap, eTLen_ap, iRng3D_ap, sEnd_ap, eSs_ap, sPar3_ap, xPop_ap, xTup1_ap, xCat_ap, sSetX_ap, sAppX_ap, sParO_ap, sForEI_ap, sForK_ap, eRep_ap, eDicK_ap, eDicT_ap, sPut_ap, eAlt_ap, sTry_ap, eGetD_ap, eLockI_ap, iKeyF_ap, sSetDef_ap, eTupVals_ap, sNst_ap, frzNAt_ap, sAppN_ap, sStN_ap, eListRg2_ap, runB_ap, gOne_ap, gMany_ap, dI_ap, yesC_ap, dCmp_int, setD, kill_nx, kill_rt, kill_bk, Option.bind_some, Option.map_some, Option.bind_none, Option.map_none, List.getElem?_cons_zero, List.getElem?_cons_succ, List.set_cons_zero, List.set_cons_succ, List.cons_append, List.nil_append, List.append_nil, List.replicate, List.length_cons, List.length_nil, Nat.reduceAdd, Nat.reduceSub, Nat.zero_add, wdat_no, wdat_d, wdat_town, wdat_ol, wdat_od, wfrz_no, wfrz_d, wfrz_town, wfrz_ol, wfrz_od, wval_no, wval_d, wval_town, wval_ol, wval_od, warg_no, warg_d, warg_town, warg_ol, warg_od, vals, gLen, gAbs, gMax2, gMin2, gInt, gTup, gList, wipeW, if_true, if_false, Bool.false_eq_true, Bool.not_true, Bool.not_false, reduceCtorEq, i1, dTru_bool, g, e]
    · have g := rLt_f (show ¬ (xs.length : Int) < 3 by omega)
      have hne : xs ≠ [] := fun q => by rw [q] at l2; exact l2 (by decide)
      obtain ⟨hd, t, rfl⟩ : ∃ hd t, xs = hd :: t := List.exists_cons_of_ne_nil hne
      have hh := shp_mem h hd (List.mem_cons_self ..)
      have x0 : dIx (.tuple (hd :: t)) (.int 0) = some (.d hd) := i0 _ _
      have wo := wd_eq hh shO
      have wo : dEq hd (.str "odd") = some (.d (.bool (wd hd sOdd))) := wo
      have wc := wd_eq hh shC
      have wc : dEq hd (.str "chain") = some (.d (.bool (wd hd sChain))) := wc
      have q3 := len3 (hd :: t) 3
      have q4 := len3 (hd :: t) 4
      rw [List.tail_cons] at tl lp
      rw [List.length_cons] at g q3 q4 l2
      have q3 : dEq (.int ((t.length + 1 : Nat) : Int)) (.int 3) = some (.d (.bool (t.length + 1 == 3))) := q3
      have q4 : dEq (.int ((t.length + 1 : Nat) : Int)) (.int 4) = some (.d (.bool (t.length + 1 == 4))) := q4
      have hb : t.length ≤ big ∨ ¬ t.length ≤ big := Classical.em _
      cases p : t.all (isW 0 ((N : Int) - 1)) with
      | false =>
        rw [p] at lp
        have e : whyB N f (.tuple (hd :: t)) = false := by
          match t, p with
          | [a, b], p => simp at p; simp only [whyB]; cases c1 : isW 0 ((N : Int) - 1) a <;> simp_all
          | [a, b, c], p => simp at p; simp only [whyB]; cases c1 : isW 0 ((N : Int) - 1) a <;> cases c2 : isW 0 ((N : Int) - 1) b <;> simp_all
          | [], _ => rfl
          | [_], _ => rfl
          | _ :: _ :: _ :: _ :: _, _ => rfl
        have lp : loopF (gOne 2) l__law_is_why_1 t [.d (tbD N f), .d (.tuple (hd :: t)), .no] m = some (.rt (.d (.bool false)) m) := lp
        simp -implicitDefEqProofs only [eVar_ap, dVar_ap, eC_ap, dOf_ap, eFrz_ap, eBin_ap, bTest_ap, bTru_ap, bAnd_ap, bOr_ap, bNot_ap, eIf_ap, eB_ap, eAnd_ap, eOr_ap, aNil_ap, aCons_ap, sNil_ap, sCons_ap, eTup_ap, eLst_ap, eCall_ap, eApp_ap, oNone_ap, oSome_ap, eSl_ap, sNil'_ap, sSeq_ap, sBrk_ap, sRet_ap, sRetN_ap, sRetO_ap, sDrop_ap, sIf_ap, sSet_ap, sApp_ap, sTown_ap, sExt_ap, sIns_ap, sSetIx_ap, sAsg_ap, sPar_ap, iOf_ap, iVal_ap, iRng1_ap, iRng2_ap, sFor_ap, eComp_ap, bYes_ap, frzAt_ap, eUn_ap, eNotD_ap, eOrD_ap, eChain_ap, eListRg1_ap, eIsa_ap, eMt_ap, iEnumV_ap, iEnumF_ap, iZipV_ap, iZipF_ap, eTLen_ap, iRng3D_ap, sEnd_ap, eSs_ap, sPar3_ap, xPop_ap, xTup1_ap, xCat_ap, sSetX_ap, sAppX_ap, sParO_ap, sForEI_ap, sForK_ap, eRep_ap, eDicK_ap, eDicT_ap, sPut_ap, eAlt_ap, sTry_ap, eGetD_ap, eLockI_ap, iKeyF_ap, sSetDef_ap, eTupVals_ap, sNst_ap, frzNAt_ap, sAppN_ap, sStN_ap, eListRg2_ap, runB_ap, gOne_ap, gMany_ap, dI_ap, yesC_ap, dCmp_int, setD, kill_nx, kill_rt, kill_bk, Option.bind_some, Option.map_some, Option.bind_none, Option.map_none, List.getElem?_cons_zero, List.getElem?_cons_succ, List.set_cons_zero, List.set_cons_succ, List.cons_append, List.nil_append, List.append_nil, List.replicate, List.length_cons, List.length_nil, Nat.reduceAdd, Nat.reduceSub, Nat.zero_add, wdat_no, wdat_d, wdat_town, wdat_ol, wdat_od, wfrz_no, wfrz_d, wfrz_town, wfrz_ol, wfrz_od, wval_no, wval_d, wval_town, wval_ol, wval_od, warg_no, warg_d, warg_town, warg_ol, warg_od, vals, gLen, gAbs, gMax2, gMin2, gInt, gTup, gList, wipeW, if_true, if_false, Bool.false_eq_true, Bool.not_true, Bool.not_false, reduceCtorEq, i1, dTru_bool, g, dSl, tl, iSeq, lp, e]
      | true =>
        rw [p] at lp
        have lp : loopF (gOne 2) l__law_is_why_1 t [.d (tbD N f), .d (.tuple (hd :: t)), .no] m = some (.nx [.d (tbD N f), .d (.tuple (hd :: t)), .no] m) := lp
        by_cases l3 : t.length = 2
        · match t, l3 with
          | [a, b], _ =>
            simp only [List.all_cons, List.all_nil, Bool.and_true, Bool.and_eq_true] at p
            obtain ⟨a1, a2⟩ := isW_nat p.1
            obtain ⟨b1, b2⟩ := isW_nat p.2
            have x1 : dIx (.tuple [hd, a, b]) (.int 1) = some (.d a) := rfl
            have x2 : dIx (.tuple [hd, a, b]) (.int 2) = some (.d b) := rfl
            have o := lodd_ok (f := f) a1 b1 m
            rw [← a2, ← b2] at o
            have g : rLt ((0 + 1 + 1 + 1 : Nat) : Int) 3 = false := rfl
            have q3 : dEq (.int ((0 + 1 + 1 + 1 : Nat) : Int)) (.int 3) = some (.d (.bool true)) := by rfl
            have q4 : dEq (.int ((0 + 1 + 1 + 1 : Nat) : Int)) (.int 4) = some (.d (.bool false)) := by rfl
            cases q : wd hd sOdd with
            | true =>
              rw [q] at wo
              have e : whyB N f (.tuple [hd, a, b]) = oddB f (nI a) (nI b) := by simp only [whyB, q, p.1, p.2, Bool.true_and]
              simp -implicitDefEqProofs only [eVar_ap, dVar_ap, eC_ap, dOf_ap, eFrz_ap, eBin_ap, bTest_ap, bTru_ap, bAnd_ap, bOr_ap, bNot_ap, eIf_ap, eB_ap, eAnd_ap, eOr_ap, aNil_ap, aCons_ap, sNil_ap, sCons_ap, eTup_ap, eLst_ap, eCall_ap, eApp_ap, oNone_ap, oSome_ap, eSl_ap, sNil'_ap, sSeq_ap, sBrk_ap, sRet_ap, sRetN_ap, sRetO_ap, sDrop_ap, sIf_ap, sSet_ap, sApp_ap, sTown_ap, sExt_ap, sIns_ap, sSetIx_ap, sAsg_ap, sPar_ap, iOf_ap, iVal_ap, iRng1_ap, iRng2_ap, sFor_ap, eComp_ap, bYes_ap, frzAt_ap, eUn_ap, eNotD_ap, eOrD_ap, eChain_ap, eListRg1_ap, eIsa_ap, eMt_ap, iEnumV_ap, iEnumF_ap, iZipV_ap, iZipF_ap, eTLen_ap, iRng3D_ap, sEnd_ap, eSs_ap, sPar3_ap, xPop_ap, xTup1_ap, xCat_ap, sSetX_ap, sAppX_ap, sParO_ap, sForEI_ap, sForK_ap, eRep_ap, eDicK_ap, eDicT_ap, sPut_ap, eAlt_ap, sTry_ap, eGetD_ap, eLockI_ap, iKeyF_ap, sSetDef_ap, eTupVals_ap, sNst_ap, frzNAt_ap, sAppN_ap, sStN_ap, eListRg2_ap, runB_ap, gOne_ap, gMany_ap, dI_ap, yesC_ap, dCmp_int, setD, kill_nx, kill_rt, kill_bk, Option.bind_some, Option.map_some, Option.bind_none, Option.map_none, List.getElem?_cons_zero, List.getElem?_cons_succ, List.set_cons_zero, List.set_cons_succ, List.cons_append, List.nil_append, List.append_nil, List.replicate, List.length_cons, List.length_nil, Nat.reduceAdd, Nat.reduceSub, Nat.zero_add, wdat_no, wdat_d, wdat_town, wdat_ol, wdat_od, wfrz_no, wfrz_d, wfrz_town, wfrz_ol, wfrz_od, wval_no, wval_d, wval_town, wval_ol, wval_od, warg_no, warg_d, warg_town, warg_ol, warg_od, vals, gLen, gAbs, gMax2, gMin2, gInt, gTup, gList, wipeW, if_true, if_false, Bool.false_eq_true, Bool.not_true, Bool.not_false, reduceCtorEq, i1, dTru_bool, g, dSl, tl, iSeq, lp, x0, wo, q3, x1, x2, o, e]
            | false =>
              rw [q] at wo
              have e : whyB N f (.tuple [hd, a, b]) = false := by simp only [whyB, q, Bool.false_and]
              cases q2 : wd hd sChain <;> (rw [q2] at wc; simp -implicitDefEqProofs only [eVar_ap, dVar_ap, eC_ap, dOf_ap, eFrz_ap, eBin_ap, bTest_ap, bTru_ap, bAnd_ap, bOr_ap, bNot_ap, eIf_ap, eB_ap, eAnd_ap, eOr_ap, aNil_ap, aCons_ap, sNil_ap, sCons_ap, eTup_ap, eLst_ap, eCall_ap, eApp_ap, oNone_ap, oSome_ap, eSl_ap, sNil'_ap, sSeq_ap, sBrk_ap, sRet_ap, sRetN_ap, sRetO_ap, sDrop_ap, sIf_ap, sSet_ap, sApp_ap, sTown_ap, sExt_ap, sIns_ap, sSetIx_ap, sAsg_ap, sPar_ap, iOf_ap, iVal_ap, iRng1_ap, iRng2_ap, sFor_ap, eComp_ap, bYes_ap, frzAt_ap, eUn_ap, eNotD_ap, eOrD_ap, eChain_ap, eListRg1_ap, eIsa_ap, eMt_ap, iEnumV_ap, iEnumF_ap, iZipV_ap, iZipF_ap, eTLen_ap, iRng3D_ap, sEnd_ap, eSs_ap, sPar3_ap, xPop_ap, xTup1_ap, xCat_ap, sSetX_ap, sAppX_ap, sParO_ap, sForEI_ap, sForK_ap, eRep_ap, eDicK_ap, eDicT_ap, sPut_ap, eAlt_ap, sTry_ap, eGetD_ap, eLockI_ap, iKeyF_ap, sSetDef_ap, eTupVals_ap, sNst_ap, frzNAt_ap, sAppN_ap, sStN_ap, eListRg2_ap, runB_ap, gOne_ap, gMany_ap, dI_ap, yesC_ap, dCmp_int, setD, kill_nx, kill_rt, kill_bk, Option.bind_some, Option.map_some, Option.bind_none, Option.map_none, List.getElem?_cons_zero, List.getElem?_cons_succ, List.set_cons_zero, List.set_cons_succ, List.cons_append, List.nil_append, List.append_nil, List.replicate, List.length_cons, List.length_nil, Nat.reduceAdd, Nat.reduceSub, Nat.zero_add, wdat_no, wdat_d, wdat_town, wdat_ol, wdat_od, wfrz_no, wfrz_d, wfrz_town, wfrz_ol, wfrz_od, wval_no, wval_d, wval_town, wval_ol, wval_od, warg_no, warg_d, warg_town, warg_ol, warg_od, vals, gLen, gAbs, gMax2, gMin2, gInt, gTup, gList, wipeW, if_true, if_false, Bool.false_eq_true, Bool.not_true, Bool.not_false, reduceCtorEq, i1, dTru_bool, g, dSl, tl, iSeq, lp, x0, wo, wc, q4, e])
        by_cases l4 : t.length = 3
        · match t, l4 with
          | [a, b, c], _ =>
            simp only [List.all_cons, List.all_nil, Bool.and_true, Bool.and_eq_true] at p
            obtain ⟨a1, a2⟩ := isW_nat p.1
            obtain ⟨b1, b2⟩ := isW_nat p.2.1
            obtain ⟨c1, c2⟩ := isW_nat p.2.2
            have x1 : dIx (.tuple [hd, a, b, c]) (.int 1) = some (.d a) := rfl
            have x2 : dIx (.tuple [hd, a, b, c]) (.int 2) = some (.d b) := rfl
            have x3 : dIx (.tuple [hd, a, b, c]) (.int 3) = some (.d c) := rfl
            have o := lchain_ok hw a1 b1 c1 m
            rw [← a2, ← b2, ← c2] at o
            have g : rLt ((0 + 1 + 1 + 1 + 1 : Nat) : Int) 3 = false := rfl
            have q3 : dEq (.int ((0 + 1 + 1 + 1 + 1 : Nat) : Int)) (.int 3) = some (.d (.bool false)) := by rfl
            have q4 : dEq (.int ((0 + 1 + 1 + 1 + 1 : Nat) : Int)) (.int 4) = some (.d (.bool true)) := by rfl
            cases q : wd hd sOdd with
            | true =>
              rw [q] at wo
              have e : whyB N f (.tuple [hd, a, b, c]) = false := by simp only [whyB, wd_two q, Bool.false_and]
              simp -implicitDefEqProofs only [eVar_ap, dVar_ap, eC_ap, dOf_ap, eFrz_ap, eBin_ap, bTest_ap, bTru_ap, bAnd_ap, bOr_ap, bNot_ap, eIf_ap, eB_ap, eAnd_ap, eOr_ap, aNil_ap, aCons_ap, sNil_ap, sCons_ap, eTup_ap, eLst_ap, eCall_ap, eApp_ap, oNone_ap, oSome_ap, eSl_ap, sNil'_ap, sSeq_ap, sBrk_ap, sRet_ap, sRetN_ap, sRetO_ap, sDrop_ap, sIf_ap, sSet_ap, sApp_ap, sTown_ap, sExt_ap, sIns_ap, sSetIx_ap, sAsg_ap, sPar_ap, iOf_ap, iVal_ap, iRng1_ap, iRng2_ap, sFor_ap, eComp_ap, bYes_ap, frzAt_ap, eUn_ap, eNotD_ap, eOrD_ap, eChain_ap, eListRg1_ap, eIsa_ap, eMt_ap, iEnumV_ap, iEnumF_ap, iZipV_ap, iZipF_ap, eTLen_ap, iRng3D_ap, sEnd_ap, eSs_ap, sPar3_ap, xPop_ap, xTup1_ap, xCat_ap, sSetX_ap, sAppX_ap, sParO_ap, sForEI_ap, sForK_ap, eRep_ap, eDicK_ap, eDicT_ap, sPut_ap, eAlt_ap, sTry_ap, eGetD_ap, eLockI_ap, iKeyF_ap, sSetDef_ap, eTupVals_ap, sNst_ap, frzNAt_ap, sAppN_ap, sStN_ap, eListRg2_ap, runB_ap, gOne_ap, gMany_ap, dI_ap, yesC_ap, dCmp_int, setD, kill_nx, kill_rt, kill_bk, Option.bind_some, Option.map_some, Option.bind_none, Option.map_none, List.getElem?_cons_zero, List.getElem?_cons_succ, List.set_cons_zero, List.set_cons_succ, List.cons_append, List.nil_append, List.append_nil, List.replicate, List.length_cons, List.length_nil, Nat.reduceAdd, Nat.reduceSub, Nat.zero_add, wdat_no, wdat_d, wdat_town, wdat_ol, wdat_od, wfrz_no, wfrz_d, wfrz_town, wfrz_ol, wfrz_od, wval_no, wval_d, wval_town, wval_ol, wval_od, warg_no, warg_d, warg_town, warg_ol, warg_od, vals, gLen, gAbs, gMax2, gMin2, gInt, gTup, gList, wipeW, if_true, if_false, Bool.false_eq_true, Bool.not_true, Bool.not_false, reduceCtorEq, i1, dTru_bool, g, dSl, tl, iSeq, lp, x0, wo, q3, e]
            | false =>
              rw [q] at wo
              cases q2 : wd hd sChain with
              | true =>
                rw [q2] at wc
                have e : whyB N f (.tuple [hd, a, b, c]) = chB f (nI a) (nI b) (nI c) := by simp only [whyB, q2, p.1, p.2.1, p.2.2, Bool.true_and]
                simp -implicitDefEqProofs only [eVar_ap, dVar_ap, eC_ap, dOf_ap, eFrz_ap, eBin_ap, bTest_ap, bTru_ap, bAnd_ap, bOr_ap, bNot_ap, eIf_ap, eB_ap, eAnd_ap, eOr_ap, aNil_ap, aCons_ap, sNil_ap, sCons_ap, eTup_ap, eLst_ap, eCall_ap, eApp_ap, oNone_ap, oSome_ap, eSl_ap, sNil'_ap, sSeq_ap, sBrk_ap, sRet_ap, sRetN_ap, sRetO_ap, sDrop_ap, sIf_ap, sSet_ap, sApp_ap, sTown_ap, sExt_ap, sIns_ap, sSetIx_ap, sAsg_ap, sPar_ap, iOf_ap, iVal_ap, iRng1_ap, iRng2_ap, sFor_ap, eComp_ap, bYes_ap, frzAt_ap, eUn_ap, eNotD_ap, eOrD_ap, eChain_ap, eListRg1_ap, eIsa_ap, eMt_ap, iEnumV_ap, iEnumF_ap, iZipV_ap, iZipF_ap, eTLen_ap, iRng3D_ap, sEnd_ap, eSs_ap, sPar3_ap, xPop_ap, xTup1_ap, xCat_ap, sSetX_ap, sAppX_ap, sParO_ap, sForEI_ap, sForK_ap, eRep_ap, eDicK_ap, eDicT_ap, sPut_ap, eAlt_ap, sTry_ap, eGetD_ap, eLockI_ap, iKeyF_ap, sSetDef_ap, eTupVals_ap, sNst_ap, frzNAt_ap, sAppN_ap, sStN_ap, eListRg2_ap, runB_ap, gOne_ap, gMany_ap, dI_ap, yesC_ap, dCmp_int, setD, kill_nx, kill_rt, kill_bk, Option.bind_some, Option.map_some, Option.bind_none, Option.map_none, List.getElem?_cons_zero, List.getElem?_cons_succ, List.set_cons_zero, List.set_cons_succ, List.cons_append, List.nil_append, List.append_nil, List.replicate, List.length_cons, List.length_nil, Nat.reduceAdd, Nat.reduceSub, Nat.zero_add, wdat_no, wdat_d, wdat_town, wdat_ol, wdat_od, wfrz_no, wfrz_d, wfrz_town, wfrz_ol, wfrz_od, wval_no, wval_d, wval_town, wval_ol, wval_od, warg_no, warg_d, warg_town, warg_ol, warg_od, vals, gLen, gAbs, gMax2, gMin2, gInt, gTup, gList, wipeW, if_true, if_false, Bool.false_eq_true, Bool.not_true, Bool.not_false, reduceCtorEq, i1, dTru_bool, g, dSl, tl, iSeq, lp, x0, wo, wc, q4, x1, x2, x3, o, e]
              | false =>
                rw [q2] at wc
                have e : whyB N f (.tuple [hd, a, b, c]) = false := by simp only [whyB, q2, Bool.false_and]
                simp -implicitDefEqProofs only [eVar_ap, dVar_ap, eC_ap, dOf_ap, eFrz_ap, eBin_ap, bTest_ap, bTru_ap, bAnd_ap, bOr_ap, bNot_ap, eIf_ap, eB_ap, eAnd_ap, eOr_ap, aNil_ap, aCons_ap, sNil_ap, sCons_ap, eTup_ap, eLst_ap, eCall_ap, eApp_ap, oNone_ap, oSome_ap, eSl_ap, sNil'_ap, sSeq_ap, sBrk_ap, sRet_ap, sRetN_ap, sRetO_ap, sDrop_ap, sIf_ap, sSet_ap, sApp_ap, sTown_ap, sExt_ap, sIns_ap, sSetIx_ap, sAsg_ap, sPar_ap, iOf_ap, iVal_ap, iRng1_ap, iRng2_ap, sFor_ap, eComp_ap, bYes_ap, frzAt_ap, eUn_ap, eNotD_ap, eOrD_ap, eChain_ap, eListRg1_ap, eIsa_ap, eMt_ap, iEnumV_ap, iEnumF_ap, iZipV_ap, iZipF_ap, eTLen_ap, iRng3D_ap, sEnd_ap, eSs_ap, sPar3_ap, xPop_ap, xTup1_ap, xCat_ap, sSetX_ap, sAppX_ap, sParO_ap, sForEI_ap, sForK_ap, eRep_ap, eDicK_ap, eDicT_ap, sPut_ap, eAlt_ap, sTry_ap, eGetD_ap, eLockI_ap, iKeyF_ap, sSetDef_ap, eTupVals_ap, sNst_ap, frzNAt_ap, sAppN_ap, sStN_ap, eListRg2_ap, runB_ap, gOne_ap, gMany_ap, dI_ap, yesC_ap, dCmp_int, setD, kill_nx, kill_rt, kill_bk, Option.bind_some, Option.map_some, Option.bind_none, Option.map_none, List.getElem?_cons_zero, List.getElem?_cons_succ, List.set_cons_zero, List.set_cons_succ, List.cons_append, List.nil_append, List.append_nil, List.replicate, List.length_cons, List.length_nil, Nat.reduceAdd, Nat.reduceSub, Nat.zero_add, wdat_no, wdat_d, wdat_town, wdat_ol, wdat_od, wfrz_no, wfrz_d, wfrz_town, wfrz_ol, wfrz_od, wval_no, wval_d, wval_town, wval_ol, wval_od, warg_no, warg_d, warg_town, warg_ol, warg_od, vals, gLen, gAbs, gMax2, gMin2, gInt, gTup, gList, wipeW, if_true, if_false, Bool.false_eq_true, Bool.not_true, Bool.not_false, reduceCtorEq, i1, dTru_bool, g, dSl, tl, iSeq, lp, x0, wo, wc, e]
        · have e := whyB_len N f (hd :: t) (by rw [List.length_cons]; omega) (by rw [List.length_cons]; omega)
          have r3 : (t.length + 1 == 3) = false := by rw [beq_eq_false_iff_ne]; omega
          have r4 : (t.length + 1 == 4) = false := by rw [beq_eq_false_iff_ne]; omega
          rw [r3] at q3
          rw [r4] at q4
          cases q : wd hd sOdd <;> cases q2 : wd hd sChain <;> (rw [q] at wo; rw [q2] at wc; simp -implicitDefEqProofs only [eVar_ap, dVar_ap, eC_ap, dOf_ap, eFrz_ap, eBin_ap, bTest_ap, bTru_ap, bAnd_ap, bOr_ap, bNot_ap, eIf_ap, eB_ap, eAnd_ap, eOr_ap, aNil_ap, aCons_ap, sNil_ap, sCons_ap, eTup_ap, eLst_ap, eCall_ap, eApp_ap, oNone_ap, oSome_ap, eSl_ap, sNil'_ap, sSeq_ap, sBrk_ap, sRet_ap, sRetN_ap, sRetO_ap, sDrop_ap, sIf_ap, sSet_ap, sApp_ap, sTown_ap, sExt_ap, sIns_ap, sSetIx_ap, sAsg_ap, sPar_ap, iOf_ap, iVal_ap, iRng1_ap, iRng2_ap, sFor_ap, eComp_ap, bYes_ap, frzAt_ap, eUn_ap, eNotD_ap, eOrD_ap, eChain_ap, eListRg1_ap, eIsa_ap, eMt_ap, iEnumV_ap, iEnumF_ap, iZipV_ap, iZipF_ap, eTLen_ap, iRng3D_ap, sEnd_ap, eSs_ap, sPar3_ap, xPop_ap, xTup1_ap, xCat_ap, sSetX_ap, sAppX_ap, sParO_ap, sForEI_ap, sForK_ap, eRep_ap, eDicK_ap, eDicT_ap, sPut_ap, eAlt_ap, sTry_ap, eGetD_ap, eLockI_ap, iKeyF_ap, sSetDef_ap, eTupVals_ap, sNst_ap, frzNAt_ap, sAppN_ap, sStN_ap, eListRg2_ap, runB_ap, gOne_ap, gMany_ap, dI_ap, yesC_ap, dCmp_int, setD, kill_nx, kill_rt, kill_bk, Option.bind_some, Option.map_some, Option.bind_none, Option.map_none, List.getElem?_cons_zero, List.getElem?_cons_succ, List.set_cons_zero, List.set_cons_succ, List.cons_append, List.nil_append, List.append_nil, List.replicate, List.length_cons, List.length_nil, Nat.reduceAdd, Nat.reduceSub, Nat.zero_add, wdat_no, wdat_d, wdat_town, wdat_ol, wdat_od, wfrz_no, wfrz_d, wfrz_town, wfrz_ol, wfrz_od, wval_no, wval_d, wval_town, wval_ol, wval_od, warg_no, warg_d, warg_town, warg_ol, warg_od, vals, gLen, gAbs, gMax2, gMin2, gInt, gTup, gList, wipeW, if_true, if_false, Bool.false_eq_true, Bool.not_true, Bool.not_false, reduceCtorEq, i1, dTru_bool, g, dSl, tl, iSeq, lp, x0, wo, wc, q3, q4, e])
  | none => rfl
  | bool b => rfl
  | str s => rfl
  | list xs => rfl
  | int i => rfl
  | dict kvs => exact absurd rfl (noD h kvs)
/-! the turn -/
theorem comp_ranB {β : Type} {g : Fg} {own : List Nat} {elt : Fe} {ρ : List W} (c : Nat) (f : β → PyData) (P : β → Prop) : ∀ (xs : List PyData) (n : Nat), n + c * xs.length ≤ big →
    (∀ x ∈ xs, ∀ m, m + c ≤ big → ∃ ρ1 w b m', g x (wipeW ρ own) = some ρ1 ∧ elt ρ1 m = some (w, m') ∧ w.frz = .d (f b) ∧ m ≤ m' ∧ m' ≤ m + c ∧ P b) →
    ∃ (ys : List β) (m : Nat), loopC g own bYes elt ρ xs n = some (ys.map f, m) ∧ ys.length = xs.length ∧ (∀ y ∈ ys, P y) ∧ n ≤ m ∧ m ≤ n + c * xs.length
  | [], n, _, _ => ⟨[], n, rfl, rfl, by simp, Nat.le_refl _, Nat.le_add_right _ _⟩
  | x :: xs, n, hn, h => by
    rw [List.length_cons, Nat.mul_succ] at hn
    obtain ⟨ρ1, w, y, m, e0, e1, ew, l1, l2, hp⟩ := h x (List.mem_cons_self ..) n (by omega)
    obtain ⟨ys, m', e2, l3, hq, l4, l5⟩ := comp_ranB c f P xs m (by omega) fun z hz => h z (List.mem_cons_of_mem _ hz)
    refine ⟨y :: ys, m', ?_, by simp [l3], fun z hz => ?_, by omega, ?_⟩
    · rw [loopC_cons]
      simp -implicitDefEqProofs only [eVar_ap, dVar_ap, eC_ap, dOf_ap, eFrz_ap, eBin_ap, bTest_ap, bTru_ap, bAnd_ap, bOr_ap, bNot_ap, eIf_ap, eB_ap, eAnd_ap, eOr_ap, aNil_ap, aCons_ap, sNil_ap, sCons_ap, eTup_ap, eLst_ap, eCall_ap, eApp_ap, oNone_ap, oSome_ap, eSl_ap, sNil'_ap, sSeq_ap, sBrk_ap, sRet_ap, sRetN_ap, sRetO_ap, sDrop_ap, sIf_ap, sSet_ap, sApp_ap, sTown_ap, sExt_ap, sIns_ap, sSetIx_ap, sAsg_ap, sPar_ap, iOf_ap, iVal_ap, iRng1_ap, iRng2_ap, sFor_ap, eComp_ap, bYes_ap, frzAt_ap, eUn_ap, eNotD_ap, eOrD_ap, eChain_ap, eListRg1_ap, eIsa_ap, eMt_ap, iEnumV_ap, iEnumF_ap, iZipV_ap, iZipF_ap, eTLen_ap, iRng3D_ap, sEnd_ap, eSs_ap, sPar3_ap, xPop_ap, xTup1_ap, xCat_ap, sSetX_ap, sAppX_ap, sParO_ap, sForEI_ap, sForK_ap, eRep_ap, eDicK_ap, eDicT_ap, sPut_ap, eAlt_ap, sTry_ap, eGetD_ap, eLockI_ap, iKeyF_ap, sSetDef_ap, eTupVals_ap, sNst_ap, frzNAt_ap, sAppN_ap, sStN_ap, eListRg2_ap, runB_ap, gOne_ap, gMany_ap, dI_ap, yesC_ap, dCmp_int, setD, kill_nx, kill_rt, kill_bk, Option.bind_some, Option.map_some, Option.bind_none, Option.map_none, List.getElem?_cons_zero, List.getElem?_cons_succ, List.set_cons_zero, List.set_cons_succ, List.cons_append, List.nil_append, List.append_nil, List.replicate, List.length_cons, List.length_nil, Nat.reduceAdd, Nat.reduceSub, Nat.zero_add, wdat_no, wdat_d, wdat_town, wdat_ol, wdat_od, wfrz_no, wfrz_d, wfrz_town, wfrz_ol, wfrz_od, wval_no, wval_d, wval_town, wval_ol, wval_od, warg_no, warg_d, warg_town, warg_ol, warg_od, vals, gLen, gAbs, gMax2, gMin2, gInt, gTup, gList, wipeW, if_true, if_false, Bool.false_eq_true, Bool.not_true, Bool.not_false, reduceCtorEq, e0, e1, ew, e2, List.map_cons]
    · rcases List.mem_cons.mp hz with rfl | hz
      · exact hp
      · exact hq z hz
    · rw [List.length_cons, Nat.mul_succ]; omega
/-- what may be bent -/
def Bn (x : PyData) : Prop := (nc 6 x = true ∨ ∃ xs, x = .list xs) ∧ fd 60 x
theorem bent_all (ns : List Int) {x : PyData} (h : Bn x) : Bt ns m__law_bent_v2 x 24 8 := by
  rcases h.1 with q | ⟨xs, rfl⟩
  · exact bent_ok ns 5 x q 9 (by decide) (by decide)
  · intro n hn
    obtain ⟨w, y, n', e1, e2, e3, e4, e5⟩ := bent_lst ns (m__law_bent_v2_ 9) xs n (by omega)
    exact ⟨w, y, n', e1, e2, e3, by omega, fd_le e5 (by decide)⟩
theorem same_b (b : Bool) (n : Nat) : m__law_same [.d (.bool b), .d (.bool b)] n = some (.d (.bool true), n) := same_ok (by cases b <;> decide) n
theorem tab_loop (S w3 : W) (n : Nat) (xs : List PyData) (h : Gd xs) : loopF (gOne 6) l_law_6 xs [S, .town, .no, w3, .no, .no, .no, .no, .no, .no, .no, .no, .no] n = some (.nx [S, .town, .no, w3, .no, .no, .no, .no, .no, .no, .no, .no, .no] n) := by
  have := loopF_same (g := gOne 6) (body := l_law_6) (ρ := [S, .town, .no, w3, .no, .no, .no, .no, .no, .no, .no, .no, .no]) (n := n) (fun x : PyData => x) xs fun x hx => ⟨_, rfl, by
    have hs := fd_shp (h x hx)
    have a1 := table_any hs n
    have a2 := ltable_any hs n
    have a3 := same_b (tabB x) n
    unfold l_law_6
    simp -implicitDefEqProofs only [eVar_ap, dVar_ap, eC_ap, dOf_ap, eFrz_ap, eBin_ap, bTest_ap, bTru_ap, bAnd_ap, bOr_ap, bNot_ap, eIf_ap, eB_ap, eAnd_ap, eOr_ap, aNil_ap, aCons_ap, sNil_ap, sCons_ap, eTup_ap, eLst_ap, eCall_ap, eApp_ap, oNone_ap, oSome_ap, eSl_ap, sNil'_ap, sSeq_ap, sBrk_ap, sRet_ap, sRetN_ap, sRetO_ap, sDrop_ap, sIf_ap, sSet_ap, sApp_ap, sTown_ap, sExt_ap, sIns_ap, sSetIx_ap, sAsg_ap, sPar_ap, iOf_ap, iVal_ap, iRng1_ap, iRng2_ap, sFor_ap, eComp_ap, bYes_ap, frzAt_ap, eUn_ap, eNotD_ap, eOrD_ap, eChain_ap, eListRg1_ap, eIsa_ap, eMt_ap, iEnumV_ap, iEnumF_ap, iZipV_ap, iZipF_ap, eTLen_ap, iRng3D_ap, sEnd_ap, eSs_ap, sPar3_ap, xPop_ap, xTup1_ap, xCat_ap, sSetX_ap, sAppX_ap, sParO_ap, sForEI_ap, sForK_ap, eRep_ap, eDicK_ap, eDicT_ap, sPut_ap, eAlt_ap, sTry_ap, eGetD_ap, eLockI_ap, iKeyF_ap, sSetDef_ap, eTupVals_ap, sNst_ap, frzNAt_ap, sAppN_ap, sStN_ap, eListRg2_ap, runB_ap, gOne_ap, gMany_ap, dI_ap, yesC_ap, dCmp_int, setD, kill_nx, kill_rt, kill_bk, Option.bind_some, Option.map_some, Option.bind_none, Option.map_none, List.getElem?_cons_zero, List.getElem?_cons_succ, List.set_cons_zero, List.set_cons_succ, List.cons_append, List.nil_append, List.append_nil, List.replicate, List.length_cons, List.length_nil, Nat.reduceAdd, Nat.reduceSub, Nat.zero_add, wdat_no, wdat_d, wdat_town, wdat_ol, wdat_od, wfrz_no, wfrz_d, wfrz_town, wfrz_ol, wfrz_od, wval_no, wval_d, wval_town, wval_ol, wval_od, warg_no, warg_d, warg_town, warg_ol, warg_od, vals, gLen, gAbs, gMax2, gMin2, gInt, gTup, gList, wipeW, if_true, if_false, Bool.false_eq_true, Bool.not_true, Bool.not_false, reduceCtorEq, a1, a2, a3, dTru_bool]⟩
  rwa [List.map_id'] at this
theorem thing_loop (ns : List Int) : ∀ (xs : List PyData) (n : Nat), (∀ x ∈ xs, Bn x) → n + 96 * xs.length ≤ big →
    ∃ n', loopF (gOne 9) l_law_5 xs [Sc ns, .town, .no, .no, .no, .no, .no, .no, .no, .no, .no, .no, .no] n = some (.nx [Sc ns, .town, .no, .no, .no, .no, .no, .no, .no, .no, .no, .no, .no] n') ∧ n ≤ n' ∧ n' ≤ n + 96 * xs.length
  | [], n, _, _ => ⟨n, rfl, Nat.le_refl _, Nat.le_add_right _ _⟩
  | x :: xs, n, h, hn => by
    rw [List.length_cons, Nat.mul_succ] at hn
    have hx := h x (List.mem_cons_self ..)
    obtain ⟨ys, n1, c1, hl, hy, l1, l1'⟩ := comp_ranB (g := gOne 12) (own := [12]) (elt := eCall m__law_bent_v2 (aCons (eVar 0) (aCons (eVar 1) (aCons (eVar 9) aNil)))) (ρ := [Sc ns, .town, .no, .no, .no, .no, .no, .no, .no, .d x, .no, .no, .no]) 24 (fun y : PyData => y) (fun y => fd 60 y) (rangeD 0 4) n (by rw [rangeD_len]; omega) (fun z _ m hm => by
      obtain ⟨w, y, n', e1, e2, e3, e4, e5⟩ := bent_all ns hx m hm
      exact ⟨_, w, y, n', rfl, by simp -implicitDefEqProofs only [eVar_ap, dVar_ap, eC_ap, dOf_ap, eFrz_ap, eBin_ap, bTest_ap, bTru_ap, bAnd_ap, bOr_ap, bNot_ap, eIf_ap, eB_ap, eAnd_ap, eOr_ap, aNil_ap, aCons_ap, sNil_ap, sCons_ap, eTup_ap, eLst_ap, eCall_ap, eApp_ap, oNone_ap, oSome_ap, eSl_ap, sNil'_ap, sSeq_ap, sBrk_ap, sRet_ap, sRetN_ap, sRetO_ap, sDrop_ap, sIf_ap, sSet_ap, sApp_ap, sTown_ap, sExt_ap, sIns_ap, sSetIx_ap, sAsg_ap, sPar_ap, iOf_ap, iVal_ap, iRng1_ap, iRng2_ap, sFor_ap, eComp_ap, bYes_ap, frzAt_ap, eUn_ap, eNotD_ap, eOrD_ap, eChain_ap, eListRg1_ap, eIsa_ap, eMt_ap, iEnumV_ap, iEnumF_ap, iZipV_ap, iZipF_ap, eTLen_ap, iRng3D_ap, sEnd_ap, eSs_ap, sPar3_ap, xPop_ap, xTup1_ap, xCat_ap, sSetX_ap, sAppX_ap, sParO_ap, sForEI_ap, sForK_ap, eRep_ap, eDicK_ap, eDicT_ap, sPut_ap, eAlt_ap, sTry_ap, eGetD_ap, eLockI_ap, iKeyF_ap, sSetDef_ap, eTupVals_ap, sNst_ap, frzNAt_ap, sAppN_ap, sStN_ap, eListRg2_ap, runB_ap, gOne_ap, gMany_ap, dI_ap, yesC_ap, dCmp_int, setD, kill_nx, kill_rt, kill_bk, Option.bind_some, Option.map_some, Option.bind_none, Option.map_none, List.getElem?_cons_zero, List.getElem?_cons_succ, List.set_cons_zero, List.set_cons_succ, List.cons_append, List.nil_append, List.append_nil, List.replicate, List.length_cons, List.length_nil, Nat.reduceAdd, Nat.reduceSub, Nat.zero_add, wdat_no, wdat_d, wdat_town, wdat_ol, wdat_od, wfrz_no, wfrz_d, wfrz_town, wfrz_ol, wfrz_od, wval_no, wval_d, wval_town, wval_ol, wval_od, warg_no, warg_d, warg_town, warg_ol, warg_od, vals, gLen, gAbs, gMax2, gMin2, gInt, gTup, gList, wipeW, if_true, if_false, Bool.false_eq_true, Bool.not_true, Bool.not_false, reduceCtorEq, e1], e2, e3, e4, fd_le e5 (by decide)⟩)
    rw [List.map_id'] at c1
    rw [rangeD_len] at hl l1'
    have r4 : rng1 (.int 4) = some (rangeD 0 4) := rng1_ok (by decide) (by decide)
    have hb : (rangeD 0 4).length ≤ big := by decide
    have ad := dAdd_lst [x] ys (le_big (by simp; omega))
    have lp := tab_loop (Sc ns) .no n1 (x :: ys) (Gd.cons hx.2 (fun y q => hy y q))
    rw [List.singleton_append] at ad
    obtain ⟨n2, e2, l2, l2'⟩ := thing_loop ns xs n1 (fun z hz => h z (List.mem_cons_of_mem _ hz)) (by omega)
    refine ⟨n2, ?_, by omega, by rw [List.length_cons]; omega⟩
    rw [loopF_cons]
    unfold l_law_5 at e2 ⊢
    simp -implicitDefEqProofs only [eVar_ap, dVar_ap, eC_ap, dOf_ap, eFrz_ap, eBin_ap, bTest_ap, bTru_ap, bAnd_ap, bOr_ap, bNot_ap, eIf_ap, eB_ap, eAnd_ap, eOr_ap, aNil_ap, aCons_ap, sNil_ap, sCons_ap, eTup_ap, eLst_ap, eCall_ap, eApp_ap, oNone_ap, oSome_ap, eSl_ap, sNil'_ap, sSeq_ap, sBrk_ap, sRet_ap, sRetN_ap, sRetO_ap, sDrop_ap, sIf_ap, sSet_ap, sApp_ap, sTown_ap, sExt_ap, sIns_ap, sSetIx_ap, sAsg_ap, sPar_ap, iOf_ap, iVal_ap, iRng1_ap, iRng2_ap, sFor_ap, eComp_ap, bYes_ap, frzAt_ap, eUn_ap, eNotD_ap, eOrD_ap, eChain_ap, eListRg1_ap, eIsa_ap, eMt_ap, iEnumV_ap, iEnumF_ap, iZipV_ap, iZipF_ap, eTLen_ap, iRng3D_ap, sEnd_ap, eSs_ap, sPar3_ap, xPop_ap, xTup1_ap, xCat_ap, sSetX_ap, sAppX_ap, sParO_ap, sForEI_ap, sForK_ap, eRep_ap, eDicK_ap, eDicT_ap, sPut_ap, eAlt_ap, sTry_ap, eGetD_ap, eLockI_ap, iKeyF_ap, sSetDef_ap, eTupVals_ap, sNst_ap, frzNAt_ap, sAppN_ap, sStN_ap, eListRg2_ap, runB_ap, gOne_ap, gMany_ap, dI_ap, yesC_ap, dCmp_int, setD, kill_nx, kill_rt, kill_bk, Option.bind_some, Option.map_some, Option.bind_none, Option.map_none, List.getElem?_cons_zero, List.getElem?_cons_succ, List.set_cons_zero, List.set_cons_succ, List.cons_append, List.nil_append, List.append_nil, List.replicate, List.length_cons, List.length_nil, Nat.reduceAdd, Nat.reduceSub, Nat.zero_add, wdat_no, wdat_d, wdat_town, wdat_ol, wdat_od, wfrz_no, wfrz_d, wfrz_town, wfrz_ol, wfrz_od, wval_no, wval_d, wval_town, wval_ol, wval_od, warg_no, warg_d, warg_town, warg_ol, warg_od, vals, gLen, gAbs, gMax2, gMin2, gInt, gTup, gList, wipeW, if_true, if_false, Bool.false_eq_true, Bool.not_true, Bool.not_false, reduceCtorEq, r4, hb, c1, ad, iSeq, lp, e2]
theorem fd_int (i : Int) : fd 60 (.int i) := ⟨rfl, by simp [PyData.depth]⟩
theorem fd_str {s : Str} (h : (PyData.str s).canLay0 = true) : fd 60 (.str s) := ⟨h, by simp [PyData.depth]⟩
theorem fd_ty (xs : List PyData) (h : ∀ y ∈ xs, fd 59 y) : fd 60 (.tuple xs) := fd_tup.mpr h
theorem i59 (i : Int) : fd 59 (.int i) := ⟨rfl, by simp [PyData.depth]⟩
theorem o59 : fd 59 (.str "odd") := ⟨by decide +kernel, by simp [PyData.depth]⟩
theorem s59 : fd 59 (.str "odds") := ⟨by decide +kernel, by simp [PyData.depth]⟩
theorem c59 : fd 59 (.str "chain") := ⟨by decide +kernel, by simp [PyData.depth]⟩
theorem b59 : fd 59 (.bool true) := ⟨rfl, by simp [PyData.depth]⟩
abbrev EE (E : List Int) : W := .d (.list (E.map .int))
def tri (i j : Int) : List PyData := [.tuple [.str "odd", .int i, .int j], .tuple [.str "odds", .int i, .int j], .tuple [.str "odd", .int i, .bool true]]
theorem in_loop (S T : W) (E : List Int) (hE : E.length ≤ 8) (i : Int) (n : Nat) : ∀ (js : List Int) (L : List PyData), Gd L → L.length + 11 * js.length ≤ 1000 →
    ∃ L', loopF (gOne 7) l_law_3 (js.map .int) [S, .town, .no, T, EE E, .d (.list L), .d (.int i), .no, .no, .no, .no, .no, .no] n = some (.nx [S, .town, .no, T, EE E, .d (.list L'), .d (.int i), .no, .no, .no, .no, .no, .no] n) ∧ Gd L' ∧ L'.length ≤ L.length + 11 * js.length
  | [], L, hL, _ => ⟨L, rfl, hL, by omega⟩
  | j :: js, L, hL, hl => by
    rw [List.length_cons] at hl
    have a1 : dAdd (.list L) (.list [.tuple [.str "odd", .int i, .int j], .tuple [.str "odds", .int i, .int j], .tuple [.str "odd", .int i, .bool true]]) = some (.ol (L ++ tri i j)) := dAdd_lst L (tri i j) (le_big (by simp [tri]; omega))
    have c1 := comp_mapA (g := gOne 8) (own := [8]) (elt := eTup (aCons (eC (.str "chain")) (aCons (eVar 6) (aCons (eVar 7) (aCons (eVar 8) aNil))))) (ρ := [S, .town, .no, T, EE E, .d (.list (L ++ tri i j)), .d (.int i), .d (.int j), .no, .no, .no, .no, .no]) (n := n)
      PyData.int (fun k => .tuple [.str "chain", .int i, .int j, .int k]) E fun k _ => ⟨_, rfl, by simp -implicitDefEqProofs only [eVar_ap, dVar_ap, eC_ap, dOf_ap, eFrz_ap, eBin_ap, bTest_ap, bTru_ap, bAnd_ap, bOr_ap, bNot_ap, eIf_ap, eB_ap, eAnd_ap, eOr_ap, aNil_ap, aCons_ap, sNil_ap, sCons_ap, eTup_ap, eLst_ap, eCall_ap, eApp_ap, oNone_ap, oSome_ap, eSl_ap, sNil'_ap, sSeq_ap, sBrk_ap, sRet_ap, sRetN_ap, sRetO_ap, sDrop_ap, sIf_ap, sSet_ap, sApp_ap, sTown_ap, sExt_ap, sIns_ap, sSetIx_ap, sAsg_ap, sPar_ap, iOf_ap, iVal_ap, iRng1_ap, iRng2_ap, sFor_ap, eComp_ap, bYes_ap, frzAt_ap, eUn_ap, eNotD_ap, eOrD_ap, eChain_ap, eListRg1_ap, eIsa_ap, eMt_ap, iEnumV_ap, iEnumF_ap, iZipV_ap, iZipF_ap, eTLen_ap, iRng3D_ap, sEnd_ap, eSs_ap, sPar3_ap, xPop_ap, xTup1_ap, xCat_ap, sSetX_ap, sAppX_ap, sParO_ap, sForEI_ap, sForK_ap, eRep_ap, eDicK_ap, eDicT_ap, sPut_ap, eAlt_ap, sTry_ap, eGetD_ap, eLockI_ap, iKeyF_ap, sSetDef_ap, eTupVals_ap, sNst_ap, frzNAt_ap, sAppN_ap, sStN_ap, eListRg2_ap, runB_ap, gOne_ap, gMany_ap, dI_ap, yesC_ap, dCmp_int, setD, kill_nx, kill_rt, kill_bk, Option.bind_some, Option.map_some, Option.bind_none, Option.map_none, List.getElem?_cons_zero, List.getElem?_cons_succ, List.set_cons_zero, List.set_cons_succ, List.cons_append, List.nil_append, List.append_nil, List.replicate, List.length_cons, List.length_nil, Nat.reduceAdd, Nat.reduceSub, Nat.zero_add, wdat_no, wdat_d, wdat_town, wdat_ol, wdat_od, wfrz_no, wfrz_d, wfrz_town, wfrz_ol, wfrz_od, wval_no, wval_d, wval_town, wval_ol, wval_od, warg_no, warg_d, warg_town, warg_ol, warg_od, vals, gLen, gAbs, gMax2, gMin2, gInt, gTup, gList, wipeW, if_true, if_false, Bool.false_eq_true, Bool.not_true, Bool.not_false, reduceCtorEq]⟩
    have hb : E.length ≤ big := le_big (by omega)
    have a2 := dAdd_lst (L ++ tri i j) (E.map fun k => .tuple [.str "chain", .int i, .int j, .int k]) (le_big (by simp [tri]; omega))
    have g1 : Gd (tri i j) := by
      refine Gd.cons (fd_ty _ fun y hy => ?_) (Gd.cons (fd_ty _ fun y hy => ?_) (Gd.cons (fd_ty _ fun y hy => ?_) Gd.nil)) <;> simp only [List.mem_cons, List.not_mem_nil, or_false] at hy <;> rcases hy with rfl | rfl | rfl <;> first | exact o59 | exact s59 | exact i59 _ | exact b59
    have g2 : Gd (E.map fun k => PyData.tuple [.str "chain", .int i, .int j, .int k]) := fun y hy => by
      obtain ⟨k, _, rfl⟩ := List.mem_map.mp hy
      refine fd_ty _ fun y hy => ?_
      simp only [List.mem_cons, List.not_mem_nil, or_false] at hy
      rcases hy with rfl | rfl | rfl | rfl <;> first | exact c59 | exact i59 _
    have len : (L ++ tri i j ++ (E.map fun k => PyData.tuple [.str "chain", .int i, .int j, .int k])).length ≤ L.length + 11 := by
      simp [tri]; omega
    have gA := (hL.app g1).app g2
    generalize hM : (L ++ tri i j ++ (E.map fun k => PyData.tuple [.str "chain", .int i, .int j, .int k])) = M at *
    obtain ⟨L', e, h1, h2⟩ := in_loop S T E hE i n js M gA (by omega)
    refine ⟨L', ?_, h1, by rw [List.length_cons]; omega⟩
    rw [List.map_cons, loopF_cons]
    unfold l_law_3 at e ⊢
    simp -implicitDefEqProofs only [eVar_ap, dVar_ap, eC_ap, dOf_ap, eFrz_ap, eBin_ap, bTest_ap, bTru_ap, bAnd_ap, bOr_ap, bNot_ap, eIf_ap, eB_ap, eAnd_ap, eOr_ap, aNil_ap, aCons_ap, sNil_ap, sCons_ap, eTup_ap, eLst_ap, eCall_ap, eApp_ap, oNone_ap, oSome_ap, eSl_ap, sNil'_ap, sSeq_ap, sBrk_ap, sRet_ap, sRetN_ap, sRetO_ap, sDrop_ap, sIf_ap, sSet_ap, sApp_ap, sTown_ap, sExt_ap, sIns_ap, sSetIx_ap, sAsg_ap, sPar_ap, iOf_ap, iVal_ap, iRng1_ap, iRng2_ap, sFor_ap, eComp_ap, bYes_ap, frzAt_ap, eUn_ap, eNotD_ap, eOrD_ap, eChain_ap, eListRg1_ap, eIsa_ap, eMt_ap, iEnumV_ap, iEnumF_ap, iZipV_ap, iZipF_ap, eTLen_ap, iRng3D_ap, sEnd_ap, eSs_ap, sPar3_ap, xPop_ap, xTup1_ap, xCat_ap, sSetX_ap, sAppX_ap, sParO_ap, sForEI_ap, sForK_ap, eRep_ap, eDicK_ap, eDicT_ap, sPut_ap, eAlt_ap, sTry_ap, eGetD_ap, eLockI_ap, iKeyF_ap, sSetDef_ap, eTupVals_ap, sNst_ap, frzNAt_ap, sAppN_ap, sStN_ap, eListRg2_ap, runB_ap, gOne_ap, gMany_ap, dI_ap, yesC_ap, dCmp_int, setD, kill_nx, kill_rt, kill_bk, Option.bind_some, Option.map_some, Option.bind_none, Option.map_none, List.getElem?_cons_zero, List.getElem?_cons_succ, List.set_cons_zero, List.set_cons_succ, List.cons_append, List.nil_append, List.append_nil, List.replicate, List.length_cons, List.length_nil, Nat.reduceAdd, Nat.reduceSub, Nat.zero_add, wdat_no, wdat_d, wdat_town, wdat_ol, wdat_od, wfrz_no, wfrz_d, wfrz_town, wfrz_ol, wfrz_od, wval_no, wval_d, wval_town, wval_ol, wval_od, warg_no, warg_d, warg_town, warg_ol, warg_od, vals, gLen, gAbs, gMax2, gMin2, gInt, gTup, gList, wipeW, if_true, if_false, Bool.false_eq_true, Bool.not_true, Bool.not_false, reduceCtorEq, a1, iSeq, List.length_map, hb, c1, a2, e]
theorem out_loop (S T : W) (E : List Int) (hE : E.length ≤ 8) (n : Nat) : ∀ (is : List Int) (L : List PyData), Gd L → L.length + 88 * is.length ≤ 900 →
    ∃ L', loopF (gOne 6) l_law_2 (is.map .int) [S, .town, .no, T, EE E, .d (.list L), .no, .no, .no, .no, .no, .no, .no] n = some (.nx [S, .town, .no, T, EE E, .d (.list L'), .no, .no, .no, .no, .no, .no, .no] n) ∧ Gd L' ∧ L'.length ≤ L.length + 88 * is.length
  | [], L, hL, _ => ⟨L, rfl, hL, by omega⟩
  | i :: is, L, hL, hl => by
    rw [List.length_cons] at hl
    obtain ⟨L1, e1, g1, l1⟩ := in_loop S T E hE i n E L hL (by omega)
    obtain ⟨L', e, h1, h2⟩ := out_loop S T E hE n is L1 g1 (by omega)
    refine ⟨L', ?_, h1, by rw [List.length_cons]; omega⟩
    rw [List.map_cons, loopF_cons]
    unfold l_law_2 at e ⊢
    simp -implicitDefEqProofs only [eVar_ap, dVar_ap, eC_ap, dOf_ap, eFrz_ap, eBin_ap, bTest_ap, bTru_ap, bAnd_ap, bOr_ap, bNot_ap, eIf_ap, eB_ap, eAnd_ap, eOr_ap, aNil_ap, aCons_ap, sNil_ap, sCons_ap, eTup_ap, eLst_ap, eCall_ap, eApp_ap, oNone_ap, oSome_ap, eSl_ap, sNil'_ap, sSeq_ap, sBrk_ap, sRet_ap, sRetN_ap, sRetO_ap, sDrop_ap, sIf_ap, sSet_ap, sApp_ap, sTown_ap, sExt_ap, sIns_ap, sSetIx_ap, sAsg_ap, sPar_ap, iOf_ap, iVal_ap, iRng1_ap, iRng2_ap, sFor_ap, eComp_ap, bYes_ap, frzAt_ap, eUn_ap, eNotD_ap, eOrD_ap, eChain_ap, eListRg1_ap, eIsa_ap, eMt_ap, iEnumV_ap, iEnumF_ap, iZipV_ap, iZipF_ap, eTLen_ap, iRng3D_ap, sEnd_ap, eSs_ap, sPar3_ap, xPop_ap, xTup1_ap, xCat_ap, sSetX_ap, sAppX_ap, sParO_ap, sForEI_ap, sForK_ap, eRep_ap, eDicK_ap, eDicT_ap, sPut_ap, eAlt_ap, sTry_ap, eGetD_ap, eLockI_ap, iKeyF_ap, sSetDef_ap, eTupVals_ap, sNst_ap, frzNAt_ap, sAppN_ap, sStN_ap, eListRg2_ap, runB_ap, gOne_ap, gMany_ap, dI_ap, yesC_ap, dCmp_int, setD, kill_nx, kill_rt, kill_bk, Option.bind_some, Option.map_some, Option.bind_none, Option.map_none, List.getElem?_cons_zero, List.getElem?_cons_succ, List.set_cons_zero, List.set_cons_succ, List.cons_append, List.nil_append, List.append_nil, List.replicate, List.length_cons, List.length_nil, Nat.reduceAdd, Nat.reduceSub, Nat.zero_add, wdat_no, wdat_d, wdat_town, wdat_ol, wdat_od, wfrz_no, wfrz_d, wfrz_town, wfrz_ol, wfrz_od, wval_no, wval_d, wval_town, wval_ol, wval_od, warg_no, warg_d, warg_town, warg_ol, warg_od, vals, gLen, gAbs, gMax2, gMin2, gInt, gTup, gList, wipeW, if_true, if_false, Bool.false_eq_true, Bool.not_true, Bool.not_false, reduceCtorEq, iSeq, e1, e]
def L0 : List PyData := [.none, .int 7, .tuple [], .str "odd", .tuple [.str "odd"], .tuple [.str "odd", .int 0], .tuple [.str "chain", .int 0, .int 0], .tuple [.str "odd", .int 0, .int 0, .int 0], .list [.str "odd", .int 0, .int 0], .tuple [.int 0, .int 0, .int 0]]
def L1 : List PyData := [.tuple [.str "chain", .int 0, .int 0, .none], .tuple [.str "odd", .int 0, .str "0"], .list [.str "chain", .int 0, .int 0, .int 0], .tuple [.str "chain", .int 0, .int 0, .int 0, .int 0]]
theorem L0_gd : Gd L0 := by
  have h : L0.all (fun y => y.canLay0 && decide (y.depth ≤ 60)) = true := by decide +kernel
  intro y hy
  have := List.all_eq_true.mp h y hy
  simpa [fd] using this
theorem L1_gd : Gd L1 := by
  have h : L1.all (fun y => y.canLay0 && decide (y.depth ≤ 60)) = true := by decide +kernel
  intro y hy
  have := List.all_eq_true.mp h y hy
  simpa [fd] using this
theorem why_loop {N : Nat} {f : Nat → Nat → Int} (hw : Wd N f) (S : W) (n : Nat) (xs : List PyData) (h : Gd xs) : loopF (gOne 9) l_law_4 xs [S, .town, .no, .d (tbD N f), .no, .no, .no, .no, .no, .no, .no, .no, .no] n = some (.nx [S, .town, .no, .d (tbD N f), .no, .no, .no, .no, .no, .no, .no, .no, .no] n) := by
  have := loopF_same (g := gOne 9) (body := l_law_4) (ρ := [S, .town, .no, .d (tbD N f), .no, .no, .no, .no, .no, .no, .no, .no, .no]) (n := n) (fun x : PyData => x) xs fun x hx => ⟨_, rfl, by
    have hs := fd_shp (h x hx)
    have a1 := wn_any (N := N) f hs n
    have a2 := lw_any hw hs n
    have a3 := same_b (whyB N f x) n
    unfold l_law_4
    simp -implicitDefEqProofs only [eVar_ap, dVar_ap, eC_ap, dOf_ap, eFrz_ap, eBin_ap, bTest_ap, bTru_ap, bAnd_ap, bOr_ap, bNot_ap, eIf_ap, eB_ap, eAnd_ap, eOr_ap, aNil_ap, aCons_ap, sNil_ap, sCons_ap, eTup_ap, eLst_ap, eCall_ap, eApp_ap, oNone_ap, oSome_ap, eSl_ap, sNil'_ap, sSeq_ap, sBrk_ap, sRet_ap, sRetN_ap, sRetO_ap, sDrop_ap, sIf_ap, sSet_ap, sApp_ap, sTown_ap, sExt_ap, sIns_ap, sSetIx_ap, sAsg_ap, sPar_ap, iOf_ap, iVal_ap, iRng1_ap, iRng2_ap, sFor_ap, eComp_ap, bYes_ap, frzAt_ap, eUn_ap, eNotD_ap, eOrD_ap, eChain_ap, eListRg1_ap, eIsa_ap, eMt_ap, iEnumV_ap, iEnumF_ap, iZipV_ap, iZipF_ap, eTLen_ap, iRng3D_ap, sEnd_ap, eSs_ap, sPar3_ap, xPop_ap, xTup1_ap, xCat_ap, sSetX_ap, sAppX_ap, sParO_ap, sForEI_ap, sForK_ap, eRep_ap, eDicK_ap, eDicT_ap, sPut_ap, eAlt_ap, sTry_ap, eGetD_ap, eLockI_ap, iKeyF_ap, sSetDef_ap, eTupVals_ap, sNst_ap, frzNAt_ap, sAppN_ap, sStN_ap, eListRg2_ap, runB_ap, gOne_ap, gMany_ap, dI_ap, yesC_ap, dCmp_int, setD, kill_nx, kill_rt, kill_bk, Option.bind_some, Option.map_some, Option.bind_none, Option.map_none, List.getElem?_cons_zero, List.getElem?_cons_succ, List.set_cons_zero, List.set_cons_succ, List.cons_append, List.nil_append, List.append_nil, List.replicate, List.length_cons, List.length_nil, Nat.reduceAdd, Nat.reduceSub, Nat.zero_add, wdat_no, wdat_d, wdat_town, wdat_ol, wdat_od, wfrz_no, wfrz_d, wfrz_town, wfrz_ol, wfrz_od, wval_no, wval_d, wval_town, wval_ol, wval_od, warg_no, warg_d, warg_town, warg_ol, warg_od, vals, gLen, gAbs, gMax2, gMin2, gInt, gTup, gList, wipeW, if_true, if_false, Bool.false_eq_true, Bool.not_true, Bool.not_false, reduceCtorEq, a1, a2, a3, dTru_bool]⟩
  rwa [List.map_id'] at this
abbrev z6 : PyData := .tuple [.int 0, .int 0, .int 0, .int 0, .int 0, .int 0]
abbrev z7 : PyData := .tuple [.int 0, .int 0, .int 0, .int 0, .int 0, .int 0, .int 0]
theorem bn_nc {x : PyData} (h : nc 6 x = true) : Bn x := ⟨.inl h, fd_le (nc_fd h) (by decide)⟩
theorem one_turn (ns : List Int) (x : PyData) (n : Nat) (hn : n + 1000 ≤ big) : ∃ n', l_law_1 [Sc ns, .town, .d x, .no, .no, .no, .no, .no, .no, .no, .no, .no, .no] n = some (.nx [Sc ns, .town, .no, .no, .no, .no, .no, .no, .no, .no, .no, .no, .no] n') ∧ n ≤ n' ∧ n' ≤ n + 1000 := by
  obtain ⟨N, f, n1, N1, N6, hw, k1, l1, l1'⟩ := table_ok ns n (by omega)
  have E1 : rangeD (-1) ((N : Int) + 1 - -1).toNat = ((List.range (N + 2)).map fun i : Nat => (-1 + (i : Int))).map .int := by
    rw [show ((N : Int) + 1 - -1).toNat = N + 2 by omega, List.map_map]; rfl
  have El : ((List.range (N + 2)).map fun i : Nat => (-1 + (i : Int))).length ≤ 8 := by simp; omega
  have le1 : -1000000 ≤ (-1 : Int) ∧ (-1 : Int) ≤ 1000000 ∧ -1000000 ≤ (N : Int) + 1 ∧ (N : Int) + 1 ≤ 1000000 := by omega
  generalize ((List.range (N + 2)).map fun i : Nat => (-1 + (i : Int))) = E at *
  obtain ⟨L, e4, gL, lL⟩ := out_loop (Sc ns) (.d (tbD N f)) E El n1 E L0 L0_gd (by have : L0.length = 10 := rfl; omega)
  have e4 : loopF (gOne 6) l_law_2 (E.map .int) [Sc ns, .town, .no, .d (tbD N f), EE E, .d (.list [.none, .int 7, .tuple [], .str "odd", .tuple [.str "odd"], .tuple [.str "odd", .int 0], .tuple [.str "chain", .int 0, .int 0], .tuple [.str "odd", .int 0, .int 0, .int 0], .list [.str "odd", .int 0, .int 0], .tuple [.int 0, .int 0, .int 0]]), .no, .no, .no, .no, .no, .no, .no] n1 = _ := e4
  have a5 := dAdd_lst L L1 (le_big (by have : L0.length = 10 := rfl; have : L1.length = 4 := rfl; omega))
  have a5 : dAdd (.list L) (.list [.tuple [.str "chain", .int 0, .int 0, .none], .tuple [.str "odd", .int 0, .str "0"], .list [.str "chain", .int 0, .int 0, .int 0], .tuple [.str "chain", .int 0, .int 0, .int 0, .int 0]]) = some (.ol (L ++ L1)) := a5
  have w5 := why_loop hw (Sc ns) n1 (L ++ L1) (gL.app L1_gd)
  have c6 : loopC (gOne 11) [11] bYes (eBin dRepT (dOf (eTup (aCons (eC (.int 0)) aNil))) (dVar 11)) [Sc ns, .town, .no, .d (tbD N f), .no, .no, .no, .no, .no, .no, .no, .no, .no] [.int 6, .int 6, .int 6, .int 6, .int 6, .int 6] n1 = some ([z6, z6, z6, z6, z6, z6], n1) := by rfl
  have hb6 : 0 + 1 + 1 + 1 + 1 + 1 + 1 ≤ big := le_big (by decide)
  have tn : nc 3 (tbD N f) = true := nc_tup (k := 2) (by rw [List.length_map, List.length_range]; omega) fun x hx => by
    obtain ⟨i, _, rfl⟩ := List.mem_map.mp hx; exact rw_nc (by omega) _
  have rwn : ∀ y ∈ (List.range N).map (fun i => rwD N (f i)), nc 5 y = true := fun y hy => by
    obtain ⟨i, _, rfl⟩ := List.mem_map.mp hy; exact nc_le (rw_nc (by omega) _) (by decide)
  generalize hR : (List.range N).map (fun i => rwD N (f i)) = R at *
  have hT : tbD N f = .tuple R := by
    show PyData.tuple _ = _
    rw [hR]
  rw [hT] at k1 e4 w5 c6
  have Rl : R.length ≤ 6 := by rw [← hR]; simp; omega
  have Rlen : R.length = N := by rw [← hR]; simp
  have hbR : R.length ≤ big := le_big (by omega)
  have s7 : dSl (.tuple R) none (some (-1)) = some (.d (.tuple (cutD R none (some (-1))))) := rfl
  have s8 : dSl (.tuple R) none (some 1) = some (.d (.tuple (cutD R none (some 1)))) := rfl
  have cl := cut_len R none (some 1)
  have a8 := dAdd_tup R (cutD R none (some 1)) (le_big (by omega))
  have r7 : dRepT (.tuple [.int 0]) (.int 7) = some (.d z7) := by rfl
  have r77 : dRepT (.tuple [z7]) (.int 7) = some (.d (.tuple [z7, z7, z7, z7, z7, z7, z7])) := by rfl
  obtain ⟨n2, e9, l2, l2'⟩ := thing_loop ns [.tuple R, .list R, .tuple (cutD R none (some (-1))), .tuple (R ++ cutD R none (some 1)), .tuple [], .none, .tuple [z6, z6, z6, z6, z6, z6], .tuple [z7, z7, z7, z7, z7, z7, z7], .tuple [.tuple [.int 1]]] n1 (fun z hz => by
    simp only [List.mem_cons, List.not_mem_nil, or_false] at hz
    rcases hz with rfl | rfl | rfl | rfl | rfl | rfl | rfl | rfl | rfl
    · exact bn_nc (nc_tup (by omega) rwn)
    · exact ⟨.inr ⟨_, rfl⟩, fd_le (fd_lst (k := 5) fun y hy => nc_fd (rwn y hy)) (by decide)⟩
    · exact bn_nc (nc_tup (by have := cut_len R none (some (-1)); omega) fun y hy => rwn y (cut_mem hy))
    · exact bn_nc (nc_tup (by rw [List.length_append]; omega) fun y hy => (List.mem_append.mp hy).elim (rwn y) fun q => rwn y (cut_mem q))
    · exact bn_nc (by decide)
    · exact bn_nc (by decide)
    · exact bn_nc (by decide)
    · exact bn_nc (by decide)
    · exact bn_nc (by decide)) (by simp; omega)
  have l2' : n2 ≤ n1 + 96 * 9 := l2'
  refine ⟨n2, ?_, by omega, by omega⟩
  unfold l_law_1
  refine (sSeq_nx (ρ' := [Sc ns, .town, .no, .d (.tuple R), .no, .no, .no, .no, .no, .no, .no, .no, .no]) (n' := n1) (by simp -implicitDefEqProofs only [eVar_ap, dVar_ap, eC_ap, dOf_ap, eFrz_ap, eBin_ap, bTest_ap, bTru_ap, bAnd_ap, bOr_ap, bNot_ap, eIf_ap, eB_ap, eAnd_ap, eOr_ap, aNil_ap, aCons_ap, sNil_ap, sCons_ap, eTup_ap, eLst_ap, eCall_ap, eApp_ap, oNone_ap, oSome_ap, eSl_ap, sNil'_ap, sSeq_ap, sBrk_ap, sRet_ap, sRetN_ap, sRetO_ap, sDrop_ap, sIf_ap, sSet_ap, sApp_ap, sTown_ap, sExt_ap, sIns_ap, sSetIx_ap, sAsg_ap, sPar_ap, iOf_ap, iVal_ap, iRng1_ap, iRng2_ap, sFor_ap, eComp_ap, bYes_ap, frzAt_ap, eUn_ap, eNotD_ap, eOrD_ap, eChain_ap, eListRg1_ap, eIsa_ap, eMt_ap, iEnumV_ap, iEnumF_ap, iZipV_ap, iZipF_ap, eTLen_ap, iRng3D_ap, sEnd_ap, eSs_ap, sPar3_ap, xPop_ap, xTup1_ap, xCat_ap, sSetX_ap, sAppX_ap, sParO_ap, sForEI_ap, sForK_ap, eRep_ap, eDicK_ap, eDicT_ap, sPut_ap, eAlt_ap, sTry_ap, eGetD_ap, eLockI_ap, iKeyF_ap, sSetDef_ap, eTupVals_ap, sNst_ap, frzNAt_ap, sAppN_ap, sStN_ap, eListRg2_ap, runB_ap, gOne_ap, gMany_ap, dI_ap, yesC_ap, dCmp_int, setD, kill_nx, kill_rt, kill_bk, Option.bind_some, Option.map_some, Option.bind_none, Option.map_none, List.getElem?_cons_zero, List.getElem?_cons_succ, List.set_cons_zero, List.set_cons_succ, List.cons_append, List.nil_append, List.append_nil, List.replicate, List.length_cons, List.length_nil, Nat.reduceAdd, Nat.reduceSub, Nat.zero_add, wdat_no, wdat_d, wdat_town, wdat_ol, wdat_od, wfrz_no, wfrz_d, wfrz_town, wfrz_ol, wfrz_od, wval_no, wval_d, wval_town, wval_ol, wval_od, warg_no, warg_d, warg_town, warg_ol, warg_od, vals, gLen, gAbs, gMax2, gMin2, gInt, gTup, gList, wipeW, if_true, if_false, Bool.false_eq_true, Bool.not_true, Bool.not_false, reduceCtorEq, k1])).trans ?_
  refine (sSeq_nx (ρ' := [Sc ns, .town, .no, .d (.tuple R), EE E, .no, .no, .no, .no, .no, .no, .no, .no]) (n' := n1) (by simp -implicitDefEqProofs only [eVar_ap, dVar_ap, eC_ap, dOf_ap, eFrz_ap, eBin_ap, bTest_ap, bTru_ap, bAnd_ap, bOr_ap, bNot_ap, eIf_ap, eB_ap, eAnd_ap, eOr_ap, aNil_ap, aCons_ap, sNil_ap, sCons_ap, eTup_ap, eLst_ap, eCall_ap, eApp_ap, oNone_ap, oSome_ap, eSl_ap, sNil'_ap, sSeq_ap, sBrk_ap, sRet_ap, sRetN_ap, sRetO_ap, sDrop_ap, sIf_ap, sSet_ap, sApp_ap, sTown_ap, sExt_ap, sIns_ap, sSetIx_ap, sAsg_ap, sPar_ap, iOf_ap, iVal_ap, iRng1_ap, iRng2_ap, sFor_ap, eComp_ap, bYes_ap, frzAt_ap, eUn_ap, eNotD_ap, eOrD_ap, eChain_ap, eListRg1_ap, eIsa_ap, eMt_ap, iEnumV_ap, iEnumF_ap, iZipV_ap, iZipF_ap, eTLen_ap, iRng3D_ap, sEnd_ap, eSs_ap, sPar3_ap, xPop_ap, xTup1_ap, xCat_ap, sSetX_ap, sAppX_ap, sParO_ap, sForEI_ap, sForK_ap, eRep_ap, eDicK_ap, eDicT_ap, sPut_ap, eAlt_ap, sTry_ap, eGetD_ap, eLockI_ap, iKeyF_ap, sSetDef_ap, eTupVals_ap, sNst_ap, frzNAt_ap, sAppN_ap, sStN_ap, eListRg2_ap, runB_ap, gOne_ap, gMany_ap, dI_ap, yesC_ap, dCmp_int, setD, kill_nx, kill_rt, kill_bk, Option.bind_some, Option.map_some, Option.bind_none, Option.map_none, List.getElem?_cons_zero, List.getElem?_cons_succ, List.set_cons_zero, List.set_cons_succ, List.cons_append, List.nil_append, List.append_nil, List.replicate, List.length_cons, List.length_nil, Nat.reduceAdd, Nat.reduceSub, Nat.zero_add, wdat_no, wdat_d, wdat_town, wdat_ol, wdat_od, wfrz_no, wfrz_d, wfrz_town, wfrz_ol, wfrz_od, wval_no, wval_d, wval_town, wval_ol, wval_od, warg_no, warg_d, warg_town, warg_ol, warg_od, vals, gLen, gAbs, gMax2, gMin2, gInt, gTup, gList, wipeW, if_true, if_false, Bool.false_eq_true, Bool.not_true, Bool.not_false, reduceCtorEq, dNeg, Rlen, dAdd_int, le1, and_self, E1])).trans ?_
  refine (sSeq_nx (ρ' := [Sc ns, .town, .no, .d (.tuple R), EE E, .d (.list [.none, .int 7, .tuple [], .str "odd", .tuple [.str "odd"], .tuple [.str "odd", .int 0], .tuple [.str "chain", .int 0, .int 0], .tuple [.str "odd", .int 0, .int 0, .int 0], .list [.str "odd", .int 0, .int 0], .tuple [.int 0, .int 0, .int 0]]), .no, .no, .no, .no, .no, .no, .no]) (n' := n1) (by simp -implicitDefEqProofs only [eVar_ap, dVar_ap, eC_ap, dOf_ap, eFrz_ap, eBin_ap, bTest_ap, bTru_ap, bAnd_ap, bOr_ap, bNot_ap, eIf_ap, eB_ap, eAnd_ap, eOr_ap, aNil_ap, aCons_ap, sNil_ap, sCons_ap, eTup_ap, eLst_ap, eCall_ap, eApp_ap, oNone_ap, oSome_ap, eSl_ap, sNil'_ap, sSeq_ap, sBrk_ap, sRet_ap, sRetN_ap, sRetO_ap, sDrop_ap, sIf_ap, sSet_ap, sApp_ap, sTown_ap, sExt_ap, sIns_ap, sSetIx_ap, sAsg_ap, sPar_ap, iOf_ap, iVal_ap, iRng1_ap, iRng2_ap, sFor_ap, eComp_ap, bYes_ap, frzAt_ap, eUn_ap, eNotD_ap, eOrD_ap, eChain_ap, eListRg1_ap, eIsa_ap, eMt_ap, iEnumV_ap, iEnumF_ap, iZipV_ap, iZipF_ap, eTLen_ap, iRng3D_ap, sEnd_ap, eSs_ap, sPar3_ap, xPop_ap, xTup1_ap, xCat_ap, sSetX_ap, sAppX_ap, sParO_ap, sForEI_ap, sForK_ap, eRep_ap, eDicK_ap, eDicT_ap, sPut_ap, eAlt_ap, sTry_ap, eGetD_ap, eLockI_ap, iKeyF_ap, sSetDef_ap, eTupVals_ap, sNst_ap, frzNAt_ap, sAppN_ap, sStN_ap, eListRg2_ap, runB_ap, gOne_ap, gMany_ap, dI_ap, yesC_ap, dCmp_int, setD, kill_nx, kill_rt, kill_bk, Option.bind_some, Option.map_some, Option.bind_none, Option.map_none, List.getElem?_cons_zero, List.getElem?_cons_succ, List.set_cons_zero, List.set_cons_succ, List.cons_append, List.nil_append, List.append_nil, List.replicate, List.length_cons, List.length_nil, Nat.reduceAdd, Nat.reduceSub, Nat.zero_add, wdat_no, wdat_d, wdat_town, wdat_ol, wdat_od, wfrz_no, wfrz_d, wfrz_town, wfrz_ol, wfrz_od, wval_no, wval_d, wval_town, wval_ol, wval_od, warg_no, warg_d, warg_town, warg_ol, warg_od, vals, gLen, gAbs, gMax2, gMin2, gInt, gTup, gList, wipeW, if_true, if_false, Bool.false_eq_true, Bool.not_true, Bool.not_false, reduceCtorEq])).trans ?_
  refine (sSeq_nx (ρ' := [Sc ns, .town, .no, .d (.tuple R), .no, .d (.list L), .no, .no, .no, .no, .no, .no, .no]) (n' := n1) (by simp -implicitDefEqProofs only [eVar_ap, dVar_ap, eC_ap, dOf_ap, eFrz_ap, eBin_ap, bTest_ap, bTru_ap, bAnd_ap, bOr_ap, bNot_ap, eIf_ap, eB_ap, eAnd_ap, eOr_ap, aNil_ap, aCons_ap, sNil_ap, sCons_ap, eTup_ap, eLst_ap, eCall_ap, eApp_ap, oNone_ap, oSome_ap, eSl_ap, sNil'_ap, sSeq_ap, sBrk_ap, sRet_ap, sRetN_ap, sRetO_ap, sDrop_ap, sIf_ap, sSet_ap, sApp_ap, sTown_ap, sExt_ap, sIns_ap, sSetIx_ap, sAsg_ap, sPar_ap, iOf_ap, iVal_ap, iRng1_ap, iRng2_ap, sFor_ap, eComp_ap, bYes_ap, frzAt_ap, eUn_ap, eNotD_ap, eOrD_ap, eChain_ap, eListRg1_ap, eIsa_ap, eMt_ap, iEnumV_ap, iEnumF_ap, iZipV_ap, iZipF_ap, eTLen_ap, iRng3D_ap, sEnd_ap, eSs_ap, sPar3_ap, xPop_ap, xTup1_ap, xCat_ap, sSetX_ap, sAppX_ap, sParO_ap, sForEI_ap, sForK_ap, eRep_ap, eDicK_ap, eDicT_ap, sPut_ap, eAlt_ap, sTry_ap, eGetD_ap, eLockI_ap, iKeyF_ap, sSetDef_ap, eTupVals_ap, sNst_ap, frzNAt_ap, sAppN_ap, sStN_ap, eListRg2_ap, runB_ap, gOne_ap, gMany_ap, dI_ap, yesC_ap, dCmp_int, setD, kill_nx, kill_rt, kill_bk, Option.bind_some, Option.map_some, Option.bind_none, Option.map_none, List.getElem?_cons_zero, List.getElem?_cons_succ, List.set_cons_zero, List.set_cons_succ, List.cons_append, List.nil_append, List.append_nil, List.replicate, List.length_cons, List.length_nil, Nat.reduceAdd, Nat.reduceSub, Nat.zero_add, wdat_no, wdat_d, wdat_town, wdat_ol, wdat_od, wfrz_no, wfrz_d, wfrz_town, wfrz_ol, wfrz_od, wval_no, wval_d, wval_town, wval_ol, wval_od, warg_no, warg_d, warg_town, warg_ol, warg_od, vals, gLen, gAbs, gMax2, gMin2, gInt, gTup, gList, wipeW, if_true, if_false, Bool.false_eq_true, Bool.not_true, Bool.not_false, reduceCtorEq, iSeq, e4])).trans ?_
  refine (sSeq_nx (ρ' := [Sc ns, .town, .no, .d (.tuple R), .no, .no, .no, .no, .no, .no, .no, .no, .no]) (n' := n1) (by simp -implicitDefEqProofs only [eVar_ap, dVar_ap, eC_ap, dOf_ap, eFrz_ap, eBin_ap, bTest_ap, bTru_ap, bAnd_ap, bOr_ap, bNot_ap, eIf_ap, eB_ap, eAnd_ap, eOr_ap, aNil_ap, aCons_ap, sNil_ap, sCons_ap, eTup_ap, eLst_ap, eCall_ap, eApp_ap, oNone_ap, oSome_ap, eSl_ap, sNil'_ap, sSeq_ap, sBrk_ap, sRet_ap, sRetN_ap, sRetO_ap, sDrop_ap, sIf_ap, sSet_ap, sApp_ap, sTown_ap, sExt_ap, sIns_ap, sSetIx_ap, sAsg_ap, sPar_ap, iOf_ap, iVal_ap, iRng1_ap, iRng2_ap, sFor_ap, eComp_ap, bYes_ap, frzAt_ap, eUn_ap, eNotD_ap, eOrD_ap, eChain_ap, eListRg1_ap, eIsa_ap, eMt_ap, iEnumV_ap, iEnumF_ap, iZipV_ap, iZipF_ap, eTLen_ap, iRng3D_ap, sEnd_ap, eSs_ap, sPar3_ap, xPop_ap, xTup1_ap, xCat_ap, sSetX_ap, sAppX_ap, sParO_ap, sForEI_ap, sForK_ap, eRep_ap, eDicK_ap, eDicT_ap, sPut_ap, eAlt_ap, sTry_ap, eGetD_ap, eLockI_ap, iKeyF_ap, sSetDef_ap, eTupVals_ap, sNst_ap, frzNAt_ap, sAppN_ap, sStN_ap, eListRg2_ap, runB_ap, gOne_ap, gMany_ap, dI_ap, yesC_ap, dCmp_int, setD, kill_nx, kill_rt, kill_bk, Option.bind_some, Option.map_some, Option.bind_none, Option.map_none, List.getElem?_cons_zero, List.getElem?_cons_succ, List.set_cons_zero, List.set_cons_succ, List.cons_append, List.nil_append, List.append_nil, List.replicate, List.length_cons, List.length_nil, Nat.reduceAdd, Nat.reduceSub, Nat.zero_add, wdat_no, wdat_d, wdat_town, wdat_ol, wdat_od, wfrz_no, wfrz_d, wfrz_town, wfrz_ol, wfrz_od, wval_no, wval_d, wval_town, wval_ol, wval_od, warg_no, warg_d, warg_town, warg_ol, warg_od, vals, gLen, gAbs, gMax2, gMin2, gInt, gTup, gList, wipeW, if_true, if_false, Bool.false_eq_true, Bool.not_true, Bool.not_false, reduceCtorEq, a5, iSeq, w5])).trans ?_
  refine (sSeq_nx (ρ' := [Sc ns, .town, .no, .d (.tuple R), .no, .no, .no, .no, .no, .no, .d (.tuple [z6, z6, z6, z6, z6, z6]), .no, .no]) (n' := n1) (by simp -implicitDefEqProofs only [eVar_ap, dVar_ap, eC_ap, dOf_ap, eFrz_ap, eBin_ap, bTest_ap, bTru_ap, bAnd_ap, bOr_ap, bNot_ap, eIf_ap, eB_ap, eAnd_ap, eOr_ap, aNil_ap, aCons_ap, sNil_ap, sCons_ap, eTup_ap, eLst_ap, eCall_ap, eApp_ap, oNone_ap, oSome_ap, eSl_ap, sNil'_ap, sSeq_ap, sBrk_ap, sRet_ap, sRetN_ap, sRetO_ap, sDrop_ap, sIf_ap, sSet_ap, sApp_ap, sTown_ap, sExt_ap, sIns_ap, sSetIx_ap, sAsg_ap, sPar_ap, iOf_ap, iVal_ap, iRng1_ap, iRng2_ap, sFor_ap, eComp_ap, bYes_ap, frzAt_ap, eUn_ap, eNotD_ap, eOrD_ap, eChain_ap, eListRg1_ap, eIsa_ap, eMt_ap, iEnumV_ap, iEnumF_ap, iZipV_ap, iZipF_ap, eTLen_ap, iRng3D_ap, sEnd_ap, eSs_ap, sPar3_ap, xPop_ap, xTup1_ap, xCat_ap, sSetX_ap, sAppX_ap, sParO_ap, sForEI_ap, sForK_ap, eRep_ap, eDicK_ap, eDicT_ap, sPut_ap, eAlt_ap, sTry_ap, eGetD_ap, eLockI_ap, iKeyF_ap, sSetDef_ap, eTupVals_ap, sNst_ap, frzNAt_ap, sAppN_ap, sStN_ap, eListRg2_ap, runB_ap, gOne_ap, gMany_ap, dI_ap, yesC_ap, dCmp_int, setD, kill_nx, kill_rt, kill_bk, Option.bind_some, Option.map_some, Option.bind_none, Option.map_none, List.getElem?_cons_zero, List.getElem?_cons_succ, List.set_cons_zero, List.set_cons_succ, List.cons_append, List.nil_append, List.append_nil, List.replicate, List.length_cons, List.length_nil, Nat.reduceAdd, Nat.reduceSub, Nat.zero_add, wdat_no, wdat_d, wdat_town, wdat_ol, wdat_od, wfrz_no, wfrz_d, wfrz_town, wfrz_ol, wfrz_od, wval_no, wval_d, wval_town, wval_ol, wval_od, warg_no, warg_d, warg_town, warg_ol, warg_od, vals, gLen, gAbs, gMax2, gMin2, gInt, gTup, gList, wipeW, if_true, if_false, Bool.false_eq_true, Bool.not_true, Bool.not_false, reduceCtorEq, iSeq, hb6, c6])).trans ?_
  simp -implicitDefEqProofs only [eVar_ap, dVar_ap, eC_ap, dOf_ap, eFrz_ap, eBin_ap, bTest_ap, bTru_ap, bAnd_ap, bOr_ap, bNot_ap, eIf_ap, eB_ap, eAnd_ap, eOr_ap, aNil_ap, aCons_ap, sNil_ap, sCons_ap, eTup_ap, eLst_ap, eCall_ap, eApp_ap, oNone_ap, oSome_ap, eSl_ap, sNil'_ap, sSeq_ap, sBrk_ap, sRet_ap, sRetN_ap, sRetO_ap, sDrop_ap, sIf_ap, sSet_ap, sApp_ap, sTown_ap, sExt_ap, sIns_ap, sSetIx_ap, sAsg_ap, sPar_ap, iOf_ap, iVal_ap, iRng1_ap, iRng2_ap, sFor_ap, eComp_ap, bYes_ap, frzAt_ap, eUn_ap, eNotD_ap, eOrD_ap, eChain_ap, eListRg1_ap, eIsa_ap, eMt_ap, iEnumV_ap, iEnumF_ap, iZipV_ap, iZipF_ap, eTLen_ap, iRng3D_ap, sEnd_ap, eSs_ap, sPar3_ap, xPop_ap, xTup1_ap, xCat_ap, sSetX_ap, sAppX_ap, sParO_ap, sForEI_ap, sForK_ap, eRep_ap, eDicK_ap, eDicT_ap, sPut_ap, eAlt_ap, sTry_ap, eGetD_ap, eLockI_ap, iKeyF_ap, sSetDef_ap, eTupVals_ap, sNst_ap, frzNAt_ap, sAppN_ap, sStN_ap, eListRg2_ap, runB_ap, gOne_ap, gMany_ap, dI_ap, yesC_ap, dCmp_int, setD, kill_nx, kill_rt, kill_bk, Option.bind_some, Option.map_some, Option.bind_none, Option.map_none, List.getElem?_cons_zero, List.getElem?_cons_succ, List.set_cons_zero, List.set_cons_succ, List.cons_append, List.nil_append, List.append_nil, List.replicate, List.length_cons, List.length_nil, Nat.reduceAdd, Nat.reduceSub, Nat.zero_add, wdat_no, wdat_d, wdat_town, wdat_ol, wdat_od, wfrz_no, wfrz_d, wfrz_town, wfrz_ol, wfrz_od, wval_no, wval_d, wval_town, wval_ol, wval_od, warg_no, warg_d, warg_town, warg_ol, warg_od, vals, gLen, gAbs, gMax2, gMin2, gInt, gTup, gList, wipeW, if_true, if_false, Bool.false_eq_true, Bool.not_true, Bool.not_false, reduceCtorEq, hbR, dNeg, s7, s8, a8, r7, r77, iSeq, e9]
theorem law_true (ns : List Int) (hns : ns.length ≤ 63) : ∃ n', b_law (.d (.list (ns.map .int)) :: .town :: List.replicate 11 .no) 0 = some (.rt (.d (.bool true)) n') := by
  obtain ⟨n', e, _⟩ := loop_law (g := gOne 2) (body := l_law_1) (ρ := [Sc ns, .town, .no, .no, .no, .no, .no, .no, .no, .no, .no, .no, .no]) 1000 (fun x n hn => by
    obtain ⟨n', e, l1, l2⟩ := one_turn ns x n hn
    exact ⟨_, n', rfl, e, l1, l2⟩) (rangeD 0 4) 0 (by decide)
  have r4 : rng1 (.int 4) = some (rangeD 0 4) := rfl
  refine ⟨n', ?_⟩
  show b_law [Sc ns, .town, .no, .no, .no, .no, .no, .no, .no, .no, .no, .no, .no] 0 = _
  unfold b_law
  simp -implicitDefEqProofs only [eVar_ap, dVar_ap, eC_ap, dOf_ap, eFrz_ap, eBin_ap, bTest_ap, bTru_ap, bAnd_ap, bOr_ap, bNot_ap, eIf_ap, eB_ap, eAnd_ap, eOr_ap, aNil_ap, aCons_ap, sNil_ap, sCons_ap, eTup_ap, eLst_ap, eCall_ap, eApp_ap, oNone_ap, oSome_ap, eSl_ap, sNil'_ap, sSeq_ap, sBrk_ap, sRet_ap, sRetN_ap, sRetO_ap, sDrop_ap, sIf_ap, sSet_ap, sApp_ap, sTown_ap, sExt_ap, sIns_ap, sSetIx_ap, sAsg_ap, sPar_ap, iOf_ap, iVal_ap, iRng1_ap, iRng2_ap, sFor_ap, eComp_ap, bYes_ap, frzAt_ap, eUn_ap, eNotD_ap, eOrD_ap, eChain_ap, eListRg1_ap, eIsa_ap, eMt_ap, iEnumV_ap, iEnumF_ap, iZipV_ap, iZipF_ap, eTLen_ap, iRng3D_ap, sEnd_ap, eSs_ap, sPar3_ap, xPop_ap, xTup1_ap, xCat_ap, sSetX_ap, sAppX_ap, sParO_ap, sForEI_ap, sForK_ap, eRep_ap, eDicK_ap, eDicT_ap, sPut_ap, eAlt_ap, sTry_ap, eGetD_ap, eLockI_ap, iKeyF_ap, sSetDef_ap, eTupVals_ap, sNst_ap, frzNAt_ap, sAppN_ap, sStN_ap, eListRg2_ap, runB_ap, gOne_ap, gMany_ap, dI_ap, yesC_ap, dCmp_int, setD, kill_nx, kill_rt, kill_bk, Option.bind_some, Option.map_some, Option.bind_none, Option.map_none, List.getElem?_cons_zero, List.getElem?_cons_succ, List.set_cons_zero, List.set_cons_succ, List.cons_append, List.nil_append, List.append_nil, List.replicate, List.length_cons, List.length_nil, Nat.reduceAdd, Nat.reduceSub, Nat.zero_add, wdat_no, wdat_d, wdat_town, wdat_ol, wdat_od, wfrz_no, wfrz_d, wfrz_town, wfrz_ol, wfrz_od, wval_no, wval_d, wval_town, wval_ol, wval_od, warg_no, warg_d, warg_town, warg_ol, warg_od, vals, gLen, gAbs, gMax2, gMin2, gInt, gTup, gList, wipeW, if_true, if_false, Bool.false_eq_true, Bool.not_true, Bool.not_false, reduceCtorEq, r4, e]
end L2.Lv.K10
open PySem PySem.W PyProof.Rows
set_option maxHeartbeats 0 in
theorem PySem.Challenge.cw_keyorders_k10_whole_papers_of_tables_holds : PySem.Challenge.rw_keyorders_k10_whole_papers_of_tables.Holds := by
  w_on; o_law; k_head; (case hw => w_witness2)
  k_fill
  refine L2.walk_of (l := PySem.Challenge.rw_keyorders_k10_whole_papers_of_tables) (n := 63) (k := 13) (x := "_law_script") (CX := fun _ => L2.CX0) (sp := fun w => L2.Lv.spLaw _ 63) rfl (by decide) rfl ⟨rfl, by decide, by decide⟩ (fun w h Y => PySem.W.kIn_of Y) ?F (fun _ H a ns hl hO hS => ⟨a, ns, rfl, hO, hS, hl, fun _ => rfl⟩) (fun _ _ _ _ _ h => h)
  case F =>
    intro w mg fa h KX G hmg
    refine' L2.Lv.K10.all_mk KX G hmg 63 L2.Lv.K10.law_true ?a0 ?l0 ?c0 ?k0 ?a1 ?l1 ?c1 ?k1 ?a2 ?l2 ?c2 ?k2 ?a3 ?l3 ?c3 ?k3 ?a4 ?l4 ?c4 ?k4 ?a5 ?l5 ?c5 ?k5 ?a6 ?l6 ?c6 ?k6 ?a7 ?l7 ?c7 ?k7 ?a8 ?l8 ?c8 ?k8 ?a9 ?l9 ?c9 ?k9 ?a10 ?l10 ?c10 ?k10 ?a11 ?l11 ?c11 ?k11 ?a12 ?l12 ?c12 ?k12 ?a13 ?l13 ?c13 ?k13 ?a14 ?l14 ?c14 ?k14 ?z0 ?z1 ?z2 ?z3 ?z4 ?z5 ?z6 ?z7 ?z8 ?z9 ?z10
    (case a0 => k_is); (case l0 => k_is); (case c0 => k_is); (case k0 => k_is); (case a1 => k_is); (case l1 => k_is); (case c1 => k_is); (case k1 => k_is); (case a2 => k_is); (case l2 => k_is); (case c2 => k_is); (case k2 => k_is); (case a3 => k_is); (case l3 => k_is); (case c3 => k_is); (case k3 => k_is); (case a4 => k_is); (case l4 => k_is); (case c4 => k_is); (case k4 => k_is); (case a5 => k_is); (case l5 => k_is); (case c5 => k_is); (case k5 => k_is); (case a6 => k_is); (case l6 => k_is); (case c6 => k_is); (case k6 => k_is); (case a7 => k_is); (case l7 => k_is); (case c7 => k_is); (case k7 => k_is); (case a8 => k_is); (case l8 => k_is); (case c8 => k_is); (case k8 => k_is); (case a9 => k_is); (case l9 => k_is); (case c9 => k_is); (case k9 => k_is); (case a10 => k_is); (case l10 => k_is); (case c10 => k_is); (case k10 => k_is); (case a11 => k_is); (case l11 => k_is); (case c11 => k_is); (case k11 => k_is); (case a12 => k_is); (case l12 => k_is); (case c12 => k_is); (case k12 => k_is); (case a13 => k_is); (case l13 => k_is); (case c13 => k_is); (case k13 => k_is); (case a14 => k_is); (case l14 => k_is); (case c14 => k_is); (case k14 => k_is); (case z0 => k_is); (case z1 => k_is); (case z2 => k_is); (case z3 => k_is); (case z4 => k_is); (case z5 => k_is); (case z6 => k_is); (case z7 => k_is); (case z8 => k_is); (case z9 => k_is); (case z10 => k_is)

