import PyProof.Rows.All
import Wide.All
import OpenK.AllK
import Wide.FinOn
import HandS.ForMost
import HandS.Flow
import HandS.TupAny
import HandS.Zip
import HandS.More
import HandS.Deep
import HandS.TupLe
import HandS.TupMul
import HandS.Conv
import HandS.IsInst
import HandS.SortInts
import KE.KIndexOf
import KE.DataFind
import KE.SortData
import KE.GoesNew
import HandS.Iter
import HandS.Style
import HandS.SetFor
import PySem.Challenge.RW_keyorders_k17_whole_rules_of_lists
set_option Elab.async false
set_option linter.all false
set_option maxRecDepth 100000
set_option maxHeartbeats 4000000
namespace L2.Lv
open PySem PySem.Spec PyProof.Rows
/-- what a slot holds, by value -/
inductive W where
  | no
  | d (x : PyData)
  | town
  | ol (xs : List PyData)
  | od (kvs : List (PyData × PyData))
abbrev Hz : Hp := fun _ => none
theorem rdz {a : Addr} {u : HO} : ¬ Rd Hz a u := by
  rintro (h | ⟨o, h⟩) <;> cases h
theorem sqLz {K : PySem.W.Frag} {H : Hp} {a : Addr} {xs : List V} (h : SqL K Hz a xs) : SqL K H a xs := by
  rcases h with h | h
  · exact (rdz h).elim
  · exact .inr h
theorem sqTz {K : PySem.W.Frag} {H : Hp} {a : Addr} {xs : List V} (h : SqT K Hz a xs) : SqT K H a xs := by
  rcases h with h | h
  · exact (rdz h).elim
  · exact .inr h
/-- a tuple, as it was made (it has no dict) -/
def TupAt (H : Hp) (a : Addr) (xs : List V) : Prop := ∃ o, H a = some (.frz o (.tup xs)) ∧ o.dict = none
def KTup (K : PySem.W.Frag) (a : Addr) (xs : List V) : Prop := SqT K Hz a xs ∧ ∃ o, K.lookup a = some o ∧ o.cls = .type "tuple" ∧ o.dict = none
theorem TupAt.sq {K : PySem.W.Frag} {H : Hp} {a : Addr} {xs : List V} (h : TupAt H a xs) : SqT K H a xs := by
  obtain ⟨o, h, _⟩ := h
  exact .inl (.inr ⟨o, h⟩)
theorem sqT_of {A : Addr → Prop} {K : PySem.W.Frag} {H : Hp} {a : Addr} {xs : List V} (h : (¬ A a ∧ TupAt H a xs) ∨ KTup K a xs) : SqT K H a xs := h.elim (fun z => z.2.sq) fun z => sqTz z.1
mutual
/-- v reads as the data d, by way of no address of A -/
inductive Dv (A : Addr → Prop) (K : PySem.W.Frag) (H : Hp) : V → PyData → Prop
  | non : Dv A K H .non .none
  | bl (b : Bool) : Dv A K H (.bl b) (.bool b)
  | int (i : Int) : Dv A K H (.int i) (.int i)
  | str (x : Str) : Dv A K H (.str x) (.str x)
  | lst {a : Addr} {xs : List V} {ds : List PyData} : (¬ A a ∧ Rd H a (.lst xs)) ∨ SqL K Hz a xs → DvAll A K H xs ds → Dv A K H (.ref a) (.list ds)
  | tup {a : Addr} {xs : List V} {ds : List PyData} : (¬ A a ∧ TupAt H a xs) ∨ KTup K a xs → DvAll A K H xs ds → Dv A K H (.ref a) (.tuple ds)
inductive DvAll (A : Addr → Prop) (K : PySem.W.Frag) (H : Hp) : List V → List PyData → Prop
  | nil : DvAll A K H [] []
  | cons {v : V} {vs : List V} {d : PyData} {ds : List PyData} : Dv A K H v d → DvAll A K H vs ds → DvAll A K H (v :: vs) (d :: ds)
end
/-- from A, H to A', H': what is read stays -/
def Keep (A A' : Addr → Prop) (H H' : Hp) : Prop := ∀ a o, ¬ A a → H a = some o → ¬ A' a ∧ H' a = some o
theorem Keep.rd {A A' : Addr → Prop} {H H' : Hp} (m : Keep A A' H H') {a : Addr} {u : HO} (n : ¬ A a) (r : Rd H a u) : ¬ A' a ∧ Rd H' a u := by
  rcases r with r | ⟨o, r⟩
  · exact ⟨(m a _ n r).1, .inl (m a _ n r).2⟩
  · exact ⟨(m a _ n r).1, .inr ⟨o, (m a _ n r).2⟩⟩
section
variable {A A' : Addr → Prop} {K : PySem.W.Frag} {H H' : Hp}
mutual
theorem Dv.keep (m : Keep A A' H H') : ∀ (d : PyData) (v : V), Dv A K H v d → Dv A' K H' v d
  | .none, _, h => by cases h; exact .non
  | .bool _, _, h => by cases h; exact .bl _
  | .int _, _, h => by cases h; exact .int _
  | .str _, _, h => by cases h; exact .str _
  | .list ds, _, h => by
    cases h with
    | lst hs ha => exact .lst (hs.imp (fun z => m.rd z.1 z.2) id) (DvAll.keep m ds _ ha)
  | .tuple ds, _, h => by
    cases h with
    | tup hs ha => exact .tup (hs.imp (fun ⟨n, o, r, d⟩ => ⟨(m _ _ n r).1, o, (m _ _ n r).2, d⟩) id) (DvAll.keep m ds _ ha)
  | .dict _, _, h => by cases h
theorem DvAll.keep (m : Keep A A' H H') : ∀ (ds : List PyData) (vs : List V), DvAll A K H vs ds → DvAll A' K H' vs ds
  | [], _, h => by cases h; exact .nil
  | d :: ds, _, h => by
    cases h with
    | cons h1 h2 => exact .cons (Dv.keep m d _ h1) (DvAll.keep m ds _ h2)
end
theorem Dv.mono (m : Keep A A' H H') {d : PyData} {v : V} (h : Dv A K H v d) : Dv A' K H' v d := Dv.keep m d v h
theorem DvAll.mono (m : Keep A A' H H') {ds : List PyData} {vs : List V} (h : DvAll A K H vs ds) : DvAll A' K H' vs ds := DvAll.keep m ds vs h
mutual
theorem Dv.dpK : ∀ (d : PyData) (v : V), Dv A K H v d → Dp K H v d
  | .none, _, h => by cases h; exact .non
  | .bool _, _, h => by cases h; exact .bl _
  | .int _, _, h => by cases h; exact .int _
  | .str _, _, h => by cases h; exact .str _
  | .list ds, _, h => by
    cases h with
    | lst hs ha => exact .lst (hs.elim (fun z => .inl z.2) sqLz) (DvAll.dpK ds _ ha)
  | .tuple ds, _, h => by
    cases h with
    | tup hs ha => exact .tup (sqT_of hs) (DvAll.dpK ds _ ha)
  | .dict _, _, h => by cases h
theorem DvAll.dpK : ∀ (ds : List PyData) (vs : List V), DvAll A K H vs ds → DpAll K H vs ds
  | [], _, h => by cases h; exact .nil
  | d :: ds, _, h => by
    cases h with
    | cons h1 h2 => exact .cons (Dv.dpK d _ h1) (DvAll.dpK ds _ h2)
end
theorem Dv.dp {d : PyData} {v : V} (h : Dv A K H v d) : Dp K H v d := Dv.dpK d v h
theorem DvAll.dp {d : List PyData} {v : List V} (h : DvAll A K H v d) : DpAll K H v d := DvAll.dpK d v h
theorem DvAll.length : ∀ {vs : List V} {ds : List PyData}, DvAll A K H vs ds → vs.length = ds.length
  | _, _, .nil => rfl
  | _, _, .cons _ t => congrArg (· + 1) (DvAll.length t)
theorem DvAll.append : ∀ {vs us : List V} {ds es : List PyData}, DvAll A K H vs ds → DvAll A K H us es → DvAll A K H (vs ++ us) (ds ++ es)
  | _, _, _, _, .nil, s => s
  | _, _, _, _, .cons r t, s => .cons r (DvAll.append t s)
theorem DvAll.take : ∀ (n : Nat) {vs : List V} {ds : List PyData}, DvAll A K H vs ds → DvAll A K H (vs.take n) (ds.take n)
  | 0, _, _, _ => by simpa using DvAll.nil
  | _ + 1, _, _, .nil => .nil
  | n + 1, _, _, .cons r t => .cons r (DvAll.take n t)
theorem DvAll.drop : ∀ (n : Nat) {vs : List V} {ds : List PyData}, DvAll A K H vs ds → DvAll A K H (vs.drop n) (ds.drop n)
  | 0, _, _, h => h
  | _ + 1, _, _, .nil => .nil
  | n + 1, _, _, .cons _ t => DvAll.drop n t
theorem DvAll.get : ∀ {vs : List V} {ds : List PyData} {i : Nat} {d : PyData}, DvAll A K H vs ds → ds[i]? = some d → ∃ v, vs[i]? = some v ∧ Dv A K H v d
  | _, _, _, _, .nil, e => by simp at e
  | _, _, 0, _, .cons r _, e => by simp at e; subst e; exact ⟨_, rfl, r⟩
  | _, _, i + 1, _, .cons _ t, e => by
    obtain ⟨v, h1, h2⟩ := DvAll.get (i := i) t (by simpa using e)
    exact ⟨v, by simpa using h1, h2⟩
theorem DvAll.getV {vs : List V} {ds : List PyData} {i : Nat} {v : V} (h : DvAll A K H vs ds) (e : vs[i]? = some v) : ∃ d, ds[i]? = some d ∧ Dv A K H v d := by
  have hl := h.length
  obtain ⟨hi, _⟩ := List.getElem?_eq_some_iff.mp e
  obtain ⟨u, h1, h2⟩ := h.get (List.getElem?_eq_getElem (show i < ds.length by omega))
  rw [e] at h1
  cases h1
  exact ⟨_, List.getElem?_eq_getElem (by omega), h2⟩
theorem DvAll.set : ∀ {vs : List V} {ds : List PyData} {v : V} {d : PyData} (i : Nat), DvAll A K H vs ds → Dv A K H v d → DvAll A K H (vs.set i v) (ds.set i d)
  | _, _, _, _, _, .nil, _ => .nil
  | _, _, _, _, 0, .cons _ t, r => .cons r t
  | _, _, _, _, i + 1, .cons r t, q => .cons r (DvAll.set i t q)
theorem DvAll.eraseIdx : ∀ {vs : List V} {ds : List PyData} (i : Nat), DvAll A K H vs ds → DvAll A K H (vs.eraseIdx i) (ds.eraseIdx i)
  | _, _, _, .nil => .nil
  | _, _, 0, .cons _ t => t
  | _, _, i + 1, .cons r t => .cons r (DvAll.eraseIdx i t)
theorem DvAll.reverse : ∀ {vs : List V} {ds : List PyData}, DvAll A K H vs ds → DvAll A K H vs.reverse ds.reverse
  | _, _, .nil => .nil
  | _, _, .cons r t => by
    rw [List.reverse_cons, List.reverse_cons]
    exact (DvAll.reverse t).append (.cons r .nil)
end
/-! ### dicts -/
inductive KeyD : Key → PyData → Prop
  | int (i : Int) : KeyD (.inl i) (.int i)
  | str (x : Str) : KeyD (.inr x) (.str x)
abbrev KeyDs : List Key → List PyData → Prop := Paired KeyD
def DctAt (A : Addr → Prop) (K : PySem.W.Frag) (H : Hp) (a : Addr) (kvs : List (PyData × PyData)) : Prop :=
  (∃ ks, H a = some (.dK ks) ∧ Paired (fun p q => KeyD p.1 q.1 ∧ Dv A K H p.2 q.2) ks kvs) ∨
  (∃ ks, H a = some (.dT ks) ∧ Paired (fun p q => (∃ ds, q.1 = .tuple ds ∧ KeyDs p.1 ds) ∧ Dv A K H p.2 q.2) ks kvs)
theorem Paired.impl {α β : Type} {F G : α → β → Prop} (f : ∀ a b, F a b → G a b) : ∀ {l : List α} {m : List β}, Paired F l m → Paired G l m
  | _, _, .nil => .nil
  | _, _, .cons r t => .cons (f _ _ r) (Paired.impl f t)
theorem DctAt.mono {A A' : Addr → Prop} {K : PySem.W.Frag} {H H' : Hp} {a : Addr} {kvs : List (PyData × PyData)} (m : Keep A A' H H') (k : ∀ o, H a = some o → H' a = some o) (h : DctAt A K H a kvs) : DctAt A' K H' a kvs := by
  rcases h with ⟨ks, e, p⟩ | ⟨ks, e, p⟩
  · exact .inl ⟨ks, k _ e, Paired.impl (fun x y z => ⟨z.1, z.2.mono m⟩) p⟩
  · exact .inr ⟨ks, k _ e, Paired.impl (fun x y z => ⟨z.1, z.2.mono m⟩) p⟩
theorem DctAt.there {A : Addr → Prop} {K : PySem.W.Frag} {H : Hp} {a : Addr} {kvs : List (PyData × PyData)} (h : DctAt A K H a kvs) : H a ≠ none := by
  rcases h with ⟨ks, e, _⟩ | ⟨ks, e, _⟩ <;> (rw [e]; simp)
/-! ### the state by value -/
/-- T: where the town stands; P: what others own; H0: the heap at the entry -/
structure Cn where
  T : Option Addr
  P : Addr → Prop
  H0 : Hp
abbrev Ow := Nat → Option Addr
def Av (C : Cn) (O : Ow) : Addr → Prop := fun a => C.P a ∨ C.T = some a ∨ ∃ i, O i = some a
abbrev Ow0 : Ow := fun _ => none
def TownAt (C : Cn) (H : Hp) (n : Nat) : Prop := ∀ a, C.T = some a → H a = some (.lst (List.replicate n (.int 0)))
/-- what an expression does to the heap -/
structure Step (C : Cn) (H H' : Hp) : Prop where
  st : ∀ a o, H a = some o → C.T ≠ some a → H' a = some o
  fr : ∀ a, H' a = none → H a = none
def Grow (H H' : Hp) : Prop := ∀ a o, H a = some o → H' a = some o
theorem Grow.refl {H : Hp} : Grow H H := fun _ _ h => h
theorem Grow.trans {H H1 H2 : Hp} (a : Grow H H1) (b : Grow H1 H2) : Grow H H2 := fun x o h => b x o (a x o h)
theorem Grow.upd {H : Hp} {p : Addr} {o : HO} (h : H p = none) : Grow H (upd H p o) := fun a u e => by rw [upd_ne (ne_of_none e h)]; exact e
theorem Grow.step {C : Cn} {H H' : Hp} (g : Grow H H') : Step C H H' := ⟨fun a o h _ => g a o h, fun a h => by
  cases e : H a with
  | none => rfl
  | some o => rw [g a o e] at h; cases h⟩
theorem Grow.town {C : Cn} {H H' : Hp} {n : Nat} (g : Grow H H') (t : TownAt C H n) : TownAt C H' n := fun a e => g _ _ (t a e)
theorem Step.refl {C : Cn} {H : Hp} : Step C H H := Grow.refl.step
theorem Step.trans {C : Cn} {H H1 H2 : Hp} (a : Step C H H1) (b : Step C H1 H2) : Step C H H2 := ⟨fun x o h n => b.st x o (a.st x o h n) n, fun x h => a.fr x (b.fr x h)⟩
theorem Step.rd {C : Cn} {H H' : Hp} (s : Step C H H') {a : Addr} {u : HO} (n : C.T ≠ some a) (r : Rd H a u) : Rd H' a u := by
  rcases r with r | ⟨o, r⟩
  · exact .inl (s.st _ _ r n)
  · exact .inr ⟨o, s.st _ _ r n⟩
theorem Grow.rd {H H' : Hp} (s : Grow H H') {a : Addr} {u : HO} (r : Rd H a u) : Rd H' a u := by
  rcases r with r | ⟨o, r⟩
  · exact .inl (s _ _ r)
  · exact .inr ⟨o, s _ _ r⟩
theorem Rd.there {H : Hp} {a : Addr} {u : HO} (r : Rd H a u) : H a ≠ none := by
  rcases r with r | ⟨o, r⟩ <;> (rw [r]; simp)
theorem Step.keep {C : Cn} {H H' : Hp} {A : Addr → Prop} (s : Step C H H') (t : ∀ a, C.T = some a → A a) : Keep A A H H' := fun a u n r => ⟨n, s.st a u r (fun e => n (t a e))⟩
theorem Grow.keep {H H' : Hp} {A : Addr → Prop} (s : Grow H H') : Keep A A H H' := fun a u n r => ⟨n, s a u r⟩
theorem Av.t {C : Cn} {O : Ow} : ∀ a, C.T = some a → Av C O a := fun a e => .inr (.inl e)
/-- an expression's value: from the heap H ahead of it to H' -/
def Res (A : Addr → Prop) (T : Option Addr) (K : PySem.W.Frag) (H H' : Hp) (v : V) : W → Prop
  | .no => False
  | .d x => Dv A K H' v x
  | .town => ∃ a, T = some a ∧ v = .ref a
  | .ol xs => ∃ a vs, v = .ref a ∧ H a = none ∧ H' a = some (.lst vs) ∧ DvAll (fun b => A b ∨ b = a) K H' vs xs
  | .od kvs => ∃ a, v = .ref a ∧ H a = none ∧ DctAt (fun b => A b ∨ b = a) K H' a kvs
/-- a value that is looked at: it may be a list or a dict of one's own -/
def DvB (A : Addr → Prop) (T : Option Addr) (K : PySem.W.Frag) (H : Hp) (v : V) (x : PyData) : Prop :=
  Dv A K H v x ∨ (∃ a vs ds, v = .ref a ∧ x = .list ds ∧ T ≠ some a ∧ H a = some (.lst vs) ∧ DvAll A K H vs ds) ∨
  (∃ a kvs, v = .ref a ∧ x = .dict kvs ∧ T ≠ some a ∧ DctAt A K H a kvs)
def W.dat : W → Option PyData
  | .d x => some x
  | .ol xs => some (.list xs)
  | .od kvs => some (.dict kvs)
  | _ => none
/-- taken as it is, for ever -/
def W.frz : W → W
  | .ol xs => .d (.list xs)
  | w => w
def SlOk (A : Addr → Prop) (T : Option Addr) (K : PySem.W.Frag) (H : Hp) (v : Option (Option V)) (o : Option Addr) : W → Prop
  | .no => True
  | .d x => ∃ u, v = some (some u) ∧ Dv A K H u x
  | .town => ∃ a, T = some a ∧ v = some (some (.ref a))
  | .ol xs => ∃ a vs, o = some a ∧ v = some (some (.ref a)) ∧ H a = some (.lst vs) ∧ DvAll A K H vs xs
  | .od kvs => ∃ a, o = some a ∧ v = some (some (.ref a)) ∧ DctAt A K H a kvs
structure EnvOk (C : Cn) (O : Ow) (K : PySem.W.Frag) (σ : St) (H : Hp) (ρ : List W) (n : Nat) : Prop where
  len : ρ.length = σ.length
  sl : ∀ i w, ρ[i]? = some w → SlOk (Av C O) C.T K H σ[i]? (O i) w
  inj : ∀ i j a, O i = some a → O j = some a → i = j
  own : ∀ i a, O i = some a → C.T ≠ some a ∧ C.H0 a = none ∧ H a ≠ none
  town : TownAt C H n
  base : ∀ a o, C.H0 a = some o → C.T ≠ some a → H a = some o
  ptr : ∀ a, C.P a → H a ≠ none
  fr : ∀ a, H a = none → C.H0 a = none
section
variable {C : Cn} {O O' : Ow} {K : PySem.W.Frag} {σ : St} {H H' H1 H2 : Hp} {ρ : List W} {n n' : Nat} {A A' : Addr → Prop} {T : Option Addr} {v : V} {w : W} {x : PyData}
theorem EnvOk.av (E : EnvOk C O K σ H ρ n) : ∀ a, Av C O a → H a ≠ none := by
  rintro a (h | h | ⟨i, h⟩)
  · exact E.ptr a h
  · rw [E.town a h]; simp
  · exact (E.own i a h).2.2
theorem EnvOk.step (E : EnvOk C O K σ H ρ n) (S : Step C H H') (t : TownAt C H' n') : EnvOk C O K σ H' ρ n' := by
  have k : Keep (Av C O) (Av C O) H H' := S.keep Av.t
  have nn : ∀ a, H a ≠ none → H' a ≠ none := fun a h e => h (S.fr a e)
  refine ⟨E.len, fun i w hw => ?_, E.inj, fun i a h => ⟨(E.own i a h).1, (E.own i a h).2.1, nn a (E.own i a h).2.2⟩, t, fun a o h hn => S.st a o (E.base a o h hn) hn, fun a h => nn a (E.ptr a h), fun a h => E.fr a (S.fr a h)⟩
  have q := E.sl i w hw
  cases w with
  | no => trivial
  | d x => obtain ⟨u, h1, h2⟩ := q; exact ⟨u, h1, h2.mono k⟩
  | town => exact q
  | ol xs =>
    obtain ⟨a, vs, h1, h2, h3, h4⟩ := q
    exact ⟨a, vs, h1, h2, S.st _ _ h3 (E.own i a h1).1, h4.mono k⟩
  | od kvs =>
    obtain ⟨a, h1, h2, h3⟩ := q
    exact ⟨a, h1, h2, h3.mono k fun o e => S.st _ _ e (E.own i a h1).1⟩
theorem DvB.step (S : Step C H H') (t : ∀ a, C.T = some a → A a) (h : DvB A C.T K H v x) : DvB A C.T K H' v x := by
  rcases h with h | ⟨a, vs, ds, h1, h2, h3, h4, h5⟩ | ⟨a, kvs, h1, h2, h3, h4⟩
  · exact .inl (h.mono (S.keep t))
  · exact .inr (.inl ⟨a, vs, ds, h1, h2, h3, S.st _ _ h4 h3, h5.mono (S.keep t)⟩)
  · exact .inr (.inr ⟨a, kvs, h1, h2, h3, h4.mono (S.keep t) fun o e => S.st _ _ e h3⟩)
theorem Res.dat (tr : ∀ a, T = some a → H a ≠ none) (h : Res A T K H H' v w) (e : w.dat = some x) : DvB A T K H' v x := by
  cases w with
  | no => cases e
  | d y => cases e; exact .inl h
  | town => cases e
  | ol xs =>
    cases e
    obtain ⟨a, vs, h1, h2, h3, h4⟩ := h
    exact .inr (.inl ⟨a, vs, xs, h1, rfl, fun z => tr a z h2, h3, h4.mono fun b u nb r => ⟨fun z => nb (.inl z), r⟩⟩)
  | od kvs =>
    cases e
    obtain ⟨a, h1, h2, h3⟩ := h
    exact .inr (.inr ⟨a, kvs, h1, rfl, fun z => tr a z h2, h3.mono (fun b u nb r => ⟨fun z => nb (.inl z), r⟩) fun o e => e⟩)
theorem Res.frz (tr : ∀ a, A a → H a ≠ none) (h : Res A T K H H' v w) : Res A T K H H' v w.frz := by
  cases w with
  | ol xs =>
    obtain ⟨a, vs, h1, h2, h3, h4⟩ := h
    subst h1
    exact .lst (.inl ⟨fun z => tr a z h2, .inl h3⟩) (h4.mono fun b u nb r => ⟨fun z => nb (.inl z), r⟩)
  | no => exact h
  | d _ => exact h
  | town => exact h
  | od _ => exact h
end
end L2.Lv
namespace L2.Lv
open PySem PySem.Spec PyProof.Rows
abbrev Fe := List W → Nat → Option (W × Nat)
abbrev Fd := List W → Nat → Option (PyData × Nat)
abbrev Ft := List W → Nat → Option (Bool × Nat)
abbrev Fa := List W → Nat → Option (List W × Nat)
def Post (C : Cn) (O : Ow) (K : PySem.W.Frag) (H H' : Hp) (n' : Nat) : Prop := Step C H H' ∧ TownAt C H' n'
def tV (K : PySem.W.Frag) (f : Fe) : TE := fun σ H Q => ∃ C O ρ n w n', f ρ n = some (w, n') ∧ EnvOk C O K σ H ρ n ∧ ∀ v H', Step C H H' → TownAt C H' n' → Res (Av C O) C.T K H H' v w → Q v H'
def tVB (K : PySem.W.Frag) (f : Fd) : TE := fun σ H Q => ∃ C O ρ n x n', f ρ n = some (x, n') ∧ EnvOk C O K σ H ρ n ∧ ∀ v H', Step C H H' → TownAt C H' n' → DvB (Av C O) C.T K H' v x → Q v H'
def tVT (K : PySem.W.Frag) (f : Ft) : TT := fun σ H Q => ∃ C O ρ n b n', f ρ n = some (b, n') ∧ EnvOk C O K σ H ρ n ∧ ∀ H', Step C H H' → TownAt C H' n' → Q b H'
/-- an argument: data that stays, or the town -/
def ArgOk (A : Addr → Prop) (T : Option Addr) (K : PySem.W.Frag) (H : Hp) (v : V) : W → Prop
  | .d x => Dv A K H v x
  | .town => ∃ a, T = some a ∧ v = .ref a
  | _ => False
abbrev ArgsOk (A : Addr → Prop) (T : Option Addr) (K : PySem.W.Frag) (H : Hp) : List V → List W → Prop := Paired (ArgOk A T K H)
def tVA (K : PySem.W.Frag) (f : Fa) : TA := fun σ H Q => ∃ C O ρ n ws n', f ρ n = some (ws, n') ∧ EnvOk C O K σ H ρ n ∧ ∀ vs H', Step C H H' → TownAt C H' n' → ArgsOk (Av C O) C.T K H' vs ws → Q vs H'
abbrev EvE (X : Cx) (e : Expr) (f : Fe) : Prop := PE X e (tV X.K f)
abbrev EvB (X : Cx) (e : Expr) (f : Fd) : Prop := PE X e (tVB X.K f)
abbrev EvT (X : Cx) (e : Expr) (f : Ft) : Prop := PT X e (tVT X.K f)
abbrev EvW (X : Cx) (e : Expr) (f : Ft) : Prop := PW X e (tVT X.K f)
theorem peI {X : Cx} {e : Expr} {t t' : TE} (h : PE X e t) (w : ∀ σ H Q, t' σ H Q → t σ H Q) : PE X e t' := ⟨fun pins s σ H Q I q => h.run pins s σ H Q I (w σ H Q q)⟩
theorem ptI {X : Cx} {e : Expr} {t t' : TT} (h : PT X e t) (w : ∀ σ H Q, t' σ H Q → t σ H Q) : PT X e t' := ⟨fun pins s σ H Q I q => h.run pins s σ H Q I (w σ H Q q)⟩
theorem pwI {X : Cx} {e : Expr} {t t' : TT} (h : PW X e t) (w : ∀ σ H Q, t' σ H Q → t σ H Q) : PW X e t' := ⟨fun wh pins s σ H Q I q => h.run wh pins s σ H Q I (w σ H Q q)⟩
theorem paI {X : Cx} {e : List Expr} {t t' : TA} (h : PA X e t) (w : ∀ σ H Q, t' σ H Q → t σ H Q) : PA X e t' := ⟨fun p pins s σ H Q I q => h.run p pins s σ H Q I (w σ H Q q)⟩
section
variable {X : Cx} {e a b : Expr} {f fa fb : Fe} {da db : Fd} {pos : Pos}
theorem EnvOk.tr {C : Cn} {O : Ow} {K : PySem.W.Frag} {σ : St} {H : Hp} {ρ : List W} {n : Nat} (E : EnvOk C O K σ H ρ n) : ∀ a, C.T = some a → H a ≠ none := fun a e => E.av a (.inr (.inl e))
/-! names, constants -/
def eVar (i : Nat) : Fe := fun ρ n => match ρ[i]? with
  | some (.d x) => some (.d x, n)
  | some .town => some (.town, n)
  | _ => none
theorem ev_var {i : Nat} (h : PE X e (tVar i)) : EvE X e (eVar i) := peI h (by
  rintro σ H Q ⟨C, O, ρ, n, w, n', hf, E, q⟩
  unfold eVar at hf
  split at hf
  · rename_i x hx
    cases hf
    obtain ⟨u, h1, h2⟩ := E.sl _ _ hx
    exact ⟨u, h1, q _ _ Step.refl E.town h2⟩
  · rename_i hx
    cases hf
    obtain ⟨u, h1, h2⟩ := E.sl _ _ hx
    exact ⟨_, h2, q _ _ Step.refl E.town ⟨u, h1, rfl⟩⟩
  · cases hf)
/-- a name, looked at -/
def dVar (i : Nat) : Fd := fun ρ n => (ρ[i]?.bind W.dat).map (·, n)
theorem eb_var {i : Nat} (h : PE X e (tVar i)) : EvB X e (dVar i) := peI h (by
  rintro σ H Q ⟨C, O, ρ, n, x, n', hf, E, q⟩
  unfold dVar at hf
  cases hx : ρ[i]? with
  | none => rw [hx] at hf; cases hf
  | some w =>
    rw [hx] at hf
    have sl := E.sl _ _ hx
    cases w with
    | no => cases hf
    | town => cases hf
    | d y =>
      cases hf
      obtain ⟨u, h1, h2⟩ := sl
      exact ⟨u, h1, q _ _ Step.refl E.town (.inl h2)⟩
    | ol xs =>
      cases hf
      obtain ⟨a, vs, h1, h2, h3, h4⟩ := sl
      exact ⟨_, h2, q _ _ Step.refl E.town (.inr (.inl ⟨a, vs, xs, rfl, rfl, (E.own i a h1).1, h3, h4⟩))⟩
    | od kvs =>
      cases hf
      obtain ⟨a, h1, h2, h3⟩ := sl
      exact ⟨_, h2, q _ _ Step.refl E.town (.inr (.inr ⟨a, kvs, rfl, rfl, (E.own i a h1).1, h3⟩))⟩)
def eC (x : PyData) : Fe := fun _ n => some (.d x, n)
theorem ev_c {v : V} {x : PyData} (h : PE X e (tC v)) (r : ∀ A H, Dv A X.K H v x) : EvE X e (eC x) := peI h (by
  rintro σ H Q ⟨C, O, ρ, n, w, n', hf, E, q⟩
  cases hf
  exact q _ _ Step.refl E.town (r _ _))
theorem ev_int {i j pos} : EvE X (.Constant (.int i) j pos) (eC (.int i)) := ev_c pe_int fun _ _ => .int _
theorem ev_bl {i j pos} : EvE X (.Constant (.bool i) j pos) (eC (.bool i)) := ev_c pe_bl fun _ _ => .bl _
theorem ev_non {j pos} : EvE X (.Constant .none j pos) (eC .none) := ev_c pe_non fun _ _ => .non
theorem ev_str {i j pos} : EvE X (.Constant (.str i) j pos) (eC (.str i)) := ev_c pe_str fun _ _ => .str _
/-- a value that is looked at -/
def dOf (f : Fe) : Fd := fun ρ n => (f ρ n).bind fun p => p.1.dat.map (·, p.2)
theorem eb_of (h : EvE X e f) : EvB X e (dOf f) := peI h (by
  rintro σ H Q ⟨C, O, ρ, n, x, n', hf, E, q⟩
  unfold dOf at hf
  obtain ⟨⟨w, n1⟩, h1, h2⟩ := Option.bind_eq_some_iff.mp hf
  obtain ⟨y, h3, h4⟩ := Option.map_eq_some_iff.mp h2
  cases h4
  exact ⟨C, O, ρ, n, w, n1, h1, E, fun v H' st t r => q v H' st t (r.dat E.tr h3)⟩)
/-- .. kept as it is for ever -/
def eFrz (f : Fe) : Fe := fun ρ n => (f ρ n).map fun p => (p.1.frz, p.2)
theorem ev_frz (h : EvE X e f) : EvE X e (eFrz f) := peI h (by
  rintro σ H Q ⟨C, O, ρ, n, x, n', hf, E, q⟩
  unfold eFrz at hf
  obtain ⟨⟨w, n1⟩, h1, h2⟩ := Option.map_eq_some_iff.mp hf
  cases h2
  exact ⟨C, O, ρ, n, w, n1, h1, E, fun v H' st t r => q v H' st t (r.frz E.av)⟩)
/-! operators -/
def OpV (X : Cx) (f : Value → Value → Sem Value) (g : PyData → PyData → Option W) : Prop := ∃ r : R2, OpR X f r ∧
  ∀ (A : Addr → Prop) (T : Option Addr) (x y : V) (dx dy : PyData) (w : W) (H : Hp) (Q : VK), (∀ a, A a → H a ≠ none) → DvB A T X.K H x dx → DvB A T X.K H y dy → g dx dy = some w →
    (∀ v H', Grow H H' → Res A none X.K H H' v w → Q v H') → r x y H Q
theorem OpV.or {f : Value → Value → Sem Value} {g h : PyData → PyData → Option W} (hg : OpV X f g) (hh : OpV X f h) : OpV X f (fun x y => (g x y).or (h x y)) := by
  obtain ⟨r, h1, h2⟩ := hg
  obtain ⟨r', h1', h2'⟩ := hh
  refine ⟨_, h1.or h1', fun A T x y dx dy w H Q tr rx ry e q => ?_⟩
  have e : (g dx dy).or (h dx dy) = some w := e
  cases hx : g dx dy with
  | none =>
    rw [hx] at e
    exact .inr (h2' A T x y dx dy w H Q tr rx ry (by simpa using e) q)
  | some w' =>
    rw [hx] at e
    exact .inl (h2 A T x y dx dy w H Q tr rx ry (hx.trans (by simpa using e)) q)
def eBin (g : PyData → PyData → Option W) (fa fb : Fd) : Fe := fun ρ n => (fa ρ n).bind fun p => (fb ρ p.2).bind fun q => (g p.1 q.1).map (·, q.2)
theorem Res.none_any {A : Addr → Prop} {T : Option Addr} {K : PySem.W.Frag} {H H' : Hp} {v : V} {w : W} (h : Res A none K H H' v w) : Res A T K H H' v w := by
  cases w with
  | town => obtain ⟨a, e, _⟩ := h; cases e
  | no => exact h
  | d _ => exact h
  | ol _ => exact h
  | od _ => exact h
theorem Res.back {A : Addr → Prop} {T : Option Addr} {K : PySem.W.Frag} {H0 H H' : Hp} {v : V} {w : W} (b : ∀ a, H a = none → H0 a = none) (h : Res A T K H H' v w) : Res A T K H0 H' v w := by
  cases w with
  | no => exact h
  | d _ => exact h
  | town => exact h
  | ol xs => obtain ⟨a, vs, h1, h2, h3⟩ := h; exact ⟨a, vs, h1, b a h2, h3⟩
  | od xs => obtain ⟨a, h1, h2, h3⟩ := h; exact ⟨a, h1, b a h2, h3⟩
theorem op_run {fo : Value → Value → Sem Value} {g : PyData → PyData → Option W} {r : R2} {σ : St} {H : Hp} {Q : VK}
    (h2 : ∀ (A : Addr → Prop) (T : Option Addr) (x y : V) (dx dy : PyData) (w : W) (H : Hp) (Q : VK), (∀ a, A a → H a ≠ none) → DvB A T X.K H x dx → DvB A T X.K H y dy → g dx dy = some w → (∀ v H', Grow H H' → Res A none X.K H H' v w → Q v H') → r x y H Q)
    (h : tV X.K (eBin g da db) σ H Q) : tOp r (tVB X.K da) (tVB X.K db) σ H Q := by
  obtain ⟨C, O, ρ, n, w, n', hf, E, q⟩ := h
  unfold eBin at hf
  obtain ⟨⟨x, n1⟩, e1, hf⟩ := Option.bind_eq_some_iff.mp hf
  obtain ⟨⟨y, n2⟩, e2, hf⟩ := Option.bind_eq_some_iff.mp hf
  obtain ⟨z, e3, hf⟩ := Option.map_eq_some_iff.mp hf
  cases hf
  refine ⟨C, O, ρ, n, x, n1, e1, E, fun vx H1 s1 t1 r1 => ?_⟩
  have E1 := E.step s1 t1
  refine ⟨C, O, ρ, n1, y, n2, e2, E1, fun vy H2 s2 t2 r2 => ?_⟩
  have E2 := E1.step s2 t2
  refine h2 (Av C O) C.T vx vy x y w H2 Q E2.av (r1.step s2 Av.t) r2 e3 fun v H3 g3 r3 => ?_
  exact q v H3 ((s1.trans s2).trans g3.step) (g3.town t2) (r3.none_any.back fun a ha => s1.fr a (s2.fr a ha))
theorem ev_bin {op : Operator} {g : PyData → PyData → Option W} (ho : OpV X (binaryOp op) g) (ha : EvB X a da) (hb : EvB X b db) : EvE X (.BinOp a op b pos) (eBin g da db) := by
  obtain ⟨r, h1, h2⟩ := ho
  exact peI (pe_op h1 ha hb) fun σ H Q h => op_run (fo := binaryOp op) h2 h
theorem ev_cmp {op : CmpOp} {g : PyData → PyData → Option W} (ho : OpV X (compareOp op) g) (ha : EvB X a da) (hb : EvB X b db) (hm : behindInMarks op b = false) : EvE X (.Compare a [op] [b] pos) (eBin g da db) := by
  obtain ⟨r, h1, h2⟩ := ho
  exact peI (pe_cmpR h1 ha hb hm) fun σ H Q h => op_run (fo := compareOp op) h2 h
/-- a comparison's truth -/
def bTest (f : Fe) : Ft := fun ρ n => (f ρ n).bind fun p => match p.1 with
  | .d (.bool c) => some (c, p.2)
  | _ => none
theorem tV_bool {K : PySem.W.Frag} {f : Fe} {σ : St} {H : Hp} {Q : Bool → Hp → Prop} (h : tVT K (bTest f) σ H Q) : tV K f σ H (fun x H' => ∃ k, x = .bl k ∧ Q k H') := by
  obtain ⟨C, O, ρ, n, c, n', hf, E, q⟩ := h
  unfold bTest at hf
  obtain ⟨⟨x, n1⟩, e1, hf⟩ := Option.bind_eq_some_iff.mp hf
  cases x with
  | d y =>
    cases y with
    | bool c' =>
      cases hf
      refine ⟨C, O, ρ, n, _, _, e1, E, fun v H' s t r => ?_⟩
      have r : Dv (Av C O) K H' v (.bool c) := r
      cases r
      exact ⟨c, rfl, q H' s t⟩
    | _ => cases hf
  | _ => cases hf
theorem et_cmp {op : CmpOp} {g : PyData → PyData → Option W} (ho : OpV X (compareOp op) g) (ha : EvB X a da) (hb : EvB X b db) (hm : behindInMarks op b = false) : EvT X (.Compare a [op] [b] pos) (bTest (eBin g da db)) := by
  obtain ⟨r, h1, h2⟩ := ho
  exact ptI (pt_cmpR h1 ha hb hm) fun σ H Q h => op_run (fo := compareOp op) h2 (tV_bool h)
/-! truth -/
def dTru : PyData → Option Bool
  | .none => some false
  | .bool b => some b
  | .int i => some (i != 0)
  | .str y => if y.length ≤ sizeLine then some ((y.length : Int) != 0) else none
  | .list xs => some (!xs.isEmpty)
  | .tuple xs => some (!xs.isEmpty)
  | .dict _ => none
def bTru (f : Fd) : Ft := fun ρ n => (f ρ n).bind fun p => (dTru p.1).map (·, p.2)
theorem DvAll.empty {A : Addr → Prop} {K : PySem.W.Frag} {H : Hp} {vs : List V} {ds : List PyData} (h : DvAll A K H vs ds) : vs.isEmpty = ds.isEmpty := by cases h <;> rfl
theorem DvB.tup {A : Addr → Prop} {T : Option Addr} {K : PySem.W.Frag} {H : Hp} {v : V} {ds : List PyData} (h : DvB A T K H v (.tuple ds)) : ∃ a xs, v = .ref a ∧ SqT K H a xs ∧ DvAll A K H xs ds ∧ Dv A K H v (.tuple ds) := by
  rcases h with h | ⟨a, vs, ds, h1, h2, _⟩ | ⟨a, kvs, h1, h2, _⟩
  · cases id h with
    | tup hs ha => exact ⟨_, _, rfl, sqT_of hs, ha, h⟩
  · cases h2
  · cases h2
theorem DvB.lst {A : Addr → Prop} {T : Option Addr} {K : PySem.W.Frag} {H : Hp} {v : V} {ds : List PyData} (h : DvB A T K H v (.list ds)) : ∃ a xs, v = .ref a ∧ SqL K H a xs ∧ DvAll A K H xs ds := by
  rcases h with h | ⟨a, vs, ds, h1, h2, h3, h4, h5⟩ | ⟨a, kvs, h1, h2, _⟩
  · cases h with
    | lst hs ha => exact ⟨_, _, rfl, hs.elim (fun z => .inl z.2) sqLz, ha⟩
  · cases h2
    exact ⟨a, vs, h1, SqL.of h4, h5⟩
  · cases h2
theorem DvB.int {A : Addr → Prop} {T : Option Addr} {K : PySem.W.Frag} {H : Hp} {v : V} {i : Int} (h : DvB A T K H v (.int i)) : v = .int i := by
  rcases h with h | ⟨a, vs, ds, h1, h2, _⟩ | ⟨a, kvs, h1, h2, _⟩
  · cases h; rfl
  · cases h2
  · cases h2
theorem DvB.str {A : Addr → Prop} {T : Option Addr} {K : PySem.W.Frag} {H : Hp} {v : V} {i : Str} (h : DvB A T K H v (.str i)) : v = .str i := by
  rcases h with h | ⟨a, vs, ds, h1, h2, _⟩ | ⟨a, kvs, h1, h2, _⟩
  · cases h; rfl
  · cases h2
  · cases h2
theorem DvB.bl {A : Addr → Prop} {T : Option Addr} {K : PySem.W.Frag} {H : Hp} {v : V} {i : Bool} (h : DvB A T K H v (.bool i)) : v = .bl i := by
  rcases h with h | ⟨a, vs, ds, h1, h2, _⟩ | ⟨a, kvs, h1, h2, _⟩
  · cases h; rfl
  · cases h2
  · cases h2
theorem DvB.non {A : Addr → Prop} {T : Option Addr} {K : PySem.W.Frag} {H : Hp} {v : V} (h : DvB A T K H v .none) : v = .non := by
  rcases h with h | ⟨a, vs, ds, h1, h2, _⟩ | ⟨a, kvs, h1, h2, _⟩
  · cases h; rfl
  · cases h2
  · cases h2
theorem DvB.dct {A : Addr → Prop} {T : Option Addr} {K : PySem.W.Frag} {H : Hp} {v : V} {kvs : List (PyData × PyData)} (h : DvB A T K H v (.dict kvs)) : ∃ a, v = .ref a ∧ DctAt A K H a kvs := by
  rcases h with h | ⟨a, vs, ds, h1, h2, _⟩ | ⟨a, kvs, h1, h2, h3, h4⟩
  · cases h
  · cases h2
  · cases h2; exact ⟨a, h1, h4⟩
theorem dTru_ok {A : Addr → Prop} {T : Option Addr} {K : PySem.W.Frag} {H : Hp} {v : V} {x : PyData} {c : Bool} (h : DvB A T K H v x) (e : dTru x = some c) : TruV K v H c := by
  cases x with
  | none => have := h.non; subst this; cases e; rfl
  | bool b => have := h.bl; subst this; cases e; rfl
  | int i => have := h.int; subst this; cases e; rfl
  | str y =>
    have := h.str; subst this
    simp only [dTru] at e
    split at e
    · rename_i hy
      cases e; exact ⟨hy, rfl⟩
    · cases e
  | list xs =>
    obtain ⟨a, vs, rfl, h1, h2⟩ := h.lst
    cases e
    exact .inl ⟨vs, h1, by rw [h2.empty]⟩
  | tuple xs =>
    obtain ⟨a, vs, rfl, h1, h2, _⟩ := h.tup
    cases e
    exact .inr (.inl ⟨vs, h1, by rw [h2.empty]⟩)
  | dict _ => cases e
theorem et_tru (ha : EvB X a da) (he : ∀ whole, isTrue a X.env whole = (do let v ← whole; standAt a.pos; holding [v] (truthy v))) : EvT X a (bTru da) := ptI (pt_truth ha he) (by
  rintro σ H Q ⟨C, O, ρ, n, c, n', hf, E, q⟩
  unfold bTru at hf
  obtain ⟨⟨x, n1⟩, e1, hf⟩ := Option.bind_eq_some_iff.mp hf
  obtain ⟨z, e3, hf⟩ := Option.map_eq_some_iff.mp hf
  cases hf
  exact ⟨C, O, ρ, n, x, n1, e1, E, fun v H' s t r => ⟨c, dTru_ok r e3, q H' s t⟩⟩)
/-! and, or, not, if -/
variable {ta tb tc : Ft} {rest : List Expr} {c : Expr}
def bAnd (ta tb : Ft) : Ft := fun ρ n => (ta ρ n).bind fun p => if p.1 then tb ρ p.2 else some (false, p.2)
def bOr (ta tb : Ft) : Ft := fun ρ n => (ta ρ n).bind fun p => if p.1 then some (true, p.2) else tb ρ p.2
def bNot (ta : Ft) : Ft := fun ρ n => (ta ρ n).map fun p => (!p.1, p.2)
theorem ew_and1 (ha : EvT X a ta) : EvW X (.BoolOp .And [a] pos) ta := pw_and1 ha
theorem ew_or1 (ha : EvT X a ta) : EvW X (.BoolOp .Or [a] pos) ta := pw_or1 ha
theorem ew_and (ha : EvT X a ta) (hb : EvW X (.BoolOp .And (b :: rest) pos) tb) : EvW X (.BoolOp .And (a :: b :: rest) pos) (bAnd ta tb) := pwI (pw_and ha hb) (by
  rintro σ H Q ⟨C, O, ρ, n, c, n', hf, E, q⟩
  unfold bAnd at hf
  obtain ⟨⟨x, n1⟩, e1, hf⟩ := Option.bind_eq_some_iff.mp hf
  refine ⟨C, O, ρ, n, x, n1, e1, E, fun H1 s1 t1 => ?_⟩
  cases x with
  | true =>
    rw [if_pos rfl]
    exact ⟨C, O, ρ, n1, c, n', by simpa using hf, E.step s1 t1, fun H2 s2 t2 => q H2 (s1.trans s2) t2⟩
  | false =>
    rw [if_neg (by simp)]
    simp at hf
    obtain ⟨rfl, rfl⟩ := hf
    exact q H1 s1 t1)
theorem ew_or (ha : EvT X a ta) (hb : EvW X (.BoolOp .Or (b :: rest) pos) tb) : EvW X (.BoolOp .Or (a :: b :: rest) pos) (bOr ta tb) := pwI (pw_or ha hb) (by
  rintro σ H Q ⟨C, O, ρ, n, c, n', hf, E, q⟩
  unfold bOr at hf
  obtain ⟨⟨x, n1⟩, e1, hf⟩ := Option.bind_eq_some_iff.mp hf
  refine ⟨C, O, ρ, n, x, n1, e1, E, fun H1 s1 t1 => ?_⟩
  cases x with
  | false =>
    rw [if_neg (by simp)]
    exact ⟨C, O, ρ, n1, c, n', by simpa using hf, E.step s1 t1, fun H2 s2 t2 => q H2 (s1.trans s2) t2⟩
  | true =>
    rw [if_pos rfl]
    simp at hf
    obtain ⟨rfl, rfl⟩ := hf
    exact q H1 s1 t1)
theorem et_w (h : EvW X a ta) : EvT X a ta := h.pt
theorem et_not (ha : EvT X a ta) : EvT X (.UnaryOp .Not a pos) (bNot ta) := ptI (pt_not ha) (by
  rintro σ H Q ⟨C, O, ρ, n, c, n', hf, E, q⟩
  unfold bNot at hf
  obtain ⟨⟨x, n1⟩, e1, hf⟩ := Option.map_eq_some_iff.mp hf
  cases hf
  exact ⟨C, O, ρ, n, x, n1, e1, E, fun H1 s1 t1 => q H1 s1 t1⟩)
def eIf (tc : Ft) (fa fb : Fe) : Fe := fun ρ n => (tc ρ n).bind fun p => if p.1 then fa ρ p.2 else fb ρ p.2
theorem Res.step0 {A : Addr → Prop} {T : Option Addr} {K : PySem.W.Frag} {C : Cn} {H H1 H' : Hp} {v : V} {w : W} (s : Step C H H1) (h : Res A T K H1 H' v w) : Res A T K H H' v w := h.back s.fr
theorem ev_ife (hc : EvT X c tc) (ha : EvE X a fa) (hb : EvE X b fb) : EvE X (.IfExp c a b pos) (eIf tc fa fb) := peI (pe_ifExp hc ha hb) (by
  rintro σ H Q ⟨C, O, ρ, n, w, n', hf, E, q⟩
  unfold eIf at hf
  obtain ⟨⟨x, n1⟩, e1, hf⟩ := Option.bind_eq_some_iff.mp hf
  refine ⟨C, O, ρ, n, x, n1, e1, E, fun H1 s1 t1 => ?_⟩
  cases x with
  | true => exact ⟨C, O, ρ, n1, w, n', by simpa using hf, E.step s1 t1, fun v H2 s2 t2 r => q v H2 (s1.trans s2) t2 (r.step0 s1)⟩
  | false => exact ⟨C, O, ρ, n1, w, n', by simpa using hf, E.step s1 t1, fun v H2 s2 t2 r => q v H2 (s1.trans s2) t2 (r.step0 s1)⟩)
/-- and, or, not as values (bools) -/
def eB (t : Ft) : Fe := fun ρ n => (t ρ n).map fun p => (.d (.bool p.1), p.2)
theorem tVT_val {K : PySem.W.Frag} {σ : St} {H : Hp} {Q : VK} (h : tV K (eB ta) σ H Q) : tVT K ta σ H (fun k H' => Q (.bl k) H') := by
  obtain ⟨C, O, ρ, n, w, n', hf, E, q⟩ := h
  obtain ⟨⟨x, n1⟩, e1, hf⟩ := Option.map_eq_some_iff.mp hf
  cases hf
  exact ⟨C, O, ρ, n, x, n1, e1, E, fun H1 s1 t1 => q _ _ s1 t1 (.bl _)⟩
/-- and as a value: all but the last are truths -/
def eAnd (fa fb : Fe) : Fe := fun ρ n => (fa ρ n).bind fun p => match p.1 with
  | .d (.bool true) => fb ρ p.2
  | .d (.bool false) => some (.d (.bool false), p.2)
  | _ => none
def eOr (fa fb : Fe) : Fe := fun ρ n => (fa ρ n).bind fun p => match p.1 with
  | .d (.bool false) => fb ρ p.2
  | .d (.bool true) => some (.d (.bool true), p.2)
  | _ => none
theorem ev_one {op : BoolOp} (ha : EvE X a fa) : EvE X (.BoolOp op [a] pos) fa := pe_one ha
theorem ev_and (ha : EvE X a fa) (hb : EvE X (.BoolOp .And (b :: rest) pos) fb) : EvE X (.BoolOp .And (a :: b :: rest) pos) (eAnd fa fb) := peI (pe_and ha hb) (by
  rintro σ H Q ⟨C, O, ρ, n, w, n', hf, E, q⟩
  unfold eAnd at hf
  obtain ⟨⟨x, n1⟩, e1, hf⟩ := Option.bind_eq_some_iff.mp hf
  refine ⟨C, O, ρ, n, x, n1, e1, E, fun v H1 s1 t1 r => ?_⟩
  simp only at hf
  split at hf
  · have r : Dv (Av C O) X.K H1 v (.bool true) := r
    cases r
    exact ⟨true, rfl, C, O, ρ, n1, w, n', hf, E.step s1 t1, fun v H2 s2 t2 r => q v H2 (s1.trans s2) t2 (r.step0 s1)⟩
  · have r : Dv (Av C O) X.K H1 v (.bool false) := r
    cases r
    cases hf
    exact ⟨false, rfl, q _ _ s1 t1 (.bl _)⟩
  · cases hf)
theorem ev_or (ha : EvE X a fa) (hb : EvE X (.BoolOp .Or (b :: rest) pos) fb) : EvE X (.BoolOp .Or (a :: b :: rest) pos) (eOr fa fb) := peI (pe_or ha hb) (by
  rintro σ H Q ⟨C, O, ρ, n, w, n', hf, E, q⟩
  unfold eOr at hf
  obtain ⟨⟨x, n1⟩, e1, hf⟩ := Option.bind_eq_some_iff.mp hf
  refine ⟨C, O, ρ, n, x, n1, e1, E, fun v H1 s1 t1 r => ?_⟩
  simp only at hf
  split at hf
  · have r : Dv (Av C O) X.K H1 v (.bool false) := r
    cases r
    exact ⟨false, rfl, C, O, ρ, n1, w, n', hf, E.step s1 t1, fun v H2 s2 t2 r => q v H2 (s1.trans s2) t2 (r.step0 s1)⟩
  · have r : Dv (Av C O) X.K H1 v (.bool true) := r
    cases r
    cases hf
    exact ⟨true, rfl, q _ _ s1 t1 (.bl _)⟩
  · cases hf)
end
end L2.Lv
namespace L2.Lv
open PySem PySem.Spec PyProof.Rows
abbrev Fds := List W → Nat → Option (List PyData × Nat)
abbrev DvBs (A : Addr → Prop) (T : Option Addr) (K : PySem.W.Frag) (H : Hp) : List V → List PyData → Prop := Paired (DvB A T K H)
def tVD (K : PySem.W.Frag) (f : Fds) : TA := fun σ H Q => ∃ C O ρ n xs n', f ρ n = some (xs, n') ∧ EnvOk C O K σ H ρ n ∧ ∀ vs H', Step C H H' → TownAt C H' n' → DvBs (Av C O) C.T K H' vs xs → Q vs H'
structure EvA (X : Cx) (es : List Expr) (f : Fa) : Prop where
  pa : PA X es (tVA X.K f)
  len : ∀ ρ n ws n', f ρ n = some (ws, n') → ws.length = es.length
abbrev EvD (X : Cx) (es : List Expr) (f : Fds) : Prop := PA X es (tVD X.K f)
section
variable {X : Cx} {e a b : Expr} {es : List Expr} {f fa fb : Fe} {d da db : Fd} {fs : Fa} {ds : Fds} {pos : Pos}
/-! arguments -/
def aNil : Fa := fun _ n => some ([], n)
def W.arg : W → Option W
  | .d x => some (.d x)
  | .ol xs => some (.d (.list xs))
  | .town => some .town
  | _ => none
def aCons (f : Fe) (fs : Fa) : Fa := fun ρ n => (f ρ n).bind fun p => p.1.arg.bind fun w => (fs ρ p.2).map fun q => (w :: q.1, q.2)
theorem ArgOk.step {C : Cn} {A : Addr → Prop} {K : PySem.W.Frag} {H H' : Hp} {v : V} {w : W} (s : Step C H H') (t : ∀ a, C.T = some a → A a) (h : ArgOk A C.T K H v w) : ArgOk A C.T K H' v w := by
  cases w with
  | d x => exact Dv.mono (s.keep t) h
  | town => exact h
  | no => exact h
  | ol _ => exact h
  | od _ => exact h
theorem Res.arg {A : Addr → Prop} {T : Option Addr} {K : PySem.W.Frag} {H H' : Hp} {v : V} {w w' : W} (tr : ∀ a, A a → H a ≠ none) (h : Res A T K H H' v w) (e : w.arg = some w') : ArgOk A T K H' v w' := by
  have q := h.frz tr
  cases w with
  | d x => cases e; exact q
  | ol x => cases e; exact q
  | town => cases e; exact q
  | no => cases e
  | od _ => cases e
theorem ea_nil : EvA X [] aNil := ⟨paI pa_nil (by
  rintro σ H Q ⟨C, O, ρ, n, w, n', hf, E, q⟩
  cases hf
  exact q _ _ Step.refl E.town .nil), by rintro ρ n ws n' h; cases h; rfl⟩
theorem ea_cons (ha : EvE X e f) (hr : EvA X es fs) (hs : starEach (e :: es) X.env = (false, eval e X.env) :: starEach es X.env := by rfl) : EvA X (e :: es) (aCons f fs) := by
  refine ⟨paI (pa_cons ha hr.pa hs) ?_, ?_⟩
  · rintro σ H Q ⟨C, O, ρ, n, w, n', hf, E, q⟩
    unfold aCons at hf
    obtain ⟨⟨x, n1⟩, e1, hf⟩ := Option.bind_eq_some_iff.mp hf
    obtain ⟨x', e2, hf⟩ := Option.bind_eq_some_iff.mp hf
    obtain ⟨⟨ws, n2⟩, e3, hf⟩ := Option.map_eq_some_iff.mp hf
    cases hf
    refine ⟨C, O, ρ, n, x, n1, e1, E, fun v H1 s1 t1 r1 => ?_⟩
    refine ⟨C, O, ρ, n1, ws, n2, e3, E.step s1 t1, fun vs H2 s2 t2 r2 => ?_⟩
    exact q _ _ (s1.trans s2) t2 (.cons ((r1.arg E.av e2).step s2 Av.t) r2)
  · intro ρ n ws n' h
    unfold aCons at h
    obtain ⟨⟨x, n1⟩, e1, h⟩ := Option.bind_eq_some_iff.mp h
    obtain ⟨x', e2, h⟩ := Option.bind_eq_some_iff.mp h
    obtain ⟨⟨ws, n2⟩, e3, h⟩ := Option.map_eq_some_iff.mp h
    cases h
    simp [hr.len _ _ _ _ e3]
def sNil : Fds := fun _ n => some ([], n)
def sCons (f : Fd) (fs : Fds) : Fds := fun ρ n => (f ρ n).bind fun p => (fs ρ p.2).map fun q => (p.1 :: q.1, q.2)
theorem ed_nil : EvD X [] sNil := paI pa_nil (by
  rintro σ H Q ⟨C, O, ρ, n, w, n', hf, E, q⟩
  cases hf
  exact q _ _ Step.refl E.town .nil)
theorem DvBs.step {C : Cn} {A : Addr → Prop} {K : PySem.W.Frag} {H H' : Hp} (s : Step C H H') (t : ∀ a, C.T = some a → A a) {vs : List V} {xs : List PyData} (h : DvBs A C.T K H vs xs) : DvBs A C.T K H' vs xs := Paired.impl (fun _ _ z => DvB.step s t z) h
theorem ed_cons (ha : EvB X e d) (hr : EvD X es ds) (hs : starEach (e :: es) X.env = (false, eval e X.env) :: starEach es X.env := by rfl) : EvD X (e :: es) (sCons d ds) := paI (pa_cons ha hr hs) (by
  rintro σ H Q ⟨C, O, ρ, n, w, n', hf, E, q⟩
  unfold sCons at hf
  obtain ⟨⟨x, n1⟩, e1, hf⟩ := Option.bind_eq_some_iff.mp hf
  obtain ⟨⟨ws, n2⟩, e3, hf⟩ := Option.map_eq_some_iff.mp hf
  cases hf
  refine ⟨C, O, ρ, n, x, n1, e1, E, fun v H1 s1 t1 r1 => ?_⟩
  refine ⟨C, O, ρ, n1, ws, n2, e3, E.step s1 t1, fun vs H2 s2 t2 r2 => ?_⟩
  exact q _ _ (s1.trans s2) t2 (.cons (r1.step s2 Av.t) r2))
/-! displays -/
def W.val : W → Option PyData
  | .d x => some x
  | _ => none
def vals : List W → Option (List PyData)
  | [] => some []
  | w :: ws => w.val.bind fun x => (vals ws).map (x :: ·)
theorem vals_ok {A : Addr → Prop} {T : Option Addr} {K : PySem.W.Frag} {H : Hp} : ∀ {ws : List W} {vs : List V} {xs : List PyData}, ArgsOk A T K H vs ws → vals ws = some xs → DvAll A K H vs xs ∧ xs.length = ws.length
  | _, _, _, .nil, e => by cases e; exact ⟨.nil, rfl⟩
  | w :: ws, _, _, .cons r t, e => by
    unfold vals at e
    obtain ⟨x, e1, e⟩ := Option.bind_eq_some_iff.mp e
    obtain ⟨ys, e2, e⟩ := Option.map_eq_some_iff.mp e
    cases e
    obtain ⟨q1, q2⟩ := vals_ok t e2
    cases w with
    | d y => cases e1; exact ⟨.cons r q1, by simp [q2]⟩
    | _ => cases e1
def eTup (fs : Fa) : Fe := fun ρ n => (fs ρ n).bind fun p => (vals p.1).map fun xs => (.d (.tuple xs), p.2)
def eLst (fs : Fa) : Fe := fun ρ n => (fs ρ n).bind fun p => (vals p.1).map fun xs => (.ol xs, p.2)
theorem small_line {n : Nat} (h : n ≤ 1000) : n ≤ sizeLine := Nat.le_of_lt (small1000 h)
theorem new_tup {A : Addr → Prop} {K : PySem.W.Frag} {H : Hp} {p : Addr} {vs : List V} {xs : List PyData} {o : Obj} (hp : H p = none) (tr : ∀ a, A a → H a ≠ none) (ho : o.dict = none) (h : DvAll A K H vs xs) : Dv A K (upd H p (.frz o (.tup vs))) (.ref p) (.tuple xs) :=
  .tup (.inl ⟨fun z => tr p z hp, o, upd_same, ho⟩) (h.mono (Grow.upd hp).keep)
/-! tuples as they are made -/
def rNewT (xs : List V) (H : Hp) (Q : VK) : Prop := ∀ p o, o.dict = none → H p = none → Q (.ref p) (upd H p (.frz o (.tup xs)))
theorem Inv.newT {pins : List (Addr × Obj)} {σ : St} {H : Hp} {s : Shared} {Q : VK} {xs : List V} {us : List Value} (I : Inv X pins σ H s) (r : Vals xs us) (hz : xs.length ≤ sizeLine) (q : rNewT xs H Q) :
    EP X pins σ Q (.ref s.heap.objs.size) { s with heap := s.heap.push { cls := .type "tuple", data := .seq us.toArray } } :=
  ⟨.ref s.heap.objs.size, _, I.laid (t' := s.toks) (o := .frz { cls := .type "tuple", data := .seq us.toArray } (.tup xs)) (fun b u e => Heap.get?_push_of_some _ e) (Nat.le_refl _) ⟨Heap.get?_push_size _ rfl, hz, us, r, IsTup.new _ _⟩, rfl,
    q _ _ rfl (I.hok.fresh (Nat.le_refl _))⟩
def tTupF (t : L2.TA) : TE := fun σ H Q => t σ H fun xs H1 => xs.length ≤ sizeLine ∧ rNewT xs H1 Q
theorem pe_tupF {t : L2.TA} {x1} (h : PA X es t) : PE X (.Tuple es x1 pos) (tTupF t) := ⟨fun pins s σ H Q I hq =>
  wpAny_Tuple_spliced (thn (h.run pos pins s σ H _ I hq) fun us s1 ⟨xs, H1, I1, r, z, q⟩ => ⟨by rw [← r.length]; exact z, Inv.newT I1 r z q⟩)⟩
/-- t + u -/
def rCatF (K : PySem.W.Frag) : R2 := fun x y H Q => ∃ a b xs ys, x = .ref a ∧ y = .ref b ∧ SqT K H a xs ∧ SqT K H b ys ∧ xs.length + ys.length ≤ sizeLine ∧
  (xs = [] → Q (.ref b) H) ∧ (ys = [] → Q (.ref a) H) ∧ rNewT (xs ++ ys) H Q
theorem op_catF : OpR X (binaryOp .Add) (rCatF X.K) := by
  rintro pins s σ H x y v u Q I rx ry ⟨a, b, xs, ys, rfl, rfl, ha, hb, hz, q0, q1, q2⟩
  have hv : v = .ref a := rx
  have hu : u = .ref b := ry
  subst hv hu
  obtain ⟨its, r1, p1, _⟩ := I.tuple ha
  obtain ⟨its2, r2, p2, _⟩ := I.tuple hb
  by_cases hx : xs = []
  · subst hx
    cases r1
    exact cat_tup0 p1 p2 ⟨.ref b, H, I, rfl, q0 rfl⟩
  · refine HT.cat_tup p1 p2 (fun z => hx (r1.nil_iff.mp z)) (fun z => ⟨.ref a, H, I, rfl, q1 (r2.nil_iff.mp z)⟩) (fun _ => ?_) (by rw [← r1.length, ← r2.length]; exact hz)
    exact Inv.newT I (r1.append r2) (by rw [List.length_append]; exact hz) q2
/-- t[lo:hi] -/
def rSlF (K : PySem.W.Frag) : V → Option Int → Option Int → Hp → VK → Prop := fun x lo hi H Q => ∃ a xs, x = .ref a ∧ SqT K H a xs ∧
  (HT.sIx xs.length 0 lo = 0 ∧ HT.sIx xs.length xs.length hi = xs.length → Q (.ref a) H) ∧ rNewT (cutV xs lo hi) H Q
theorem sl_tupF : SlR X (rSlF X.K) := by
  rintro pins s σ H x v vl vu lo hi sl Q I rx hs pl pu ⟨a, xs, rfl, hx, q1, q2⟩
  by_cases hw : HT.sIx xs.length 0 lo = 0 ∧ HT.sIx xs.length xs.length hi = xs.length
  · exact sl_tupA pins s σ H _ v vl vu lo hi sl Q I rx hs pl pu ⟨a, xs, rfl, hx, q1, fun z => (z hw).elim⟩
  · have hv : v = .ref a := rx
    subst hv
    obtain ⟨its, r, ht, hz⟩ := I.tuple hx
    have hlen : its.toArray.size = xs.length := by rw [List.size_toArray]; exact r.length.symm
    refine ⟨"tuple", _, PyProof.Rows.slot_tuple_getitem.lookup, ht.typeIs, HT.getItem_tuple_cut ht hs pl pu (by rw [hlen]; exact hw) ?_ (by rw [hlen]; exact hz)⟩
    rw [hlen]
    exact Inv.newT I ((r.drop _).take _) (Nat.le_trans (cutV_length xs lo hi) hz) q2
/-- tuple(x) -/
theorem call_tupF : CallR X (.type "tuple") (fun xs H Q => ∃ p ys, xs = [.ref p] ∧ ((SqL X.K H p ys ∧ rNewT ys H Q) ∨ (SqT X.K H p ys ∧ Q (.ref p) H))) := by
  rintro pins s σ H xs us Q I r ⟨p, ys, rfl, h⟩
  obtain ⟨u, rfl, rx⟩ := vals1 r
  have hu : u = .ref p := rx
  subst hu
  rcases h with ⟨hq, q⟩ | ⟨hq, q⟩
  · obtain ⟨its, r', pl, hz⟩ := I.list hq
    have hlen := r'.length
    refine call_tuple_list pl.isList (fun h' kp => ?_) (by simp only [List.size_toArray] <;> omega)
    exact Inv.newT (I.kept (t' := s.toks) kp) r' hz q
  · obtain ⟨its, r', pl, hz⟩ := I.tuple hq
    exact call_tuple_same pl ⟨.ref p, H, I, rfl, q⟩
theorem new_lst {A : Addr → Prop} {T : Option Addr} {K : PySem.W.Frag} {H : Hp} {p : Addr} {vs : List V} {xs : List PyData} (hp : H p = none) (h : DvAll A K H vs xs) : Res A T K H (upd H p (.lst vs)) (.ref p) (.ol xs) :=
  ⟨p, vs, rfl, hp, upd_same, h.mono fun a u n r => ⟨fun z => z.elim n fun e => (by rw [e, hp] at r; cases r), Grow.upd hp _ _ r⟩⟩
theorem ev_tup {x1} (h : EvA X es fs) (hz : es.length ≤ 1000 := by decide) : EvE X (.Tuple es x1 pos) (eTup fs) := peI (pe_tupF h.pa) (by
  rintro σ H Q ⟨C, O, ρ, n, w, n', hf, E, q⟩
  unfold eTup at hf
  obtain ⟨⟨ws, n1⟩, e1, hf⟩ := Option.bind_eq_some_iff.mp hf
  obtain ⟨xs, e2, hf⟩ := Option.map_eq_some_iff.mp hf
  cases hf
  refine ⟨C, O, ρ, n, ws, _, e1, E, fun vs H1 s1 t1 r1 => ?_⟩
  obtain ⟨d1, d2⟩ := vals_ok r1 e2
  have hl := h.len _ _ _ _ e1
  refine ⟨by rw [d1.length]; exact small_line (by omega), fun p o ho hp => ?_⟩
  exact q _ _ (s1.trans (Grow.upd hp).step) ((Grow.upd hp).town t1) (new_tup hp (E.step s1 t1).av ho d1))
theorem ev_lst (h : EvA X es fs) (hz : es.length ≤ 1000 := by decide) : EvE X (.List es pos) (eLst fs) := peI (pe_lst h.pa) (by
  rintro σ H Q ⟨C, O, ρ, n, w, n', hf, E, q⟩
  unfold eLst at hf
  obtain ⟨⟨ws, n1⟩, e1, hf⟩ := Option.bind_eq_some_iff.mp hf
  obtain ⟨xs, e2, hf⟩ := Option.map_eq_some_iff.mp hf
  cases hf
  refine ⟨C, O, ρ, n, ws, _, e1, E, fun vs H1 s1 t1 r1 => ?_⟩
  obtain ⟨d1, d2⟩ := vals_ok r1 e2
  have hl := h.len _ _ _ _ e1
  refine ⟨by rw [d1.length]; exact small_line (by omega), fun p hp => ?_⟩
  exact q _ _ (s1.trans (Grow.upd hp).step) ((Grow.upd hp).town t1) ((new_lst hp d1).back s1.fr))
/-! calls of a def -/
abbrev Fn := List W → Nat → Option (W × Nat)
/-- the promise: by value -/
def spOf (K : PySem.W.Frag) (k : Nat) (F : Fn) : Sp := fun vs H Q E => ∃ (T : Option Addr) (P : Addr → Prop) (ws : List W) (n : Nat) (w : W) (n' : Nat),
  (∀ a, P a → H a ≠ none) ∧ TownAt ⟨T, P, H⟩ H n ∧ ws.length = k ∧ ArgsOk (Av ⟨T, P, H⟩ Ow0) T K H vs ws ∧ F ws n = some (w, n') ∧
  ∀ v H', Step ⟨T, P, H⟩ H H' → TownAt ⟨T, P, H⟩ H' n' → Res (Av ⟨T, P, H⟩ Ow0) T K H H' v w → Q v H'
theorem spOf.len {K : PySem.W.Frag} {k : Nat} {F : Fn} : ∀ vs H Q E, spOf K k F vs H Q E → vs.length = k := by
  rintro vs H Q E ⟨T, P, ws, n, w, n', _, _, hl, ha, _⟩
  rw [← hl]
  exact Paired.length ha
def eCall (F : Fn) (fs : Fa) : Fe := fun ρ n => (fs ρ n).bind fun p => F p.1 p.2
theorem Res.av {A A' : Addr → Prop} {T : Option Addr} {K : PySem.W.Frag} {H H' : Hp} {v : V} {w : W} (i : ∀ a, A' a → A a) (h : Res A T K H H' v w) : Res A' T K H H' v w := by
  cases w with
  | no => exact h
  | d _ => exact Dv.mono (fun a u n r => ⟨fun z => n (i a z), r⟩) h
  | town => exact h
  | ol xs => obtain ⟨a, vs, h1, h2, h3, h4⟩ := h; exact ⟨a, vs, h1, h2, h3, h4.mono fun b u n r => ⟨fun z => n (z.imp (i b) id), r⟩⟩
  | od xs => obtain ⟨a, h1, h2, h3⟩ := h; exact ⟨a, h1, h2, h3.mono (fun b u n r => ⟨fun z => n (z.imp (i b) id), r⟩) fun o e => e⟩
theorem call_run {k : Nat} {F : Fn} (h0 : EvA X es fs) (hk : es.length = k) {σ : St} {H : Hp} {Q : VK} (h : tV X.K (eCall F fs) σ H Q) : tCall (spOf X.K k F) [] E0 (tVA X.K fs) σ H Q := by
  obtain ⟨C, O, ρ, n, w, n', hf, E, q⟩ := h
  unfold eCall at hf
  obtain ⟨⟨ws, n1⟩, e1, hf⟩ := Option.bind_eq_some_iff.mp hf
  refine ⟨C, O, ρ, n, ws, n1, e1, E, fun vs H1 s1 t1 r1 => ?_⟩
  have E1 := E.step s1 t1
  have av1 : ∀ a, Av ⟨C.T, fun a => C.P a ∨ ∃ i, O i = some a, H1⟩ Ow0 a → Av C O a := by
    rintro a ((z | z) | z | ⟨i, z⟩)
    · exact .inl z
    · exact .inr (.inr z)
    · exact .inr (.inl z)
    · cases z
  have av2 : ∀ a, Av C O a → Av ⟨C.T, fun a => C.P a ∨ ∃ i, O i = some a, H1⟩ Ow0 a := by
    rintro a (z | z | z)
    · exact .inl (.inl z)
    · exact .inr (.inl z)
    · exact .inl (.inr z)
  show spOf X.K k F (vs ++ []) H1 Q E0
  rw [List.append_nil]
  refine ⟨C.T, fun a => C.P a ∨ ∃ i, O i = some a, ws, n1, w, n', fun a z => E1.av a (z.elim .inl fun z => .inr (.inr z)), t1, ?_, ?_, hf, fun v H2 s2 t2 r2 => ?_⟩
  · rw [h0.len _ _ _ _ e1, hk]
  · refine Paired.impl (fun v w z => ?_) r1
    cases w with
    | d x => exact Dv.mono (fun a u n r => ⟨fun z => n (av1 a z), r⟩) z
    | town => exact z
    | no => exact z
    | ol _ => exact z
    | od _ => exact z
  · have s2' : Step C H1 H2 := ⟨s2.st, s2.fr⟩
    exact q v H2 (s1.trans s2') t2 ((r2.av av2).back s1.fr)
section
variable {k j : Nat} {F : Fn} {g : Addr} {fd : FuncData} {ps : List Str} {x : Str} {p : Pos}
theorem ev_call (G : FnOk X.prog X.w X.K X.mg X.base CX0 j g fd ps (spOf X.K k F)) (hr : Room j X.A) (hg : Gl X x) (hm : X.mg x = some (.ref g)) (hk : PySem.W.keepIn X.K (.ref g) = true) (hb : Binds X.K fd ps []) (ha : EvA X (e :: es) fs)
    (hl : (e :: es).length = k := by rfl) (hdb : (x == ("__debug__" : Str)) = false := by decide) (he : starEach (e :: es) X.env = (false, eval e X.env) :: starEach es X.env := by rfl) (hpl : (backTo pos (starEach es X.env)).any (·.1) = false := by rfl) :
    EvE X (.Call (.Name x p) (e :: es) [] pos) (eCall F fs) := peI (pe_call G hr hg hm hk hb .nil pass0 ha.pa hdb he hpl) fun σ H Q h => call_run ha hl h
theorem ev_call0 (G : FnOk X.prog X.w X.K X.mg X.base CX0 j g fd ps (spOf X.K 0 F)) (hr : Room j X.A) (hg : Gl X x) (hm : X.mg x = some (.ref g)) (hk : PySem.W.keepIn X.K (.ref g) = true) (hb : Binds X.K fd ps [])
    (hdb : (x == ("__debug__" : Str)) = false := by decide) : EvE X (.Call (.Name x p) [] [] pos) (eCall F aNil) := peI (pe_call0 G hr hg hm hk hb .nil pass0 hdb) fun σ H Q h => by
  obtain ⟨C, O, ρ, n, w, n', hf, E, q⟩ := h
  obtain ⟨C', O', ρ', n0, ws, n1, e1, E1, h1⟩ := call_run (fs := aNil) (F := F) ea_nil rfl ⟨C, O, ρ, n, w, n', hf, E, q⟩
  cases e1
  exact h1 [] H Step.refl E1.town .nil
end
/-! calls of built-ins, by values -/
def CallV (X : Cx) (f : Value) (g : List PyData → Option W) : Prop := ∃ r, CallR X f r ∧
  ∀ (A : Addr → Prop) (T : Option Addr) (vs : List V) (xs : List PyData) (w : W) (H : Hp) (Q : VK), (∀ a, A a → H a ≠ none) → DvBs A T X.K H vs xs → g xs = some w →
    (∀ v H', Grow H H' → Res A none X.K H H' v w → Q v H') → r vs H Q
def eApp (g : List PyData → Option W) (ds : Fds) : Fe := fun ρ n => (ds ρ n).bind fun p => (g p.1).map (·, p.2)
theorem app_run {g : List PyData → Option W} {r : List V → Hp → VK → Prop} {σ : St} {H : Hp} {Q : VK}
    (h2 : ∀ (A : Addr → Prop) (T : Option Addr) (vs : List V) (xs : List PyData) (w : W) (H : Hp) (Q : VK), (∀ a, A a → H a ≠ none) → DvBs A T X.K H vs xs → g xs = some w →
      (∀ v H', Grow H H' → Res A none X.K H H' v w → Q v H') → r vs H Q)
    (h : tV X.K (eApp g ds) σ H Q) : tCB r (tVD X.K ds) σ H Q := by
  obtain ⟨C, O, ρ, n, w, n', hf, E, q⟩ := h
  unfold eApp at hf
  obtain ⟨⟨xs, n1⟩, e1, hf⟩ := Option.bind_eq_some_iff.mp hf
  obtain ⟨z, e2, hf⟩ := Option.map_eq_some_iff.mp hf
  cases hf
  refine ⟨C, O, ρ, n, xs, _, e1, E, fun vs H1 s1 t1 r1 => ?_⟩
  exact h2 (Av C O) C.T vs xs _ H1 Q (E.step s1 t1).av r1 e2 fun v H2 g2 r2 => q v H2 (s1.trans g2.step) (g2.town t1) (r2.none_any.back s1.fr)
section
variable {x : Str} {p : Pos} {id T : String} {g g' : List PyData → Option W}
theorem ev_callB (hc : CallV X (.builtin id) g) (hg : Gl X x) (hm : X.mg x = none) (hv : bootBuiltins x = some (.builtin id)) (ha : EvD X (e :: es) ds) (hn : x ≠ "__name__" := by decide) (hdb : (x == ("__debug__" : Str)) = false := by decide)
    (he : starEach (e :: es) X.env = (false, eval e X.env) :: starEach es X.env := by rfl) (hpl : (backTo pos (starEach es X.env)).any (·.1) = false := by rfl) : EvE X (.Call (.Name x p) (e :: es) [] pos) (eApp g ds) := by
  obtain ⟨r, h1, h2⟩ := hc
  exact peI (pe_callB h1 hg hm hv ha hn hdb he hpl) fun σ H Q h => app_run h2 h
theorem ev_callTy (hc : CallV X (.type T) g) (hg : Gl X x) (hm : X.mg x = none) (hv : bootBuiltins x = some (.type T)) (ha : EvD X (e :: es) ds) (hn : x ≠ "__name__" := by decide) (hdb : (x == ("__debug__" : Str)) = false := by decide)
    (he : starEach (e :: es) X.env = (false, eval e X.env) :: starEach es X.env := by rfl) (hpl : (backTo pos (starEach es X.env)).any (·.1) = false := by rfl) : EvE X (.Call (.Name x p) (e :: es) [] pos) (eApp g ds) := by
  obtain ⟨r, h1, h2⟩ := hc
  exact peI (pe_callTy h1 hg hm hv ha hn hdb he hpl) fun σ H Q h => app_run h2 h
theorem CallV.or {f : Value} (hg : CallV X f g) (hh : CallV X f g') : CallV X f (fun xs => (g xs).or (g' xs)) := by
  obtain ⟨r, h1, h2⟩ := hg
  obtain ⟨r', h1', h2'⟩ := hh
  refine ⟨_, h1.or h1', fun A T vs xs w H Q tr rx e q => ?_⟩
  have e : (g xs).or (g' xs) = some w := e
  cases hx : g xs with
  | none =>
    rw [hx] at e
    exact .inr (h2' A T vs xs w H Q tr rx (by simpa using e) q)
  | some w' =>
    rw [hx] at e
    exact .inl (h2 A T vs xs w H Q tr rx (hx.trans (by simpa using e)) q)
end
/-! subscripts, slices -/
def IxV (X : Cx) (g : PyData → PyData → Option W) : Prop := ∃ r : R2, IxR X r ∧
  ∀ (A : Addr → Prop) (T : Option Addr) (x y : V) (dx dy : PyData) (w : W) (H : Hp) (Q : VK), (∀ a, A a → H a ≠ none) → DvB A T X.K H x dx → DvB A T X.K H y dy → g dx dy = some w →
    (∀ v H', Grow H H' → Res A none X.K H H' v w → Q v H') → r x y H Q
theorem ev_ix {g : PyData → PyData → Option W} (ho : IxV X g) (ha : EvB X a da) (hb : EvB X b db) (hs : PlainIx b) : EvE X (.Subscript a b pos) (eBin g da db) := by
  obtain ⟨r, h1, h2⟩ := ho
  exact peI (pe_ix h1 ha hb hs) fun σ H Q h => op_run (fo := binaryOp .Add) h2 h
def dIx : PyData → PyData → Option W
  | .list xs, .int i => (atI xs i).map .d
  | .tuple xs, .int i => (atI xs i).map .d
  | _, _ => none
theorem DvAll.at {A : Addr → Prop} {K : PySem.W.Frag} {H : Hp} {vs : List V} {xs : List PyData} {i : Int} {x : PyData} (h : DvAll A K H vs xs) (e : atI xs i = some x) : ∃ v, atI vs i = some v ∧ Dv A K H v x := by
  unfold atI at e ⊢
  rw [h.length]
  cases hj : ixN xs.length i with
  | none => rw [hj] at e; cases e
  | some j =>
    rw [hj] at e
    obtain ⟨v, h1, h2⟩ := h.get e
    exact ⟨v, h1, h2⟩
theorem ixv : IxV X dIx := ⟨_, ix_list.or ix_tup, fun A T x y dx dy w H Q tr rx ry e q => by
  cases dy with
  | int i =>
    have := ry.int; subst this
    cases dx with
    | list xs =>
      obtain ⟨z, e1, rfl⟩ := Option.map_eq_some_iff.mp (show (atI xs i).map W.d = some w from e)
      obtain ⟨a, vs, rfl, h1, h2⟩ := rx.lst
      obtain ⟨v, h3, h4⟩ := h2.at e1
      exact .inl ⟨a, vs, i, v, rfl, rfl, h1, h3, q _ _ Grow.refl h4⟩
    | tuple xs =>
      obtain ⟨z, e1, rfl⟩ := Option.map_eq_some_iff.mp (show (atI xs i).map W.d = some w from e)
      obtain ⟨a, vs, rfl, h1, h2, _⟩ := rx.tup
      obtain ⟨v, h3, h4⟩ := h2.at e1
      exact .inr ⟨a, vs, i, v, rfl, rfl, h1, h3, q _ _ Grow.refl h4⟩
    | _ => cases e
  | _ => cases dx <;> cases e⟩
abbrev Fo := List W → Nat → Option (Option Int × Nat)
def tVO (K : PySem.W.Frag) (f : Fo) : TO := fun σ H Q => ∃ C O ρ n o n', f ρ n = some (o, n') ∧ EnvOk C O K σ H ρ n ∧ ∀ H', Step C H H' → TownAt C H' n' → Q o H'
structure EvO (X : Cx) (e : Option Expr) (f : Fo) : Prop where
  ex : ∃ t, PO X e t ∧ ∀ σ H Q, tVO X.K f σ H Q → t σ H Q
def oNone : Fo := fun _ n => some (none, n)
def oSome (d : Fd) : Fo := fun ρ n => (d ρ n).bind fun p => match p.1 with
  | .int i => some (some i, p.2)
  | _ => none
theorem eo_none : EvO X none oNone := ⟨_, po_none, by
  rintro σ H Q ⟨C, O, ρ, n, w, n', hf, E, q⟩
  cases hf
  exact q _ Step.refl E.town⟩
theorem eo_some (h : EvB X e d) : EvO X (some e) (oSome d) := ⟨_, po_some h, by
  rintro σ H Q ⟨C, O, ρ, n, w, n', hf, E, q⟩
  unfold oSome at hf
  obtain ⟨⟨x, n1⟩, e1, hf⟩ := Option.bind_eq_some_iff.mp hf
  cases x with
  | int i =>
    cases hf
    refine ⟨C, O, ρ, n, _, _, e1, E, fun v H1 s1 t1 r1 => ?_⟩
    exact ⟨i, r1.int, q _ s1 t1⟩
  | _ => cases hf⟩
def SlV (X : Cx) (g : PyData → Option Int → Option Int → Option W) : Prop := ∃ r, SlR X r ∧
  ∀ (A : Addr → Prop) (T : Option Addr) (x : V) (dx : PyData) (lo hi : Option Int) (w : W) (H : Hp) (Q : VK), (∀ a, A a → H a ≠ none) → DvB A T X.K H x dx → g dx lo hi = some w →
    (∀ v H', Grow H H' → Res A none X.K H H' v w → Q v H') → r x lo hi H Q
def eSl (g : PyData → Option Int → Option Int → Option W) (d : Fd) (o o' : Fo) : Fe := fun ρ n => (d ρ n).bind fun p => (o ρ p.2).bind fun q => (o' ρ q.2).bind fun r => (g p.1 q.1 r.1).map (·, r.2)
theorem ev_slice {g : PyData → Option Int → Option Int → Option W} {lo hi : Option Expr} {o o' : Fo} {p2 : Pos} (hs : SlV X g) (ha : EvB X a d) (hl : EvO X lo o) (hu : EvO X hi o') : EvE X (.Subscript a (.Slice lo hi none p2) pos) (eSl g d o o') := by
  obtain ⟨r, h1, h2⟩ := hs
  obtain ⟨t, p1, w1⟩ := hl.ex
  obtain ⟨t', p1', w1'⟩ := hu.ex
  refine peI (pe_slice h1 ha p1 p1') ?_
  rintro σ H Q ⟨C, O, ρ, n, w, n', hf, E, q⟩
  unfold eSl at hf
  obtain ⟨⟨x, n1⟩, e1, hf⟩ := Option.bind_eq_some_iff.mp hf
  obtain ⟨⟨i, n2⟩, e2, hf⟩ := Option.bind_eq_some_iff.mp hf
  obtain ⟨⟨j, n3⟩, e3, hf⟩ := Option.bind_eq_some_iff.mp hf
  obtain ⟨z, e4, hf⟩ := Option.map_eq_some_iff.mp hf
  cases hf
  refine ⟨C, O, ρ, n, x, _, e1, E, fun v H1 s1 t1 r1 => ?_⟩
  have E1 := E.step s1 t1
  refine w1 σ H1 _ ⟨C, O, ρ, n1, i, n2, e2, E1, fun H2 s2 t2 => ?_⟩
  have E2 := E1.step s2 t2
  refine w1' σ H2 _ ⟨C, O, ρ, n2, j, _, e3, E2, fun H3 s3 t3 => ?_⟩
  refine h2 (Av C O) C.T v x i j _ H3 Q (E2.step s3 t3).av ((r1.step s2 Av.t).step s3 Av.t) e4 fun v H4 g4 r4 => ?_
  exact q v H4 (((s1.trans s2).trans s3).trans g4.step) (g4.town t3) (r4.none_any.back fun a ha => s1.fr a (s2.fr a (s3.fr a ha)))
/-- what stands from lo to ahead of hi -/
def cutD (xs : List PyData) (lo hi : Option Int) : List PyData := (xs.drop (HT.sIx xs.length 0 lo)).take (HT.sIx xs.length xs.length hi - HT.sIx xs.length 0 lo)
def dSl : PyData → Option Int → Option Int → Option W
  | .list xs, lo, hi => some (.ol (cutD xs lo hi))
  | .tuple xs, lo, hi => some (.d (.tuple (cutD xs lo hi)))
  | _, _, _ => none
theorem DvAll.cut {A : Addr → Prop} {K : PySem.W.Frag} {H : Hp} {vs : List V} {xs : List PyData} {lo hi : Option Int} (h : DvAll A K H vs xs) : DvAll A K H (cutV vs lo hi) (cutD xs lo hi) := by
  unfold cutV cutD
  rw [h.length]
  exact (h.drop _).take _
theorem slv : SlV X dSl := ⟨_, sl_list.or sl_tupF, fun A T x dx lo hi w H Q tr rx e q => by
  cases dx with
  | list xs =>
    cases e
    obtain ⟨a, vs, rfl, h1, h2⟩ := rx.lst
    exact .inl ⟨a, vs, rfl, h1, fun p hp => q _ _ (Grow.upd hp) (new_lst hp h2.cut)⟩
  | tuple xs =>
    cases e
    obtain ⟨a, vs, rfl, h1, h2, h3⟩ := rx.tup
    refine .inr ⟨a, vs, rfl, h1, fun hw => ?_, fun p o ho hp => q _ _ (Grow.upd hp) (new_tup hp tr ho h2.cut)⟩
    have e : cutD xs lo hi = xs := by
      rw [h2.length] at hw
      unfold cutD
      rw [hw.1, hw.2, List.drop_zero, Nat.sub_zero, List.take_length]
    rw [e] at q
    exact q _ _ Grow.refl h3
  | _ => cases e⟩
end
end L2.Lv
namespace L2.Lv
open PySem PySem.Spec PyProof.Rows
inductive Out where
  | nx (ρ : List W) (n : Nat)
  | rt (w : W) (n : Nat)
  | bk (ρ : List W) (n : Nat)
abbrev Fs := List W → Nat → Option Out
/-- what statements do to the heap -/
structure StepS (C : Cn) (O O' : Ow) (H H' : Hp) : Prop where
  st : ∀ a o, H a = some o → C.T ≠ some a → (∀ i, O i ≠ some a) → H' a = some o
  fr : ∀ a, H' a = none → H a = none
  ow : ∀ i a, O' i = some a → (∃ j, O j = some a) ∨ H a = none
section
variable {C : Cn} {O O' O1 O2 : Ow} {K : PySem.W.Frag} {σ : St} {H H' H1 H2 : Hp} {ρ : List W} {n n' : Nat} {v : V} {w : W} {x : PyData}
theorem Step.stepS (s : Step C H H') (h : ∀ i a, O' i = some a → (∃ j, O j = some a) ∨ H a = none) : StepS C O O' H H' := ⟨fun a o e t _ => s.st a o e t, s.fr, h⟩
theorem Step.stepS0 (s : Step C H H') : StepS C O O H H' := s.stepS fun i a h => .inl ⟨i, h⟩
theorem StepS.trans (a : StepS C O O1 H H1) (b : StepS C O1 O2 H1 H2) : StepS C O O2 H H2 := by
  refine ⟨fun x o e t ne => b.st x o (a.st x o e t ne) t fun i z => ?_, fun x h => a.fr x (b.fr x h), fun i x h => ?_⟩
  · rcases a.ow i x z with ⟨j, q⟩ | q
    · exact ne j q
    · rw [q] at e; cases e
  · rcases b.ow i x h with ⟨j, q⟩ | q
    · exact a.ow j x q
    · exact .inr (a.fr x q)
/-- what is read by no way of ours stays -/
theorem StepS.keep (s : StepS C O O' H H') : Keep (Av C O) (Av C O') H H' := fun a u na r => by
  have nt : C.T ≠ some a := fun e => na (.inr (.inl e))
  have no : ∀ i, O i ≠ some a := fun i e => na (.inr (.inr ⟨i, e⟩))
  refine ⟨?_, ?_⟩
  · rintro (z | z | ⟨i, z⟩)
    · exact na (.inl z)
    · exact nt z
    · rcases s.ow i a z with ⟨j, q⟩ | q
      · exact no j q
      · rw [q] at r; cases r
  · exact s.st _ _ r nt no
structure EndRt (C : Cn) (K : PySem.W.Frag) (H' : Hp) (n' : Nat) (v : V) (w : W) : Prop where
  base : ∀ a o, C.H0 a = some o → C.T ≠ some a → H' a = some o
  fr : ∀ a, H' a = none → C.H0 a = none
  town : TownAt C H' n'
  res : Res (Av C Ow0) C.T K C.H0 H' v w
def EndOk (C : Cn) (O : Ow) (K : PySem.W.Frag) (H : Hp) (D : Ends) : Out → Prop
  | .nx ρ' n' => ∀ O' σ' H', StepS C O O' H H' → EnvOk C O' K σ' H' ρ' n' → D.nx σ' H'
  | .rt w n' => ∀ v H', EndRt C K H' n' v w → D.rt v H'
  | .bk ρ' n' => ∀ O' σ' H', StepS C O O' H H' → EnvOk C O' K σ' H' ρ' n' → D.bk σ' H'
/-- what is ours is no one else's -/
def OwnP (C : Cn) (O : Ow) : Prop := ∀ i a, O i = some a → ¬ C.P a
theorem OwnP.step (h : OwnP C O) (E : EnvOk C O K σ H ρ n) (s : StepS C O O' H H') : OwnP C O' := fun i a e z => by
  rcases s.ow i a e with ⟨j, q⟩ | q
  · exact h j a q z
  · exact E.ptr a z q
def tVS (K : PySem.W.Frag) (f : Fs) : TS := fun D σ H => ∃ C O ρ n out, f ρ n = some out ∧ EnvOk C O K σ H ρ n ∧ OwnP C O ∧ EndOk C O K H D out
abbrev EvS (X : Cx) (st : Stmt) (f : Fs) : Prop := PS X st (tVS X.K f)
abbrev EvSs (X : Cx) (st : List Stmt) (f : Fs) : Prop := PSs X st (tVS X.K f)
theorem EndOk.after {D : Ends} {out : Out} (s : StepS C O O' H H') (h : EndOk C O K H D out) : EndOk C O' K H' D out := by
  cases out with
  | nx ρ n => exact fun O2 σ2 H2 s2 E2 => h O2 σ2 H2 (s.trans s2) E2
  | bk ρ n => exact fun O2 σ2 H2 s2 E2 => h O2 σ2 H2 (s.trans s2) E2
  | rt w n => exact h
end
section
variable {X : Cx} {e a b : Expr} {es : List Expr} {f fa fb : Fe} {d da db : Fd} {fs : Fa} {ds : Fds} {pos : Pos} {st : Stmt} {rest sts sts' : List Stmt} {g h : Fs}
theorem psI {t t' : TS} (h : PS X st t) (w : ∀ D σ H, t' D σ H → t D σ H) : PS X st t' := ⟨fun pins s σ H D I q => h.run pins s σ H D I (w D σ H q)⟩
theorem pssI {t t' : TS} (h : PSs X sts t) (w : ∀ D σ H, t' D σ H → t D σ H) : PSs X sts t' := ⟨fun pins s σ H D I q => h.run pins s σ H D I (w D σ H q)⟩
def sNil' : Fs := fun ρ n => some (.nx ρ n)
def sSeq (g h : Fs) : Fs := fun ρ n => (g ρ n).bind fun o => match o with
  | .nx ρ' n' => h ρ' n'
  | o => some o
theorem ss_nil : EvSs X [] sNil' := pssI pss_nil (by
  rintro D σ H ⟨C, O, ρ, n, out, hf, E, np, q⟩
  cases hf
  exact q O σ H Step.refl.stepS0 E)
theorem ss_cons (h1 : EvS X st g) (h2 : EvSs X rest h) : EvSs X (st :: rest) (sSeq g h) := pssI (pss_cons h1 h2) (by
  rintro D σ H ⟨C, O, ρ, n, out, hf, E, np, q⟩
  unfold sSeq at hf
  obtain ⟨o, e1, hf⟩ := Option.bind_eq_some_iff.mp hf
  refine ⟨C, O, ρ, n, o, e1, E, np, ?_⟩
  cases o with
  | nx ρ' n' => exact fun O' σ' H' s E' => ⟨C, O', ρ', n', out, hf, E', np.step E s, q.after s⟩
  | rt w n' => cases hf; exact q
  | bk ρ' n' => cases hf; exact q)
theorem ss_one (h1 : EvS X st g) : EvSs X [st] g := pss_one h1
theorem ss_never : EvS X st (fun _ _ => none) := psI ps_never (by rintro D σ H ⟨C, O, ρ, n, out, hf, E, np, q⟩; cases hf)
theorem ss_pass : EvS X (.Pass pos) sNil' := psI ps_pass (by
  rintro D σ H ⟨C, O, ρ, n, out, hf, E, np, q⟩
  cases hf
  exact q O σ H Step.refl.stepS0 E)
def sBrk : Fs := fun ρ n => some (.bk ρ n)
theorem ss_break : EvS X (.Break pos) sBrk := psI ps_break (by
  rintro D σ H ⟨C, O, ρ, n, out, hf, E, np, q⟩
  cases hf
  exact q O σ H Step.refl.stepS0 E)
/-! what is handed back -/
theorem EnvOk.endRt {C : Cn} {O : Ow} {K : PySem.W.Frag} {σ : St} {H H1 : Hp} {ρ : List W} {n n' : Nat} {v : V} {w : W} (E : EnvOk C O K σ H ρ n) (s : Step C H H1) (t : TownAt C H1 n') (r : Res (Av C O) C.T K H H1 v w) : EndRt C K H1 n' v w := by
  have E1 := E.step s t
  refine ⟨E1.base, E1.fr, t, (r.av (A' := Av C Ow0) ?_).back E.fr⟩
  rintro a (z | z | ⟨i, z⟩)
  · exact .inl z
  · exact .inr (.inl z)
  · cases z
def sRet (f : Fe) : Fs := fun ρ n => (f ρ n).map fun p => .rt p.1 p.2
theorem ss_ret (ha : EvE X e f) : EvS X (.Return (some e) pos) (sRet f) := psI (ps_ret ha) (by
  rintro D σ H ⟨C, O, ρ, n, out, hf, E, np, q⟩
  unfold sRet at hf
  obtain ⟨⟨w, n1⟩, e1, hf⟩ := Option.map_eq_some_iff.mp hf
  cases hf
  exact ⟨C, O, ρ, n, w, n1, e1, E, fun v H1 s t r => q v H1 (E.endRt s t r)⟩)
def sRetN : Fs := fun _ n => some (.rt (.d .none) n)
theorem ss_retN : EvS X (.Return none pos) sRetN := psI ps_retN (by
  rintro D σ H ⟨C, O, ρ, n, out, hf, E, np, q⟩
  cases hf
  exact q _ _ (E.endRt (v := .non) (w := .d .none) Step.refl E.town .non))
/-- a list or dict of one's own -/
def sRetO (i : Nat) : Fs := fun ρ n => match ρ[i]? with
  | some (.ol xs) => some (.rt (.ol xs) n)
  | some (.od xs) => some (.rt (.od xs) n)
  | _ => none
theorem ss_retO {i : Nat} (h : PE X e (tVar i)) : EvS X (.Return (some e) pos) (sRetO i) := psI (ps_ret h) (by
  rintro D σ H ⟨C, O, ρ, n, out, hf, E, np, q⟩
  unfold sRetO at hf
  have av0 : ∀ a b, O i = some b → (Av C Ow0 a ∨ a = b) → Av C O a := by
    rintro a b e ((z | z | ⟨i, z⟩) | z)
    · exact .inl z
    · exact .inr (.inl z)
    · cases z
    · subst z; exact .inr (.inr ⟨i, e⟩)
  split at hf
  · rename_i xs hx
    cases hf
    obtain ⟨a, vs, h1, h2, h3, h4⟩ := E.sl _ _ hx
    exact ⟨_, h2, q _ _ ⟨E.base, E.fr, E.town, a, vs, rfl, (E.own i a h1).2.1, h3, h4.mono fun b u nb r => ⟨fun z => nb (av0 b a h1 z), r⟩⟩⟩
  · rename_i xs hx
    cases hf
    obtain ⟨a, h1, h2, h3⟩ := E.sl _ _ hx
    exact ⟨_, h2, q _ _ ⟨E.base, E.fr, E.town, a, rfl, (E.own i a h1).2.1, h3.mono (fun b u nb r => ⟨fun z => nb (av0 b a h1 z), r⟩) fun o e => e⟩⟩
  · cases hf)
def sDrop (f : Fe) : Fs := fun ρ n => (f ρ n).map fun p => .nx ρ p.2
theorem ss_expr (ha : EvE X e f) (hs : swapsWith e none pos.line X.env = pure false := by rfl) : EvS X (.Expr e pos) (sDrop f) := psI (ps_expr ha hs) (by
  rintro D σ H ⟨C, O, ρ, n, out, hf, E, np, q⟩
  unfold sDrop at hf
  obtain ⟨⟨w, n1⟩, e1, hf⟩ := Option.map_eq_some_iff.mp hf
  cases hf
  exact ⟨C, O, ρ, n, w, n1, e1, E, fun v H1 s t r => q O σ H1 s.stepS0 (E.step s t)⟩)
def sIf (c : Ft) (g h : Fs) : Fs := fun ρ n => (c ρ n).bind fun p => if p.1 then g ρ p.2 else h ρ p.2
theorem ss_if {c : Expr} {tc : Ft} (hc : EvT X c tc) (ha : EvSs X sts g) (hb : EvSs X sts' h) : EvS X (.If c sts sts' pos) (sIf tc g h) := psI (ps_if hc ha hb) (by
  rintro D σ H ⟨C, O, ρ, n, out, hf, E, np, q⟩
  unfold sIf at hf
  obtain ⟨⟨x, n1⟩, e1, hf⟩ := Option.bind_eq_some_iff.mp hf
  refine ⟨C, O, ρ, n, x, n1, e1, E, fun H1 s t => ?_⟩
  cases x with
  | true => exact ⟨C, O, ρ, n1, out, by simpa using hf, E.step s t, np, q.after s.stepS0⟩
  | false => exact ⟨C, O, ρ, n1, out, by simpa using hf, E.step s t, np, q.after s.stepS0⟩)
/-! stores -/
def owSet (O : Ow) (i : Nat) (o : Option Addr) : Ow := fun j => if j = i then o else O j
theorem owSet_at {O : Ow} {i : Nat} {o : Option Addr} : owSet O i o i = o := if_pos rfl
theorem owSet_of {O : Ow} {i j : Nat} {o : Option Addr} (h : j ≠ i) : owSet O i o j = O j := if_neg h
theorem EnvOk.assign {C : Cn} {O : Ow} {K : PySem.W.Frag} {σ : St} {H H1 : Hp} {ρ : List W} {n n' : Nat} {v : V} {w : W} {i : Nat} (E : EnvOk C O K σ H ρ n) (s : Step C H H1) (t : TownAt C H1 n') (r : Res (Av C O) C.T K H H1 v w) :
    ∃ O', EnvOk C O' K (σ.set i (some v)) H1 (ρ.set i w) n' ∧ StepS C O O' H H1 := by
  have E1 := E.step s t
  by_cases hi : i < ρ.length
  · have hj : ∀ j w', (ρ.set i w)[j]? = some w' → (j = i ∧ w' = w) ∨ (j ≠ i ∧ ρ[j]? = some w') := fun j w' e => by
      by_cases h : j = i
      · subst h
        rw [List.getElem?_set_self hi] at e
        cases e
        exact .inl ⟨rfl, rfl⟩
      · rw [List.getElem?_set_ne (Ne.symm h)] at e
        exact .inr ⟨h, e⟩
    have hσ : i < σ.length := by rw [← E.len]; exact hi
    -- the address that is new, if any
    have key : ∀ o : Option Addr, (∀ a, o = some a → H a = none ∧ C.T ≠ some a ∧ H1 a ≠ none) →
        SlOk (Av C (owSet O i o)) C.T K H1 (some (some v)) o w →
        ∃ O', EnvOk C O' K (σ.set i (some v)) H1 (ρ.set i w) n' ∧ StepS C O O' H H1 := by
      intro o ho hw
      have kp : Keep (Av C O) (Av C (owSet O i o)) H H1 := fun a u na r => by
        refine ⟨?_, s.st _ _ r (fun e => na (.inr (.inl e)))⟩
        rintro (z | z | ⟨j, z⟩)
        · exact na (.inl z)
        · exact na (.inr (.inl z))
        · by_cases h : j = i
          · rw [h, owSet_at] at z
            rw [(ho a z).1] at r; cases r
          · rw [owSet_of h] at z
            exact na (.inr (.inr ⟨j, z⟩))
      refine ⟨owSet O i o, ⟨by simpa using E.len, fun j w' e => ?_, fun j k a h1 h2 => ?_, fun j a h => ?_, t, E1.base, E1.ptr, E1.fr⟩, s.stepS fun j a h => ?_⟩
      · rcases hj j w' e with ⟨rfl, rfl⟩ | ⟨ne, e⟩
        · rw [List.getElem?_set_self hσ, owSet_at]
          exact hw
        · rw [List.getElem?_set_ne (Ne.symm ne), owSet_of ne]
          have q := E.sl j w' e
          cases w' with
          | no => trivial
          | d x => obtain ⟨u, h1, h2⟩ := q; exact ⟨u, h1, h2.mono kp⟩
          | town => exact q
          | ol xs =>
            obtain ⟨a, vs, h1, h2, h3, h4⟩ := q
            exact ⟨a, vs, h1, h2, s.st _ _ h3 (E.own j a h1).1, h4.mono kp⟩
          | od kvs =>
            obtain ⟨a, h1, h2, h3⟩ := q
            exact ⟨a, h1, h2, h3.mono kp fun o e => s.st _ _ e (E.own j a h1).1⟩
      · by_cases hj : j = i
        · rw [hj, owSet_at] at h1
          by_cases hk : k = i
          · rw [hj, hk]
          · rw [owSet_of hk] at h2
            exact absurd (ho a h1).1 (E.own k a h2).2.2
        · rw [owSet_of hj] at h1
          by_cases hk : k = i
          · rw [hk, owSet_at] at h2
            exact absurd (ho a h2).1 (E.own j a h1).2.2
          · rw [owSet_of hk] at h2
            exact E.inj j k a h1 h2
      · skip
        by_cases hj : j = i
        · rw [hj, owSet_at] at h
          exact ⟨(ho a h).2.1, E.fr a (ho a h).1, (ho a h).2.2⟩
        · rw [owSet_of hj] at h
          exact E1.own j a h
      · skip
        by_cases hj : j = i
        · rw [hj, owSet_at] at h
          exact .inr (ho a h).1
        · rw [owSet_of hj] at h
          exact .inl ⟨j, h⟩
    have avn : ∀ b, Av C (owSet O i none) b → Av C O b := by
      rintro b (z | z | ⟨j, z⟩)
      · exact .inl z
      · exact .inr (.inl z)
      · by_cases h : j = i
        · rw [h, owSet_at] at z; cases z
        · rw [owSet_of h] at z; exact .inr (.inr ⟨j, z⟩)
    have avs : ∀ a b, Av C (owSet O i (some a)) b → Av C O b ∨ b = a := by
      rintro a b (z | z | ⟨j, z⟩)
      · exact .inl (.inl z)
      · exact .inl (.inr (.inl z))
      · by_cases h : j = i
        · rw [h, owSet_at] at z; cases z; exact .inr rfl
        · rw [owSet_of h] at z; exact .inl (.inr (.inr ⟨j, z⟩))
    cases w with
    | no => exact False.elim r
    | d x => exact key none (fun a e => by cases e) ⟨v, rfl, Dv.mono (fun a u na r => ⟨fun z => na (avn a z), r⟩) r⟩
    | town =>
      obtain ⟨a, h1, h2⟩ := r
      exact key none (fun a e => by cases e) ⟨a, h1, by rw [h2]⟩
    | ol xs =>
      obtain ⟨a, vs, h1, h2, h3, h4⟩ := r
      subst h1
      exact key (some a) (fun b e => by cases e; exact ⟨h2, fun z => E.tr a z h2, by rw [h3]; simp⟩) ⟨a, vs, rfl, rfl, h3, h4.mono fun b u nb r => ⟨fun z => nb (avs a b z), r⟩⟩
    | od kvs =>
      obtain ⟨a, h1, h2, h3⟩ := r
      subst h1
      exact key (some a) (fun b e => by cases e; exact ⟨h2, fun z => E.tr a z h2, h3.there⟩) ⟨a, rfl, rfl, h3.mono (fun b u nb r => ⟨fun z => nb (avs a b z), r⟩) fun o e => e⟩
  · have e1 : ρ.set i w = ρ := List.set_eq_of_length_le (by omega)
    have e2 : σ.set i (some v) = σ := List.set_eq_of_length_le (by rw [← E.len]; omega)
    rw [e1, e2]
    exact ⟨O, E1, s.stepS0⟩
def sSet (i : Nat) (f : Fe) : Fs := fun ρ n => (f ρ n).map fun p => .nx (ρ.set i p.1) p.2
theorem ss_set {i : Nat} {x : Str} {pos' : Pos} (hN : X.N.Nodup) (hi : X.N[i]? = some x) (hx : Loc X.env.scope x) (ha : EvE X e f) (hs : swapsWith e (some (.Name x pos')) pos.line X.env = pure false := by rfl) (hf : X.fn x = true ∨ X.env.scope.names.lookup x = some .local := by first | exact .inl rfl | exact .inr rfl | assumption) :
    EvS X (.Assign [.Name x pos'] e pos) (sSet i f) := psI (ps_set hN hi hx ha hs hf) (by
  rintro D σ H ⟨C, O, ρ, n, out, hf, E, np, q⟩
  unfold sSet at hf
  obtain ⟨⟨w, n1⟩, e1, hf⟩ := Option.map_eq_some_iff.mp hf
  cases hf
  refine ⟨C, O, ρ, n, w, n1, e1, E, fun v H1 s t r => ?_⟩
  obtain ⟨O', E', s'⟩ := E.assign (i := i) s t r
  exact q O' _ H1 s' E')
end
end L2.Lv
namespace L2.Lv
open PySem PySem.Spec PyProof.Rows
def big : Nat := 16777216
theorem big_eq : sizeLine = big := sizeLine_eq
section
variable {C : Cn} {O : Ow} {K : PySem.W.Frag} {σ : St} {H H1 : Hp} {ρ : List W} {n n' i : Nat} {v : V} {w' : W} {a : Addr} {o : HO}
/-- an object of one's own is changed -/
theorem EnvOk.write (E : EnvOk C O K σ H ρ n) (ho : O i = some a) (hw : SlOk (Av C O) C.T K (upd H a o) σ[i]? (some a) w') : EnvOk C O K σ (upd H a o) (ρ.set i w') n ∧ StepS C O O H (upd H a o) := by
  have hav : Av C O a := .inr (.inr ⟨i, ho⟩)
  obtain ⟨t1, t2, t3⟩ := E.own i a ho
  have kp : Keep (Av C O) (Av C O) H (upd H a o) := fun b u nb r => by
    have ne : b ≠ a := fun e => nb (by rw [e]; exact hav)
    exact ⟨nb, by rw [upd_ne ne]; exact r⟩
  have nn : ∀ b, upd H a o b = none → H b = none := fun b e => by
    by_cases h : b = a
    · rw [h, upd_same] at e; cases e
    · rw [upd_ne h] at e; exact e
  refine ⟨⟨by simpa using E.len, fun j w e => ?_, E.inj, fun j b h => ⟨(E.own j b h).1, (E.own j b h).2.1, fun e => (E.own j b h).2.2 (nn b e)⟩, fun b e => ?_, fun b u h t => ?_, fun b h e => E.ptr b h (nn b e), fun b e => E.fr b (nn b e)⟩, fun b u e t no => ?_, nn, fun j b h => .inl ⟨j, h⟩⟩
  · by_cases h : j = i
    · subst h
      by_cases hl : j < ρ.length
      · rw [List.getElem?_set_self hl] at e
        cases e
        rw [ho]
        exact hw
      · rw [List.getElem?_eq_none (by simpa using hl)] at e; cases e
    · rw [List.getElem?_set_ne (Ne.symm h)] at e
      have q := E.sl j w e
      cases w with
      | no => trivial
      | d x => obtain ⟨u, h1, h2⟩ := q; exact ⟨u, h1, h2.mono kp⟩
      | town => exact q
      | ol xs =>
        obtain ⟨b, vs, h1, h2, h3, h4⟩ := q
        have ne : b ≠ a := fun e => h (E.inj j i b h1 (by rw [ho, e]))
        exact ⟨b, vs, h1, h2, by rw [upd_ne ne]; exact h3, h4.mono kp⟩
      | od kvs =>
        obtain ⟨b, h1, h2, h3⟩ := q
        have ne : b ≠ a := fun e => h (E.inj j i b h1 (by rw [ho, e]))
        exact ⟨b, h1, h2, h3.mono kp fun u e => by rw [upd_ne ne]; exact e⟩
  · rw [upd_ne (fun z => t1 (by rw [← z]; exact e))]
    exact E.town b e
  · rw [upd_ne (fun z => by rw [z, t2] at h; cases h)]
    exact E.base b u h t
  · rw [upd_ne (fun z => no i (by rw [z]; exact ho))]
    exact e
theorem keep_upd (hav : Av C O a) : Keep (Av C O) (Av C O) H (upd H a o) := fun b u nb r => by
  have ne : b ≠ a := fun e => nb (by rw [e]; exact hav)
  exact ⟨nb, by rw [upd_ne ne]; exact r⟩
end
section
variable {X : Cx} {e a b : Expr} {es : List Expr} {f fa fb : Fe} {d da db : Fd} {fs : Fa} {ds : Fds} {pos : Pos} {st : Stmt} {rest sts sts' : List Stmt} {g h : Fs}
/-! x.append(e) -/
def sApp (i : Nat) (f : Fe) : Fs := fun ρ n => (f ρ n).bind fun p => p.1.frz.val.bind fun x => match ρ[i]? with
  | some (.ol xs) => if xs.length < big then some (.nx (ρ.set i (.ol (xs ++ [x]))) p.2) else none
  | _ => none
theorem Res.val {A : Addr → Prop} {T : Option Addr} {K : PySem.W.Frag} {H H' : Hp} {v : V} {w : W} {x : PyData} (h : Res A T K H H' v w) (e : w.val = some x) : Dv A K H' v x := by
  cases w with
  | d y => cases e; exact h
  | _ => cases e
theorem ss_append {i : Nat} {p2 p3 : Pos} (hb : PE X b (tVar i)) (ha : EvE X e f) (hbase : attributeBase b "append" X.env (eval b X.env) = eval b X.env := by rfl)
    (hfew : ((backTo p3 (starEach [e] X.env)).all (fun x => !x.1) && (backToKw p3 (keywordEach [] X.env)).all (fun x => x.1.isSome)
      && decide ([e].length + ([] : List Keyword).length + (if ([] : List Keyword).isEmpty then 0 else 1) < 30)) = true := by rfl)
    (hline : (p2.endLine == p3.line) = true := by rfl) (hs : starEach [e] X.env = (false, eval e X.env) :: starEach [] X.env := by rfl)
    (hsw : swapsWith (.Call (.Attribute b "append" p2) [e] [] p3) none pos.line X.env = pure false := by rfl) :
    EvS X (.Expr (.Call (.Attribute b "append" p2) [e] [] p3) pos) (sApp i f) := psI (ps_expr (pe_bm PySem.F.plainAttrs_list PySem.F.slot_list_append PySem.F.type_list_append mt_append hb (pa_cons ha pa_nil hs) hbase hfew hline hs rfl) hsw) (by
  rintro D σ H ⟨C, O, ρ, n, out, hf, E, np, q⟩
  unfold sApp at hf
  obtain ⟨⟨w, n1⟩, e1, hf⟩ := Option.bind_eq_some_iff.mp hf
  obtain ⟨x, e2, hf⟩ := Option.bind_eq_some_iff.mp hf
  split at hf
  · rename_i xs hx
    split at hf
    · rename_i hz
      cases hf
      obtain ⟨l, vs, h1, h2, h3, h4⟩ := E.sl _ _ hx
      refine ⟨_, h2, .inl ⟨rfl, vs, SqL.of h3⟩, C, O, ρ, n, w, n1, e1, E, fun v H1 s t r => ?_⟩
      have E1 := E.step s t
      have h3' : H1 l = some (.lst vs) := s.st _ _ h3 (E.own i l h1).1
      have r' : Dv (Av C O) X.K H1 v x := (r.frz E.av).val e2
      refine ⟨l, vs, v, rfl, rfl, h3', by rw [h4.length, big_eq]; exact hz, ?_⟩
      have hav : Av C O l := .inr (.inr ⟨i, h1⟩)
      obtain ⟨E2, s2⟩ := E1.write (o := .lst (vs ++ [v])) (w' := .ol (xs ++ [x])) h1 ⟨l, vs ++ [v], rfl, h2, upd_same, ((h4.mono (s.keep Av.t)).append (.cons r' .nil)).mono (keep_upd hav)⟩
      exact q O σ _ (s.stepS0.trans s2) E2
    · cases hf
  · cases hf)
/-- the town grows -/
def sTown (i : Nat) : Fs := fun ρ n => match ρ[i]? with
  | some .town => if n < big then some (.nx ρ (n + 1)) else none
  | _ => none
theorem ss_town {i : Nat} {j : Nat} {p2 p3 p4 : Pos} (hb : PE X b (tVar i)) (hbase : attributeBase b "append" X.env (eval b X.env) = eval b X.env := by rfl)
    (hfew : ((backTo p3 (starEach [.Constant (.int 0) j p4] X.env)).all (fun x => !x.1) && (backToKw p3 (keywordEach [] X.env)).all (fun x => x.1.isSome)
      && decide ([Expr.Constant (.int 0) j p4].length + ([] : List Keyword).length + (if ([] : List Keyword).isEmpty then 0 else 1) < 30)) = true := by rfl)
    (hline : (p2.endLine == p3.line) = true := by rfl)
    (hsw : swapsWith (.Call (.Attribute b "append" p2) [.Constant (.int 0) j p4] [] p3) none pos.line X.env = pure false := by rfl) :
    EvS X (.Expr (.Call (.Attribute b "append" p2) [.Constant (.int 0) j p4] [] p3) pos) (sTown i) := psI (ps_expr (pe_bm PySem.F.plainAttrs_list PySem.F.slot_list_append PySem.F.type_list_append mt_append hb (pa_cons pe_int pa_nil) hbase hfew hline rfl rfl) hsw) (by
  rintro D σ H ⟨C, O, ρ, n, out, hf, E, np, q⟩
  unfold sTown at hf
  split at hf
  · rename_i hx
    split at hf
    · rename_i hz
      cases hf
      obtain ⟨l, h1, h2⟩ := E.sl _ _ hx
      have h3 := E.town l h1
      refine ⟨_, h2, .inl ⟨rfl, _, SqL.of h3⟩, ?_⟩
      refine ⟨l, _, .int 0, rfl, rfl, h3, by rw [List.length_replicate, big_eq]; exact hz, ?_⟩
      have ne : ∀ b, b ≠ l → upd H l (.lst (List.replicate n (V.int 0) ++ [.int 0])) b = H b := fun b hb => upd_ne hb
      have st : Step C H (upd H l (.lst (List.replicate n (V.int 0) ++ [.int 0]))) := ⟨fun b o e t => by rw [ne b (fun z => t (by rw [z]; exact h1))]; exact e, fun b e => by
        by_cases hb : b = l
        · rw [hb, upd_same] at e; cases e
        · rw [ne b hb] at e; exact e⟩
      have tw : TownAt C (upd H l (.lst (List.replicate n (V.int 0) ++ [.int 0]))) (n + 1) := fun b e => by
        have : b = l := Option.some.inj (e.symm.trans h1)
        rw [this, upd_same, List.replicate_succ']
      exact q O σ _ st.stepS0 (E.step st tw)
    · cases hf
  · cases hf)
/-- x.extend(a new list) -/
def sExt (i : Nat) (f : Fe) : Fs := fun ρ n => (f ρ n).bind fun p => match p.1, ρ[i]? with
  | .ol ys, some (.ol xs) => if xs.length + ys.length ≤ big then some (.nx (ρ.set i (.ol (xs ++ ys))) p.2) else none
  | _, _ => none
theorem ss_extend {i : Nat} {p2 p3 : Pos} (hb : PE X b (tVar i)) (ha : EvE X e f) (hbase : attributeBase b "extend" X.env (eval b X.env) = eval b X.env := by rfl)
    (hfew : ((backTo p3 (starEach [e] X.env)).all (fun x => !x.1) && (backToKw p3 (keywordEach [] X.env)).all (fun x => x.1.isSome)
      && decide ([e].length + ([] : List Keyword).length + (if ([] : List Keyword).isEmpty then 0 else 1) < 30)) = true := by rfl)
    (hline : (p2.endLine == p3.line) = true := by rfl) (hs : starEach [e] X.env = (false, eval e X.env) :: starEach [] X.env := by rfl)
    (hsw : swapsWith (.Call (.Attribute b "extend" p2) [e] [] p3) none pos.line X.env = pure false := by rfl) :
    EvS X (.Expr (.Call (.Attribute b "extend" p2) [e] [] p3) pos) (sExt i f) := psI (ps_expr (pe_bm PySem.F.plainAttrs_list PySem.F.slot_list_extend PySem.F.type_list_extend mt_extend hb (pa_cons ha pa_nil hs) hbase hfew hline hs rfl) hsw) (by
  rintro D σ H ⟨C, O, ρ, n, out, hf, E, np, q⟩
  unfold sExt at hf
  obtain ⟨⟨w, n1⟩, e1, hf⟩ := Option.bind_eq_some_iff.mp hf
  simp only at hf
  split at hf
  · rename_i ys xs hx
    split at hf
    · rename_i hz
      cases hf
      obtain ⟨l, vs, h1, h2, h3, h4⟩ := E.sl _ _ hx
      refine ⟨_, h2, .inl ⟨rfl, vs, SqL.of h3⟩, C, O, ρ, n, _, n1, e1, E, fun v H1 s t r => ?_⟩
      have E1 := E.step s t
      have h3' : H1 l = some (.lst vs) := s.st _ _ h3 (E.own i l h1).1
      obtain ⟨m, us, rfl, r1, r2, r3⟩ := r
      have r3' : DvAll (Av C O) X.K H1 us ys := r3.mono fun b u nb r => ⟨fun z => nb (.inl z), r⟩
      refine ⟨l, m, vs, us, rfl, rfl, h3', r2, by rw [h4.length, r3.length, big_eq]; exact hz, ?_⟩
      have hav : Av C O l := .inr (.inr ⟨i, h1⟩)
      obtain ⟨E2, s2⟩ := E1.write (o := .lst (vs ++ us)) (w' := .ol (xs ++ ys)) h1 ⟨l, vs ++ us, rfl, h2, upd_same, ((h4.mono (s.keep Av.t)).append r3').mono (keep_upd hav)⟩
      exact q O σ _ (s.stepS0.trans s2) E2
    · cases hf
  · cases hf)
/-- x.insert(k, e) -/
def sIns (i : Nat) (d : Fd) (f : Fe) : Fs := fun ρ n => (d ρ n).bind fun k => (f ρ k.2).bind fun p => p.1.frz.val.bind fun x => match k.1, ρ[i]? with
  | .int z, some (.ol xs) => if xs.length < big ∧ 0 ≤ z ∧ z ≤ xs.length then some (.nx (ρ.set i (.ol (xs.take z.toNat ++ x :: xs.drop z.toNat))) p.2) else none
  | _, _ => none
/-! x[k] = e -/
def sSetIx (i : Nat) (d : Fd) (f : Fe) : Fs := fun ρ n => (f ρ n).bind fun p => p.1.frz.val.bind fun x => (d ρ p.2).bind fun k => match k.1, ρ[i]? with
  | .int z, some (.ol xs) => (ixN xs.length z).map fun j => .nx (ρ.set i (.ol (xs.set j x))) k.2
  | _, _ => none
theorem ss_setix {i : Nat} {p1 : Pos} (hb : PE X a (tVar i)) (hk : EvB X b d) (ha : EvE X e f)
    (hset : ∀ v, assign (.Subscript a b p1) X.env v = (do
      let ov ← holding [v] (eval a X.env)
      let iv ← holding [v, ov] (eval b X.env)
      standAt p1
      holding [v, ov, iv] (setItem ov iv v)
      release [v, ov, iv] []) := by intro _; rfl)
    (hs : swapsWithSole [.Subscript a b p1] e pos.line X.env = pure false := by rfl) (hw : swappedStores [.Subscript a b p1] e X.env = pure none := by rfl)
    (h1 : (assignEach [.Subscript a b p1] X.env).map (·.2) = [assign (.Subscript a b p1) X.env] := by rfl) :
    EvS X (.Assign [.Subscript a b p1] e pos) (sSetIx i d f) := psI (ps_asg ha (pg_sub hb hk set_list hset) hs hw h1) (by
  rintro D σ H ⟨C, O, ρ, n, out, hf, E, np, q⟩
  unfold sSetIx at hf
  obtain ⟨⟨w, n1⟩, e1, hf⟩ := Option.bind_eq_some_iff.mp hf
  obtain ⟨x, e2, hf⟩ := Option.bind_eq_some_iff.mp hf
  obtain ⟨⟨k, n2⟩, e3, hf⟩ := Option.bind_eq_some_iff.mp hf
  simp only at hf
  split at hf
  · rename_i z xs hx
    obtain ⟨j, e4, hf⟩ := Option.map_eq_some_iff.mp hf
    cases hf
    refine ⟨C, O, ρ, n, w, n1, e1, E, fun v H1 s t r => ?_⟩
    have E1 := E.step s t
    obtain ⟨l, vs, h1, h2, h3, h4⟩ := E1.sl _ _ hx
    refine ⟨_, h2, C, O, ρ, n1, _, n2, e3, E1, fun u H2 s2 t2 r2 => ?_⟩
    have E2 := E1.step s2 t2
    have r' : Dv (Av C O) X.K H2 v x := ((r.frz E.av).val e2).mono (s2.keep Av.t)
    have h3' : H2 l = some (.lst vs) := s2.st _ _ h3 (E.own i l h1).1
    refine ⟨l, vs, z, j, rfl, r2.int, h3', by rw [h4.length]; exact e4, ?_⟩
    have hav : Av C O l := .inr (.inr ⟨i, h1⟩)
    obtain ⟨E3, s3⟩ := E2.write (o := .lst (vs.set j v)) (w' := .ol (xs.set j x)) h1 ⟨l, vs.set j v, rfl, h2, upd_same, ((h4.mono (s2.keep Av.t)).set j r').mono (keep_upd hav)⟩
    exact q O σ _ ((s.trans s2).stepS0.trans s3) E3
  · cases hf)
/-! targets -/
abbrev Fg := PyData → List W → Option (List W)
def setV : List Nat → List V → St → St
  | i :: is, v :: vs, σ => setV is vs (σ.set i (some v))
  | _, _, σ => σ
def setD : List Nat → List PyData → List W → Option (List W)
  | [], [], ρ => some ρ
  | i :: is, x :: xs, ρ => setD is xs (ρ.set i (.d x))
  | _, _, _ => none
/-- one name, or several -/
def gOne (i : Nat) : Fg := fun x ρ => some (ρ.set i (.d x))
def gMany (is : List Nat) : Fg := fun x ρ => match x with
  | .tuple xs => setD is xs ρ
  | _ => none
/-- what a walk gives out: data, or (p) a new pair -/
def DvI (p : Bool) (A : Addr → Prop) (K : PySem.W.Frag) (H : Hp) (v : V) (x : PyData) : Prop := Dv A K H v x ∨ (p = true ∧ ∃ a vs ds, v = .ref a ∧ x = .tuple ds ∧ SqT K H a vs ∧ DvAll A K H vs ds)
theorem DvI.dv {A : Addr → Prop} {K : PySem.W.Frag} {H : Hp} {v : V} {x : PyData} (h : DvI false A K H v x) : Dv A K H v x := h.elim id fun z => nomatch z.1
def tVG (p : Bool) (K : PySem.W.Frag) (is : List Nat) (g : Fg) : TG := fun v σ H Q => ∃ C O ρ n x ρ', g x ρ = some ρ' ∧ EnvOk C O K σ H ρ n ∧ DvI p (Av C O) K H v x ∧
  ∀ O' vs, StepS C O O' H H → EnvOk C O' K (setV is vs σ) H ρ' n → Q (setV is vs σ) H
def tVGs (K : PySem.W.Frag) (is : List Nat) : TGs := fun vs σ H Q => ∃ C O ρ n xs ρ', setD is xs ρ = some ρ' ∧ EnvOk C O K σ H ρ n ∧ DvAll (Av C O) K H vs xs ∧
    ∀ O' us, StepS C O O' H H → EnvOk C O' K (setV is us σ) H ρ' n → Q (setV is us σ) H
abbrev EvG (X : Cx) (p : Bool) (e : Expr) (is : List Nat) (g : Fg) : Prop := PG X e (tVG p X.K is g)
structure EvGs (X : Cx) (es : List Expr) (is : List Nat) : Prop where
  ex : PGs X es (tVGs X.K is)
  len : is.length = es.length
theorem pgI {t t' : TG} (h : PG X e t) (w : ∀ v σ H Q, t' v σ H Q → t v σ H Q) : PG X e t' := ⟨fun pins s σ H v u Q I r q => h.run pins s σ H v u Q I r (w v σ H Q q)⟩
theorem pgsI {t t' : TGs} (h : PGs X es t) (w : ∀ v σ H Q, t' v σ H Q → t v σ H Q) : PGs X es t' := ⟨fun pins s σ H v u Q I r q => h.run pins s σ H v u Q I r (w v σ H Q q)⟩
theorem eg_one {i : Nat} {x : Str} {p : Pos} (hg : PG X (.Name x p) (gName i)) : EvG X false (.Name x p) [i] (gOne i) := pgI hg (by
  rintro v σ H Q ⟨C, O, ρ, n, x, ρ', hf, E, r, q⟩
  cases hf
  obtain ⟨O', E', s'⟩ := E.assign (i := i) (w := .d x) (v := v) (n' := n) (H1 := H) Step.refl E.town r.dv
  exact q O' [v] s' E')
theorem egs_nil : EvGs X [] [] := ⟨pgsI pgs_nil (by
  rintro vs σ H Q ⟨C, O, ρ, n, xs, ρ', hf, E, r, q⟩
  cases r with
  | nil =>
    cases hf
    exact ⟨rfl, q O [] Step.refl.stepS0 E⟩
  | cons r1 r2 => cases hf), rfl⟩
theorem egs_cons {i : Nat} {is : List Nat} {x : Str} {p : Pos} (hg : PG X (.Name x p) (gName i)) (hr : EvGs X es is) (hs : (assignEach (.Name x p :: es) X.env).map (·.2) = assign (.Name x p) X.env :: (assignEach es X.env).map (·.2) := by rfl) : EvGs X (.Name x p :: es) (i :: is) := by
  refine ⟨pgsI (pgs_cons hg hr.ex hs) ?_, by simp [hr.len]⟩
  rintro vs σ H Q ⟨C, O, ρ, n, xs, ρ', hf, E, r, q⟩
  cases r with
  | nil => cases hf
  | cons r1 r2 =>
    rename_i v vs' x xs'
    refine ⟨v, vs', rfl, ?_⟩
    obtain ⟨O1, E1, s1⟩ := E.assign (i := i) (w := .d x) (v := v) (n' := n) (H1 := H) Step.refl E.town r1
    exact ⟨C, O1, _, n, xs', ρ', hf, E1, r2.mono s1.keep, fun O' us s2 E2 => q O' (v :: us) (s1.trans s2) E2⟩
theorem setD_len : ∀ {is : List Nat} {xs : List PyData} {ρ ρ' : List W}, setD is xs ρ = some ρ' → xs.length = is.length
  | [], [], _, _, _ => rfl
  | [], _ :: _, _, _, h => by cases h
  | _ :: _, [], _, _, h => by cases h
  | i :: is, x :: xs, ρ, ρ', h => by
    have := setD_len (is := is) (xs := xs) h
    simp [this]
theorem eg_many {p : Bool} {k : Nat} {is : List Nat} (hc : X.calm = true) (h : EvGs X es is) (hn : (assignEach es X.env).length = es.length := by rfl) (hst : (assignEach es X.env).findIdx? (·.1) = none := by rfl) : EvG X p (.Tuple es k pos) is (gMany is) := pgI (pg_tup hc h.ex hn hst) (by
  rintro v σ H Q ⟨C, O, ρ, n, x, ρ', hf, E, r, q⟩
  have key : ∀ a vs ds, v = .ref a → x = .tuple ds → SqT X.K H a vs → DvAll (Av C O) X.K H vs ds → gTup X.K es.length (tVGs X.K is) v σ H Q := by
    rintro a vs ds rfl rfl r1 r2
    refine ⟨a, vs, rfl, r1, ?_, C, O, ρ, n, ds, ρ', hf, E, r2, q⟩
    rw [r2.length, setD_len hf, h.len]
  cases x with
  | tuple xs =>
    rcases r with r | ⟨_, a, vs, ds, h1, h2, h3, h4⟩
    · obtain ⟨a, vs, h1, r1, r2, _⟩ := DvB.tup (T := none) (.inl r)
      exact key a vs xs h1 rfl r1 r2
    · exact key a vs ds h1 h2 h3 h4
  | _ => cases hf)
/-- target = value -/
def sAsg (g : Fg) (f : Fe) : Fs := fun ρ n => (f ρ n).bind fun p => p.1.frz.val.bind fun x => (g x ρ).map fun ρ' => .nx ρ' p.2
theorem ss_asg {tg : Expr} {is : List Nat} {g : Fg} (ha : EvE X e f) (hg : EvG X false tg is g) (hs : swapsWithSole [tg] e pos.line X.env = pure false := by rfl) (hw : swappedStores [tg] e X.env = pure none := by rfl)
    (h1 : (assignEach [tg] X.env).map (·.2) = [assign tg X.env] := by rfl) : EvS X (.Assign [tg] e pos) (sAsg g f) := psI (ps_asg ha hg hs hw h1) (by
  rintro D σ H ⟨C, O, ρ, n, out, hf, E, np, q⟩
  unfold sAsg at hf
  obtain ⟨⟨w, n1⟩, e1, hf⟩ := Option.bind_eq_some_iff.mp hf
  obtain ⟨x, e2, hf⟩ := Option.bind_eq_some_iff.mp hf
  obtain ⟨ρ', e3, hf⟩ := Option.map_eq_some_iff.mp hf
  cases hf
  exact ⟨C, O, ρ, n, w, n1, e1, E, fun v H1 s t r => ⟨C, O, ρ, n1, x, ρ', e3, E.step s t, .inl ((r.frz E.av).val e2), fun O' vs s' E' => q O' _ H1 (s.stepS0.trans s') E'⟩⟩)
/-- a, b = x, y -/
def sPar (i j : Nat) (fs : Fa) : Fs := fun ρ n => (fs ρ n).bind fun p => match p.1 with
  | [w, w'] => some (.nx ((ρ.set i w).set j w') p.2)
  | _ => none
theorem ss_par {i j : Nat} {x y : Str} {px py pt : Pos} {kt k2 pt2} (hc : X.calm = true) (hN : X.N.Nodup) (hi : X.N[i]? = some x) (hj : X.N[j]? = some y) (hij : i ≠ j)
    (hx : X.env.scope.names.lookup x = some .local) (hy : X.env.scope.names.lookup y = some .local) (ha : EvA X [a, b] fs)
    (hw : swappedStores [.Tuple [.Name x px, .Name y py] kt pt] (.Tuple [a, b] k2 pt2) X.env = pure (some [x, y]))
    (hs : swapsWithSole [.Tuple [.Name x px, .Name y py] kt pt] (.Tuple [a, b] k2 pt2) pos.line X.env = pure false := by rfl) :
    EvS X (.Assign [.Tuple [.Name x px, .Name y py] kt pt] (.Tuple [a, b] k2 pt2) pos) (sPar i j fs) := psI (ps_par hc hN hi hj hij hx hy ha.pa hw hs) (by
  rintro D σ H ⟨C, O, ρ, n, out, hf, E, np, q⟩
  unfold sPar at hf
  obtain ⟨⟨ws, n1⟩, e1, hf⟩ := Option.bind_eq_some_iff.mp hf
  simp only at hf
  split at hf
  · rename_i w w'
    cases hf
    refine ⟨C, O, ρ, n, _, n1, e1, E, fun vs H1 s t r => ?_⟩
    cases r with
    | cons r1 r2 =>
      cases r2 with
      | cons r2 r3 =>
        cases r3
        rename_i v1 v2
        have E1 := E.step s t
        have toR : ∀ {v : V} {w : W} {O' : Ow}, ArgOk (Av C O') C.T X.K H1 v w → Res (Av C O') C.T X.K H1 H1 v w := fun {v w O'} z => by
          cases w with
          | d x => exact z
          | town => exact z
          | no => exact z
          | ol _ => exact False.elim z
          | od _ => exact False.elim z
        obtain ⟨O2, E2, s2⟩ := E1.assign (i := i) (n' := n1) (H1 := H1) Step.refl E1.town (toR r1)
        have r2' : ArgOk (Av C O2) C.T X.K H1 v2 w' := by
          cases w' with
          | d x => exact Dv.mono s2.keep r2
          | town => exact r2
          | no => exact r2
          | ol _ => exact r2
          | od _ => exact r2
        obtain ⟨O3, E3, s3⟩ := E2.assign (i := j) (n' := n1) (H1 := H1) Step.refl E2.town (toR r2')
        exact ⟨_, _, rfl, q O3 _ H1 ((s.stepS0.trans s2).trans s3) E3⟩
  · cases hf)
/-! what is walked -/
abbrev Fi := List W → Nat → Option (List PyData × Nat)
/-- it walks xs, as long as what A leaves out stands -/
def ItOk (p : Bool) (K : PySem.W.Frag) (J : It) (xs : List PyData) (A B : Addr → Prop) (H1 : Hp) : Prop :=
  ∀ H2, (∀ a o, H1 a = some o → ¬ A a → H2 a = some o) → (∀ a, H2 a = none → H1 a = none) →
    (∀ i x, xs[i]? = some x → J.go i H2 ∧ ∀ v H', J.yld i H2 v H' → Grow H2 H' ∧ ∀ B', Keep B B' H1 H2 → (∀ a, B' a → H2 a ≠ none) → DvI p B' K H' v x) ∧ J.stop xs.length H2
def TA (C : Cn) : Addr → Prop := fun a => C.T = some a
/-- of a for: what is walked is not ours -/
def tVI (p : Bool) (K : PySem.W.Frag) (f : Fi) : TI := fun σ H R => ∃ C O ρ n xs n', f ρ n = some (xs, n') ∧ EnvOk C O K σ H ρ n ∧ ∀ J H', Step C H H' → TownAt C H' n' → ItOk p K J xs (Av C O) (Av C O) H' → R J H'
/-- of a comprehension -/
def tVJ (p : Bool) (K : PySem.W.Frag) (f : Fi) : TI := fun σ H R => ∃ C O ρ n xs n', f ρ n = some (xs, n') ∧ EnvOk C O K σ H ρ n ∧ ∀ J H', Step C H H' → TownAt C H' n' → ItOk p K J xs (TA C) (Av C O) H' → R J H'
abbrev EvI (X : Cx) (p : Bool) (tg e : Expr) (f : Fi) : Prop := PI X tg e (tVI p X.K f)
abbrev EvJ (X : Cx) (p : Bool) (tg e : Expr) (f : Fi) : Prop := PI X tg e (tVJ p X.K f)
theorem piI {tg : Expr} {t t' : TI} (h : PI X tg e t) (w : ∀ σ H R, t' σ H R → t σ H R) : PI X tg e t' := ⟨fun pins s σ H R I q => h.run pins s σ H R I (w σ H R q)⟩
theorem ItOk.less {p : Bool} {K : PySem.W.Frag} {J : It} {xs : List PyData} {A A' B : Addr → Prop} {H1 : Hp} (i : ∀ a, A' a → A a) (h : ItOk p K J xs A B H1) : ItOk p K J xs A' B H1 := fun H2 k f => h H2 (fun a o e n => k a o e fun z => n (i a z)) f
theorem ej_of {p : Bool} {tg : Expr} {f : Fi} (h : EvI X p tg e f) : EvJ X p tg e f := piI h (by
  rintro σ H R ⟨C, O, ρ, n, xs, n', hf, E, q⟩
  exact ⟨C, O, ρ, n, xs, n', hf, E, fun J H' s t k => q J H' s t (k.less Av.t)⟩)
def iSeq : PyData → Option (List PyData)
  | .list xs => some xs
  | .tuple xs => some xs
  | _ => none
def iOf (d : Fd) : Fi := fun ρ n => (d ρ n).bind fun p => (iSeq p.1).map (·, p.2)
/-- a list or a tuple -/
def iLT (K : PySem.W.Frag) (tl : TE) : TI := fun σ H R => tl σ H fun x H1 => ∃ a, x = .ref a ∧ (((∃ xs, SqL K H1 a xs) ∧ R (Itl K a) H1) ∨ ((∃ xs, SqT K H1 a xs) ∧ R (Itt K a) H1))
theorem pi_seq {tg : Expr} {tl : TE} (hl : PE X e tl) : PI X tg e (iLT X.K tl) := by
  refine ⟨fun pins s σ H R I h => thn (hl.run pins s σ H _ I h) fun v s1 ⟨x, H1, I1, r1, q1⟩ => ?_⟩
  obtain ⟨a, hx, q⟩ := q1
  subst hx
  have hv : v = Value.ref a := r1
  subst hv
  have young : ∀ b ∈ [s1.heap.objs.size], FpOk X pins H1 b := fun b hb => by
    rw [List.mem_singleton.mp hb]
    exact I1.fpOk (Nat.le_refl _) (I1.hok.fresh (Nat.le_refl _))
  rcases q with ⟨⟨xs, hq⟩, q⟩ | ⟨⟨xs, hq⟩, q⟩
  · obtain ⟨its, _, p, _⟩ := I1.list hq
    exact wpAny_pyIter_list p.isList ⟨_, _, _, _, H1, rfl, I1.kept (t' := s1.toks) fun b o e => Heap.get?_push_of_some _ e, turn_list a _, ⟨_, Heap.get?_push_size _ rfl, rfl, rfl⟩, young, q⟩
  · obtain ⟨its, _, p, _⟩ := I1.tuple hq
    exact wpAny_pyIter_tuple (items := its.toArray) p ⟨_, _, _, _, H1, rfl, I1.kept (t' := s1.toks) fun b o e => Heap.get?_push_of_some _ e, turn_tuple a _, ⟨_, Heap.get?_push_size _ rfl, rfl, rfl⟩, young, q⟩
section
variable {K : PySem.W.Frag} {A B : Addr → Prop} {H H1 H2 : Hp} {vs : List V} {xs : List PyData} {l : Addr}
theorem it_list (hs : (¬ A l ∧ Rd H1 l (.lst vs)) ∨ SqL K Hz l vs) (hd : DvAll B K H1 vs xs) : ItOk false K (Itl K l) xs A B H1 := fun H2 k f => by
  have h2 : SqL K H2 l vs := hs.elim (fun ⟨na, r⟩ => .inl (r.imp (fun z => k _ _ z na) fun ⟨o, z⟩ => ⟨o, k _ _ z na⟩)) sqLz
  refine ⟨fun i x hx => ?_, vs, h2, by rw [hd.length]; exact Nat.le_refl _⟩
  obtain ⟨v, e1, e2⟩ := hd.get hx
  refine ⟨⟨vs, v, h2, e1⟩, ?_⟩
  rintro v' H' ⟨rfl, y⟩
  refine ⟨Grow.refl, fun B' kp _ => ?_⟩
  have := y vs h2
  rw [e1] at this
  cases this
  exact .inl (e2.mono kp)
theorem it_tup (hs : (¬ A l ∧ Rd H1 l (.tup vs)) ∨ SqT K Hz l vs) (hd : DvAll B K H1 vs xs) : ItOk false K (Itt K l) xs A B H1 := fun H2 k f => by
  have h2 : SqT K H2 l vs := hs.elim (fun ⟨na, r⟩ => .inl (r.imp (fun z => k _ _ z na) fun ⟨o, z⟩ => ⟨o, k _ _ z na⟩)) sqTz
  refine ⟨fun i x hx => ?_, vs, h2, by rw [hd.length]; exact Nat.le_refl _⟩
  obtain ⟨v, e1, e2⟩ := hd.get hx
  refine ⟨⟨vs, v, h2, e1⟩, ?_⟩
  rintro v' H' ⟨rfl, y⟩
  refine ⟨Grow.refl, fun B' kp _ => ?_⟩
  have := y vs h2
  rw [e1] at this
  cases this
  exact .inl (e2.mono kp)
end
/-- walked data, kept for ever -/
def iVal (f : Fe) : Fi := fun ρ n => (f ρ n).bind fun p => p.1.frz.val.bind fun x => (iSeq x).map (·, p.2)
theorem ei_seq {tg : Expr} (h : EvE X e f) : EvI X false tg e (iVal f) := piI (pi_seq h) (by
  rintro σ H R ⟨C, O, ρ, n, xs, n', hf, E, q⟩
  unfold iVal at hf
  obtain ⟨⟨w, n1⟩, e1, hf⟩ := Option.bind_eq_some_iff.mp hf
  obtain ⟨x, e2, hf⟩ := Option.bind_eq_some_iff.mp hf
  obtain ⟨ys, e3, hf⟩ := Option.map_eq_some_iff.mp hf
  cases hf
  refine ⟨C, O, ρ, n, w, n1, e1, E, fun v H1 s t r => ?_⟩
  have r' : Dv (Av C O) X.K H1 v x := (r.frz E.av).val e2
  cases x with
  | list zs =>
    cases e3
    cases r' with
    | lst hs ha => exact ⟨_, rfl, .inl ⟨⟨_, hs.elim (fun z => .inl z.2) sqLz⟩, q _ H1 s t (it_list hs ha)⟩⟩
  | tuple zs =>
    cases e3
    cases r' with
    | tup hs ha => exact ⟨_, rfl, .inr ⟨⟨_, sqT_of hs⟩, q _ H1 s t (it_tup (hs.imp (fun z => ⟨z.1, let ⟨o, z, _⟩ := z.2; .inr ⟨o, z⟩⟩) (·.1)) ha)⟩⟩
  | _ => cases e3)
/-- in a comprehension a list of one's own may be walked -/
theorem ej_seq {tg : Expr} (h : EvB X e d) : EvJ X false tg e (iOf d) := piI (pi_seq h) (by
  rintro σ H R ⟨C, O, ρ, n, xs, n', hf, E, q⟩
  unfold iOf at hf
  obtain ⟨⟨x, n1⟩, e1, hf⟩ := Option.bind_eq_some_iff.mp hf
  obtain ⟨ys, e3, hf⟩ := Option.map_eq_some_iff.mp hf
  cases hf
  refine ⟨C, O, ρ, n, x, n1, e1, E, fun v H1 s t r => ?_⟩
  have tn : ∀ a, ¬ Av C O a → ¬ TA C a := fun a h z => h (Av.t a z)
  cases x with
  | list zs =>
    cases e3
    rcases r with r | ⟨l, vs, ds, rfl, h2, h3, h4, h5⟩ | ⟨l, kvs, _, h2, _⟩
    · cases r with
      | lst hs ha => exact ⟨_, rfl, .inl ⟨⟨_, hs.elim (fun z => .inl z.2) sqLz⟩, q _ H1 s t (it_list (hs.imp (fun z => ⟨tn _ z.1, z.2⟩) id) ha)⟩⟩
    · cases h2
      exact ⟨_, rfl, .inl ⟨⟨_, SqL.of h4⟩, q _ H1 s t (it_list (.inl ⟨h3, .inl h4⟩) h5)⟩⟩
    · cases h2
  | tuple zs =>
    cases e3
    rcases r with r | ⟨l, vs, ds, rfl, h2, h3, h4, h5⟩ | ⟨l, kvs, _, h2, _⟩
    · cases r with
      | tup hs ha => exact ⟨_, rfl, .inr ⟨⟨_, sqT_of hs⟩, q _ H1 s t (it_tup (hs.imp (fun z => ⟨tn _ z.1, let ⟨o, z, _⟩ := z.2; .inr ⟨o, z⟩⟩) (·.1)) ha)⟩⟩
    · cases h2
    · cases h2
  | _ => cases e3)
/-! ranges -/
def rangeD (lo : Int) (n : Nat) : List PyData := (List.range n).map fun (i : Nat) => .int (lo + i)
def rng1 : PyData → Option (List PyData)
  | .int j => if -(2 ^ 62) ≤ j ∧ j < 2 ^ 62 then some (rangeD 0 j.toNat) else none
  | _ => none
def rng2 : PyData → PyData → Option (List PyData)
  | .int i, .int j => if -(2 ^ 62) ≤ i ∧ i < 2 ^ 62 ∧ -(2 ^ 62) ≤ j ∧ j < 2 ^ 62 then some (rangeD i (j - i).toNat) else none
  | _, _ => none
def iRng1 (d : Fd) : Fi := fun ρ n => (d ρ n).bind fun p => (rng1 p.1).map (·, p.2)
def iRng2 (da db : Fd) : Fi := fun ρ n => (da ρ n).bind fun p => (db ρ p.2).bind fun q => (rng2 p.1 q.1).map (·, q.2)
theorem it_rng {K : PySem.W.Frag} {A B : Addr → Prop} {H1 : Hp} {lo : Int} {n : Nat} : ItOk false K (Itr lo n) (rangeD lo n) A B H1 := fun H2 k f => by
  have hl : (rangeD lo n).length = n := by simp [rangeD]
  refine ⟨fun i x hx => ?_, by rw [hl]; exact Nat.le_refl _⟩
  have hi : i < n := by rw [← hl]; exact (List.getElem?_eq_some_iff.mp hx).1
  refine ⟨hi, ?_⟩
  rintro v H' ⟨rfl, rfl⟩
  refine ⟨Grow.refl, fun B' _ _ => ?_⟩
  have e : (rangeD lo n)[i]? = some (.int (lo + i)) := by simp [rangeD, hi]
  rw [e] at hx
  cases hx
  exact .inl (.int _)
theorem ei_range1 {tg : Expr} {p : Pos} (hg : Gl X "range") (hm : X.mg "range" = none) (ha : EvB X a d) (hs : starEach [a] X.env = [(false, eval a X.env)] := by rfl) : EvI X false tg (.Call (.Name "range" p) [a] [] pos) (iRng1 d) := piI (pi_range1 hg hm (pa_cons ha pa_nil hs) hs) (by
  rintro σ H R ⟨C, O, ρ, n, xs, n', hf, E, q⟩
  unfold iRng1 at hf
  obtain ⟨⟨y, n1⟩, e1, hf⟩ := Option.bind_eq_some_iff.mp hf
  obtain ⟨zs, e3, hf⟩ := Option.map_eq_some_iff.mp hf
  cases hf
  refine ⟨C, O, ρ, n, y, n1, e1, E, fun v H1 s t r => ?_⟩
  cases y with
  | int j =>
    simp only [rng1] at e3
    split at e3
    · rename_i hj
      cases e3
      exact ⟨j, by rw [r.int], hj.1, hj.2, q _ H1 s t it_rng⟩
    · cases e3
  | _ => cases e3)
theorem ei_range2 {tg : Expr} {p : Pos} (hg : Gl X "range") (hm : X.mg "range" = none) (ha : EvB X a da) (hb : EvB X b db) (hs : starEach [a, b] X.env = [(false, eval a X.env), (false, eval b X.env)] := by rfl) (hs2 : starEach [b] X.env = [(false, eval b X.env)] := by rfl) :
    EvI X false tg (.Call (.Name "range" p) [a, b] [] pos) (iRng2 da db) := piI (pi_range2 hg hm (pa_cons ha (pa_cons hb pa_nil hs2) (by rw [hs, hs2])) hs hs2) (by
  rintro σ H R ⟨C, O, ρ, n, xs, n', hf, E, q⟩
  unfold iRng2 at hf
  obtain ⟨⟨y, n1⟩, e1, hf⟩ := Option.bind_eq_some_iff.mp hf
  obtain ⟨⟨z, n2⟩, e2, hf⟩ := Option.bind_eq_some_iff.mp hf
  obtain ⟨zs, e3, hf⟩ := Option.map_eq_some_iff.mp hf
  cases hf
  refine ⟨C, O, ρ, n, y, n1, e1, E, fun v H1 s t r => ⟨C, O, ρ, n1, z, n2, e2, E.step s t, fun u H2 s2 t2 r2 => ?_⟩⟩
  cases y with
  | int i =>
    cases z with
    | int j =>
      simp only [rng2] at e3
      split at e3
      · rename_i hj
        cases e3
        exact ⟨i, j, by rw [r.int, r2.int], hj, q _ H2 (s.trans s2) t2 it_rng⟩
      · cases e3
    | _ => cases e3
  | _ => cases e3)
end
end L2.Lv
namespace L2.Lv
open PySem PySem.Spec PyProof.Rows
def loopF (g : Fg) (body : Fs) : List PyData → Fs
  | [], ρ, n => some (.nx ρ n)
  | x :: xs, ρ, n => (g x ρ).bind fun ρ1 => (body ρ1 n).bind fun o => match o with
    | .nx ρ' n' => loopF g body xs ρ' n'
    | .bk ρ' n' => some (.nx ρ' n')
    | .rt w n' => some (.rt w n')
def sFor (fi : Fi) (g : Fg) (body : Fs) : Fs := fun ρ n => (fi ρ n).bind fun p => loopF g body p.1 ρ p.2
def loopW (c : Ft) (body : Fs) : Nat → Fs
  | 0, _, _ => none
  | k + 1, ρ, n => (c ρ n).bind fun p => if p.1 then (body ρ p.2).bind fun o => match o with
    | .nx ρ' n' => loopW c body k ρ' n'
    | .bk ρ' n' => some (.nx ρ' n')
    | .rt w n' => some (.rt w n')
    else some (.nx ρ p.2)
def wipeW (ρ : List W) : List Nat → List W
  | [] => ρ
  | v :: vs => (wipeW ρ vs).set v .no
def loopC (g : Fg) (own : List Nat) (tst : Ft) (elt : Fe) (ρ : List W) : List PyData → Nat → Option (List PyData × Nat)
  | [], n => some ([], n)
  | x :: xs, n => (g x (wipeW ρ own)).bind fun ρ1 => (tst ρ1 n).bind fun b => if b.1 then
      (elt ρ1 b.2).bind fun w => w.1.frz.val.bind fun y => (loopC g own tst elt ρ xs w.2).map fun r => (y :: r.1, r.2)
    else loopC g own tst elt ρ xs b.2
def eComp (fi : Fi) (g : Fg) (own : List Nat) (tst : Ft) (elt : Fe) : Fe := fun ρ n => (fi ρ n).bind fun p => if p.1.length ≤ big then (loopC g own tst elt ρ p.1 p.2).map fun q => (.ol q.1, q.2) else none
section
variable {X : Cx} {e a b : Expr} {es : List Expr} {f fa fb : Fe} {d da db : Fd} {fs : Fa} {ds : Fds} {pos : Pos} {st : Stmt} {rest sts sts' : List Stmt} {gs h : Fs}
theorem ss_for {p : Bool} {tg : Expr} {fi : Fi} {is : List Nat} {g : Fg} {body : Fs} (hp : PassesOwn (model X.prog X.w) X.A X.env X.xe) (hc : X.calm = true) (hi : EvI X p tg e fi) (hg : EvG X p tg is g) (hb : EvSs X sts body)
    (hs : ∀ x, foldedSetIterable e X.env x = pure x := by intro _; rfl) : EvS X (.For tg e sts [] pos) (sFor fi g body) := psI (ps_for hp hc hi hg hb hs) (by
  rintro D σ H ⟨C, O, ρ, n, out, hf, E, np, q⟩
  unfold sFor at hf
  obtain ⟨⟨xs, n1⟩, e1, hf⟩ := Option.bind_eq_some_iff.mp hf
  refine ⟨C, O, ρ, n, xs, n1, e1, E, fun J H1 s t it => ?_⟩
  refine ⟨fun i m σ' H' => ∃ O' ρ' n', m = xs.length - i ∧ i ≤ xs.length ∧ StepS C O O' H1 H' ∧ EnvOk C O' X.K σ' H' ρ' n' ∧ loopF g body (xs.drop i) ρ' n' = some out,
    ⟨_, O, ρ, n1, rfl, Nat.zero_le _, Step.refl.stepS0, E.step s t, hf⟩, ?_⟩
  rintro i m σ' H' ⟨O', ρ', n', rfl, hi, S', E', hl⟩
  obtain ⟨items, stop⟩ := it H' (fun a o e na => S'.st a o e (fun z => na (.inr (.inl z))) fun j z => na (.inr (.inr ⟨j, z⟩))) S'.fr
  by_cases hlt : i < xs.length
  · obtain ⟨go, yl⟩ := items i xs[i] (List.getElem?_eq_getElem hlt)
    rw [List.drop_eq_getElem_cons hlt] at hl
    unfold loopF at hl
    obtain ⟨ρ1, e2, hl⟩ := Option.bind_eq_some_iff.mp hl
    obtain ⟨o, e3, hl⟩ := Option.bind_eq_some_iff.mp hl
    refine .inr ⟨go, fun σ'' H'' => ∃ O'' ρ'' n'', StepS C O O'' H1 H'' ∧ EnvOk C O'' X.K σ'' H'' ρ'' n'' ∧ loopF g body (xs.drop (i + 1)) ρ'' n'' = some out, ?_, fun v H2 y => ?_⟩
    · rintro σ'' H'' ⟨O'', ρ'', n'', S'', E'', hl''⟩
      exact ⟨xs.length - (i + 1), by omega, O'', ρ'', n'', rfl, hlt, S'', E'', hl''⟩
    · obtain ⟨gr, it2⟩ := yl v H2 y
      have r := it2 (Av C O') S'.keep E'.av
      have E2 := E'.step gr.step (gr.town E'.town)
      have S2 : StepS C O O' H1 H2 := S'.trans gr.step.stepS0
      refine ⟨C, O', ρ', n', xs[i], ρ1, e2, E2, r, fun O3 vs s3 E3 => ⟨C, O3, ρ1, n', o, e3, E3, np.step E (s.stepS0.trans (S2.trans s3)), ?_⟩⟩
      cases o with
      | nx ρ4 n4 => exact fun O4 σ4 H4 s4 E4 => ⟨O4, ρ4, n4, (S2.trans s3).trans s4, E4, hl⟩
      | bk ρ4 n4 =>
        cases hl
        exact fun O4 σ4 H4 s4 E4 => q O4 σ4 H4 (s.stepS0.trans ((S2.trans s3).trans s4)) E4
      | rt w n4 =>
        cases hl
        exact q
  · have hie : i = xs.length := by omega
    subst hie
    rw [List.drop_length] at hl
    cases hl
    exact .inl ⟨stop, q O' σ' H' (s.stepS0.trans S') E'⟩)
theorem ss_while {c : Expr} {tc : Ft} {body : Fs} (k : Nat) (hp : PassesOwn (model X.prog X.w) X.A X.env X.xe) (hc : EvT X c tc) (hb : EvSs X sts body) : EvS X (.While c sts [] pos) (loopW tc body k) := psI (ps_while hp hc hb) (by
  rintro D σ H ⟨C, O, ρ, n, out, hf, E, np, q⟩
  refine ⟨fun m σ' H' => ∃ O' ρ' n', StepS C O O' H H' ∧ EnvOk C O' X.K σ' H' ρ' n' ∧ loopW tc body m ρ' n' = some out, ⟨k, O, ρ, n, Step.refl.stepS0, E, hf⟩, ?_⟩
  rintro m σ' H' ⟨O', ρ', n', S', E', hl⟩
  cases m with
  | zero => cases hl
  | succ m =>
    unfold loopW at hl
    obtain ⟨⟨x, n1⟩, e1, hl⟩ := Option.bind_eq_some_iff.mp hl
    refine ⟨C, O', ρ', n', x, n1, e1, E', fun H1 s1 t1 => ?_⟩
    have E1 := E'.step s1 t1
    have S1 := S'.trans s1.stepS0
    cases x with
    | false =>
      simp only [Bool.false_eq_true, if_false] at hl ⊢
      cases hl
      exact q O' σ' H1 S1 E1
    | true =>
      simp only [if_true] at hl ⊢
      obtain ⟨o, e3, hl⟩ := Option.bind_eq_some_iff.mp hl
      refine ⟨fun σ'' H'' => ∃ O'' ρ'' n'', StepS C O O'' H H'' ∧ EnvOk C O'' X.K σ'' H'' ρ'' n'' ∧ loopW tc body m ρ'' n'' = some out, fun σ'' H'' z => ⟨m, Nat.lt_succ_self m, z⟩, C, O', ρ', n1, o, e3, E1, np.step E S', ?_⟩
      cases o with
      | nx ρ4 n4 => exact fun O4 σ4 H4 s4 E4 => ⟨O4, ρ4, n4, S1.trans s4, E4, hl⟩
      | bk ρ4 n4 =>
        cases hl
        exact fun O4 σ4 H4 s4 E4 => q O4 σ4 H4 (S1.trans s4) E4
      | rt w n4 =>
        cases hl
        exact q)
/-! comprehensions -/
theorem wipe_get (σ : St) : ∀ (vs : List Nat) (j : Nat), (wipe σ vs)[j]? = if j ∈ vs ∧ j < σ.length then some none else σ[j]?
  | [], j => by simp [wipe]
  | v :: vs, j => by
    unfold wipe
    by_cases hv : v = j
    · subst hv
      by_cases hl : v < σ.length
      · rw [List.getElem?_set_self (by rw [wipe_length]; exact hl), if_pos ⟨List.mem_cons_self, hl⟩]
      · rw [List.getElem?_eq_none (by rw [List.length_set, wipe_length]; omega), if_neg (fun z => hl z.2), List.getElem?_eq_none (by omega)]
    · rw [List.getElem?_set_ne hv, wipe_get σ vs j]
      simp [Ne.symm hv]
theorem wipe_set {σ : St} {vs : List Nat} {i : Nat} {x : Option V} (h : i ∈ vs) : wipe (σ.set i x) vs = wipe σ vs := by
  apply List.ext_getElem?
  intro j
  rw [wipe_get, wipe_get, List.length_set]
  by_cases hj : j ∈ vs ∧ j < σ.length
  · rw [if_pos hj, if_pos hj]
  · rw [if_neg hj, if_neg hj]
    by_cases hi : i = j
    · subst hi
      have : ¬ i < σ.length := fun z => hj ⟨h, z⟩
      rw [List.getElem?_eq_none (by simpa using this), List.getElem?_eq_none (by omega)]
    · rw [List.getElem?_set_ne hi]
theorem wipe_wipe {σ : St} {vs : List Nat} : wipe (wipe σ vs) vs = wipe σ vs := by
  apply List.ext_getElem?
  intro j
  rw [wipe_get, wipe_length, wipe_get]
  split <;> rfl
theorem wipe_setV {vs : List Nat} : ∀ {is : List Nat} {us : List V} {σ : St}, (∀ i ∈ is, i ∈ vs) → wipe (setV is us σ) vs = wipe σ vs
  | [], _, _, _ => by unfold setV; rfl
  | _ :: _, [], _, _ => by unfold setV; rfl
  | i :: is, u :: us, σ, h => by
    unfold setV
    rw [wipe_setV (fun j hj => h j (List.mem_cons_of_mem _ hj)), wipe_set (h i List.mem_cons_self)]
theorem wipeW_length (ρ : List W) : ∀ vs : List Nat, (wipeW ρ vs).length = ρ.length
  | [] => rfl
  | v :: vs => by unfold wipeW; rw [List.length_set, wipeW_length ρ vs]
theorem wipeW_get (ρ : List W) : ∀ (vs : List Nat) (j : Nat), (wipeW ρ vs)[j]? = if j ∈ vs ∧ j < ρ.length then some .no else ρ[j]?
  | [], j => by simp [wipeW]
  | v :: vs, j => by
    unfold wipeW
    by_cases hv : v = j
    · subst hv
      by_cases hl : v < ρ.length
      · rw [List.getElem?_set_self (by rw [wipeW_length]; exact hl), if_pos ⟨List.mem_cons_self, hl⟩]
      · rw [List.getElem?_eq_none (by rw [List.length_set, wipeW_length]; omega), if_neg (fun z => hl z.2), List.getElem?_eq_none (by omega)]
    · rw [List.getElem?_set_ne hv, wipeW_get ρ vs j]
      simp [Ne.symm hv]
/-- in a block all that is ours, and the new list at D, is as others' -/
def blkC (C : Cn) (O : Ow) (D : Addr) : Cn := ⟨C.T, fun a => C.P a ∨ (∃ i, O i = some a) ∨ a = D, C.H0⟩
theorem blkC_av {C : Cn} {O O' : Ow} {D : Addr} : ∀ a, Av C O a ∨ a = D → Av (blkC C O D) O' a := by
  rintro a ((z | z | z) | z)
  · exact .inl (.inl z)
  · exact .inr (.inl z)
  · exact .inl (.inr (.inl z))
  · exact .inl (.inr (.inr z))
theorem blkC_va {C : Cn} {O : Ow} {D : Addr} : ∀ a, Av (blkC C O D) O a → Av C O a ∨ a = D := by
  rintro a ((z | z | z) | z | z)
  · exact .inl (.inl z)
  · exact .inl (.inr (.inr z))
  · exact .inr z
  · exact .inl (.inr (.inl z))
  · exact .inl (.inr (.inr z))
/-- the block's state -/
theorem EnvOk.blk {C : Cn} {O : Ow} {K : PySem.W.Frag} {σ : St} {H1 H' : Hp} {ρ : List W} {n n' : Nat} {D : Addr} {vs : List Nat} (E : EnvOk C O K σ H1 ρ n) (hD : H1 D = none) (s : Step C H1 H') (t : TownAt C H' n') (hD' : H' D ≠ none) :
    EnvOk (blkC C O D) O K (wipe σ vs) H' (wipeW ρ vs) n' := by
  have E1 := E.step s t
  have kp : Keep (Av C O) (Av (blkC C O D) O) H1 H' := fun a u na r => by
    refine ⟨fun z => ?_, s.st _ _ r (fun e => na (.inr (.inl e)))⟩
    rcases blkC_va a z with z | z
    · exact na z
    · rw [z, hD] at r; cases r
  refine ⟨by rw [wipeW_length, wipe_length]; exact E.len, fun i w e => ?_, E.inj, E1.own, t, E1.base, fun a z => z.elim (E1.ptr a) fun z => z.elim (fun ⟨i, z⟩ => (E1.own i a z).2.2) fun z => by rw [z]; exact hD', E1.fr⟩
  rw [wipeW_get] at e
  rw [wipe_get]
  split at e
  · cases e
    trivial
  · rename_i hn
    rw [if_neg (by rw [← E.len]; exact hn)]
    have q := E.sl i w e
    cases w with
    | no => trivial
    | d x => obtain ⟨u, h1, h2⟩ := q; exact ⟨u, h1, h2.mono kp⟩
    | town => exact q
    | ol xs =>
      obtain ⟨a, us, h1, h2, h3, h4⟩ := q
      exact ⟨a, us, h1, h2, s.st _ _ h3 (E.own i a h1).1, h4.mono kp⟩
    | od kvs =>
      obtain ⟨a, h1, h2, h3⟩ := q
      exact ⟨a, h1, h2, h3.mono kp fun o e => s.st _ _ e (E.own i a h1).1⟩
def bYes : Ft := fun _ n => some (true, n)
abbrev EvTs (X : Cx) (es : List Expr) (f : Ft) : Prop := PTs X es (tVT X.K f)
theorem ptsI {t t' : TT} (h : PTs X es t) (w : ∀ σ H Q, t' σ H Q → t σ H Q) : PTs X es t' := ⟨fun pins s σ H Q I q => h.run pins s σ H Q I (w σ H Q q)⟩
theorem ets_nil : EvTs X [] bYes := ptsI pts_nil (by
  rintro σ H Q ⟨C, O, ρ, n, c, n', hf, E, q⟩
  cases hf
  exact q H Step.refl E.town)
theorem ets_one {ft : Ft} (h : EvT X e ft) : EvTs X [e] ft := pts_one h
theorem comp_run {p : Bool} {K : PySem.W.Frag} {fi : Fi} {is own : List Nat} {g : Fg} {tst : Ft} {elt : Fe} (ho : ∀ i ∈ is, i ∈ own) {σ : St} {H : Hp} {Q : VK} (h : tV K (eComp fi g own tst elt) σ H Q) :
    tLc (tVJ p K fi) (tVG p K is g) (tVT K tst) (tV K elt) own σ H Q := by
  obtain ⟨C, O, ρ, n, w, n', hf, E, q⟩ := h
  unfold eComp at hf
  obtain ⟨⟨xs, n1⟩, e1, hf⟩ := Option.bind_eq_some_iff.mp hf
  simp only at hf
  split at hf
  case isFalse => cases hf
  rename_i hz
  obtain ⟨⟨ys, nf⟩, e2, hf⟩ := Option.map_eq_some_iff.mp hf
  cases hf
  refine ⟨C, O, ρ, n, xs, n1, e1, E, fun J H1 s t it D hD => ?_⟩
  have E1 := E.step s t
  have hDH : H D = none := s.fr D hD
  let Inv1 : Nat → Hp → Prop := fun i H' => ∃ n2 acc vs r, Step C H1 H' ∧ TownAt C H' n2 ∧ H' D = some (.lst vs) ∧ DvAll (fun b => Av C O b ∨ b = D) K H' vs acc ∧ acc.length ≤ i ∧ loopC g own tst elt ρ (xs.drop i) n2 = some (r, nf) ∧ acc ++ r = ys
  refine ⟨fun i m H' => m = xs.length - i ∧ i ≤ xs.length ∧ Inv1 i H', ⟨_, rfl, Nat.zero_le _, n1, [], [], ys, (Grow.upd hD).step, (Grow.upd hD).town t, upd_same, .nil, Nat.le_refl _, e2, rfl⟩, ?_⟩
  rintro i m H' ⟨rfl, hi, n2, acc, vs, r, S', T', hD', hacc, hlen, hl, hys⟩
  obtain ⟨items, stop⟩ := it H' (fun a o e na => S'.st a o e na) S'.fr
  have EB : EnvOk (blkC C O D) O K (wipe σ own) H' (wipeW ρ own) n2 := E1.blk hD S' T' (by rw [hD']; simp)
  by_cases hlt : i < xs.length
  · obtain ⟨go, yl⟩ := items i xs[i] (List.getElem?_eq_getElem hlt)
    rw [List.drop_eq_getElem_cons hlt] at hl
    unfold loopC at hl
    obtain ⟨ρ1, e3, hl⟩ := Option.bind_eq_some_iff.mp hl
    obtain ⟨⟨c, n3⟩, e4, hl⟩ := Option.bind_eq_some_iff.mp hl
    refine .inr ⟨go, Inv1 (i + 1), fun H'' z => ⟨xs.length - (i + 1), by omega, rfl, hlt, z⟩, fun v H2 y => ?_⟩
    obtain ⟨gr, it2⟩ := yl v H2 y
    have rx : DvI p (Av (blkC C O D) O) K H2 v xs[i] := it2 _ (fun a u na rd => by
      refine ⟨fun z => ?_, S'.st _ _ rd (fun e => na (.inr (.inl e)))⟩
      rcases blkC_va a z with z | z
      · exact na z
      · rw [z, hD] at rd; cases rd) EB.av
    have E2 := EB.step gr.step (gr.town EB.town)
    refine ⟨_, O, wipeW ρ own, n2, xs[i], ρ1, e3, E2, rx, fun O3 us s3 E3 => ⟨by rw [wipe_setV ho, wipe_wipe], ?_⟩⟩
    refine ⟨_, O3, ρ1, n2, c, n3, e4, E3, fun H3 s4 t4 => ?_⟩
    have E4 := E3.step s4 t4
    have toC : ∀ {Ha Hb : Hp}, Step ((blkC C O D) : Cn) Ha Hb → Step C Ha Hb := fun {Ha Hb} z => ⟨z.st, z.fr⟩
    have S3 : Step C H1 H3 := (S'.trans gr.step).trans (toC s4)
    have TD : C.T ≠ some D := fun z => E1.tr D z hD
    have hD3 : H3 D = some (.lst vs) := s4.st _ _ (gr _ _ hD') TD
    have hacc3 : DvAll (fun b => Av C O b ∨ b = D) K H3 vs acc := (hacc.mono gr.keep).mono ((toC s4).keep fun a z => .inl (.inr (.inl z)))
    cases c with
    | false =>
      simp only [Bool.false_eq_true, if_false] at hl ⊢
      exact ⟨n3, acc, vs, r, S3, t4, hD3, hacc3, by omega, hl, hys⟩
    | true =>
      simp only [if_true] at hl ⊢
      obtain ⟨⟨wy, n4⟩, e5, hl⟩ := Option.bind_eq_some_iff.mp hl
      obtain ⟨y', e6, hl⟩ := Option.bind_eq_some_iff.mp hl
      obtain ⟨⟨r', n5⟩, e7, hl⟩ := Option.map_eq_some_iff.mp hl
      cases hl
      refine ⟨_, O3, ρ1, n3, wy, n4, e5, E4, fun vy H4 s5 t5 ry => ?_⟩
      have ry' : Dv (Av (blkC C O D) O3) K H4 vy y' := (ry.frz E4.av).val e6
      have hD4 : H4 D = some (.lst vs) := s5.st _ _ hD3 TD
      have hacc4 := hacc3.mono ((toC s5).keep fun a z => .inl (.inr (.inl z)))
      have S4 : Step C H1 H4 := S3.trans (toC s5)
      have ne : ∀ b u, b ≠ D → upd H4 D u b = H4 b := fun b u hb => upd_ne hb
      have kp : Keep (fun b => Av C O b ∨ b = D) (fun b => Av C O b ∨ b = D) H4 (upd H4 D (.lst (vs ++ [vy]))) := fun a u na rd => ⟨na, by
        rw [upd_ne (fun z => na (.inr z))]
        exact rd⟩
      have kq : Keep (Av (blkC C O D) O3) (fun b => Av C O b ∨ b = D) H4 H4 := fun a u na rd => ⟨fun z => na (blkC_av a z), rd⟩
      have nn : ∀ b, upd H4 D (.lst (vs ++ [vy])) b = none → H4 b = none := fun b z => by
        by_cases h : b = D
        · rw [h, upd_same] at z; cases z
        · rw [upd_ne h] at z; exact z
      refine ⟨vs, hD4, by rw [hacc.length, big_eq]; omega, n4, acc ++ [y'], vs ++ [vy], r', ⟨fun a o z t => ?_, fun a z => S4.fr a (nn a z)⟩, fun a z => ?_, upd_same, (hacc4.append (.cons (ry'.mono kq) .nil)).mono kp, by rw [List.length_append]; simp; omega, e7, ?_⟩
      · rw [upd_ne (fun h => by rw [h, hD] at z; cases z)]
        exact S4.st a o z t
      · rw [upd_ne (fun h => TD (by rw [← h]; exact z))]
        exact t5 a z
      · rw [List.append_assoc]
        exact hys
  · have hie : i = xs.length := by omega
    subst hie
    rw [List.drop_length] at hl
    cases hl
    rw [List.append_nil] at hys
    subst hys
    exact .inl ⟨stop, q _ _ (s.trans S') T' ⟨D, vs, rfl, hDH, hD', hacc⟩⟩
end
end L2.Lv
namespace L2.Lv
open PySem PySem.Spec PyProof.Rows
/-! comprehensions as expressions -/
section
variable {X : Cx} {e a b : Expr} {es : List Expr} {f fa fb : Fe} {d da db : Fd} {fs : Fa} {ds : Fds} {pos : Pos} {st : Stmt} {rest sts sts' : List Stmt} {gs h : Fs}
theorem ev_lc {elt tg iter : Expr} {ifs : List Expr} {scope : Scope} {own : List (Str × Nat)} {p : Bool} {fi : Fi} {is : List Nat} {g : Fg} {tst : Ft} {fe : Fe} (hc : X.calm = true) (hN : X.N.Nodup) (hi : EvJ X p tg iter fi) (ok : BlkOk X.N X.env.scope scope own)
    (hg : ∀ (s : Shared) (H : Hp) (C : Addr) (cl : List (Str × Addr)) (fp : List Addr), EvG (X.blk s H scope (compEnvC scope cl C X.env) fp) p tg is g)
    (ht : ∀ (s : Shared) (H : Hp) (C : Addr) (cl : List (Str × Addr)) (fp : List Addr), EvTs (X.blk s H scope (compEnvC scope cl C X.env) fp) ifs tst)
    (he : ∀ (s : Shared) (H : Hp) (C : Addr) (cl : List (Str × Addr)) (fp : List Addr), EvE (X.blk s H scope (compEnvC scope cl C X.env) fp) elt fe)
    (ho : ∀ i ∈ is, i ∈ own.map (·.2) := by decide) (hs : ∀ x, foldedSetIterable iter X.env x = pure x := by intro _; rfl) :
    EvE X (.ListComp elt [⟨tg, iter, ifs, 0⟩] scope pos) (eComp fi g (own.map (·.2)) tst fe) :=
  peI (pe_lc hc hN hi ok hg ht he hs) fun σ H Q h => comp_run ho h
/-- name = [..] -/
theorem ss_setLc {i : Nat} {y : Str} {py : Pos} {elt tg iter : Expr} {ifs : List Expr} {scope : Scope} {own : List (Str × Nat)} {spos : Pos} {p : Bool} {fi : Fi} {is : List Nat} {g : Fg} {tst : Ft} {fe : Fe} (hc : X.calm = true) (hN : X.N.Nodup) (hy : X.N[i]? = some y) (hyl : X.env.scope.names.lookup y = some .local)
    (hsw : swapsWith (.ListComp elt [⟨tg, iter, ifs, 0⟩] scope pos) (some (.Name y py)) spos.line X.env = pure true) (hi : EvJ X p tg iter fi) (ok : BlkOk X.N X.env.scope scope own)
    (hg : ∀ (s : Shared) (H : Hp) (C : Addr) (cl : List (Str × Addr)) (fp : List Addr), EvG (X.blk s H scope (compEnvC scope cl C X.env) fp) p tg is g)
    (ht : ∀ (s : Shared) (H : Hp) (C : Addr) (cl : List (Str × Addr)) (fp : List Addr), EvTs (X.blk s H scope (compEnvC scope cl C X.env) fp) ifs tst)
    (he : ∀ (s : Shared) (H : Hp) (C : Addr) (cl : List (Str × Addr)) (fp : List Addr), EvE (X.blk s H scope (compEnvC scope cl C X.env) fp) elt fe)
    (ho : ∀ i ∈ is, i ∈ own.map (·.2) := by decide) (hs : ∀ x, foldedSetIterable iter X.env x = pure x := by intro _; rfl) :
    EvS X (.Assign [.Name y py] (.ListComp elt [⟨tg, iter, ifs, 0⟩] scope pos) spos) (sSet i (eComp fi g (own.map (·.2)) tst fe)) :=
  psI (ps_setLc hc hN hy hyl hsw hi ok hg ht he hs) (by
    rintro D σ H ⟨C, O, ρ, n, out, hf, E, np, q⟩
    unfold sSet at hf
    obtain ⟨⟨w, n1⟩, e1, hf⟩ := Option.map_eq_some_iff.mp hf
    cases hf
    refine comp_run ho ⟨C, O, ρ, n, w, n1, e1, E, fun v H1 s t r => ?_⟩
    obtain ⟨O', E', s'⟩ := E.assign (i := i) s t r
    exact q O' _ H1 s' E')
/-- .. frozen -/
def sSetF (i : Nat) (f : Fe) : Fs := sSet i (eFrz f)
theorem ss_setLcF {i : Nat} {y : Str} {py : Pos} {elt tg iter : Expr} {ifs : List Expr} {scope : Scope} {own : List (Str × Nat)} {spos : Pos} {p : Bool} {fi : Fi} {is : List Nat} {g : Fg} {tst : Ft} {fe : Fe} (hc : X.calm = true) (hN : X.N.Nodup) (hy : X.N[i]? = some y) (hyl : X.env.scope.names.lookup y = some .local)
    (hsw : swapsWith (.ListComp elt [⟨tg, iter, ifs, 0⟩] scope pos) (some (.Name y py)) spos.line X.env = pure true) (hi : EvJ X p tg iter fi) (ok : BlkOk X.N X.env.scope scope own)
    (hg : ∀ (s : Shared) (H : Hp) (C : Addr) (cl : List (Str × Addr)) (fp : List Addr), EvG (X.blk s H scope (compEnvC scope cl C X.env) fp) p tg is g)
    (ht : ∀ (s : Shared) (H : Hp) (C : Addr) (cl : List (Str × Addr)) (fp : List Addr), EvTs (X.blk s H scope (compEnvC scope cl C X.env) fp) ifs tst)
    (he : ∀ (s : Shared) (H : Hp) (C : Addr) (cl : List (Str × Addr)) (fp : List Addr), EvE (X.blk s H scope (compEnvC scope cl C X.env) fp) elt fe)
    (ho : ∀ i ∈ is, i ∈ own.map (·.2) := by decide) (hs : ∀ x, foldedSetIterable iter X.env x = pure x := by intro _; rfl) :
    EvS X (.Assign [.Name y py] (.ListComp elt [⟨tg, iter, ifs, 0⟩] scope pos) spos) (sSet i (eFrz (eComp fi g (own.map (·.2)) tst fe))) :=
  psI (ps_setLc hc hN hy hyl hsw hi ok hg ht he hs) (by
    rintro D σ H ⟨C, O, ρ, n, out, hf, E, np, q⟩
    unfold sSet at hf
    obtain ⟨⟨w, n1⟩, e1, hf⟩ := Option.map_eq_some_iff.mp hf
    cases hf
    unfold eFrz at e1
    obtain ⟨⟨w0, n2⟩, e0, e1⟩ := Option.map_eq_some_iff.mp e1
    cases e1
    refine comp_run ho ⟨C, O, ρ, n, w0, _, e0, E, fun v H1 s t r => ?_⟩
    obtain ⟨O', E', s'⟩ := E.assign (i := i) s t (r.frz E.av)
    exact q O' _ H1 s' E')
/-- a list of one's own is given away -/
def frzAt (i : Nat) (g : Fs) : Fs := fun ρ n => match ρ[i]? with
  | some w => g (ρ.set i w.frz) n
  | none => none
theorem EnvOk.frzAt {C : Cn} {O : Ow} {K : PySem.W.Frag} {σ : St} {H : Hp} {ρ : List W} {n i : Nat} {w : W} (E : EnvOk C O K σ H ρ n) (np : OwnP C O) (e : ρ[i]? = some w) : ∃ O', EnvOk C O' K σ H (ρ.set i w.frz) n ∧ StepS C O O' H H := by
  have same : ∀ w', w' = w → ∃ O', EnvOk C O' K σ H (ρ.set i w') n ∧ StepS C O O' H H := by
    rintro w' rfl
    have h : ρ.set i w' = ρ := by
      apply List.ext_getElem?
      intro j
      by_cases h : i = j
      · subst h
        rw [List.getElem?_set_self (List.getElem?_eq_some_iff.mp e).1, e]
      · rw [List.getElem?_set_ne h]
    rw [h]
    exact ⟨O, E, Step.refl.stepS0⟩
  cases w with
  | no => exact same _ rfl
  | d x => exact same _ rfl
  | town => exact same _ rfl
  | od x => exact same _ rfl
  | ol xs =>
    obtain ⟨a, vs, h1, h2, h3, h4⟩ := E.sl i _ e
    have hi : i < σ.length := (List.getElem?_eq_some_iff.mp h2).1
    have hs : σ.set i (some (.ref a)) = σ := by
      apply List.ext_getElem?
      intro j
      by_cases h : i = j
      · subst h
        rw [List.getElem?_set_self hi, h2]
      · rw [List.getElem?_set_ne h]
    have kp : Keep (Av C O) (Av C (owSet O i none)) H H := fun b u nb r => ⟨fun z => nb (by
      rcases z with z | z | ⟨j, z⟩
      · exact .inl z
      · exact .inr (.inl z)
      · by_cases h : j = i
        · rw [h, owSet_at] at z; cases z
        · rw [owSet_of h] at z; exact .inr (.inr ⟨j, z⟩)), r⟩
    have na : ¬ Av C (owSet O i none) a := by
      rintro (z | z | ⟨j, z⟩)
      · exact np i a h1 z
      · exact (E.own i a h1).1 z
      · by_cases h : j = i
        · rw [h, owSet_at] at z; cases z
        · rw [owSet_of h] at z; exact h (E.inj j i a z h1)
    refine ⟨owSet O i none, ⟨by simpa using E.len, fun j w' e' => ?_, fun j k b h h' => ?_, fun j b h => ?_, E.town, E.base, E.ptr, E.fr⟩, Step.refl.stepS fun j b h => ?_⟩
    · by_cases h : j = i
      · subst h
        rw [List.getElem?_set_self (List.getElem?_eq_some_iff.mp e).1] at e'
        cases e'
        exact ⟨_, h2, .lst (.inl ⟨na, .inl h3⟩) (h4.mono kp)⟩
      · rw [List.getElem?_set_ne (Ne.symm h)] at e'
        rw [owSet_of h]
        have q := E.sl j w' e'
        cases w' with
        | no => trivial
        | d x => obtain ⟨u, h1, h2⟩ := q; exact ⟨u, h1, h2.mono kp⟩
        | town => exact q
        | ol xs => obtain ⟨b, us, h1, h2, h3, h4⟩ := q; exact ⟨b, us, h1, h2, h3, h4.mono kp⟩
        | od kvs => obtain ⟨b, h1, h2, h3⟩ := q; exact ⟨b, h1, h2, h3.mono kp fun o e => e⟩
    · by_cases hj : j = i
      · rw [hj, owSet_at] at h; cases h
      · by_cases hk : k = i
        · rw [hk, owSet_at] at h'; cases h'
        · rw [owSet_of hj] at h; rw [owSet_of hk] at h'; exact E.inj j k b h h'
    · by_cases hj : j = i
      · rw [hj, owSet_at] at h; cases h
      · rw [owSet_of hj] at h; exact E.own j b h
    · by_cases hj : j = i
      · rw [hj, owSet_at] at h; cases h
      · rw [owSet_of hj] at h; exact .inl ⟨j, h⟩
theorem ss_frz {i : Nat} (h : EvS X st gs) : EvS X st (frzAt i gs) := psI h (by
  rintro D σ H ⟨C, O, ρ, n, out, hf, E, np, q⟩
  unfold frzAt at hf
  split at hf
  · rename_i w hw
    obtain ⟨O', E', s⟩ := E.frzAt np hw
    exact ⟨C, O', _, n, out, hf, E', np.step E s, q.after s⟩
  · cases hf)
/-! a def by its body -/
def runB (m : Nat) (g : Fs) : Fn := fun ws n => (g (ws ++ List.replicate (m - ws.length) .no) n).bind fun o => match o with
  | .rt w n' => some (w, n')
  | .nx _ n' => some (.d .none, n')
  | .bk _ _ => none
theorem start_env {T : Option Addr} {P : Addr → Prop} {K : PySem.W.Frag} {N : List Str} {H : Hp} {ws : List W} {vs : List V} {n : Nat} (hP : ∀ a, P a → H a ≠ none) (t : TownAt ⟨T, P, H⟩ H n) (ha : ArgsOk (Av ⟨T, P, H⟩ Ow0) T K H vs ws) :
    EnvOk ⟨T, P, H⟩ Ow0 K (start N vs) H (ws ++ List.replicate (N.length - ws.length) .no) n := by
  have hl : vs.length = ws.length := Paired.length ha
  refine ⟨by simp [start, hl], fun i w e => ?_, fun i j a h => (nomatch h), fun i a h => (nomatch h), t, fun a o h _ => h, hP, fun a h => h⟩
  by_cases hi : i < ws.length
  · rw [List.getElem?_append_left hi] at e
    have get : ∀ {vs : List V} {ws : List W} {i : Nat} {w : W}, ArgsOk (Av ⟨T, P, H⟩ Ow0) T K H vs ws → ws[i]? = some w → ∃ v, vs[i]? = some v ∧ ArgOk (Av ⟨T, P, H⟩ Ow0) T K H v w := by
      intro vs ws i w h e
      induction h generalizing i with
      | nil => simp at e
      | cons r t ih =>
        cases i with
        | zero => simp at e; subst e; exact ⟨_, rfl, r⟩
        | succ i =>
          obtain ⟨v, h1, h2⟩ := ih (i := i) (by simpa using e)
          exact ⟨v, by simpa using h1, h2⟩
    obtain ⟨v, h1, h2⟩ := get ha e
    have hs : (start N vs)[i]? = some (some v) := by
      unfold start
      rw [List.getElem?_append_left (by rw [List.length_map, hl]; exact hi), List.getElem?_map, h1]
      rfl
    rw [hs]
    cases w with
    | d x => exact ⟨v, rfl, h2⟩
    | town => obtain ⟨a, z1, z2⟩ := h2; exact ⟨a, z1, by rw [z2]⟩
    | no => trivial
    | ol _ => exact False.elim h2
    | od _ => exact False.elim h2
  · rw [List.getElem?_append_right (by omega), List.getElem?_replicate] at e
    split at e
    · cases e
      trivial
    · cases e
theorem fn_val {P : Program} {w : World} {K : PySem.W.Frag} {mg : Str → Option Value} {base : Heap} {x qual : Str} {st : Stmt} {f : Addr} {fd : FuncData} {N ps : List Str} {k : Nat} {g : Fs} (F : Fun K x qual st f fd) (S : FnScope N ps (defScope st))
    (hb : ∀ (cdv : Value) (A : Around) (outer : List Env) (s : Shared) (H : Hp) (E : XK), Room k (A.deeper (envOfC qual (defScope st) s.heap.objs.size f cdv)) →
      EvSs (cxOf CX0 P w K mg base N qual (defScope st) f cdv A outer s H E).nox (defBody st) g) : FnOk P w K mg base CX0 (k + 1) f fd ps (spOf K ps.length (runB N.length g)) := by
  refine F.ok S spOf.len fun cdv A outer s H vs Q E hr h => ⟨_, hb cdv A outer s H E hr, ?_⟩
  obtain ⟨T, Pp, ws, n, w, n', hP, t, hl, ha, hf, q⟩ := h
  unfold runB at hf
  obtain ⟨o, e1, hf⟩ := Option.bind_eq_some_iff.mp hf
  refine ⟨⟨T, Pp, H⟩, Ow0, _, n, o, e1, start_env hP t ha, fun i a z => (nomatch z), ?_⟩
  cases o with
  | rt w1 n1 =>
    cases hf
    exact fun v H' r => q v H' ⟨r.base, r.fr⟩ r.town r.res
  | nx ρ1 n1 =>
    cases hf
    exact fun O' σ' H' s E' => q .non H' ⟨E'.base, E'.fr⟩ E'.town .non
  | bk ρ1 n1 => cases hf
/-- the same def at more levels -/
theorem fn_le {P : Program} {w : World} {K : PySem.W.Frag} {mg : Str → Option Value} {base : Heap} {f : Addr} {fd : FuncData} {ps : List Str} {j k : Nat} {sp : Sp} (h : FnOk P w K mg base CX0 j f fd ps sp) (hj : j ≤ k) : FnOk P w K mg base CX0 k f fd ps sp := h.mono hj
end
end L2.Lv
namespace L2.Lv
open PySem PySem.Spec PyProof.Rows
section
variable {X : Cx} {e a b : Expr} {es : List Expr} {f fa fb : Fe} {d da db : Fd} {fs : Fa} {ds : Fds} {pos : Pos}
/-! ints -/
def dI (C : Int → Int → Bool) (g : Int → Int → Int) : PyData → PyData → Option W
  | .int i, .int j => if C i j then some (.d (.int (g i j))) else none
  | _, _ => none
theorem opv_I {f : Value → Value → Sem Value} {Cp : Int → Int → Prop} {C : Int → Int → Bool} {g : Int → Int → Int} (h : OpR X f (rI Cp fun i j => .int (g i j))) (hc : ∀ i j, C i j = true → Cp i j) : OpV X f (dI C g) := ⟨_, h, fun A T x y dx dy w H Q tr rx ry e q => by
  cases dx with
  | int i =>
    cases dy with
    | int j =>
      simp only [dI] at e
      split at e
      · rename_i hC
        cases e
        exact ⟨i, j, rx.int, ry.int, hc i j hC, q _ _ Grow.refl (.int _)⟩
      · cases e
    | _ => cases e
  | _ => cases e⟩
def yesC : Int → Int → Bool := fun _ _ => true
theorem rI_of {f : Value → Value → Sem Value} {g : Int → Int → V} (h : OpR X f (rI0 g)) : OpR X f (rI (fun _ _ => True) g) := fun pins s σ H x y v u Q I rx ry ⟨i, j, h1, h2, _, q⟩ => h pins s σ H x y v u Q I rx ry ⟨i, j, h1, h2, q⟩
abbrev dAddI := dI yesC (· + ·)
abbrev dSub := dI yesC (· - ·)
def mulC (i j : Int) : Bool := decide ((-(2 ^ 64) < i ∧ i < 2 ^ 64) ∨ (-(2 ^ 64) < j ∧ j < 2 ^ 64))
abbrev dMul := dI mulC (· * ·)
def divC (_ j : Int) : Bool := decide (0 < j ∧ j < 1073741824)
abbrev dDiv := dI divC (· / ·)
def modC (_ j : Int) : Bool := decide (0 < j)
abbrev dMod := dI modC (· % ·)
theorem ov_addI : OpV X (binaryOp .Add) dAddI := opv_I (rI_of op_add) fun _ _ _ => trivial
theorem ov_sub : OpV X (binaryOp .Sub) dSub := opv_I (rI_of op_sub) fun _ _ _ => trivial
theorem ov_mul : OpV X (binaryOp .Mult) dMul := opv_I op_mul fun i j h => of_decide_eq_true (p := (-(2 ^ 64) < i ∧ i < 2 ^ 64) ∨ (-(2 ^ 64) < j ∧ j < 2 ^ 64)) h
theorem ov_div : OpV X (binaryOp .FloorDiv) dDiv := opv_I op_fdiv fun i j h => of_decide_eq_true (p := 0 < j ∧ j < 1073741824) h
theorem ov_mod : OpV X (binaryOp .Mod) dMod := opv_I op_mod fun _ _ h => of_decide_eq_true h
/-! t + u, xs + ys, s + t -/
def dCatT : PyData → PyData → Option W
  | .tuple xs, .tuple ys => if xs.length + ys.length ≤ big then some (.d (.tuple (xs ++ ys))) else none
  | _, _ => none
theorem ov_catT : OpV X (binaryOp .Add) dCatT := ⟨_, op_catF, fun A T x y dx dy w H Q tr rx ry e q => by
  cases dx with
  | tuple xs =>
    cases dy with
    | tuple ys =>
      simp only [dCatT] at e
      split at e
      · rename_i hz
        cases e
        obtain ⟨a, vs, rfl, h1, h2, h3⟩ := rx.tup
        obtain ⟨b, us, rfl, k1, k2, k3⟩ := ry.tup
        refine ⟨a, b, vs, us, rfl, rfl, h1, k1, by rw [h2.length, k2.length, big_eq]; exact hz, fun z => ?_, fun z => ?_, fun p o ho hp => q _ _ (Grow.upd hp) (new_tup hp tr ho (h2.append k2))⟩
        · subst z
          cases h2
          exact q _ _ Grow.refl k3
        · subst z
          cases k2
          rw [List.append_nil] at q
          exact q _ _ Grow.refl h3
      · cases e
    | _ => cases e
  | _ => cases e⟩
def rCatR (K : PySem.W.Frag) : R2 := fun x y H Q => ∃ l b xs zs, x = .ref l ∧ y = .ref b ∧ SqL K H l xs ∧ SqL K H b zs ∧ xs.length + zs.length ≤ sizeLine ∧ ∀ p, H p = none → Q (.ref p) (upd H p (.lst (xs ++ zs)))
theorem op_catR : OpR X (binaryOp .Add) (rCatR X.K) := by
  rintro pins s σ H x y v u Q I rx ry ⟨l, b, xs, zs, rfl, rfl, hH, hB, hz, q⟩
  have hv : v = .ref l := rx
  have hu : u = .ref b := ry
  subst hv hu
  obtain ⟨its, r, ⟨⟨cls, dd, data, sl⟩, n, e, hc, hdd, hd⟩, z⟩ := I.list hH
  obtain ⟨its2, r2, ⟨⟨cls2, dd2, data2, sl2⟩, n2, e2, hc2, hdd2, hd2⟩, z2⟩ := I.list hB
  simp only at hc hd hc2 hd2
  subst hc hd hc2 hd2
  have l1 := r.length
  have l2 := r2.length
  refine concat_meets ⟨_, e, rfl⟩ ⟨_, e2, rfl⟩ noFill_list_add seq_list_add PySem.F.slot_list_add PySem.F.entry_list_add (PySem.F.args_list_add_2 _ _) (list_addW l b its.toArray its2.toArray n n2 dd dd2 sl sl2 (by rw [List.size_toArray, List.size_toArray]; omega)) ⟨e, e2, ?_⟩
  rw [show its.toArray ++ its2.toArray = (its ++ its2).toArray by simp]
  exact ⟨.ref _, _, I.lnew (t' := s.toks) (r.append r2) (by rw [List.length_append]; omega), rfl, q _ I.fresh⟩
def dCatL : PyData → PyData → Option W
  | .list xs, .list ys => if xs.length + ys.length ≤ big then some (.ol (xs ++ ys)) else none
  | _, _ => none
theorem ov_catL : OpV X (binaryOp .Add) dCatL := ⟨_, op_catR, fun A T x y dx dy w H Q tr rx ry e q => by
  cases dx with
  | list xs =>
    cases dy with
    | list ys =>
      simp only [dCatL] at e
      split at e
      · rename_i hz
        cases e
        obtain ⟨a, vs, rfl, h1, h2⟩ := rx.lst
        obtain ⟨b, us, rfl, k1, k2⟩ := ry.lst
        exact ⟨a, b, vs, us, rfl, rfl, h1, k1, by rw [h2.length, k2.length, big_eq]; exact hz, fun p hp => q _ _ (Grow.upd hp) (new_lst hp (h2.append k2))⟩
      · cases e
    | _ => cases e
  | _ => cases e⟩
def dCatS : PyData → PyData → Option W
  | .str xs, .str ys => if xs.length + ys.length ≤ big then some (.d (.str (xs ++ ys))) else none
  | _, _ => none
theorem ov_catS : OpV X (binaryOp .Add) dCatS := ⟨_, op_add_str, fun A T x y dx dy w H Q tr rx ry e q => by
  cases dx with
  | str xs =>
    cases dy with
    | str ys =>
      simp only [dCatS] at e
      split at e
      · rename_i hz
        cases e
        exact ⟨xs, ys, rx.str, ry.str, by rw [big_eq]; exact hz, q _ _ Grow.refl (.str _)⟩
      · cases e
    | _ => cases e
  | _ => cases e⟩
/-- + of ints, tuples, lists -/
def dAdd : PyData → PyData → Option W := fun x y => match x, y with
  | .int i, .int j => some (.d (.int (i + j)))
  | .tuple xs, .tuple ys => if xs.length + ys.length ≤ big then some (.d (.tuple (xs ++ ys))) else none
  | .list xs, .list ys => if xs.length + ys.length ≤ big then some (.ol (xs ++ ys)) else none
  | .str xs, .str ys => if xs.length + ys.length ≤ big then some (.d (.str (xs ++ ys))) else none
  | _, _ => none
theorem OpV.cast {f : Value → Value → Sem Value} {g g' : PyData → PyData → Option W} (h : OpV X f g) (e : ∀ x y, g' x y = g x y) : OpV X f g' := by
  have : g' = g := funext fun x => funext fun y => e x y
  rw [this]; exact h
theorem ov_add : OpV X (binaryOp .Add) dAdd := (((ov_addI.or ov_catT).or ov_catL).or ov_catS).cast fun x y => by
  cases x <;> cases y <;> simp [dAdd, dI, yesC, dCatT, dCatL, dCatS]
/-! == and != -/
def shp (x : PyData) : Bool := SeqAt.shaped x
def dEq (x y : PyData) : Option W := if shp x && shp y then some (.d (.bool (PyData.eqv x y))) else none
def dNe (x y : PyData) : Option W := if shp x && shp y then some (.d (.bool (!PyData.eqv x y))) else none
theorem DvB.dp {A : Addr → Prop} {T : Option Addr} {K : PySem.W.Frag} {H : Hp} {v : V} {x : PyData} (h : DvB A T K H v x) (hs : shp x = true) : Dp K H v x := by
  rcases h with h | ⟨a, vs, ds, rfl, rfl, _, h4, h5⟩ | ⟨a, kvs, _, rfl, _⟩
  · exact h.dp
  · exact .lst (SqL.of h4) h5.dp
  · exact absurd hs (by simp [shp, SeqAt.shaped, PyData.canLay0])
theorem ov_eq (hu : X.A.units + 64 < cLine) : OpV X (compareOp .Eq) dEq := ⟨_, op_eqD hu, fun A T x y dx dy w H Q tr rx ry e q => by
  unfold dEq at e
  split at e
  · rename_i hs
    rw [Bool.and_eq_true] at hs
    cases e
    exact ⟨dx, dy, rx.dp hs.1, ry.dp hs.2, hs.1, hs.2, q _ _ Grow.refl (.bl _)⟩
  · cases e⟩
theorem ov_ne (hu : X.A.units + 64 < cLine) : OpV X (compareOp .NotEq) dNe := ⟨_, op_neD hu, fun A T x y dx dy w H Q tr rx ry e q => by
  unfold dNe at e
  split at e
  · rename_i hs
    rw [Bool.and_eq_true] at hs
    cases e
    exact ⟨dx, dy, rx.dp hs.1, ry.dp hs.2, hs.1, hs.2, q _ _ Grow.refl (.bl _)⟩
  · cases e⟩
/-! is None -/
def isNo : PyData → Bool
  | .none => true
  | _ => false
def dIsN : PyData → PyData → Option W
  | x, .none => some (.d (.bool (isNo x)))
  | _, _ => none
def dNotN : PyData → PyData → Option W
  | x, .none => some (.d (.bool (!isNo x)))
  | _, _ => none
theorem DvB.isN {A : Addr → Prop} {T : Option Addr} {K : PySem.W.Frag} {H : Hp} {v : V} {x : PyData} (h : DvB A T K H v x) : decide (v = .non) = isNo x := by
  cases x with
  | none => rw [h.non]; rfl
  | bool b => rw [h.bl]; rfl
  | int b => rw [h.int]; rfl
  | str b => rw [h.str]; rfl
  | list b => obtain ⟨a, vs, rfl, _⟩ := h.lst; rfl
  | tuple b => obtain ⟨a, vs, rfl, _⟩ := h.tup; rfl
  | dict b => obtain ⟨a, rfl, _⟩ := h.dct; rfl
theorem ov_isN : OpV X (compareOp .Is) dIsN := ⟨_, op_isN, fun A T x y dx dy w H Q tr rx ry e q => by
  cases dy with
  | none =>
    cases e
    exact ⟨ry.non, by rw [rx.isN]; exact q _ _ Grow.refl (.bl _)⟩
  | _ => cases e⟩
theorem ov_notN : OpV X (compareOp .IsNot) dNotN := ⟨_, op_notN, fun A T x y dx dy w H Q tr rx ry e q => by
  cases dy with
  | none =>
    cases e
    exact ⟨ry.non, by rw [rx.isN]; exact q _ _ Grow.refl (.bl _)⟩
  | _ => cases e⟩
/-! order -/
def intsOf : List PyData → Option (List Int)
  | [] => some []
  | .int i :: xs => (intsOf xs).map (i :: ·)
  | _ :: _ => none
theorem intsOf_ok : ∀ {xs : List PyData} {ns : List Int}, intsOf xs = some ns → xs = ns.map .int
  | [], _, h => by cases h; rfl
  | x :: xs, ns, h => by
    cases x with
    | int i =>
      obtain ⟨ms, h1, h2⟩ := Option.map_eq_some_iff.mp (show (intsOf xs).map (i :: ·) = some ns from h)
      subst h2
      rw [intsOf_ok h1]
      rfl
    | _ => cases h
@[simp] theorem intsOf_map : ∀ (ns : List Int), intsOf (ns.map .int) = some ns
  | [] => rfl
  | n :: ns => by show (intsOf (ns.map .int)).map (n :: ·) = _; rw [intsOf_map ns]; rfl
theorem DvAll.ints {A : Addr → Prop} {K : PySem.W.Frag} {H : Hp} : ∀ {ns : List Int} {vs : List V}, DvAll A K H vs (ns.map .int) → vs = ns.map V.int
  | [], _, h => by cases h; rfl
  | n :: ns, _, h => by
    cases h with
    | cons h1 h2 => cases h1; rw [DvAll.ints h2]; rfl
def lexB (r : Int → Int → Bool) (z : Nat → Nat → Bool) : List Int → List Int → Bool
  | x :: xs, y :: ys => if x = y then lexB r z xs ys else r x y
  | xs, ys => z xs.length ys.length
theorem lexB_cons {r : Int → Int → Bool} {z : Nat → Nat → Bool} {x y : Int} {xs ys : List Int} : lexB r z (x :: xs) (y :: ys) = if x = y then lexB r z xs ys else r x y := rfl
theorem lexB_at {r : Int → Int → Bool} {z : Nat → Nat → Bool} (hz : ∀ i j, z (i + 1) (j + 1) = z i j) (ns ms : List Int) : ∀ (k i : Nat), i + k = min ns.length ms.length →
    Ob.lexAt (fun j => decide (ns.getD j 0 = ms.getD j 0)) (fun j => r (ns.getD j 0) (ms.getD j 0)) (z ns.length ms.length) i k = lexB r z (ns.drop i) (ms.drop i) := by
  have hzz : ∀ i n m, i ≤ n → i ≤ m → z (n - i) (m - i) = z n m := by
    intro i
    induction i with
    | zero => intro n m _ _; rfl
    | succ i ih =>
      intro n m h1 h2
      obtain ⟨n, rfl⟩ : ∃ n', n = n' + 1 := ⟨n - 1, by omega⟩
      obtain ⟨m, rfl⟩ : ∃ m', m = m' + 1 := ⟨m - 1, by omega⟩
      rw [Nat.add_sub_add_right, Nat.add_sub_add_right, ih n m (by omega) (by omega), hz]
  intro k
  induction k with
  | zero =>
    intro i h
    rw [Ob.lexAt_zero]
    have : lexB r z (ns.drop i) (ms.drop i) = z (ns.drop i).length (ms.drop i).length := by
      rcases Nat.le_total ns.length ms.length with g | g
      · rw [List.drop_eq_nil_of_le (show ns.length ≤ i by omega)]; unfold lexB; rfl
      · rw [List.drop_eq_nil_of_le (show ms.length ≤ i by omega)]
        cases ns.drop i <;> (unfold lexB; rfl)
    rw [this, List.length_drop, List.length_drop]
    exact (hzz i _ _ (by omega) (by omega)).symm
  | succ k ih =>
    intro i h
    rw [Ob.lexAt_succ, ih (i + 1) (by omega)]
    have h1 : i < ns.length := by omega
    have h2 : i < ms.length := by omega
    rw [List.drop_eq_getElem_cons h1, List.drop_eq_getElem_cons h2]
    have g1 : ns.getD i 0 = ns[i] := by simp [h1]
    have g2 : ms.getD i 0 = ms[i] := by simp [h2]
    rw [g1, g2, lexB_cons]
    by_cases he : ns[i] = ms[i]
    · simp [he]
    · simp [he]
def dCmpT (r : Int → Int → Bool) (z : Nat → Nat → Bool) : PyData → PyData → Option W
  | .tuple xs, .tuple ys => (intsOf xs).bind fun ns => (intsOf ys).map fun ms => .d (.bool (lexB r z ns ms))
  | _, _ => none
theorem cmpT {op : CmpOp} {r : Int → Int → Bool} {z : Nat → Nat → Bool} (hz : ∀ i j, z (i + 1) (j + 1) = z i j) (hc : ∀ a b, compareOp op a b = richCompare op a b)
    (hi : ∀ (A : Around) (s : Shared) (i j : Int) (t u : Tok), Ob.RcOp op A s (.int i t) (.int j u) (r i j))
    (ht : ∀ {A : Around} {s : Shared} {l b : Addr} {items items2 : Array Value} {e r : Nat → Bool}, s.heap.IsTuple l items → s.heap.IsTuple b items2 → A.units < cLine →
      (∀ j (h1 : j < items.size) (h2 : j < items2.size), SeqAt.EqAt A.in1 s items[j] items2[j] (e j)) → (∀ j (h1 : j < items.size) (h2 : j < items2.size), e j = false → Ob.RcOp op A.in1 s items[j] items2[j] (r j)) →
      Ob.RcOp op A s (.ref l) (.ref b) (Ob.lexAt e r (z items.size items2.size) 0 (min items.size items2.size)))
    (hu : X.A.units < cLine) : OpV X (compareOp op) (dCmpT r z) := by
  refine ⟨fun x y H Q => ∃ (a b : Addr) (ns ms : List Int), x = .ref a ∧ y = .ref b ∧ SqT X.K H a (ns.map V.int) ∧ SqT X.K H b (ms.map V.int) ∧ Q (.bl (lexB r z ns ms)) H, ?_, ?_⟩
  · rintro pins s σ H x y v u Q I rx ry ⟨a, b, ns, ms, rfl, rfl, ha, hb, q⟩
    have hv : v = .ref a := rx
    have hw : u = .ref b := ry
    subst hv hw
    obtain ⟨its, r1, p1, _⟩ := I.tuple ha
    obtain ⟨its2, r2, p2, _⟩ := I.tuple hb
    have i1 : IntsAre its ns := Vals.ints r1
    have i2 : IntsAre its2 ms := Vals.ints r2
    have e1 : its.toArray.size = ns.length := by rw [List.size_toArray]; exact i1.length
    have e2 : its2.toArray.size = ms.length := by rw [List.size_toArray]; exact i2.length
    have at1 : ∀ j (h1 : j < its.toArray.size), ∃ t, its.toArray[j] = .int (ns.getD j 0) t := fun j h1 => IntsAre.int_at i1 _ _ (by simp at h1; simp [h1])
    have at2 : ∀ j (h1 : j < its2.toArray.size), ∃ t, its2.toArray[j] = .int (ms.getD j 0) t := fun j h1 => IntsAre.int_at i2 _ _ (by simp at h1; simp [h1])
    have R := ht (A := X.A) (s := s) (e := fun j => decide (ns.getD j 0 = ms.getD j 0)) (r := fun j => r (ns.getD j 0) (ms.getD j 0)) p1 p2 hu (fun j h1 h2 => by
      obtain ⟨t, et⟩ := at1 j h1
      obtain ⟨t', et'⟩ := at2 j h2
      have hb : decide (ns.getD j 0 = ms.getD j 0) = (ns.getD j 0 == ms.getD j 0) := by
        by_cases g : ns.getD j 0 = ms.getD j 0
        · rw [decide_eq_true g, g]; simp
        · rw [decide_eq_false g]; exact (beq_eq_false_iff_ne.mpr g).symm
      rw [et, et']
      show SeqAt.EqAt _ _ _ _ (decide (ns.getD j 0 = ms.getD j 0))
      rw [hb]
      exact SeqAt.EqAt.int_int _ _ _ _) (fun j h1 h2 _ => by
      obtain ⟨t, et⟩ := at1 j h1
      obtain ⟨t', et'⟩ := at2 j h2
      rw [et, et']
      exact hi _ _ _ _ _ _)
    rw [e1, e2, lexB_at hz ns ms _ 0 (by omega), List.drop_zero, List.drop_zero] at R
    rw [hc]
    exact R _ _ _ _ ⟨.bl _, H, I, rfl, q⟩
  · intro A T x y dx dy w H Q tr rx ry e q
    cases dx with
    | tuple xs =>
      cases dy with
      | tuple ys =>
        simp only [dCmpT] at e
        obtain ⟨ns, h1, e⟩ := Option.bind_eq_some_iff.mp e
        obtain ⟨ms, h2, e⟩ := Option.map_eq_some_iff.mp e
        subst e
        obtain ⟨a, vs, rfl, k1, k2, _⟩ := rx.tup
        obtain ⟨b, us, rfl, j1, j2, _⟩ := ry.tup
        rw [intsOf_ok h1] at k2
        rw [intsOf_ok h2] at j2
        rw [k2.ints] at k1
        rw [j2.ints] at j1
        exact ⟨a, b, ns, ms, rfl, rfl, k1, j1, q _ _ Grow.refl (.bl _)⟩
      | _ => cases e
    | _ => cases e
def rLt (i j : Int) : Bool := decide (i < j)
def rLe (i j : Int) : Bool := decide (i ≤ j)
def rGt (i j : Int) : Bool := decide (j < i)
def rGe (i j : Int) : Bool := decide (j ≤ i)
def zLt (i j : Nat) : Bool := decide (i < j)
def zLe (i j : Nat) : Bool := decide (i ≤ j)
def zGt (i j : Nat) : Bool := decide (j < i)
def zGe (i j : Nat) : Bool := decide (j ≤ i)
/-- <, <=, >, >= of ints, of tuples of ints -/
def dCmp (r : Int → Int → Bool) (z : Nat → Nat → Bool) : PyData → PyData → Option W
  | .int i, .int j => some (.d (.bool (r i j)))
  | .tuple xs, .tuple ys => (intsOf xs).bind fun ns => (intsOf ys).map fun ms => .d (.bool (lexB r z ns ms))
  | _, _ => none
def dCmpI (r : Int → Int → Bool) : PyData → PyData → Option W
  | .int i, .int j => some (.d (.bool (r i j)))
  | _, _ => none
theorem opv_B {f : Value → Value → Sem Value} {r : Int → Int → Bool} (h : OpR X f (rI0 fun i j => .bl (r i j))) : OpV X f (dCmpI r) := ⟨_, h, fun A T x y dx dy w H Q tr rx ry e q => by
  cases dx with
  | int i =>
    cases dy with
    | int j =>
      cases e
      exact ⟨i, j, rx.int, ry.int, q _ _ Grow.refl (.bl _)⟩
    | _ => cases e
  | _ => cases e⟩
theorem dCmp_eq {r : Int → Int → Bool} {z : Nat → Nat → Bool} (x y : PyData) : dCmp r z x y = (dCmpI r x y).or (dCmpT r z x y) := by
  cases x <;> cases y <;> simp [dCmp, dCmpI, dCmpT]
theorem ov_lt (hu : X.A.units < cLine) : OpV X (compareOp .Lt) (dCmp rLt zLt) := ((opv_B (r := rLt) op_lt).or (cmpT (fun i j => by simp [zLt]) (fun _ _ => rfl) (fun _ _ _ _ _ _ => Ob.RcOp.lt_int _ _ _ _) (fun h1 h2 h3 h4 h5 => Ob.RcOp.tuples_lt h1 h2 h3 h4 h5) hu)).cast dCmp_eq
theorem ov_le (hu : X.A.units < cLine) : OpV X (compareOp .LtE) (dCmp rLe zLe) := ((opv_B (r := rLe) op_le).or (cmpT (fun i j => by simp [zLe]) (fun _ _ => rfl) (fun _ _ _ _ _ _ => Ob.RcOp.le_int _ _ _ _) (fun h1 h2 h3 h4 h5 => Ob.RcOp.tuples_le h1 h2 h3 h4 h5) hu)).cast dCmp_eq
theorem ov_gt (hu : X.A.units < cLine) : OpV X (compareOp .Gt) (dCmp rGt zGt) := ((opv_B (r := rGt) op_gt).or (cmpT (fun i j => by simp [zGt]) (fun _ _ => rfl) (fun _ _ _ _ _ _ => Ob.RcOp.gt_int _ _ _ _) (fun h1 h2 h3 h4 h5 => Ob.RcOp.tuples_gt h1 h2 h3 h4 h5) hu)).cast dCmp_eq
theorem ov_ge (hu : X.A.units < cLine) : OpV X (compareOp .GtE) (dCmp rGe zGe) := ((opv_B (r := rGe) op_ge).or (cmpT (fun i j => by simp [zGe]) (fun _ _ => rfl) (fun _ _ _ _ _ _ => Ob.RcOp.ge_int _ _ _ _) (fun h1 h2 h3 h4 h5 => Ob.RcOp.tuples_ge h1 h2 h3 h4 h5) hu)).cast dCmp_eq
end
end L2.Lv
namespace L2.Lv
open PySem PySem.Spec PyProof.Rows
section
variable {X : Cx} {e a b c : Expr} {es rest : List Expr} {f fa fb : Fe} {d da db dc : Fd} {fs : Fa} {ds : Fds} {pos : Pos}
/-! in, not in -/
def seqOf : PyData → Option (List PyData)
  | .list xs => some xs
  | .tuple xs => some xs
  | _ => none
def memD (x : PyData) (xs : List PyData) : Bool := xs.any fun y => PyData.eqv y x
def dIn (x y : PyData) : Option W := (seqOf y).bind fun xs => if shp x && shp y then some (.d (.bool (memD x xs))) else none
def dNotIn (x y : PyData) : Option W := (seqOf y).bind fun xs => if shp x && shp y then some (.d (.bool (!memD x xs))) else none
theorem room_shp {A : Around} {xs : List PyData} {d : PyData} (hd : SeqAt.shaped d = true) (hu : A.units + 65 < cLine) : A.units + 1 + min (PyData.depthAll xs) d.depth < cLine := by
  have h1 := SeqAt.depth_of_shaped hd
  have h2 : min (PyData.depthAll xs) d.depth ≤ d.depth := Nat.min_le_right _ _
  omega
theorem ov_inG {op : CmpOp} {neg : Bool} (hu : X.A.units + 65 < cLine)
    (rl : ∀ {s : Shared} {c x : Value} {xs : List PyData} {d : PyData} {as bs : List Addr} {Q : Value → Shared → Prop} {E : Value → Shared → Prop}, Reads s.heap c (.list xs) as → Reads s.heap x d bs → PyData.canLayAll0 xs = true → d.canLay0 = true →
      X.A.units + 1 + min (PyData.depthAll xs) d.depth < cLine → Q (.bool (xor neg (memD d xs))) s → wpAny (model X.prog X.w) X.A (compareOp op x c) Q E s)
    (rt : ∀ {s : Shared} {c x : Value} {xs : List PyData} {d : PyData} {as bs : List Addr} {Q : Value → Shared → Prop} {E : Value → Shared → Prop}, Reads s.heap c (.tuple xs) as → Reads s.heap x d bs → PyData.canLayAll0 xs = true → d.canLay0 = true →
      X.A.units + 1 + min (PyData.depthAll xs) d.depth < cLine → Q (.bool (xor neg (memD d xs))) s → wpAny (model X.prog X.w) X.A (compareOp op x c) Q E s) :
    OpV X (compareOp op) (fun x y => (seqOf y).bind fun xs => if shp x && shp y then some (.d (.bool (xor neg (memD x xs)))) else none) := by
  refine ⟨fun x y H Q => ∃ d y', Dp X.K H x d ∧ Dp X.K H y y' ∧ shp d = true ∧ shp y' = true ∧ ∃ xs, seqOf y' = some xs ∧ Q (.bl (xor neg (memD d xs))) H, ?_, ?_⟩
  · rintro pins s σ H x y v u Q I rx ry ⟨d, y', hd, hy, sd, sy, xs, hs, q⟩
    obtain ⟨as, r1⟩ := Dp.reads I d x v hd rx
    obtain ⟨bs, r2⟩ := Dp.reads I y' y u hy ry
    cases y' with
    | list ys => cases hs; exact rl r2 r1 (SeqAt.canLay_of_shaped sy) (SeqAt.canLay_of_shaped sd) (room_shp sd hu) ⟨.bl _, H, I, rfl, q⟩
    | tuple ys => cases hs; exact rt r2 r1 (SeqAt.canLay_of_shaped sy) (SeqAt.canLay_of_shaped sd) (room_shp sd hu) ⟨.bl _, H, I, rfl, q⟩
    | _ => cases hs
  · intro A T x y dx dy w H Q tr rx ry e q
    obtain ⟨xs, h1, e⟩ := Option.bind_eq_some_iff.mp e
    split at e
    · rename_i hs
      rw [Bool.and_eq_true] at hs
      cases e
      exact ⟨dx, dy, rx.dp hs.1, ry.dp hs.2, hs.1, hs.2, xs, h1, q _ _ Grow.refl (.bl _)⟩
    · cases e
theorem ov_in (hu : X.A.units + 65 < cLine) : OpV X (compareOp .In) dIn := (ov_inG (neg := false) hu (fun h1 h2 h3 h4 h5 h6 => SeqAt.in_list_reads h1 h2 h3 h4 h5 (by simpa [memD] using h6)) (fun h1 h2 h3 h4 h5 h6 => SeqAt.in_tuple_reads h1 h2 h3 h4 h5 (by simpa [memD] using h6))).cast fun x y => by simp [dIn]
theorem ov_notIn (hu : X.A.units + 65 < cLine) : OpV X (compareOp .NotIn) dNotIn := (ov_inG (neg := true) hu (fun h1 h2 h3 h4 h5 h6 => SeqAt.notIn_list_reads h1 h2 h3 h4 h5 (by simpa [memD] using h6)) (fun h1 h2 h3 h4 h5 h6 => SeqAt.notIn_tuple_reads h1 h2 h3 h4 h5 (by simpa [memD] using h6))).cast fun x y => by simp [dNotIn]
/-! -x -/
def dNeg : PyData → Option W
  | .int i => some (.d (.int (-i)))
  | _ => none
def eUn (g : PyData → Option W) (d : Fd) : Fe := fun ρ n => (d ρ n).bind fun p => (g p.1).map (·, p.2)
theorem ev_neg (ha : EvB X a d) : EvE X (.UnaryOp .USub a pos) (eUn dNeg d) := peI (pe_un un_neg ha) (by
  rintro σ H Q ⟨C, O, ρ, n, w, n', hf, E, q⟩
  unfold eUn at hf
  obtain ⟨⟨x, n1⟩, e1, hf⟩ := Option.bind_eq_some_iff.mp hf
  obtain ⟨z, e2, hf⟩ := Option.map_eq_some_iff.mp hf
  cases hf
  refine ⟨C, O, ρ, n, x, _, e1, E, fun v H1 s t r => ?_⟩
  cases x with
  | int i =>
    cases e2
    exact ⟨i, r.int, q _ H1 s t (.int _)⟩
  | _ => cases e2)
/-- not x as a value -/
def eNotD (d : Fd) : Fe := fun ρ n => (d ρ n).bind fun p => (dTru p.1).map fun c => (.d (.bool (!c)), p.2)
theorem ev_notD (ha : EvB X a d) : EvE X (.UnaryOp .Not a pos) (eNotD d) := peI (pe_notT ha) (by
  rintro σ H Q ⟨C, O, ρ, n, w, n', hf, E, q⟩
  unfold eNotD at hf
  obtain ⟨⟨x, n1⟩, e1, hf⟩ := Option.bind_eq_some_iff.mp hf
  obtain ⟨z, e2, hf⟩ := Option.map_eq_some_iff.mp hf
  cases hf
  exact ⟨C, O, ρ, n, x, _, e1, E, fun v H1 s t r => ⟨z, dTru_ok r e2, q _ H1 s t (.bl _)⟩⟩)
/-- x or y by truth -/
def eOrD (fa fb : Fe) : Fe := fun ρ n => (fa ρ n).bind fun p => p.1.val.bind fun x => (dTru x).bind fun c => if c then some (.d x, p.2) else fb ρ p.2
theorem ev_orD (ha : EvE X a fa) (hb : EvE X (.BoolOp .Or (b :: rest) pos) fb) : EvE X (.BoolOp .Or (a :: b :: rest) pos) (eOrD fa fb) := peI (pe_orT ha hb) (by
  rintro σ H Q ⟨C, O, ρ, n, w, n', hf, E, q⟩
  unfold eOrD at hf
  obtain ⟨⟨x, n1⟩, e1, hf⟩ := Option.bind_eq_some_iff.mp hf
  obtain ⟨y, e2, hf⟩ := Option.bind_eq_some_iff.mp hf
  obtain ⟨c, e3, hf⟩ := Option.bind_eq_some_iff.mp hf
  refine ⟨C, O, ρ, n, x, n1, e1, E, fun v H1 s t r => ?_⟩
  have r' := r.val e2
  refine ⟨c, dTru_ok (T := none) (.inl r') e3, ?_⟩
  cases c with
  | true =>
    rw [if_pos rfl]
    simp at hf
    obtain ⟨rfl, rfl⟩ := hf
    exact q _ H1 s t r'
  | false =>
    rw [if_neg (by simp)]
    exact ⟨C, O, ρ, n1, w, n', by simpa using hf, E.step s t, fun v H2 s2 t2 r2 => q v H2 (s.trans s2) t2 (r2.step0 s)⟩)
/-! a op b op' c -/
def eChain (g g' : PyData → PyData → Option W) (da db dc : Fd) : Fe := fun ρ n => (da ρ n).bind fun p => (db ρ p.2).bind fun q => (g p.1 q.1).bind fun w => match w with
  | .d (.bool true) => (dc ρ q.2).bind fun r => (g' q.1 r.1).map (·, r.2)
  | .d (.bool false) => some (.d (.bool false), q.2)
  | _ => none
theorem chain_run {fo fo' : Value → Value → Sem Value} {g g' : PyData → PyData → Option W} {r r' : R2} {σ : St} {H : Hp} {Q : VK}
    (h2 : ∀ (A : Addr → Prop) (T : Option Addr) (x y : V) (dx dy : PyData) (w : W) (H : Hp) (Q : VK), (∀ a, A a → H a ≠ none) → DvB A T X.K H x dx → DvB A T X.K H y dy → g dx dy = some w → (∀ v H', Grow H H' → Res A none X.K H H' v w → Q v H') → r x y H Q)
    (h2' : ∀ (A : Addr → Prop) (T : Option Addr) (x y : V) (dx dy : PyData) (w : W) (H : Hp) (Q : VK), (∀ a, A a → H a ≠ none) → DvB A T X.K H x dx → DvB A T X.K H y dy → g' dx dy = some w → (∀ v H', Grow H H' → Res A none X.K H H' v w → Q v H') → r' x y H Q)
    (h : tV X.K (eChain g g' da db dc) σ H Q) : tChain r r' (tVB X.K da) (tVB X.K db) (tVB X.K dc) σ H Q := by
  obtain ⟨C, O, ρ, n, w, n', hf, E, q⟩ := h
  unfold eChain at hf
  obtain ⟨⟨x, n1⟩, e1, hf⟩ := Option.bind_eq_some_iff.mp hf
  obtain ⟨⟨y, n2⟩, e2, hf⟩ := Option.bind_eq_some_iff.mp hf
  obtain ⟨z, e3, hf⟩ := Option.bind_eq_some_iff.mp hf
  refine ⟨C, O, ρ, n, x, n1, e1, E, fun vx H1 s1 t1 r1 => ?_⟩
  have E1 := E.step s1 t1
  refine ⟨C, O, ρ, n1, y, n2, e2, E1, fun vy H2 s2 t2 r2 => ?_⟩
  have E2 := E1.step s2 t2
  refine h2 (Av C O) C.T vx vy x y z H2 _ E2.av (r1.step s2 Av.t) r2 e3 fun v H3 g3 r3 => ?_
  have r3 := r3.none_any (T := C.T)
  have E3 := E2.step g3.step (g3.town t2)
  have S3 : Step C H H3 := (s1.trans s2).trans g3.step
  cases z with
  | d zd =>
    cases zd with
    | bool cc =>
      have r3 : Dv (Av C O) X.K H3 v (.bool cc) := r3
      cases r3
      refine ⟨cc, rfl, ?_⟩
      cases cc with
      | true =>
        rw [if_pos rfl]
        obtain ⟨⟨u, n3⟩, e4, hf⟩ := Option.bind_eq_some_iff.mp hf
        obtain ⟨z', e5, hf⟩ := Option.map_eq_some_iff.mp hf
        cases hf
        refine ⟨C, O, ρ, n2, u, _, e4, E3, fun vu H4 s4 t4 r4 => ?_⟩
        refine h2' (Av C O) C.T vy vu y u _ H4 Q (E3.step s4 t4).av ((r2.step g3.step Av.t).step s4 Av.t) r4 e5 fun v H5 g5 r5 => ?_
        exact q v H5 ((S3.trans s4).trans g5.step) (g5.town t4) (r5.none_any.back fun a ha => (S3.trans s4).fr a ha)
      | false =>
        rw [if_neg (by simp)]
        cases hf
        exact q _ H3 S3 (g3.town t2) (.bl _)
    | _ => cases hf
  | _ => cases hf
theorem ev_chain {op op' : CmpOp} {g g' : PyData → PyData → Option W} (ho : OpV X (compareOp op) g) (ho' : OpV X (compareOp op') g') (ha : EvB X a da) (hb : EvB X b db) (hc : EvB X c dc)
    (hm : lastMarks [op, op'] [b, c] = false := by with_unfolding_all rfl) : EvE X (.Compare a [op, op'] [b, c] pos) (eChain g g' da db dc) := by
  obtain ⟨r, h1, h2⟩ := ho
  obtain ⟨r', h1', h2'⟩ := ho'
  exact peI (pe_chain h1 h1' ha hb hc hm) fun σ H Q h => chain_run (fo := compareOp op) (fo' := compareOp op') h2 h2' h
theorem et_chain {op op' : CmpOp} {g g' : PyData → PyData → Option W} (ho : OpV X (compareOp op) g) (ho' : OpV X (compareOp op') g') (ha : EvB X a da) (hb : EvB X b db) (hc : EvB X c dc)
    (hm : lastMarks [op, op'] [b, c] = false := by with_unfolding_all rfl) : EvT X (.Compare a [op, op'] [b, c] pos) (bTest (eChain g g' da db dc)) := by
  obtain ⟨r, h1, h2⟩ := ho
  obtain ⟨r', h1', h2'⟩ := ho'
  exact ptI (pt_chain h1 h1' ha hb hc hm) fun σ H Q h => chain_run (fo := compareOp op) (fo' := compareOp op') h2 h2' (tV_bool h)
/-! built-ins -/
theorem DvBs.one {A : Addr → Prop} {T : Option Addr} {K : PySem.W.Frag} {H : Hp} {vs : List V} {x : PyData} (h : DvBs A T K H vs [x]) : ∃ v, vs = [v] ∧ DvB A T K H v x := by
  cases h with
  | cons h t => cases t; exact ⟨_, rfl, h⟩
theorem DvBs.two {A : Addr → Prop} {T : Option Addr} {K : PySem.W.Frag} {H : Hp} {vs : List V} {x y : PyData} (h : DvBs A T K H vs [x, y]) : ∃ v u, vs = [v, u] ∧ DvB A T K H v x ∧ DvB A T K H u y := by
  cases h with
  | cons h t =>
    cases t with
    | cons h' t => cases t; exact ⟨_, _, rfl, h, h'⟩
def gLen : List PyData → Option W
  | [.list xs] => some (.d (.int xs.length))
  | [.tuple xs] => some (.d (.int xs.length))
  | _ => none
theorem cv_len : CallV X (.builtin "len") gLen := ⟨_, call_len_seq, fun A T vs xs w H Q tr rx e q => by
  unfold gLen at e
  split at e
  · cases e
    obtain ⟨v, rfl, r⟩ := rx.one
    obtain ⟨a, us, rfl, h1, h2⟩ := r.lst
    exact ⟨a, us, rfl, .inl h1, by rw [h2.length]; exact q _ _ Grow.refl (.int _)⟩
  · cases e
    obtain ⟨v, rfl, r⟩ := rx.one
    obtain ⟨a, us, rfl, h1, h2, _⟩ := r.tup
    exact ⟨a, us, rfl, .inr h1, by rw [h2.length]; exact q _ _ Grow.refl (.int _)⟩
  · cases e⟩
def gAbs : List PyData → Option W
  | [.int i] => some (.d (.int (if i < 0 then -i else i)))
  | _ => none
theorem cv_abs : CallV X (.builtin "abs") gAbs := ⟨_, call_abs, fun A T vs xs w H Q tr rx e q => by
  unfold gAbs at e
  split at e
  · cases e
    obtain ⟨v, rfl, r⟩ := rx.one
    exact ⟨_, by rw [r.int], q _ _ Grow.refl (.int _)⟩
  · cases e⟩
def gMax2 : List PyData → Option W
  | [.int i, .int j] => some (.d (.int (if j > i then j else i)))
  | _ => none
theorem cv_max2 (hc : X.calm = true) : CallV X (.builtin "max") gMax2 := ⟨_, call_max2 hc, fun A T vs xs w H Q tr rx e q => by
  unfold gMax2 at e
  split at e
  · cases e
    obtain ⟨v, u, rfl, r, r'⟩ := rx.two
    exact ⟨_, _, by rw [r.int, r'.int], q _ _ Grow.refl (.int _)⟩
  · cases e⟩
def gMin2 : List PyData → Option W
  | [.int i, .int j] => some (.d (.int (if j < i then j else i)))
  | _ => none
theorem cv_min2 (hc : X.calm = true) : CallV X (.builtin "min") gMin2 := ⟨_, call_min2 hc, fun A T vs xs w H Q tr rx e q => by
  unfold gMin2 at e
  split at e
  · cases e
    obtain ⟨v, u, rfl, r, r'⟩ := rx.two
    exact ⟨_, _, by rw [r.int, r'.int], q _ _ Grow.refl (.int _)⟩
  · cases e⟩
def gInt : List PyData → Option W
  | [.int i] => some (.d (.int i))
  | [.bool b] => some (.d (.int (if b then 1 else 0)))
  | _ => none
theorem cv_int : CallV X (.type "int") gInt := ⟨_, call_int1, fun A T vs xs w H Q tr rx e q => by
  unfold gInt at e
  split at e
  · cases e
    obtain ⟨v, rfl, r⟩ := rx.one
    exact .inl ⟨_, by rw [r.int], q _ _ Grow.refl (.int _)⟩
  · cases e
    obtain ⟨v, rfl, r⟩ := rx.one
    exact .inr ⟨_, by rw [r.bl], q _ _ Grow.refl (.int _)⟩
  · cases e⟩
def gTup : List PyData → Option W
  | [.list xs] => some (.d (.tuple xs))
  | [.tuple xs] => some (.d (.tuple xs))
  | _ => none
theorem cv_tup : CallV X (.type "tuple") gTup := ⟨_, call_tupF, fun A T vs xs w H Q tr rx e q => by
  unfold gTup at e
  split at e
  · cases e
    obtain ⟨v, rfl, r⟩ := rx.one
    obtain ⟨a, us, rfl, h1, h2⟩ := r.lst
    exact ⟨a, us, rfl, .inl ⟨h1, fun p o ho hp => q _ _ (Grow.upd hp) (new_tup hp tr ho h2)⟩⟩
  · cases e
    obtain ⟨v, rfl, r⟩ := rx.one
    obtain ⟨a, us, rfl, h1, h2, h3⟩ := r.tup
    exact ⟨a, us, rfl, .inr ⟨h1, q _ _ Grow.refl h3⟩⟩
  · cases e⟩
def gList : List PyData → Option W
  | [.list xs] => some (.ol xs)
  | [.tuple xs] => some (.ol xs)
  | _ => none
theorem cv_list : CallV X (.type "list") gList := ⟨_, call_list_of, fun A T vs xs w H Q tr rx e q => by
  unfold gList at e
  split at e
  · cases e
    obtain ⟨v, rfl, r⟩ := rx.one
    obtain ⟨a, us, rfl, h1, h2⟩ := r.lst
    exact ⟨a, us, rfl, .inl h1, fun p hp => q _ _ (Grow.upd hp) (new_lst hp h2)⟩
  · cases e
    obtain ⟨v, rfl, r⟩ := rx.one
    obtain ⟨a, us, rfl, h1, h2, h3⟩ := r.tup
    exact ⟨a, us, rfl, .inr h1, fun p hp => q _ _ (Grow.upd hp) (new_lst hp h2)⟩
  · cases e⟩
def boolsOf : List PyData → Option (List Bool)
  | [] => some []
  | .bool i :: xs => (boolsOf xs).map (i :: ·)
  | _ :: _ => none
theorem boolsOf_ok : ∀ {xs : List PyData} {ns : List Bool}, boolsOf xs = some ns → xs = ns.map .bool
  | [], _, h => by cases h; rfl
  | x :: xs, ns, h => by
    cases x with
    | bool i =>
      obtain ⟨ms, h1, h2⟩ := Option.map_eq_some_iff.mp (show (boolsOf xs).map (i :: ·) = some ns from h)
      subst h2
      rw [boolsOf_ok h1]
      rfl
    | _ => cases h
@[simp] theorem boolsOf_map : ∀ (ns : List Bool), boolsOf (ns.map .bool) = some ns
  | [] => rfl
  | n :: ns => by show (boolsOf (ns.map .bool)).map (n :: ·) = _; rw [boolsOf_map ns]; rfl
theorem DvAll.bools {A : Addr → Prop} {K : PySem.W.Frag} {H : Hp} : ∀ {ns : List Bool} {vs : List V}, DvAll A K H vs (ns.map .bool) → vs = ns.map V.bl
  | [], _, h => by cases h; rfl
  | n :: ns, _, h => by
    cases h with
    | cons h1 h2 => cases h1; rw [DvAll.bools h2]; rfl
def gAll : List PyData → Option W
  | [.list xs] => (boolsOf xs).map fun bs => .d (.bool (bs.all id))
  | _ => none
theorem cv_all (hc : X.calm = true) : CallV X (.builtin "all") gAll := ⟨_, cr_all hc, fun A T vs xs w H Q tr rx e q => by
  unfold gAll at e
  split at e
  · rename_i ys
    obtain ⟨bs, h, e⟩ := Option.map_eq_some_iff.mp e
    subst e
    obtain ⟨v, rfl, r⟩ := rx.one
    obtain ⟨a, us, rfl, h1, h2⟩ := r.lst
    rw [boolsOf_ok h] at h2
    rw [h2.bools] at h1
    exact ⟨a, bs, rfl, h1, q _ _ Grow.refl (.bl _)⟩
  · cases e⟩
def gAny : List PyData → Option W
  | [.list xs] => (boolsOf xs).map fun bs => .d (.bool (bs.any id))
  | _ => none
theorem cv_any (hc : X.calm = true) : CallV X (.builtin "any") gAny := ⟨_, cr_any hc, fun A T vs xs w H Q tr rx e q => by
  unfold gAny at e
  split at e
  · rename_i ys
    obtain ⟨bs, h, e⟩ := Option.map_eq_some_iff.mp e
    subst e
    obtain ⟨v, rfl, r⟩ := rx.one
    obtain ⟨a, us, rfl, h1, h2⟩ := r.lst
    rw [boolsOf_ok h] at h2
    rw [h2.bools] at h1
    exact ⟨a, bs, rfl, h1, q _ _ Grow.refl (.bl _)⟩
  · cases e⟩
def gSum : List PyData → Option W
  | [.list xs] => (intsOf xs).map fun bs => .d (.int bs.sum)
  | _ => none
theorem cv_sum (hc : X.calm = true) : CallV X (.builtin "sum") gSum := ⟨_, cr_sum hc, fun A T vs xs w H Q tr rx e q => by
  unfold gSum at e
  split at e
  · rename_i ys
    obtain ⟨bs, h, e⟩ := Option.map_eq_some_iff.mp e
    subst e
    obtain ⟨v, rfl, r⟩ := rx.one
    obtain ⟨a, us, rfl, h1, h2⟩ := r.lst
    rw [intsOf_ok h] at h2
    rw [h2.ints] at h1
    exact ⟨a, bs, rfl, h1, q _ _ Grow.refl (.int _)⟩
  · cases e⟩
/-! list(range(..)) -/
def eListRg1 (d : Fd) : Fe := fun ρ n => (d ρ n).bind fun p => match p.1 with
  | .int j => if 0 ≤ j ∧ j ≤ big then some (.ol (rangeD 0 j.toNat), p.2) else none
  | _ => none
theorem DvAll.rg {A : Addr → Prop} {K : PySem.W.Frag} {H : Hp} {a b : Int} : DvAll A K H (rgV a b) (rangeD a (b - a).toNat) := by
  unfold rgV rangeD
  generalize List.range (b - a).toNat = l
  induction l with
  | nil => exact .nil
  | cons x xs ih => exact .cons (.int _) ih
theorem ev_listRg1 {p p2 p3 : Pos} (hc : X.calm = true) (hg : Gl X "list") (hm : X.mg "list" = none) (hg2 : Gl X "range") (hm2 : X.mg "range" = none) (ha : EvB X a d) (na : starEach [a] X.env = (false, eval a X.env) :: starEach [] X.env := by rfl)
    (nb : starEach [Expr.Call (.Name "range" p2) [a] [] p3] X.env = (false, eval (.Call (.Name "range" p2) [a] [] p3) X.env) :: starEach [] X.env := by rfl) :
    EvE X (.Call (.Name "list" p) [.Call (.Name "range" p2) [a] [] p3] [] pos) (eListRg1 d) := peI (pe_listRg hc hg hm (prg_1 hg2 hm2 ha na) nb) (by
  rintro σ H Q ⟨C, O, ρ, n, w, n', hf, E, q⟩
  unfold eListRg1 at hf
  obtain ⟨⟨x, n1⟩, e1, hf⟩ := Option.bind_eq_some_iff.mp hf
  refine ⟨C, O, ρ, n, x, n1, e1, E, fun v H1 s t r => ?_⟩
  cases x with
  | int j =>
    simp only at hf
    split at hf
    · rename_i hj
      cases hf
      unfold big at hj
      refine ⟨j, r.int, ⟨by omega, by omega, by omega, by omega, by omega⟩, fun p hp => ?_⟩
      have := DvAll.rg (A := Av C O) (K := X.K) (H := H1) (a := 0) (b := j)
      rw [Int.sub_zero] at this
      exact q _ _ (s.trans (Grow.upd hp).step) ((Grow.upd hp).town t) ((new_lst hp this).back s.fr)
    · cases hf
  | _ => cases hf)
/-! isinstance -/
def tyN : PyData → String
  | .none => "NoneType"
  | .bool _ => "bool"
  | .int _ => "int"
  | .str _ => "str"
  | .list _ => "list"
  | .tuple _ => "tuple"
  | .dict _ => "dict"
/-- whether a thing is of one of the five types asked here -/
def isa (T : String) (x : PyData) : Bool := T == tyN x || (T == "int" && tyN x == "bool")
def eIsa (T : String) (d : Fd) : Fe := fun ρ n => (d ρ n).bind fun p => match p.1 with
  | .dict _ => none
  | x => some (.d (.bool (isa T x)), p.2)
def rIsa (K : PySem.W.Frag) (T : String) : List V → Hp → VK → Prop := fun xs H Q => ∃ (x : V) (t : Value), xs = [x, .ty T] ∧ TyX K H x t ∧ ∃ b, PySem.W.kitOne K t (.type T) = some b ∧ Q (.bl b) H
theorem dv_ty {A : Addr → Prop} {T : Option Addr} {K : PySem.W.Frag} {H : Hp} {v : V} {x : PyData} (h : DvB A T K H v x) (hx : ∀ kvs, x ≠ .dict kvs) : TyX K H v (.type (tyN x)) := by
  cases x with
  | none => rw [h.non]; exact .base .non
  | bool b => rw [h.bl]; exact .base (.bl b)
  | int b => rw [h.int]; exact .base (.int b)
  | str b => rw [h.str]; exact .base (.str b)
  | list b =>
    obtain ⟨a, vs, rfl, h1, _⟩ := h.lst
    rcases h1 with (h1 | ⟨o, h1⟩) | ⟨o, _, _, h1, h2, _⟩
    · exact .base (.lst h1)
    · exact .base (.frz h1)
    · exact .kList h1 h2
  | tuple b =>
    rcases h with h | ⟨a, vs, ds, _, h2, _⟩ | ⟨a, kvs, _, h2, _⟩
    · cases h with
      | tup hs ha =>
        rcases hs with ⟨_, o, h1, _⟩ | ⟨_, o, h1, h2, _⟩
        · exact .fTuple h1
        · exact .kTuple h1 h2
    · cases h2
    · cases h2
  | dict kvs => exact absurd rfl (hx kvs)
theorem ev_isa {T : String} {p : Pos} (hT : ∀ (K : PySem.W.Frag) (x : PyData), (∀ kvs, x ≠ .dict kvs) → PySem.W.kitOne K (.type (tyN x)) (.type T) = some (isa T x))
    (hg : Gl X "isinstance") (hm : X.mg "isinstance" = none) (hv : bootBuiltins "isinstance" = some (.builtin "isinstance")) (ha : EvB X a d) (hb : PE X b (tC (.ty T))) (he : starEach [a, b] X.env = (false, eval a X.env) :: starEach [b] X.env := by rfl) (he2 : starEach [b] X.env = (false, eval b X.env) :: starEach [] X.env := by rfl) (hpl : (backTo pos (starEach [b] X.env)).any (·.1) = false := by rfl) :
    EvE X (.Call (.Name "isinstance" p) [a, b] [] pos) (eIsa T d) := by
  refine peI (pe_callB call_isi hg hm hv (pa_cons ha (pa_cons hb pa_nil he2) he) (by decide) (by decide) he hpl) ?_
  rintro σ H Q ⟨C, O, ρ, n, w, n', hf, E, q⟩
  unfold eIsa at hf
  obtain ⟨⟨x, n1⟩, e1, hf⟩ := Option.bind_eq_some_iff.mp hf
  refine ⟨C, O, ρ, n, x, n1, e1, E, fun v H1 s t r => ?_⟩
  have key : (∀ kvs, x ≠ .dict kvs) → w = .d (.bool (isa T x)) → n1 = n' → rIsi X.K [v, .ty T] H1 Q := by
    rintro hx rfl rfl
    exact ⟨v, .ty T, _, _, _, rfl, .ty T, dv_ty r hx, hT X.K x hx, q _ H1 s t (.bl _)⟩
  cases x with
  | dict kvs => cases hf
  | none => cases hf; exact key (fun _ z => nomatch z) rfl rfl
  | bool _ => cases hf; exact key (fun _ z => nomatch z) rfl rfl
  | int _ => cases hf; exact key (fun _ z => nomatch z) rfl rfl
  | str _ => cases hf; exact key (fun _ z => nomatch z) rfl rfl
  | list _ => cases hf; exact key (fun _ z => nomatch z) rfl rfl
  | tuple _ => cases hf; exact key (fun _ z => nomatch z) rfl rfl
theorem isa_int (K : PySem.W.Frag) (x : PyData) (h : ∀ kvs, x ≠ .dict kvs) : PySem.W.kitOne K (.type (tyN x)) (.type "int") = some (isa "int" x) := by
  cases x with
  | dict kvs => exact absurd rfl (h kvs)
  | _ => rfl
theorem isa_bool (K : PySem.W.Frag) (x : PyData) (h : ∀ kvs, x ≠ .dict kvs) : PySem.W.kitOne K (.type (tyN x)) (.type "bool") = some (isa "bool" x) := by
  cases x with
  | dict kvs => exact absurd rfl (h kvs)
  | _ => rfl
theorem isa_str (K : PySem.W.Frag) (x : PyData) (h : ∀ kvs, x ≠ .dict kvs) : PySem.W.kitOne K (.type (tyN x)) (.type "str") = some (isa "str" x) := by
  cases x with
  | dict kvs => exact absurd rfl (h kvs)
  | _ => rfl
theorem isa_tuple (K : PySem.W.Frag) (x : PyData) (h : ∀ kvs, x ≠ .dict kvs) : PySem.W.kitOne K (.type (tyN x)) (.type "tuple") = some (isa "tuple" x) := by
  cases x with
  | dict kvs => exact absurd rfl (h kvs)
  | _ => rfl
theorem isa_list (K : PySem.W.Frag) (x : PyData) (h : ∀ kvs, x ≠ .dict kvs) : PySem.W.kitOne K (.type (tyN x)) (.type "list") = some (isa "list" x) := by
  cases x with
  | dict kvs => exact absurd rfl (h kvs)
  | _ => rfl
end
end L2.Lv
namespace L2.Lv
open PySem PySem.Spec PyProof.Rows
/-! sorted of a list or a tuple, at the library's level -/
section
variable {prog : Program} {w : World} {A : Around} {E : Value → Shared → Prop} {s : Shared}
theorem collect_tup {l : Addr} {vs : List Value} {Q : List Value → Shared → Prop} (ht : IsTup s.heap l vs.toArray) (hz : vs.length ≤ sizeLine)
    (h : Q vs { s with heap := (s.heap.push (seqObj "list" #[] 0)).update s.heap.objs.size (Obj.mapSeq (· ++ vs.toArray)) }) : wpAny (model prog w) A (collect (.ref l)) Q E s := by
  obtain ⟨o, ho, hcl, n, hd⟩ := id ht
  have ho' : (s.heap.push (seqObj "list" #[] 0)).get? l = some o := Heap.get?_push_of_some _ ho
  have hnew : (s.heap.push (seqObj "list" #[] 0)).get? s.heap.objs.size = some (seqObj "list" #[] 0) := Heap.get?_push_size _ rfl
  unfold collect
  refine wpAny_bind (wpAny_runValue (codeAny_builtin entry_proto_collect' ?_))
  show wpAny _ _ (do again (.builtin "list.__iadd__" ⟨[← newList [], .ref l], []⟩)) _ _ s
  refine wpAny_bind (wpAny_newList (wpAny_pure ⟨Code.quiet_builtin _ (by decide +kernel), codeAny_builtin entry_list_iadd' ?_⟩))
  show wpAny _ _ (Builtin.List.listExtendWith (.ref s.heap.objs.size) (.ref l) (.ref s.heap.objs.size)) _ _ { s with heap := s.heap.push (seqObj "list" #[] 0) }
  unfold Builtin.List.listExtendWith
  refine wpAny_bind (wpAny_typeOf (T := "tuple") ⟨o, ho', hcl⟩ ?_)
  rw [if_pos (by rw [show (Value.type "tuple" == Value.type "tuple") = true from rfl, Bool.or_true])]
  refine wpAny_bind (listItems_at ho' hd (wpAny_bind (listItems_at (xs := #[]) (n := 0) hnew rfl ?_)))
  rw [if_neg (by simp)]
  refine wpAny_bind (listUpdate_at (xs := #[]) (n := 0) hnew rfl ?_ (Nat.zero_le _) (by show (#[] ++ vs.toArray).size ≤ sizeLine + 1; simp only [Array.size_append, List.size_toArray, List.length_nil]; omega))
  refine wpAny_pure ?_
  show wpAny (model prog w) A (do
      let x ← load s.heap.objs.size
      match x.data with
      | .seq ys _ => pure ys.toList
      | _ => unsupported "internal:collect") Q E _
  refine wpAny_bind (wpAny_load (get?_update_seq hnew _) ?_)
  show wpAny _ _ (pure ((#[] : Array Value) ++ vs.toArray).toList) Q E _
  rw [show ((#[] : Array Value) ++ vs.toArray).toList = vs by simp]
  exact wpAny_pure h
open PySem.W in
theorem sorted_tup {l : Addr} {vs : List Value} {κ : PyProof.Rows.KeyKind} {Q : Value → Shared → Prop} (ht : IsTup s.heap l vs.toArray) (hz : vs.length ≤ sizeLine)
    (S : SortsAt prog w A.in1.in1 { s with heap := sortingHeap (copyHeap s.heap vs) (s.heap.objs.size + 1) vs } κ vs)
    (h : Q (.ref (s.heap.objs.size + 1)) { s with heap := sortedAll s.heap vs (sortVals κ false vs vs).toArray }) : wpAny (model prog w) A (call (.builtin "sorted") [.ref l]) Q E s := by
  refine call_function_entry_kw kind_sorted plain_sorted entry_sorted (args_sorted1 _) ?_
  unfold Builtin.«sorted»
  refine wpAny_bind (m := checkCount "sorted" 1 1 _) (wpAny_pure (wpAny_bind (collect_tup ht hz (wpAny_bind (wpAny_newList ?_ hz)))))
  have hsz : ((s.heap.push (seqObj "list" #[] 0)).update s.heap.objs.size (Obj.mapSeq (· ++ vs.toArray))).objs.size = s.heap.objs.size + 1 := by
    rw [Heap.size_update, size_push']
  show wpAny _ _ _ _ _ { s with heap := copyHeap s.heap vs }
  rw [hsz]
  refine wpAny_bind (wpAny_holding (wpAny_call_entry_kw slot_list_sort ⟨_, copyHeap_at s.heap vs, rfl⟩ entry_list_sort ?body (args_list_sort _)))
  case body =>
    show wpAny (model prog w) A.in1.in1 (Builtin.«list.sort» ⟨[.ref (s.heap.objs.size + 1)], []⟩) _ _ _
    exact list_sort_vals (s := { s with heap := copyHeap s.heap vs }) (copyHeap_at s.heap vs) S hz ⟨_, rfl, wpAny_pure ⟨_, rfl, h⟩⟩
end
section
open PySem.W
/-- what sorted can put in order here -/
def srtOk (xs : List PyData) : Bool := (xs.all fun x => xs.all fun y => alike x y) && ((xs.all fun x => match x with | .tuple (_ :: _) => true | _ => false) || (xs.all fun x => match x with | .none => false | .tuple _ => false | _ => true)) && xs.all fun x => decide (x.depth ≤ 64)
def srt (xs : List PyData) : List PyData := xs.mergeSort (dataLe false fun x => x)
def gSorted : List PyData → Option W
  | [x] => (seqOf x).bind fun xs => if srtOk xs then some (.ol (srt xs)) else none
  | _ => none
theorem srtOk_alike {xs : List PyData} (h : srtOk xs = true) : AllAlike (xs.map fun x => x) := by
  unfold srtOk at h
  simp only [Bool.and_eq_true, List.all_eq_true] at h
  intro d hd d' hd'
  rw [List.map_id'] at hd hd'
  exact h.1.1 d hd d' hd'
theorem srtOk_sortable {xs : List PyData} (h : srtOk xs = true) : Sortable (xs.map fun x => x) := by
  unfold srtOk at h
  simp only [Bool.and_eq_true, Bool.or_eq_true, List.all_eq_true] at h
  rcases h.1.2 with h | h
  · refine .inl fun d hd => ?_
    rw [List.map_id'] at hd
    have := h d hd
    split at this
    · exact ⟨_, _, rfl⟩
    · cases this
  · refine .inr fun d hd => ?_
    rw [List.map_id'] at hd
    have := h d hd
    refine ⟨fun e => ?_, fun ys e => ?_⟩ <;> (subst e; cases this)
theorem srtOk_depth {xs : List PyData} (h : srtOk xs = true) : ∀ d ∈ xs, d.depth ≤ 64 := by
  unfold srtOk at h
  simp only [Bool.and_eq_true, List.all_eq_true] at h
  intro d hd
  exact of_decide_eq_true (h.2 d hd)
variable {X : Cx}
def RvD (A : Addr → Prop) (K : PySem.W.Frag) (H : Hp) (u : Value) (d : PyData) : Prop := ∃ v, RelV v u ∧ Dv A K H v d
theorem each_of {A : Addr → Prop} {K : PySem.W.Frag} {H : Hp} : ∀ {ds : List PyData} {vs : List V} {us : List Value}, DvAll A K H vs ds → Vals vs us → EachIs (RvD A K H) us ds
  | [], _, _, h, r => by cases h; cases r; exact .nil
  | d :: ds, _, _, h, r => by
    cases h with
    | cons h1 h2 =>
      cases r with
      | cons r1 r2 => exact .cons ⟨_, r1, h1⟩ (each_of h2 r2)
theorem of_each {A : Addr → Prop} {K : PySem.W.Frag} {H : Hp} : ∀ {ds : List PyData} {us : List Value}, EachIs (RvD A K H) us ds → ∃ vs, DvAll A K H vs ds ∧ Vals vs us
  | [], _, h => by cases h; exact ⟨[], .nil, .nil⟩
  | d :: ds, _, h => by
    cases h with
    | cons h1 h2 =>
      obtain ⟨v, r1, q1⟩ := h1
      obtain ⟨vs, q2, r2⟩ := of_each h2
      exact ⟨v :: vs, .cons q1 q2, .cons r1 r2⟩
theorem eachIs_len {α β : Type} {R : α → β → Prop} : ∀ {as : List α} {bs : List β}, EachIs R as bs → as.length = bs.length
  | _, _, .nil => rfl
  | _, _, .cons _ t => congrArg (· + 1) (eachIs_len t)
def rSortedV (K : PySem.W.Frag) : List V → Hp → VK → Prop := fun vs H Q => ∃ (A : Addr → Prop) (a : Addr) (us : List V) (xs : List PyData), vs = [V.ref a] ∧ (SqL K H a us ∨ SqT K H a us) ∧ DvAll A K H us xs ∧ srtOk xs = true ∧
  ∀ p us', H p = none → DvAll A K H us' (srt xs) → Q (.ref p) (upd H p (.lst us'))
theorem cr_sortedV (hu : X.A.units + 100 < cLine) : CallR X (.builtin "sorted") (rSortedV X.K) := by
  rintro pins s σ H vs us Q I r ⟨A, a, zs, xs, rfl, hs, hd, hok, q⟩
  rw [Vals.ref1 r]
  have fin : ∀ (its out : List Value), out.length = xs.length → xs.length ≤ sizeLine → EachIs (RvD A X.K H) out (srt xs) → EP X pins σ Q (.ref (s.heap.objs.size + 1)) { s with heap := sortedAll s.heap its out.toArray } := by
    intro its out h1 hz h2
    obtain ⟨us', k1, k2⟩ := of_each h2
    obtain ⟨ep, he'⟩ := PyProof.Rows.sortedAll_at s.heap its out.toArray
    exact ⟨.ref _, upd H (s.heap.objs.size + 1) (.lst us'), I.laid (t' := s.toks) (fun _ _ => PyProof.Rows.sortedAll_old) (Nat.le_succ _) ⟨by rw [k2.length, h1]; exact hz, out, ep, k2, he'⟩, rfl, q _ us' (I.hok.fresh (Nat.le_succ _)) k1⟩
  rcases hs with hs | hs
  · obtain ⟨its, rv, hl, hz⟩ := I.list hs
    have e1 := each_of hd rv
    obtain ⟨as, hr⟩ := Dp.readsAll I xs zs its hd.dp rv
    have hlen : xs.length ≤ sizeLine := by rw [← hd.length]; exact hz
    refine sorted_data (enc := fun x => x) hl.isList e1 (readsAll_each (fun x => x) (as := as) (by rw [List.map_id']; exact hr)) (srtOk_alike hok) (srtOk_sortable hok) hlen (fun b hb => ?_) fun out h1 h2 => fin its out h1 hlen h2
    have := srtOk_depth hok b hb
    omega
  · obtain ⟨its, rv, hl, hz⟩ := I.tuple hs
    have e1 := each_of hd rv
    obtain ⟨as, hr⟩ := Dp.readsAll I xs zs its hd.dp rv
    have hlen : xs.length ≤ sizeLine := by rw [← hd.length]; exact hz
    have er : EachIs (fun v b => ∃ as, Reads s.heap v ((fun x => x) b) as) its xs := readsAll_each (fun x => x) (as := as) (by rw [List.map_id']; exact hr)
    have er' : EachIs (fun v b => ∃ as, Reads (sortingHeap (copyHeap s.heap its) (s.heap.objs.size + 1) its) v ((fun x => x) b) as) its xs := er.mono fun _ _ ⟨as, r⟩ => ⟨as, PyProof.Rows.Reads.keeps (fun _ _ => sorting_copy_old) r⟩
    have hb : ∀ d, d ∈ xs.map (fun x => x) → X.A.in1.in1.units + d.depth < cLine := fun d hd => by
      rw [List.map_id'] at hd
      have := srtOk_depth hok d hd
      show X.A.units + 1 + 1 + _ < _
      omega
    refine sorted_tup hl (by rw [← rv.length]; exact hz) (SortsAt.data (s := { s with heap := sortingHeap (copyHeap s.heap its) (s.heap.objs.size + 1) its }) (each_map (R := fun v d => ∃ as, Reads (sortingHeap (copyHeap s.heap its) (s.heap.objs.size + 1) its) v d as) (fun x => x) er') (srtOk_alike hok) (srtOk_sortable hok) hb) ?_
    exact fin its _ (by rw [sortVals_length false rfl]; exact eachIs_len e1) hlen (sortVals_data false e1 er' (srtOk_alike hok))
theorem cv_sorted (hu : X.A.units + 100 < cLine) : CallV X (.builtin "sorted") gSorted := ⟨_, cr_sortedV hu, fun A T vs xs w H Q tr rx e q => by
  unfold gSorted at e
  split at e
  · rename_i x
    obtain ⟨ys, h1, e⟩ := Option.bind_eq_some_iff.mp e
    split at e
    · rename_i hok
      cases e
      obtain ⟨v, rfl, r⟩ := rx.one
      have key : ∀ a us, v = .ref a → (SqL X.K H a us ∨ SqT X.K H a us) → DvAll A X.K H us ys → rSortedV X.K [v] H Q := by
        rintro a us rfl hs hd
        exact ⟨A, a, us, ys, rfl, hs, hd, hok, fun p us' hp hd' => q _ _ (Grow.upd hp) (new_lst hp hd')⟩
      cases x with
      | list zs => cases h1; obtain ⟨a, us, h1, h2, h3⟩ := r.lst; exact key a us h1 (.inl h2) h3
      | tuple zs => cases h1; obtain ⟨a, us, h1, h2, h3, _⟩ := r.tup; exact key a us h1 (.inr h2) h3
      | _ => cases h1
    · cases e
  · cases e⟩
end
/-! methods of tuples -/
section
variable {X : Cx} {o e a b : Expr} {es : List Expr} {d da db : Fd} {ds : Fds} {name : Str} {apos cpos : Pos} {id : String}
def isTupV (K : PySem.W.Frag) (x : V) (H : Hp) : Prop := ∃ a xs, x = .ref a ∧ (TupAt H a xs ∨ KTup K a xs)
def tTM (K : PySem.W.Frag) (r : V → List V → Hp → VK → Prop) (to : TE) (t : L2.TA) : TE := fun σ H Q => to σ H fun x H1 => isTupV K x H1 ∧ t σ H1 fun xs H2 => r x xs H2 Q
theorem pe_tm {to : TE} {t : L2.TA} {r : V → List V → Hp → VK → Prop} (slot : Slot "tuple" name id) (hty : typeOf (.builtin id) = pure (.type "method_descriptor")) (hm : MtR X id r) (ho : PE X o to) (ha : PA X (e :: es) t)
    (hbase : attributeBase o name X.env (eval o X.env) = eval o X.env := by rfl)
    (hfew : ((backTo cpos (starEach (e :: es) X.env)).all (fun x => !x.1) && (backToKw cpos (keywordEach [] X.env)).all (fun x => x.1.isSome)
      && decide ((e :: es).length + ([] : List Keyword).length + (if ([] : List Keyword).isEmpty then 0 else 1) < 30)) = true := by rfl)
    (hline : (apos.endLine == cpos.line) = true := by rfl) (hs : starEach (e :: es) X.env = (false, eval e X.env) :: starEach es X.env := by rfl) (hplain : (backTo cpos (starEach es X.env)).any (·.1) = false := by rfl) :
    PE X (.Call (.Attribute o name apos) (e :: es) [] cpos) (tTM X.K r to t) := ⟨fun pins s σ H Q I h => by
  refine wpAny_Call_method_late hbase hfew hline rfl (thn (ho.run pins s σ H _ I h) fun v s1 ⟨x, H1, I1, r1, ⟨p, xs, hx, ty⟩, q1⟩ => ?_)
  subst hx
  have hv : v = .ref p := r1
  subst hv
  obtain ⟨ob, g1, g2, g3⟩ : ∃ ob, s1.heap.get? p = some ob ∧ ob.cls = .type "tuple" ∧ ob.dict = none := by
    rcases ty with ⟨ob, z, hd⟩ | ⟨z, ob, hk, hc, hd⟩
    · obtain ⟨z1, z2⟩ := I1.hok p _ z
      obtain ⟨_, _, _, ob', z3, z4, _⟩ := z2
      rw [z1] at z3
      cases z3
      exact ⟨ob, z1, z4, hd⟩
    · exact ⟨ob, I1.kIn p ob hk, hc, hd⟩
  refine ⟨"tuple", id, PySem.F.plainAttrs_tuple, slot, hty, ⟨ob, g1, g2⟩, fun c hc => ?_, ?_⟩
  · cases hc
    exact ⟨ob, g1, g3⟩
  · have hA := ha.run cpos pins s1 σ H1 _ I1 q1
    rw [hs] at hA ⊢
    refine Calls.callWith_builtin (by show (false || (backTo cpos (starEach es X.env)).any (·.1)) = false; rw [hplain] <;> rfl) (Calls.evalArgs_plain ?_)
    exact thn hA fun us s2 ⟨vs, H2, I2, r2, q2⟩ => hm pins s2 σ H2 (.ref p) vs (.ref p) us Q I2 rfl r2 q2⟩
theorem dv_isTup {A : Addr → Prop} {T : Option Addr} {K : PySem.W.Frag} {H : Hp} {v : V} {xs : List PyData} (h : DvB A T K H v (.tuple xs)) : isTupV K v H := by
  rcases h with h | ⟨a, vs, ds, _, h2, _⟩ | ⟨a, kvs, _, h2, _⟩
  · cases h with
    | tup hs ha => exact ⟨_, _, rfl, hs.imp (·.2) fun z => z⟩
  · cases h2
  · cases h2
/-- a method that looks: by values -/
def MtV (X : Cx) (id : String) (g : PyData → List PyData → Option W) : Prop := ∃ r, MtR X id r ∧
  ∀ (A : Addr → Prop) (T : Option Addr) (x : V) (vs : List V) (dx : PyData) (xs : List PyData) (w : W) (H : Hp) (Q : VK), (∀ a, A a → H a ≠ none) → DvB A T X.K H x dx → DvBs A T X.K H vs xs → g dx xs = some w →
    (∀ v H', Grow H H' → Res A none X.K H H' v w → Q v H') → r x vs H Q
def eMt (p : PyData → Bool) (g : PyData → List PyData → Option W) (d : Fd) (ds : Fds) : Fe := fun ρ n => (d ρ n).bind fun x => if p x.1 then (ds ρ x.2).bind fun q => (g x.1 q.1).map (·, q.2) else none
def isTupD : PyData → Bool
  | .tuple _ => true
  | _ => false
def isLstD : PyData → Bool
  | .list _ => true
  | _ => false
theorem ev_tm {g : PyData → List PyData → Option W} (slot : Slot "tuple" name id) (hty : typeOf (.builtin id) = pure (.type "method_descriptor")) (hm : MtV X id g) (ho : EvB X o d) (ha : EvD X (e :: es) ds)
    (hbase : attributeBase o name X.env (eval o X.env) = eval o X.env := by rfl)
    (hfew : ((backTo cpos (starEach (e :: es) X.env)).all (fun x => !x.1) && (backToKw cpos (keywordEach [] X.env)).all (fun x => x.1.isSome)
      && decide ((e :: es).length + ([] : List Keyword).length + (if ([] : List Keyword).isEmpty then 0 else 1) < 30)) = true := by rfl)
    (hline : (apos.endLine == cpos.line) = true := by rfl) (hs : starEach (e :: es) X.env = (false, eval e X.env) :: starEach es X.env := by rfl) (hplain : (backTo cpos (starEach es X.env)).any (·.1) = false := by rfl) :
    EvE X (.Call (.Attribute o name apos) (e :: es) [] cpos) (eMt isTupD g d ds) := by
  obtain ⟨r, h1, h2⟩ := hm
  refine peI (pe_tm slot hty h1 ho ha hbase hfew hline hs hplain) ?_
  rintro σ H Q ⟨C, O, ρ, n, w, n', hf, E, q⟩
  unfold eMt at hf
  obtain ⟨⟨x, n1⟩, e1, hf⟩ := Option.bind_eq_some_iff.mp hf
  simp only at hf
  split at hf
  case isFalse => cases hf
  rename_i hp
  obtain ⟨⟨xs, n2⟩, e2, hf⟩ := Option.bind_eq_some_iff.mp hf
  obtain ⟨z, e3, hf⟩ := Option.map_eq_some_iff.mp hf
  cases hf
  refine ⟨C, O, ρ, n, x, n1, e1, E, fun v H1 s t rx => ?_⟩
  have E1 := E.step s t
  refine ⟨?_, C, O, ρ, n1, xs, n2, e2, E1, fun vs H2 s2 t2 r2 => ?_⟩
  · cases x with
    | tuple ys => exact dv_isTup rx
    | _ => cases hp
  · refine h2 (Av C O) C.T v vs x xs _ H2 Q (E1.step s2 t2).av (rx.step s2 Av.t) r2 e3 fun v H3 g3 r3 => ?_
    exact q v H3 ((s.trans s2).trans g3.step) (g3.town t2) (r3.none_any.back fun a ha => s.fr a (s2.fr a ha))
/-- .. of lists -/
theorem ev_lm {g : PyData → List PyData → Option W} (slot : Slot "list" name id) (hty : typeOf (.builtin id) = pure (.type "method_descriptor")) (hm : MtV X id g) (ho : EvB X o d) (ha : EvD X (e :: es) ds)
    (hbase : attributeBase o name X.env (eval o X.env) = eval o X.env := by rfl)
    (hfew : ((backTo cpos (starEach (e :: es) X.env)).all (fun x => !x.1) && (backToKw cpos (keywordEach [] X.env)).all (fun x => x.1.isSome)
      && decide ((e :: es).length + ([] : List Keyword).length + (if ([] : List Keyword).isEmpty then 0 else 1) < 30)) = true := by rfl)
    (hline : (apos.endLine == cpos.line) = true := by rfl) (hs : starEach (e :: es) X.env = (false, eval e X.env) :: starEach es X.env := by rfl) (hplain : (backTo cpos (starEach es X.env)).any (·.1) = false := by rfl) :
    EvE X (.Call (.Attribute o name apos) (e :: es) [] cpos) (eMt isLstD g d ds) := by
  obtain ⟨r, h1, h2⟩ := hm
  refine peI (pe_bm PySem.F.plainAttrs_list slot hty h1 ho ha hbase hfew hline hs hplain) ?_
  rintro σ H Q ⟨C, O, ρ, n, w, n', hf, E, q⟩
  unfold eMt at hf
  obtain ⟨⟨x, n1⟩, e1, hf⟩ := Option.bind_eq_some_iff.mp hf
  simp only at hf
  split at hf
  case isFalse => cases hf
  rename_i hp
  obtain ⟨⟨xs, n2⟩, e2, hf⟩ := Option.bind_eq_some_iff.mp hf
  obtain ⟨z, e3, hf⟩ := Option.map_eq_some_iff.mp hf
  cases hf
  refine ⟨C, O, ρ, n, x, n1, e1, E, fun v H1 s t rx => ?_⟩
  have E1 := E.step s t
  refine ⟨?_, C, O, ρ, n1, xs, n2, e2, E1, fun vs H2 s2 t2 r2 => ?_⟩
  · cases x with
    | list ys =>
      obtain ⟨a, vs, rfl, k, _⟩ := rx.lst
      exact .inl ⟨rfl, vs, k⟩
    | _ => cases hp
  · refine h2 (Av C O) C.T v vs x xs _ H2 Q (E1.step s2 t2).av (rx.step s2 Av.t) r2 e3 fun v H3 g3 r3 => ?_
    exact q v H3 ((s.trans s2).trans g3.step) (g3.town t2) (r3.none_any.back fun a ha => s.fr a (s2.fr a ha))
/-- x.index(k), ints -/
def gIndexT (x : PyData) (ys : List PyData) : Option W := match x, ys with
  | .tuple xs, [.int k] => (intsOf xs).bind fun ns => if k ∈ ns then some (.d (.int (ns.idxOf k : Nat))) else none
  | _, _ => none
theorem mv_tindex : MtV X "tuple.index" gIndexT := by
  refine ⟨fun x xs H Q => ∃ (p : Addr) (ns : List Int) (k : Int), x = .ref p ∧ xs = [.int k] ∧ SqT X.K H p (ns.map V.int) ∧ k ∈ ns ∧ Q (.int (ns.idxOf k : Nat)) H, ?_, ?_⟩
  · rintro pins s σ H x xs v us Q I rx rxs ⟨p, ns, k, rfl, rfl, hs, hk, q⟩
    have hv : v = .ref p := rx
    subst hv
    obtain ⟨u, rfl, t, rfl⟩ := rxs.one
    obtain ⟨its, rv, pl, hz⟩ := I.tuple hs
    exact SeqAt.tuple_index_ints (s := s) pl rv.ints hk ⟨.int (ns.idxOf k : Nat), H, I.tok _, ⟨_, rfl⟩, q⟩
  · intro A T x vs dx xs w H Q tr rx rxs e q
    unfold gIndexT at e
    split at e
    · rename_i zs k
      obtain ⟨ns, h2, e⟩ := Option.bind_eq_some_iff.mp e
      split at e
      · rename_i hk
        cases e
        obtain ⟨v, rfl, r⟩ := rxs.one
        obtain ⟨a, us, rfl, k1, k2, _⟩ := rx.tup
        rw [intsOf_ok h2] at k2
        rw [k2.ints] at k1
        exact ⟨a, ns, k, rfl, by rw [r.int], k1, hk, q _ _ Grow.refl (.int _)⟩
      · cases e
    · cases e
def gIndexL (x : PyData) (ys : List PyData) : Option W := match x, ys with
  | .list xs, [.int k] => (intsOf xs).bind fun ns => if k ∈ ns then some (.d (.int (ns.idxOf k : Nat))) else none
  | _, _ => none
theorem mv_lindex : MtV X "list.index" gIndexL := by
  refine ⟨fun x xs H Q => ∃ (p : Addr) (ns : List Int) (k : Int), x = .ref p ∧ xs = [.int k] ∧ SqL X.K H p (ns.map V.int) ∧ k ∈ ns ∧ Q (.int (ns.idxOf k : Nat)) H, ?_, ?_⟩
  · rintro pins s σ H x xs v us Q I rx rxs ⟨p, ns, k, rfl, rfl, hs, hk, q⟩
    have hv : v = .ref p := rx
    subst hv
    obtain ⟨u, rfl, t, rfl⟩ := rxs.one
    obtain ⟨its, rv, pl, hz⟩ := I.list hs
    rw [List.length_map] at hz
    exact SeqAt.list_index_ints (s := s) pl.isList rv.ints hz hk ⟨.int (ns.idxOf k : Nat), H, I.tok _, ⟨_, rfl⟩, q⟩
  · intro A T x vs dx xs w H Q tr rx rxs e q
    unfold gIndexL at e
    split at e
    · rename_i zs k
      obtain ⟨ns, h2, e⟩ := Option.bind_eq_some_iff.mp e
      split at e
      · rename_i hk
        cases e
        obtain ⟨v, rfl, r⟩ := rxs.one
        obtain ⟨a, us, rfl, k1, k2⟩ := rx.lst
        rw [intsOf_ok h2] at k2
        rw [k2.ints] at k1
        exact ⟨a, ns, k, rfl, by rw [r.int], k1, hk, q _ _ Grow.refl (.int _)⟩
      · cases e
    · cases e
end
end L2.Lv
namespace L2.Lv
open PySem PySem.Spec PyProof.Rows
/-! enumerate of a tuple -/
theorem meets_enum1 {v : Value} {o : Obj} {Hs : Heap → Prop} (B : Begins v o Hs) :
    Meets (Builtin.«enumerate.__new__» ⟨[.type "enumerate", v], []⟩) (fun _ R s => Hs s.heap ∧
      R (.ok (.ret (.ref (s.heap.push o).objs.size))) { s with heap := (s.heap.push o).push { cls := .type "enumerate", data := .fields #[.none, .bool false, .ref s.heap.objs.size, rawInt 0, .none, .none] } }) :=
  .of_wp fun prog w A R s h => by
    obtain ⟨hp, g, d, tk, os⟩ := s
    obtain ⟨h1, h⟩ := h
    have hsub := sub_enumerate
    have q1 : ∀ {A' : Around} {E : Value → Shared → Prop} {Q : Value → Shared → Prop}, Q (.ref hp.objs.size) ⟨hp.push o, g, d, tk, os⟩ → wpAny (model prog w) A' (pyIter v) Q E ⟨hp, g, d, tk, os⟩ :=
      fun q => B.iter prog w _ _ ⟨hp, g, d, tk, os⟩ _ h1 q
    wp_walk using q1
    refine wpAny_stack_any fun st => wpAny_pure ?_
    split
    · rename_i c _ _ _ _ _
      cases (c == Value.type "enumerate")
      · wp_walk using q1
        exact ⟨_, rfl, h⟩
      · wp_walk using q1
        exact ⟨_, rfl, h⟩
    · wp_walk using q1
      exact ⟨_, rfl, h⟩
theorem enum1_begins {prog : Program} {w : World} {A : Around} {E : Value → Shared → Prop} {s : Shared} {v : Value} {o : Obj} {Hs : Heap → Prop} {Q : Value → Shared → Prop} (B : Begins v o Hs) (h1 : Hs s.heap)
    (h : ∀ h', IsEnum h' (s.heap.objs.size + 1) s.heap.objs.size 0 .none → h'.get? s.heap.objs.size = some o → h'.objs.size = s.heap.objs.size + 2 →
      (∀ b o, s.heap.get? b = some o → h'.get? b = some o) → Q (.ref (s.heap.objs.size + 1)) { s with heap := h' }) : wpAny (model prog w) A (call (.type "enumerate") [v]) Q E s := by
  refine callType_new F.called_enumerate (by decide) (F.typeCall_enumerate_1 _) (F.newCall_enumerate_1 _) (fun obj => F.args_object_init_2 obj _) F.entry_enumerate_new (meets_enum1 B) ⟨h1, ?_⟩
  have hz : (s.heap.push o).objs.size = s.heap.objs.size + 1 := Heap.size_push ..
  show _ ∧ _
  rw [hz]
  have he : IsEnum ((s.heap.push o).push { cls := .type "enumerate", data := .fields #[.none, .bool false, .ref s.heap.objs.size, rawInt 0, .none, .none] }) (s.heap.objs.size + 1) s.heap.objs.size 0 .none := by
    have := Heap.get?_push_size (s.heap.push o) (o := { cls := .type "enumerate", data := .fields #[.none, .bool false, .ref s.heap.objs.size, rawInt 0, .none, .none] }) rfl
    rw [hz] at this
    exact this
  exact ⟨⟨_, he, rfl⟩, h _ he (Heap.get?_push_of_some _ (Heap.get?_push_size _ B.free)) (by rw [Heap.size_push, hz]) fun b u x => Heap.get?_push_of_some _ (Heap.get?_push_of_some _ x)⟩
/-- each item of the tuple at a in a new pair -/
def IteT (K : PySem.W.Frag) (a : Addr) : It :=
  ⟨fun i H => ∃ (xs : List V) (x : V), SqT K H a xs ∧ xs[i]? = some x, fun i H v H' => ∃ T x, v = .ref T ∧ H T = none ∧ H' = upd H T (.tup [.int (i : Nat), x]) ∧ ∀ xs, SqT K H a xs → xs[i]? = some x, fun i H => ∃ xs : List V, SqT K H a xs ∧ xs.length = i⟩
theorem turn_enumT {P : Program} {w : World} {K : PySem.W.Frag} {elts : List Expr} {kk : Nat} {tpos : Pos} (a e it : Addr) :
    Turn P w K (.Tuple elts kk tpos) (IteT K a) [e, it] e (fun i h => (∃ old, IsEnum h e it ((i : Nat) : Int) old) ∧ h.IsTupleIter it a i ∧ e ≠ it) where
  mem := by simp
  obj := fun i h st b hb => by
    obtain ⟨⟨old, he⟩, ⟨o, ho, _, hd⟩, _⟩ := st
    rcases List.mem_cons.mp hb with z | hb
    · rw [z]; exact ⟨_, he, fun v q => nomatch q⟩
    · rw [List.mem_singleton.mp hb]; exact ⟨o, ho, fun v q => by rw [hd] at q; cases q⟩
  keep := fun i h h' st k => let ⟨⟨old, he⟩, hi, hne⟩ := st; ⟨⟨old, k e (by simp) _ he⟩, hi.at fun o q => k it (by simp) o q, hne⟩
  item := by
    intro X hP hw hK hc i pins s σ H E I hf st hg
    subst hP hw hK
    obtain ⟨⟨old, he⟩, hit, hne⟩ := st
    obtain ⟨xs, x, hq, hx⟩ := hg
    obtain ⟨its, rv, p, hz⟩ := I.tuple hq
    obtain ⟨u, hu, ru⟩ := rv.get hx
    have hal : a ≠ it := fun z => by
      obtain ⟨o, h1, h2, _⟩ := p
      obtain ⟨o', g1, g2, _⟩ := hit
      rw [z, g1] at h1
      cases h1
      rw [g2] at h2
      simp at h2
    have hae : e ∉ [it, a] := fun z => by
      rcases List.mem_cons.mp z with z | z
      · exact hne z
      · obtain ⟨o, h1, h2, _⟩ := p
        have z := List.mem_singleton.mp z
        rw [← z, show s.heap.get? e = some _ from he] at h1
        cases h1
        simp at h2
    have G := GoesN.enumFrom (prog := X.prog) (w := X.w) (A := X.A) (elts := elts) (x1 := kk) (pos := tpos) 0 (Draws.tuple (prog := X.prog) (w := X.w) (A := X.A.in1) (show X.A.in1.handled = none from I.ok.hd hc) it a hal its.toArray) e hne hae (by simp)
    have hlt : i < its.toArray.size := by
      rw [List.size_toArray]
      exact (List.getElem?_eq_some_iff.mp hu).1
    refine G.goes i s _ E hlt ⟨⟨old, by rw [Int.zero_add]; exact he⟩, hit, p⟩ fun v h' tk ⟨T, t, y, ev, hT, hy, hTup⟩ st' hk _ => ?_
    subst ev
    have ey : y = u := by
      rw [List.getElem?_toArray, hu] at hy
      exact (Option.some.inj hy).symm
    subst ey
    have new : ObjOk X.prog X.w (upd H T (.tup [.int (i : Nat), x])) h' T (.tup [.int (i : Nat), x]) :=
      ⟨by show 2 ≤ sizeLine; decide, [.int (0 + (i : Int)) t, y], .cons ⟨t, by rw [Int.zero_add]⟩ (.cons ru .nil), hTup⟩
    have I1 : Inv X pins σ (upd H T (.tup [.int (i : Nat), x])) { s with heap := h', toks := tk } :=
      I.turnedNew (ch := [e, it]) (fun b ob hb q => hk b ob hb q) hf hT new
    obtain ⟨⟨old', he'⟩, hit', _⟩ := st'
    refine ⟨.ref T, _, I1, rfl, ⟨T, x, rfl, I.hok.fresh hT, rfl, fun ys hy => by rw [I.tuple_inj hy hq]; exact hx⟩, ⟨⟨old', by rw [Int.zero_add] at he'; exact he'⟩, hit', hne⟩, fun b hb => ?_⟩
    have hb' : b < s.heap.objs.size := by
      rcases List.mem_cons.mp hb with z | z
      · rw [z]; exact Heap.lt_size he
      · rw [List.mem_singleton.mp z]; obtain ⟨o, h1, _⟩ := hit; exact Heap.lt_size h1
    rw [upd_ne (Nat.ne_of_lt (Nat.lt_of_lt_of_le hb' hT))]
    exact (hf b hb).1
  done := by
    intro X hP hw hK hc i pins s σ H E I hf st hg
    subst hP hw hK
    obtain ⟨⟨old, he⟩, hit, hne⟩ := st
    obtain ⟨xs, hq, hx⟩ := hg
    obtain ⟨its, rv, p, hz⟩ := I.tuple hq
    have hl := rv.length
    have hal : a ≠ it := fun z => by
      obtain ⟨o, h1, h2, _⟩ := p
      obtain ⟨o', g1, g2, _⟩ := hit
      rw [z, g1] at h1
      cases h1
      rw [g2] at h2
      simp at h2
    have hs : its.toArray.size = i := by rw [List.size_toArray]; omega
    have D := Draws.tuple (prog := X.prog) (w := X.w) (A := X.A.in1) (show X.A.in1.handled = none from I.ok.hd hc) it a hal its.toArray
    rw [hs] at D
    obtain ⟨f0, f1, f2, f3, f4, f5⟩ := hf it (by simp)
    exact wpAny_pyNext_enum_endD D he ⟨hit, p⟩ fun h' hx => ⟨rfl, I.turned (t' := s.toks) (fun b o hb q => hx b o hb q) f0 f1 f3 f4 f5⟩
  self := fun A i s Q E st h => let ⟨⟨_, he⟩, _⟩ := st; wpAny_pyIter_enum he h
def iEnumA (K : PySem.W.Frag) (te : TE) : TI := fun σ H R => te σ H fun v H1 => ∃ a xs, v = .ref a ∧ ((SqL K H1 a xs ∧ R (Ite K a) H1) ∨ (SqT K H1 a xs ∧ R (IteT K a) H1))
section
variable {X : Cx} {e a b : Expr} {d da db : Fd} {pos : Pos}
theorem pi_enumA {te : TE} {p tpos : Pos} {elts : List Expr} {kk : Nat} (hg : Gl X "enumerate") (hm : X.mg "enumerate" = none) (he : PE X e te) (hs : starEach [e] X.env = (false, eval e X.env) :: starEach [] X.env := by rfl) :
    PI X (.Tuple elts kk tpos) (.Call (.Name "enumerate" p) [e] [] pos) (iEnumA X.K te) := ⟨fun pins s σ H R I h => by
  have two : ∀ {H1 : Hp} {s1 : Shared}, Inv X pins σ H1 s1 → ∀ b ∈ [s1.heap.objs.size + 1, s1.heap.objs.size], FpOk X pins H1 b := fun {H1 s1} I1 b hb => by
    have hle : s1.heap.objs.size ≤ b := by
      rcases List.mem_cons.mp hb with z | z
      · rw [z]; exact Nat.le_succ _
      · rw [List.mem_singleton.mp z]; exact Nat.le_refl _
    exact I1.fpOk hle (I1.hok.fresh hle)
  refine Call_ (ld_blt I hg hm boot_enumerate (PyProof.Rows.callWith_type1 (thn ((pa_cons he pa_nil hs).run pos pins s σ H (fun vs H1 => match vs with | [v] => ∃ a xs, v = V.ref a ∧ ((SqL X.K H1 a xs ∧ R (Ite X.K a) H1) ∨ (SqT X.K H1 a xs ∧ R (IteT X.K a) H1)) | _ => False) I ?_) fun us s1 ⟨vs, H1, I1, r1, q0⟩ => ?_) hs rfl))
  · exact h
  · obtain ⟨a, xs, hv, q1⟩ : ∃ a xs, vs = [V.ref a] ∧ ((SqL X.K H1 a xs ∧ R (Ite X.K a) H1) ∨ (SqT X.K H1 a xs ∧ R (IteT X.K a) H1)) := by
      match vs, q0 with
      | [v], ⟨a, xs, hv, q⟩ => exact ⟨a, xs, by rw [hv], q⟩
    subst hv
    rw [Vals.ref1 r1]
    rcases q1 with ⟨hq, q⟩ | ⟨hq, q⟩
    · obtain ⟨its, rv, p', hz⟩ := I1.list hq
      exact call_enumerate_list p'.isList fun h' he hit hsz hk => wpAny_pyIter_enum he ⟨s1.heap.objs.size + 1, [s1.heap.objs.size + 1, s1.heap.objs.size], _, _, H1, rfl, I1.kept (t' := s1.toks) hk, turn_enum a (s1.heap.objs.size + 1) s1.heap.objs.size, ⟨⟨.none, he⟩, hit, Nat.succ_ne_self _⟩, two I1, q⟩
    · obtain ⟨its, rv, p', hz⟩ := I1.tuple hq
      exact enum1_begins (begins_tuple a its.toArray) p' fun h' he hit hsz hk => wpAny_pyIter_enum he ⟨s1.heap.objs.size + 1, [s1.heap.objs.size + 1, s1.heap.objs.size], _, _, H1, rfl, I1.kept (t' := s1.toks) hk, turn_enumT a (s1.heap.objs.size + 1) s1.heap.objs.size, ⟨⟨.none, he⟩, ⟨_, hit, rfl, rfl⟩, Nat.succ_ne_self _⟩, two I1, q⟩⟩
/-! enumerate, zip: by values -/
def enumD (xs : List PyData) : List PyData := xs.mapIdx fun i x => .tuple [.int i, x]
def zipD : List PyData → List PyData → List PyData
  | x :: xs, y :: ys => .tuple [x, y] :: zipD xs ys
  | _, _ => []
def iEnumV (d : Fd) : Fi := fun ρ n => (d ρ n).bind fun p => (seqOf p.1).map fun xs => (enumD xs, p.2)
theorem enumD_get {xs : List PyData} {i : Nat} {x : PyData} (h : (enumD xs)[i]? = some x) : ∃ y, xs[i]? = some y ∧ x = .tuple [.int i, y] := by
  unfold enumD at h
  rw [List.getElem?_mapIdx] at h
  obtain ⟨y, h1, h2⟩ := Option.map_eq_some_iff.mp h
  exact ⟨y, h1, h2.symm⟩
theorem pair_ok {A : Addr → Prop} {K : PySem.W.Frag} {H : Hp} {T : Addr} {vs : List V} {ds : List PyData} (hT : H T = none) (h : DvAll A K H vs ds) : DvI true A K (upd H T (.tup vs)) (.ref T) (.tuple ds) :=
  .inr ⟨rfl, T, vs, ds, rfl, rfl, .inl (.inl upd_same), h.mono (Grow.upd hT).keep⟩
section
variable {K : PySem.W.Frag} {A B : Addr → Prop} {H1 : Hp} {vs us : List V} {xs ys : List PyData} {l m : Addr}
theorem sqL_keep {H2 : Hp} (hs : (¬ A l ∧ Rd H1 l (.lst vs)) ∨ SqL K Hz l vs) (k : ∀ a o, H1 a = some o → ¬ A a → H2 a = some o) : SqL K H2 l vs := hs.elim (fun ⟨na, r⟩ => .inl (r.imp (fun z => k _ _ z na) fun ⟨o, z⟩ => ⟨o, k _ _ z na⟩)) sqLz
theorem sqT_keep {H2 : Hp} (hs : (¬ A l ∧ Rd H1 l (.tup vs)) ∨ SqT K Hz l vs) (k : ∀ a o, H1 a = some o → ¬ A a → H2 a = some o) : SqT K H2 l vs := hs.elim (fun ⟨na, r⟩ => .inl (r.imp (fun z => k _ _ z na) fun ⟨o, z⟩ => ⟨o, k _ _ z na⟩)) sqTz
theorem it_enumL (hs : (¬ A l ∧ Rd H1 l (.lst vs)) ∨ SqL K Hz l vs) (hd : DvAll B K H1 vs xs) : ItOk true K (Ite K l) (enumD xs) A B H1 := fun H2 k f => by
  have h2 : SqL K H2 l vs := sqL_keep hs k
  refine ⟨fun i x hx => ?_, vs, h2, by rw [hd.length]; simp [enumD]⟩
  obtain ⟨y, hy, rfl⟩ := enumD_get hx
  obtain ⟨v, e1, e2⟩ := hd.get hy
  refine ⟨⟨vs, v, h2, e1⟩, ?_⟩
  rintro v' H' ⟨T, z, rfl, hT, rfl, fz⟩
  refine ⟨Grow.upd hT, fun B' kp _ => ?_⟩
  have := fz vs h2
  rw [e1] at this
  cases this
  exact pair_ok hT (.cons (.int _) (.cons (e2.mono kp) .nil))
theorem it_enumT (hs : (¬ A l ∧ Rd H1 l (.tup vs)) ∨ SqT K Hz l vs) (hd : DvAll B K H1 vs xs) : ItOk true K (IteT K l) (enumD xs) A B H1 := fun H2 k f => by
  have h2 : SqT K H2 l vs := sqT_keep hs k
  refine ⟨fun i x hx => ?_, vs, h2, by rw [hd.length]; simp [enumD]⟩
  obtain ⟨y, hy, rfl⟩ := enumD_get hx
  obtain ⟨v, e1, e2⟩ := hd.get hy
  refine ⟨⟨vs, v, h2, e1⟩, ?_⟩
  rintro v' H' ⟨T, z, rfl, hT, rfl, fz⟩
  refine ⟨Grow.upd hT, fun B' kp _ => ?_⟩
  have := fz vs h2
  rw [e1] at this
  cases this
  exact pair_ok hT (.cons (.int _) (.cons (e2.mono kp) .nil))
theorem zipD_length : ∀ (xs ys : List PyData), (zipD xs ys).length = min xs.length ys.length
  | [], _ => by simp [zipD]
  | _ :: _, [] => by simp [zipD]
  | x :: xs, y :: ys => by simp [zipD, zipD_length xs ys, Nat.succ_min_succ]
theorem zipD_get : ∀ {xs ys : List PyData} {i : Nat} {x : PyData}, (zipD xs ys)[i]? = some x → ∃ y z, xs[i]? = some y ∧ ys[i]? = some z ∧ x = .tuple [y, z]
  | [], _, _, _, h => by simp [zipD] at h
  | _ :: _, [], _, _, h => by simp [zipD] at h
  | a :: xs, b :: ys, 0, x, h => by simp [zipD] at h; exact ⟨a, b, rfl, rfl, h.symm⟩
  | a :: xs, b :: ys, i + 1, x, h => by
    obtain ⟨y, z, h1, h2, h3⟩ := zipD_get (xs := xs) (ys := ys) (i := i) (by simpa [zipD] using h)
    exact ⟨y, z, by simpa using h1, by simpa using h2, h3⟩
end
theorem dv_seq {A : Addr → Prop} {C : Cn} {K : PySem.W.Frag} {H : Hp} {v : V} {x : PyData} {xs : List PyData} (ta : ∀ a, C.T = some a → A a) (h : DvB A C.T K H v x) (e : seqOf x = some xs) :
    ∃ a vs, v = .ref a ∧ DvAll A K H vs xs ∧ ((x = .list xs ∧ ((¬ TA C a ∧ Rd H a (.lst vs)) ∨ SqL K Hz a vs)) ∨ (x = .tuple xs ∧ ((¬ TA C a ∧ Rd H a (.tup vs)) ∨ SqT K Hz a vs))) := by
  cases x with
  | list zs =>
    cases e
    rcases h with h | ⟨a, vs, ds, rfl, h2, h3, h4, h5⟩ | ⟨a, kvs, _, h2, _⟩
    · cases h with
      | lst hs ha => exact ⟨_, _, rfl, ha, .inl ⟨rfl, hs.imp (fun z => ⟨fun q => z.1 (ta _ q), z.2⟩) id⟩⟩
    · cases h2
      exact ⟨a, vs, rfl, h5, .inl ⟨rfl, .inl ⟨h3, .inl h4⟩⟩⟩
    · cases h2
  | tuple zs =>
    cases e
    rcases h with h | ⟨a, vs, ds, _, h2, _⟩ | ⟨a, kvs, _, h2, _⟩
    · cases h with
      | tup hs ha => exact ⟨_, _, rfl, ha, .inr ⟨rfl, hs.imp (fun z => ⟨fun q => z.1 (ta _ q), let ⟨o, z, _⟩ := z.2; .inr ⟨o, z⟩⟩) (·.1)⟩⟩
    · cases h2
    · cases h2
  | _ => cases e
theorem dv_seqA {A : Addr → Prop} {K : PySem.W.Frag} {H : Hp} {v : V} {x : PyData} {xs : List PyData} (h : Dv A K H v x) (e : seqOf x = some xs) :
    ∃ a vs, v = .ref a ∧ DvAll A K H vs xs ∧ ((x = .list xs ∧ ((¬ A a ∧ Rd H a (.lst vs)) ∨ SqL K Hz a vs)) ∨ (x = .tuple xs ∧ ((¬ A a ∧ Rd H a (.tup vs)) ∨ SqT K Hz a vs))) := by
  cases x with
  | list zs =>
    cases e
    cases h with
    | lst hs ha => exact ⟨_, _, rfl, ha, .inl ⟨rfl, hs⟩⟩
  | tuple zs =>
    cases e
    cases h with
    | tup hs ha => exact ⟨_, _, rfl, ha, .inr ⟨rfl, hs.imp (fun z => ⟨z.1, let ⟨o, z, _⟩ := z.2; .inr ⟨o, z⟩⟩) (·.1)⟩⟩
  | _ => cases e
theorem sqL_of {A : Addr → Prop} {K : PySem.W.Frag} {H : Hp} {l : Addr} {vs : List V} (hs : (¬ A l ∧ Rd H l (.lst vs)) ∨ SqL K Hz l vs) : SqL K H l vs := hs.elim (fun z => .inl z.2) sqLz
theorem sqT_of' {A : Addr → Prop} {K : PySem.W.Frag} {H : Hp} {l : Addr} {vs : List V} (hs : (¬ A l ∧ Rd H l (.tup vs)) ∨ SqT K Hz l vs) : SqT K H l vs := hs.elim (fun z => .inl z.2) sqTz
theorem ej_enum {p tpos : Pos} {elts : List Expr} {kk : Nat} (hg : Gl X "enumerate") (hm : X.mg "enumerate" = none) (he : EvB X e d) (hs : starEach [e] X.env = (false, eval e X.env) :: starEach [] X.env := by rfl) :
    EvJ X true (.Tuple elts kk tpos) (.Call (.Name "enumerate" p) [e] [] pos) (iEnumV d) := piI (pi_enumA hg hm he hs) (by
  rintro σ H R ⟨C, O, ρ, n, xs, n', hf, E, q⟩
  unfold iEnumV at hf
  obtain ⟨⟨x, n1⟩, e1, hf⟩ := Option.bind_eq_some_iff.mp hf
  obtain ⟨ys, e2, hf⟩ := Option.map_eq_some_iff.mp hf
  cases hf
  refine ⟨C, O, ρ, n, x, _, e1, E, fun v H1 s t r => ?_⟩
  obtain ⟨a, vs, hv, hd, ⟨_, hs⟩ | ⟨_, hs⟩⟩ := dv_seq Av.t r e2
  · exact ⟨a, vs, hv, .inl ⟨sqL_of hs, q _ H1 s t (it_enumL hs hd)⟩⟩
  · exact ⟨a, vs, hv, .inr ⟨sqT_of' hs, q _ H1 s t (it_enumT hs hd)⟩⟩)
def iEnumF (f : Fe) : Fi := fun ρ n => (f ρ n).bind fun p => p.1.frz.val.bind fun x => (seqOf x).map fun xs => (enumD xs, p.2)
theorem ei_enum {f : Fe} {p tpos : Pos} {elts : List Expr} {kk : Nat} (hg : Gl X "enumerate") (hm : X.mg "enumerate" = none) (he : EvE X e f) (hs : starEach [e] X.env = (false, eval e X.env) :: starEach [] X.env := by rfl) :
    EvI X true (.Tuple elts kk tpos) (.Call (.Name "enumerate" p) [e] [] pos) (iEnumF f) := piI (pi_enumA hg hm he hs) (by
  rintro σ H R ⟨C, O, ρ, n, xs, n', hf, E, q⟩
  unfold iEnumF at hf
  obtain ⟨⟨w, n1⟩, e1, hf⟩ := Option.bind_eq_some_iff.mp hf
  obtain ⟨x, e2, hf⟩ := Option.bind_eq_some_iff.mp hf
  obtain ⟨ys, e3, hf⟩ := Option.map_eq_some_iff.mp hf
  cases hf
  refine ⟨C, O, ρ, n, w, _, e1, E, fun v H1 s t r => ?_⟩
  obtain ⟨a, vs, hv, hd, ⟨_, hs⟩ | ⟨_, hs⟩⟩ := dv_seqA ((r.frz E.av).val e2) e3
  · exact ⟨a, vs, hv, .inl ⟨sqL_of hs, q _ H1 s t (it_enumL hs hd)⟩⟩
  · exact ⟨a, vs, hv, .inr ⟨sqT_of' hs, q _ H1 s t (it_enumT hs hd)⟩⟩)
/-- both lists, or both tuples -/
def zipOk : PyData → PyData → Option (List PyData)
  | .list xs, .list ys => some (zipD xs ys)
  | .tuple xs, .tuple ys => some (zipD xs ys)
  | _, _ => none
theorem it_zipL {K : PySem.W.Frag} {A B : Addr → Prop} {H1 : Hp} {vs us : List V} {xs ys : List PyData} {l m : Addr} (hs : (¬ A l ∧ Rd H1 l (.lst vs)) ∨ SqL K Hz l vs) (hd : DvAll B K H1 vs xs) (hs2 : (¬ A m ∧ Rd H1 m (.lst us)) ∨ SqL K Hz m us) (hd2 : DvAll B K H1 us ys) :
    ItOk true K (Itz K l m) (zipD xs ys) A B H1 := fun H2 k f => by
  have h2 : SqL K H2 l vs := sqL_keep hs k
  have h3 : SqL K H2 m us := sqL_keep hs2 k
  refine ⟨fun i x hx => ?_, ?_⟩
  · obtain ⟨y, z, hy, hz, rfl⟩ := zipD_get hx
    obtain ⟨v, e1, e2⟩ := hd.get hy
    obtain ⟨u, g1, g2⟩ := hd2.get hz
    refine ⟨⟨vs, us, v, u, h2, h3, e1, g1⟩, ?_⟩
    rintro v' H' ⟨T, p, r, rfl, hT, rfl, fp, fr⟩
    refine ⟨Grow.upd hT, fun B' kp _ => ?_⟩
    have z1 := fp vs h2
    have z2 := fr us h3
    rw [e1] at z1
    rw [g1] at z2
    cases z1
    cases z2
    exact pair_ok hT (.cons (e2.mono kp) (.cons (g2.mono kp) .nil))
  · refine ⟨vs, us, h2, h3, ?_⟩
    rw [hd.length, hd2.length, zipD_length]
    omega
theorem it_zipT {K : PySem.W.Frag} {A B : Addr → Prop} {H1 : Hp} {vs us : List V} {xs ys : List PyData} {l m : Addr} (hs : (¬ A l ∧ Rd H1 l (.tup vs)) ∨ SqT K Hz l vs) (hd : DvAll B K H1 vs xs) (hs2 : (¬ A m ∧ Rd H1 m (.tup us)) ∨ SqT K Hz m us) (hd2 : DvAll B K H1 us ys) :
    ItOk true K (RZ.ItzT K l m) (zipD xs ys) A B H1 := fun H2 k f => by
  have h2 : SqT K H2 l vs := sqT_keep hs k
  have h3 : SqT K H2 m us := sqT_keep hs2 k
  refine ⟨fun i x hx => ?_, ?_⟩
  · obtain ⟨y, z, hy, hz, rfl⟩ := zipD_get hx
    obtain ⟨v, e1, e2⟩ := hd.get hy
    obtain ⟨u, g1, g2⟩ := hd2.get hz
    refine ⟨⟨vs, us, v, u, h2, h3, e1, g1⟩, ?_⟩
    rintro v' H' ⟨T, p, r, rfl, hT, rfl, fp, fr⟩
    refine ⟨Grow.upd hT, fun B' kp _ => ?_⟩
    have z1 := fp vs h2
    have z2 := fr us h3
    rw [e1] at z1
    rw [g1] at z2
    cases z1
    cases z2
    exact pair_ok hT (.cons (e2.mono kp) (.cons (g2.mono kp) .nil))
  · refine ⟨vs, us, h2, h3, ?_⟩
    rw [hd.length, hd2.length, zipD_length]
    omega
def iZipV (da db : Fd) : Fi := fun ρ n => (da ρ n).bind fun p => (db ρ p.2).bind fun q => (zipOk p.1 q.1).map (·, q.2)
theorem zipOk_seq {x y : PyData} {zs : List PyData} (h : zipOk x y = some zs) : ∃ xs ys, seqOf x = some xs ∧ seqOf y = some ys ∧ zs = zipD xs ys ∧ ((x = .list xs ∧ y = .list ys) ∨ (x = .tuple xs ∧ y = .tuple ys)) := by
  cases x <;> cases y <;> simp [zipOk] at h
  · exact ⟨_, _, rfl, rfl, h.symm, .inl ⟨rfl, rfl⟩⟩
  · exact ⟨_, _, rfl, rfl, h.symm, .inr ⟨rfl, rfl⟩⟩
theorem ej_zip {p tpos : Pos} {elts : List Expr} {kk : Nat} (hg : Gl X "zip") (hm : X.mg "zip" = none) (ha : EvB X a da) (hb : EvB X b db) (hs : starEach [a, b] X.env = (false, eval a X.env) :: starEach [b] X.env := by rfl) (hs2 : starEach [b] X.env = (false, eval b X.env) :: starEach [] X.env := by rfl)
    (hpl : (backTo pos (starEach [b] X.env)).any (·.1) = false := by rfl) : EvJ X true (.Tuple elts kk tpos) (.Call (.Name "zip" p) [a, b] [] pos) (iZipV da db) := piI (RZ.pi_zipA hg hm (pa_cons ha (pa_cons hb pa_nil hs2) hs) hs hpl) (by
  rintro σ H R ⟨C, O, ρ, n, xs, n', hf, E, q⟩
  unfold iZipV at hf
  obtain ⟨⟨x, n1⟩, e1, hf⟩ := Option.bind_eq_some_iff.mp hf
  obtain ⟨⟨y, n2⟩, e2, hf⟩ := Option.bind_eq_some_iff.mp hf
  obtain ⟨zs, e3, hf⟩ := Option.map_eq_some_iff.mp hf
  cases hf
  obtain ⟨ps, qs, h1, h2, rfl, hk⟩ := zipOk_seq e3
  refine ⟨C, O, ρ, n, x, n1, e1, E, fun v H1 s t r => ⟨C, O, ρ, n1, y, _, e2, E.step s t, fun u H2 s2 t2 r2 => ?_⟩⟩
  obtain ⟨a1, vs, rfl, hd, k1⟩ := dv_seq Av.t (r.step s2 Av.t) h1
  obtain ⟨b1, us, rfl, hd2, k2⟩ := dv_seq Av.t r2 h2
  rcases hk with ⟨rfl, rfl⟩ | ⟨rfl, rfl⟩
  · rcases k1 with ⟨_, k1⟩ | ⟨z, _⟩
    · rcases k2 with ⟨_, k2⟩ | ⟨z, _⟩
      · exact ⟨a1, b1, vs, us, rfl, .inl ⟨sqL_of k1, sqL_of k2, q _ H2 (s.trans s2) t2 (it_zipL k1 hd k2 hd2)⟩⟩
      · cases z
    · cases z
  · rcases k1 with ⟨z, _⟩ | ⟨_, k1⟩
    · cases z
    · rcases k2 with ⟨z, _⟩ | ⟨_, k2⟩
      · cases z
      · exact ⟨a1, b1, vs, us, rfl, .inr ⟨sqT_of' k1, sqT_of' k2, q _ H2 (s.trans s2) t2 (it_zipT k1 hd k2 hd2)⟩⟩)
def iZipF (fa fb : Fe) : Fi := fun ρ n => (fa ρ n).bind fun p => p.1.frz.val.bind fun x => (fb ρ p.2).bind fun q => q.1.frz.val.bind fun y => (zipOk x y).map (·, q.2)
theorem ei_zip {fa fb : Fe} {p tpos : Pos} {elts : List Expr} {kk : Nat} (hg : Gl X "zip") (hm : X.mg "zip" = none) (ha : EvE X a fa) (hb : EvE X b fb) (hs : starEach [a, b] X.env = (false, eval a X.env) :: starEach [b] X.env := by rfl) (hs2 : starEach [b] X.env = (false, eval b X.env) :: starEach [] X.env := by rfl)
    (hpl : (backTo pos (starEach [b] X.env)).any (·.1) = false := by rfl) : EvI X true (.Tuple elts kk tpos) (.Call (.Name "zip" p) [a, b] [] pos) (iZipF fa fb) := piI (RZ.pi_zipA hg hm (pa_cons ha (pa_cons hb pa_nil hs2) hs) hs hpl) (by
  rintro σ H R ⟨C, O, ρ, n, xs, n', hf, E, q⟩
  unfold iZipF at hf
  obtain ⟨⟨w, n1⟩, e1, hf⟩ := Option.bind_eq_some_iff.mp hf
  obtain ⟨x, e1', hf⟩ := Option.bind_eq_some_iff.mp hf
  obtain ⟨⟨w', n2⟩, e2, hf⟩ := Option.bind_eq_some_iff.mp hf
  obtain ⟨y, e2', hf⟩ := Option.bind_eq_some_iff.mp hf
  obtain ⟨zs, e3, hf⟩ := Option.map_eq_some_iff.mp hf
  cases hf
  obtain ⟨ps, qs, h1, h2, rfl, hk⟩ := zipOk_seq e3
  refine ⟨C, O, ρ, n, w, n1, e1, E, fun v H1 s t r => ?_⟩
  have E1 := E.step s t
  refine ⟨C, O, ρ, n1, w', _, e2, E1, fun u H2 s2 t2 r2 => ?_⟩
  obtain ⟨a1, vs, rfl, hd, k1⟩ := dv_seqA (((r.frz E.av).val e1').mono (s2.keep Av.t)) h1
  obtain ⟨b1, us, rfl, hd2, k2⟩ := dv_seqA ((r2.frz E1.av).val e2') h2
  rcases hk with ⟨rfl, rfl⟩ | ⟨rfl, rfl⟩
  · rcases k1 with ⟨_, k1⟩ | ⟨z, _⟩
    · rcases k2 with ⟨_, k2⟩ | ⟨z, _⟩
      · exact ⟨a1, b1, vs, us, rfl, .inl ⟨sqL_of k1, sqL_of k2, q _ H2 (s.trans s2) t2 (it_zipL k1 hd k2 hd2)⟩⟩
      · cases z
    · cases z
  · rcases k1 with ⟨z, _⟩ | ⟨_, k1⟩
    · cases z
    · rcases k2 with ⟨z, _⟩ | ⟨_, k2⟩
      · cases z
      · exact ⟨a1, b1, vs, us, rfl, .inr ⟨sqT_of' k1, sqT_of' k2, q _ H2 (s.trans s2) t2 (it_zipT k1 hd k2 hd2)⟩⟩)
end
end L2.Lv
namespace L2.Lv
open PySem PySem.Spec PyProof.Rows
/-! what a module's name is -/
theorem bt_len : bootBuiltins "len" = some (.builtin "len") := by decide +kernel
theorem bt_abs : bootBuiltins "abs" = some (.builtin "abs") := by decide +kernel
theorem bt_max : bootBuiltins "max" = some (.builtin "max") := by decide +kernel
theorem bt_min : bootBuiltins "min" = some (.builtin "min") := by decide +kernel
theorem bt_all : bootBuiltins "all" = some (.builtin "all") := by decide +kernel
theorem bt_any : bootBuiltins "any" = some (.builtin "any") := by decide +kernel
theorem bt_sum : bootBuiltins "sum" = some (.builtin "sum") := by decide +kernel
theorem bt_sorted : bootBuiltins "sorted" = some (.builtin "sorted") := by decide +kernel
theorem bt_isinstance : bootBuiltins "isinstance" = some (.builtin "isinstance") := by decide +kernel
theorem bt_int : bootBuiltins "int" = some (.type "int") := by decide +kernel
theorem bt_tuple : bootBuiltins "tuple" = some (.type "tuple") := by decide +kernel
theorem bt_list : bootBuiltins "list" = some (.type "list") := by decide +kernel
theorem bt_bool : bootBuiltins "bool" = some (.type "bool") := by decide +kernel
theorem bt_str : bootBuiltins "str" = some (.type "str") := by decide +kernel
theorem bt_range : bootBuiltins "range" = some (.type "range") := by decide +kernel
theorem bt_enumerate : bootBuiltins "enumerate" = some (.type "enumerate") := by decide +kernel
theorem bt_zip : bootBuiltins "zip" = some (.type "zip") := by decide +kernel
theorem bt_set : bootBuiltins "set" = some (.type "set") := by decide +kernel
theorem bt_dict : bootBuiltins "dict" = some (.type "dict") := by decide +kernel
structure DF (K : PySem.W.Frag) (mg : Str → Option Value) (x : Str) (st : Stmt) (ps : List Str) where
  f : Addr
  fd : FuncData
  F : Fun K x x st f fd
  b : Binds K fd ps []
  g : mg x = some (.ref f)
section
variable {X : Cx} {e a b : Expr} {es : List Expr} {f fa fb : Fe} {d da db : Fd} {fs : Fa} {ds : Fds} {pos : Pos} {st : Stmt} {rest sts sts' : List Stmt} {gs h : Fs} {ps : List Str}
theorem ev_callD {k j l : Nat} {F : Fn} {x : Str} {p : Pos} (D : DF X.K X.mg x st ps) (G : FnOk X.prog X.w X.K X.mg X.base CX0 j D.f D.fd ps (spOf X.K k F)) (hr : Room l X.A) (hj : j ≤ l) (hg : Gl X x) (ha : EvA X (e :: es) fs)
    (hl : (e :: es).length = k := by rfl) (hdb : (x == ("__debug__" : Str)) = false := by decide) (he : starEach (e :: es) X.env = (false, eval e X.env) :: starEach es X.env := by rfl) (hpl : (backTo pos (starEach es X.env)).any (·.1) = false := by rfl) :
    EvE X (.Call (.Name x p) (e :: es) [] pos) (eCall F fs) := ev_call G (hr.mono hj) hg D.g D.F.kp D.b ha hl hdb he hpl
theorem ev_callD0 {j l : Nat} {F : Fn} {x : Str} {p : Pos} (D : DF X.K X.mg x st ps) (G : FnOk X.prog X.w X.K X.mg X.base CX0 j D.f D.fd ps (spOf X.K 0 F)) (hr : Room l X.A) (hj : j ≤ l) (hg : Gl X x)
    (hdb : (x == ("__debug__" : Str)) = false := by decide) : EvE X (.Call (.Name x p) [] [] pos) (eCall F aNil) := ev_call0 G (hr.mono hj) hg D.g D.F.kp D.b hdb
theorem ev_gint {x : Str} {i : Int} (hg : Gl X x) (hm : ∃ t, X.mg x = some (.int i t)) (hd : (x == ("__debug__" : Str)) = false := by decide) : EvE X (.Name x pos) (eC (.int i)) := by
  obtain ⟨t, hm⟩ := hm
  exact ev_c (pe_glob hg hm (v := .int i) ⟨t, rfl⟩ hd) fun _ _ => .int _
/-- len of the town -/
def eTLen (i : Nat) : Fe := fun ρ n => match ρ[i]? with
  | some .town => some (.d (.int n), n)
  | _ => none
theorem ev_tlen {i : Nat} {p : Pos} (hg : Gl X "len") (hm : X.mg "len" = none) (hb : PE X a (tVar i)) (he : starEach [a] X.env = (false, eval a X.env) :: starEach [] X.env := by rfl) (hpl : (backTo pos (starEach [] X.env)).any (·.1) = false := by rfl) :
    EvE X (.Call (.Name "len" p) [a] [] pos) (eTLen i) := peI (pe_callB call_len_seq hg hm bt_len (pa_cons hb pa_nil he) (by decide) (by decide) he hpl) (by
  rintro σ H Q ⟨C, O, ρ, n, w, n', hf, E, q⟩
  unfold eTLen at hf
  split at hf
  · rename_i hx
    cases hf
    obtain ⟨l, h1, h2⟩ := E.sl _ _ hx
    have h3 := E.town l h1
    refine ⟨_, h2, l, _, rfl, .inl (SqL.of h3), ?_⟩
    rw [List.length_replicate]
    exact q _ _ Step.refl E.town (.int _)
  · cases hf)
theorem hu64 {l : Nat} {A : Around} (r : Room l A) : A.units + 64 < cLine := by have := r.un; omega
theorem hu65 {l : Nat} {A : Around} (r : Room l A) : A.units + 65 < cLine := by have := r.un; omega
theorem hu100 {l : Nat} {A : Around} (r : Room l A) : A.units + 100 < cLine := by have := r.un; omega
theorem hu0 {l : Nat} {A : Around} (r : Room l A) : A.units < cLine := by have := r.un; omega
end
theorem fn_none {P : Program} {w : World} {K : PySem.W.Frag} {mg : Str → Option Value} {base : Heap} {f : Addr} {fd : FuncData} {ps : List Str} {j : Nat} : FnOk P w K mg base CX0 j f fd ps (spOf K ps.length fun _ _ => none) :=
  ⟨spOf.len, fun A outer s H args us vs Q E _ _ _ _ h => by obtain ⟨T, Pp, ws, n, w, n', _, _, _, _, hf, _⟩ := h; cases hf⟩
/-! the law -/
def spLaw (K : PySem.W.Frag) (m : Nat) : Sp := fun vs H Q _ => ∃ (a : Addr) (ns : List Int), vs = [.ref a] ∧ Only H ∧ SqL K H a (ns.map V.int) ∧ ns.length ≤ m ∧ ∀ H', Q (.bl true) H'
theorem dv_ints {A : Addr → Prop} {K : PySem.W.Frag} {H : Hp} : ∀ ns : List Int, DvAll A K H (ns.map V.int) (ns.map PyData.int)
  | [] => .nil
  | n :: ns => .cons (.int n) (dv_ints ns)
theorem fn_law {P : Program} {w : World} {K : PySem.W.Frag} {mg : Str → Option Value} {base : Heap} {st : Stmt} {f : Addr} {fd : FuncData} {N : List Str} {x y : Str} {k m : Nat} {g : Fs} {p p2 p3 : Pos} {rest : List Stmt} (F : Fun K "law" "law" st f fd) (S : FnScope N [x] (defScope st))
    (hbd : defBody st = .Assign [.Name y p] (.List [] p2) p3 :: rest) (hy : N[1]? = some y) (hyl : Loc (defScope st) y)
    (hb : ∀ (cdv : Value) (A : Around) (outer : List Env) (s : Shared) (H : Hp) (E : XK), Room k (A.deeper (envOfC "law" (defScope st) s.heap.objs.size f cdv)) →
      EvSs (cxOf CX0 P w K mg base N "law" (defScope st) f cdv A outer s H E).nox rest g)
    (hm : ∀ ns : List Int, ns.length ≤ m → ∃ n', g (.d (.list (ns.map .int)) :: .town :: List.replicate (N.length - 2) .no) 0 = some (.rt (.d (.bool true)) n')) :
    FnOk P w K mg base CX0 (k + 1) f fd [x] (spLaw K m) := by
  refine F.ok S (fun vs H Q E h => by obtain ⟨a, ns, rfl, _⟩ := h; rfl) fun cdv A outer s H vs Q E hr h => ?_
  obtain ⟨a, ns, rfl, hO, hS, hlen, q⟩ := h
  rw [hbd]
  have hN : ∃ N', N = x :: y :: N' := by
    have h1 := S.pre
    match N, h1, hy with
    | [], h1, _ => simp at h1
    | [_], _, hy => simp at hy
    | x' :: y' :: N', h1, hy =>
      simp at h1 hy
      exact ⟨N', by rw [h1, hy]⟩
  obtain ⟨N', rfl⟩ := hN
  refine ⟨_, pss_cons (ps_set (i := 1) S.nd rfl hyl (pe_lst pa_nil)) (hb cdv A outer s H E hr), Nat.zero_le _, fun p np => ?_⟩
  obtain ⟨n', e⟩ := hm ns hlen
  refine ⟨⟨some p, fun _ => False, upd H p (.lst [])⟩, Ow0, _, 0, _, e, ⟨by simp [start], fun i w hw => ?_, fun _ _ _ z => (nomatch z), fun _ _ z => (nomatch z), fun b z => ?_, fun _ _ z _ => z, fun _ z => z.elim, fun _ z => z⟩, fun _ _ z => (nomatch z), fun v H' r => ?_⟩
  · match i with
    | 0 =>
      cases hw
      refine ⟨.ref a, rfl, .lst ?_ (dv_ints ns)⟩
      rcases hS with hS | hS
      · have ne : a ≠ p := fun z => by subst z; exact Rd.there hS np
        refine .inl ⟨?_, ?_⟩
        · rintro (z | z | ⟨_, z⟩)
          · exact z
          · exact ne (Option.some.inj z).symm
          · cases z
        · rcases hS with hS | ⟨o, hS⟩
          · exact .inl (by rw [upd_ne ne]; exact hS)
          · exact .inr ⟨o, by rw [upd_ne ne]; exact hS⟩
      · exact .inr (.inr hS)
    | 1 =>
      cases hw
      exact ⟨p, rfl, rfl⟩
    | i + 2 =>
      simp only [List.getElem?_cons_succ, List.getElem?_replicate] at hw
      split at hw
      · cases hw; trivial
      · cases hw
  · cases z
    exact upd_same
  · have r' : Dv _ K H' v (.bool true) := r.res
    cases r'
    exact q H'
end L2.Lv
namespace L2.Lv
open PySem PySem.Spec PyProof.Rows
/-! ranges with a step -/
def rangeC (lo c : Int) (n : Nat) : List PyData := (List.range n).map fun (i : Nat) => .int (lo + (i : Nat) * c)
def rng3 : PyData → PyData → PyData → Option (List PyData)
  | .int i, .int j, .int c => if c ≠ 0 ∧ c.natAbs < 1073741824 ∧ Builtin.Range.small i j c = true ∧ 0 ≤ Builtin.Range.rangeSize i j c then some (rangeC i c (Builtin.Range.rangeSize i j c).toNat) else none
  | _, _, _ => none
def iRng3D (da db dc : Fd) : Fi := fun ρ n => (da ρ n).bind fun p => (db ρ p.2).bind fun q => (dc ρ q.2).bind fun r => (rng3 p.1 q.1 r.1).map (·, r.2)
theorem it_rngC {K : PySem.W.Frag} {A B : Addr → Prop} {H1 : Hp} {lo c : Int} {n : Nat} : ItOk false K (Itc lo c n) (rangeC lo c n) A B H1 := fun H2 k f => by
  have hl : (rangeC lo c n).length = n := by simp [rangeC]
  refine ⟨fun i x hx => ?_, by rw [hl]; exact Nat.le_refl _⟩
  have hi : i < n := by rw [← hl]; exact (List.getElem?_eq_some_iff.mp hx).1
  refine ⟨hi, ?_⟩
  rintro v H' ⟨rfl, rfl⟩
  refine ⟨Grow.refl, fun B' _ _ => ?_⟩
  have e : (rangeC lo c n)[i]? = some (.int (lo + (i : Nat) * c)) := by simp [rangeC, hi]
  rw [e] at hx
  cases hx
  exact .inl (.int _)
section
variable {X : Cx} {a b c : Expr} {da db dc : Fd} {pos : Pos}
theorem ei_range3 {tg : Expr} {p : Pos} (hg : Gl X "range") (hm : X.mg "range" = none) (ha : EvB X a da) (hb : EvB X b db) (hc : EvB X c dc)
    (hs : starEach [a, b, c] X.env = (false, eval a X.env) :: starEach [b, c] X.env := by rfl) (hs2 : starEach [b, c] X.env = (false, eval b X.env) :: starEach [c] X.env := by rfl) (hs3 : starEach [c] X.env = (false, eval c X.env) :: starEach [] X.env := by rfl) (hpl : (backTo pos (starEach [b, c] X.env)).any (·.1) = false := by rfl) :
    EvI X false tg (.Call (.Name "range" p) [a, b, c] [] pos) (iRng3D da db dc) := piI (pi_range3 hg hm (pa_cons ha (pa_cons hb (pa_cons hc pa_nil hs3) hs2) hs) hs hpl) (by
  rintro σ H R ⟨C, O, ρ, n, xs, n', hf, E, q⟩
  unfold iRng3D at hf
  obtain ⟨⟨y, n1⟩, e1, hf⟩ := Option.bind_eq_some_iff.mp hf
  obtain ⟨⟨z, n2⟩, e2, hf⟩ := Option.bind_eq_some_iff.mp hf
  obtain ⟨⟨u, n3⟩, e3, hf⟩ := Option.bind_eq_some_iff.mp hf
  obtain ⟨zs, e4, hf⟩ := Option.map_eq_some_iff.mp hf
  cases hf
  refine ⟨C, O, ρ, n, y, n1, e1, E, fun v H1 s t r => ⟨C, O, ρ, n1, z, n2, e2, E.step s t, fun v2 H2 s2 t2 r2 => ⟨C, O, ρ, n2, u, _, e3, (E.step s t).step s2 t2, fun v3 H3 s3 t3 r3 => ?_⟩⟩⟩
  cases y with
  | int i =>
    cases z with
    | int j =>
      cases u with
      | int k =>
        simp only [rng3] at e4
        split at e4
        · rename_i hj
          cases e4
          exact ⟨i, j, k, _, by rw [r.int, r2.int, r3.int], ⟨hj.1, hj.2.1, hj.2.2.1, (Int.toNat_of_nonneg hj.2.2.2).symm⟩, q _ H3 ((s.trans s2).trans s3) t3 it_rngC⟩
        · cases e4
      | _ => cases e4
    | _ => cases e4
  | _ => cases e4)
end
end L2.Lv
namespace HT
open PySem PySem.Spec PyProof.Rows
section
variable {prog : Program} {w : World} {A : Around} {E : Value → Shared → Prop} {s : Shared}
theorem sliceApplied_step {sl : Addr} {vl vu vs : Value} {lo hi : Option Int} {c : Int} {n : Nat} {Q : Int × Int × Nat → Shared → Prop} (hs : s.heap.IsSliceOf sl vl vu vs) (pl : IsPart vl lo) (pu : IsPart vu hi) (ps : IsPart vs (some c)) (hc : c ≠ 0)
    (h : Q ((Builtin.Slice.sliceAdjust lo hi c n).1, c, Builtin.Slice.slicePlaces (Builtin.Slice.sliceAdjust lo hi c n).1 (Builtin.Slice.sliceAdjust lo hi c n).2 c) s) : wpAny (model prog w) A (Builtin.Slice.sliceApplied (.ref sl) (pure (n : Int))) Q E s := by
  obtain ⟨os, hos, hcs, hds⟩ := id hs
  unfold Builtin.Slice.sliceApplied Builtin.Slice.sliceFields
  refine wpAny_bind (wpAny_bind (wpAny_field hos hds (x := vl) rfl (wpAny_bind (wpAny_field hos hds (x := vu) rfl (wpAny_bind (wpAny_field hos hds (x := vs) rfl (wpAny_pure ?_)))))))
  refine wpAny_bind (slicePart_ ps ?_)
  show wpAny _ _ (if (c == 0) = true then _ else _) _ _ s
  rw [if_neg (by simpa using hc)]
  refine wpAny_bind (slicePart_ pl (wpAny_bind (slicePart_ pu (wpAny_bind (wpAny_pure ?_)))))
  exact wpAny_pure h
theorem getItem_tuple_step {t sl : Addr} {items : Array Value} {vl vu vs : Value} {lo hi : Option Int} {c : Int} {Q : Value → Shared → Prop} (ht : IsTup s.heap t items) (hs : s.heap.IsSliceOf sl vl vu vs) (pl : IsPart vl lo) (pu : IsPart vu hi) (ps : IsPart vs (some c)) (hc : c ≠ 0) (hc1 : c ≠ 1)
    (hsz : ((List.range (Builtin.Slice.slicePlaces (Builtin.Slice.sliceAdjust lo hi c items.size).1 (Builtin.Slice.sliceAdjust lo hi c items.size).2 c)).filterMap fun (k : Nat) => items[((Builtin.Slice.sliceAdjust lo hi c items.size).1 + (k : Int) * c).toNat]?).length ≤ sizeLine)
    (h : Q (.ref s.heap.objs.size) { s with heap := s.heap.push { cls := .type "tuple", data := .seq ((List.range (Builtin.Slice.slicePlaces (Builtin.Slice.sliceAdjust lo hi c items.size).1 (Builtin.Slice.sliceAdjust lo hi c items.size).2 c)).filterMap fun (k : Nat) => items[((Builtin.Slice.sliceAdjust lo hi c items.size).1 + (k : Int) * c).toNat]?).toArray } }) :
    wpAny (model prog w) A (getItem (.ref t) (.ref sl)) Q E s := by
  obtain ⟨os, hos, hcs, hds⟩ := id hs
  have hTs : s.TypeIs (.ref sl) "slice" := ⟨os, hos, hcs⟩
  have htake : sizeOk (.seq ((List.range (Builtin.Slice.slicePlaces (Builtin.Slice.sliceAdjust lo hi c items.size).1 (Builtin.Slice.sliceAdjust lo hi c items.size).2 c)).filterMap fun (k : Nat) => items[((Builtin.Slice.sliceAdjust lo hi c items.size).1 + (k : Int) * c).toNat]?).toArray) := by
    show Array.size _ ≤ sizeLine
    rw [List.size_toArray]
    exact hsz
  unfold getItem
  try with_reducible refine wpAny_holding ?_
  first | refine wpAny_bind (wpAny_pure ?_) | skip
  refine wpAny_bind (wpAny_sequenceKey ht.typeIs (by decide) ?_)
  refine wpAny_bind (wpAny_callSpecial?_slot (name := Str.ofString "__getitem__") ht.typeIs PyProof.Rows.slot_tuple_getitem
    (wpAny_call_entry PyProof.Rows.slot_tuple_getitem ht.typeIs entry_tuple_getitem ?_ (args_tuple_getitem _ _)))
  show wpAny _ _ (Builtin.Tuple.tupleItemsOf (.ref t) >>= _) _ _ s
  refine wpAny_bind (tupleItemsOf_ ht ?_)
  refine wpAny_bind (wpAny_typeOf hTs ?_)
  rw [if_pos (by decide)]
  refine wpAny_bind (sliceApplied_step hs pl pu ps hc ?_)
  have hno : ∀ (a : Int) (m : Nat), ¬ ((a == 0 && c == 1 && m == items.size) = true) := by
    intro a m q
    rw [Bool.and_eq_true, Bool.and_eq_true] at q
    exact hc1 (eq_of_beq q.1.2)
  show wpAny _ _ (if ((Builtin.Slice.sliceAdjust lo hi c items.size).1 == 0 && c == 1 && _ == items.size) = true then _ else _) _ _ s
  rw [if_neg (hno _ _)]
  first
    | exact wpAny_bind (m := Builtin.Tuple.tupleExact _) (wpAny_newObj_type (wpAny_pure ⟨_, rfl, wpAny_pure h⟩) htake)
    | exact wpAny_bind (m := Builtin.Tuple.tupleExact _) (wpAny_newObj_type (wpAny_bind (wpAny_pure (wpAny_pure ⟨_, rfl, wpAny_pure h⟩))) htake)
    | exact wpAny_bind (wpAny_bind (m := Builtin.Tuple.tupleExact _) (wpAny_newObj_type (wpAny_pure (wpAny_pure ⟨_, rfl, wpAny_pure h⟩)) htake))
    | exact wpAny_bind (wpAny_bind (m := Builtin.Tuple.tupleExact _) (wpAny_newObj_type (wpAny_pure ⟨_, rfl, wpAny_pure h⟩) htake))
end
end HT
namespace L2.Lv
open PySem PySem.Spec PyProof.Rows
/-! what no one reads any more is forgotten -/
def Out.kill (is : List Nat) : Out → Out
  | .nx ρ n => .nx (wipeW ρ is) n
  | o => o
def sEnd (is : List Nat) (g : Fs) : Fs := fun ρ n => (g ρ n).map (Out.kill is)
theorem EnvOk.wipe {C : Cn} {O : Ow} {K : PySem.W.Frag} {σ : St} {H : Hp} {ρ : List W} {n : Nat} (is : List Nat) (E : EnvOk C O K σ H ρ n) : EnvOk C O K σ H (wipeW ρ is) n := by
  refine ⟨by rw [wipeW_length]; exact E.len, fun i w hw => ?_, E.inj, E.own, E.town, E.base, E.ptr, E.fr⟩
  rw [wipeW_get] at hw
  split at hw
  · cases hw; trivial
  · exact E.sl i w hw
theorem ss_end {X : Cx} {st : Stmt} {g : Fs} (is : List Nat) (h : EvS X st g) : EvS X st (sEnd is g) := psI h (by
  rintro D σ H ⟨C, O, ρ, n, out, hf, E, np, q⟩
  obtain ⟨o, e1, e2⟩ := Option.map_eq_some_iff.mp hf
  refine ⟨C, O, ρ, n, o, e1, E, np, ?_⟩
  cases o with
  | nx ρ1 n1 => cases e2; exact fun O' σ' H' s E' => q O' σ' H' s (E'.wipe is)
  | bk ρ1 n1 => cases e2; exact q
  | rt w n1 => cases e2; exact q)
/-! slices with a step -/
theorem valsPick {vs : List V} {us : List Value} (r : Vals vs us) : ∀ is : List Nat, Vals (is.filterMap (vs[·]?)) (is.filterMap (us[·]?))
  | [] => .nil
  | i :: is => by
    have ih := valsPick r is
    rw [List.filterMap_cons, List.filterMap_cons]
    cases hv : vs[i]? with
    | none =>
      have : us[i]? = none := by
        rw [List.getElem?_eq_none_iff] at hv ⊢
        rw [← r.length]; exact hv
      rw [this]; exact ih
    | some v =>
      obtain ⟨u, hu, ru⟩ := r.get hv
      rw [hu]; exact .cons ru ih
theorem DvAll.pick {A : Addr → Prop} {K : PySem.W.Frag} {H : Hp} {vs : List V} {ds : List PyData} (h : DvAll A K H vs ds) : ∀ is : List Nat, DvAll A K H (is.filterMap (vs[·]?)) (is.filterMap (ds[·]?))
  | [] => .nil
  | i :: is => by
    have ih := DvAll.pick h is
    rw [List.filterMap_cons, List.filterMap_cons]
    cases hv : ds[i]? with
    | none =>
      have : vs[i]? = none := by
        rw [List.getElem?_eq_none_iff] at hv ⊢
        rw [h.length]; exact hv
      rw [this]; exact ih
    | some d =>
      obtain ⟨u, hu, ru⟩ := h.get hv
      rw [hu]; exact .cons ru ih
/-- the places that a slice with a step takes -/
def stepIx (n : Nat) (lo hi : Option Int) (c : Int) : List Nat := (List.range (Builtin.Slice.slicePlaces (Builtin.Slice.sliceAdjust lo hi c n).1 (Builtin.Slice.sliceAdjust lo hi c n).2 c)).map fun (k : Nat) => ((Builtin.Slice.sliceAdjust lo hi c n).1 + (k : Int) * c).toNat
def stepIxL (n : Nat) (lo hi : Option Int) (c : Int) : List Nat := sliceRange (sliceBounds lo hi (some c) n).1 (sliceBounds lo hi (some c) n).2.1 (sliceBounds lo hi (some c) n).2.2
theorem pick_fm {α : Type} (xs : List α) (is : List Nat) : (is.filterMap (xs[·]?)).length ≤ is.length := List.length_filterMap_le _ _
/-- by values -/
def SsR (X : Cx) (r : V → Option Int → Option Int → Int → Hp → VK → Prop) : Prop :=
  ∀ (pins : List (Addr × Obj)) (s : Shared) (σ : St) (H : Hp) (x : V) (v vl vu vs : Value) (lo hi : Option Int) (c : Int) (sl : Addr) (Q : VK), Inv X pins σ H s → RelV x v → s.heap.IsSliceOf sl vl vu vs → IsPart vl lo → IsPart vu hi → IsPart vs (some c) → r x lo hi c H Q →
    ∃ T id, typeLookup (.type T) "__getitem__" = pure (some (.builtin id)) ∧ s.TypeIs v T ∧ wpAny (model X.prog X.w) X.A (getItem v (.ref sl)) (EP X pins σ Q) X.xe s
def tSs (r : V → Option Int → Option Int → Int → Hp → VK → Prop) (te : TE) (tl th ts : TO) : TE := fun σ H Q => te σ H fun x H1 => tl σ H1 fun l H2 => th σ H2 fun u H3 => ts σ H3 fun o H4 => ∃ c, o = some c ∧ r x l u c H4 Q
section
variable {X : Cx} {e a b : Expr} {d da : Fd} {pos p2 : Pos}
theorem pe_sliceS {te : TE} {lo hi : Option Expr} {st : Expr} {tl th ts : TO} {r : V → Option Int → Option Int → Int → Hp → VK → Prop} (hr : SsR X r) (he : PE X e te) (hl : PO X lo tl) (hu : PO X hi th) (hst : PO X (some st) ts) : PE X (.Subscript e (.Slice lo hi (some st) p2) pos) (tSs r te tl th ts) := by
  refine ⟨fun pins s σ H Q I h => ?_⟩
  refine Subscript_ (thn (he.run pins s σ H _ I h) fun v s1 ⟨x, H1, I1, r1, q1⟩ => ?_)
  refine wpAny_Slice (thn (hl.run pins s1 σ H1 _ I1 q1) fun vl s2 ⟨l, H2, I2, pl, q2⟩ => thn (hu.run pins s2 σ H2 _ I2 q2) fun vu s3 ⟨u, H3, I3, pu, q3⟩ => thn (hst.run pins s3 σ H3 _ I3 q3) fun vs s4 ⟨o, H4, I4, ps, c, ho, q4⟩ => ?_)
  subst ho
  have I5 : Inv X pins σ H4 { s4 with heap := s4.heap.push { cls := .type "slice", data := .fields #[vl, vu, vs] } } := I4.kept (t' := s4.toks) fun b ob q => Heap.get?_push_of_some _ q
  obtain ⟨T, id, hT, ht, hg⟩ := hr pins { s4 with heap := s4.heap.push { cls := .type "slice", data := .fields #[vl, vu, vs] } } σ H4 x v vl vu vs l u c s4.heap.objs.size Q I5 r1 (Heap.IsSliceOf.new ..) pl pu ps q4
  show wpAny (model X.prog X.w) X.A (subscriptTail e (.Slice lo hi (some st) p2) v (.ref s4.heap.objs.size)) (EP X pins σ Q) X.xe { s4 with heap := s4.heap.push { cls := .type "slice", data := .fields #[vl, vu, vs] } }
  exact tail_any (ops := [v, .ref s4.heap.objs.size]) ht hT hg (by with_unfolding_all rfl)
def rSsL (K : PySem.W.Frag) : V → Option Int → Option Int → Int → Hp → VK → Prop := fun x lo hi c H Q => ∃ a xs, x = .ref a ∧ SqL K H a xs ∧ c ≠ 0 ∧ ∀ p, H p = none → Q (.ref p) (upd H p (.lst ((stepIxL xs.length lo hi c).filterMap (xs[·]?))))
theorem ss_list : SsR X (rSsL X.K) := by
  rintro pins s σ H x v vl vu vs lo hi c sl Q I rx hs pl pu ps ⟨a, xs, rfl, hx, hc, q⟩
  have hv : v = .ref a := rx
  subst hv
  obtain ⟨its, r, ht, hz⟩ := I.list hx
  have hlen : its.toArray.size = xs.length := by rw [List.size_toArray]; exact r.length.symm
  refine ⟨"list", _, slot_list_getitem.lookup, ht.isList.typeIs, ?_⟩
  refine wpAny_getItem_list_slice ht.isList hs pl pu ps (by simpa using hc) ?_ (by rw [hlen]; exact hz)
  have e : slicePick its.toArray lo hi (some c) = ((stepIxL xs.length lo hi c).filterMap (its[·]?)).toArray := by
    unfold slicePick stepIxL
    rw [hlen]
    congr 1
    exact congrFun (congrArg List.filterMap (funext fun i => by simp)) _
  have hle : ((stepIxL xs.length lo hi c).filterMap (its[·]?)).length ≤ xs.length := by
    have := slicePick_size_le its.toArray lo hi (some c)
    rw [e, hlen, List.size_toArray] at this
    exact this
  rw [e]
  have rp := valsPick r (stepIxL xs.length lo hi c)
  refine ⟨.ref s.heap.objs.size, _, I.laid (t' := s.toks) (o := .lst ((stepIxL xs.length lo hi c).filterMap (xs[·]?))) (fun b ob q => Heap.get?_push_of_some _ q) (Nat.le_refl _) ?_, rfl, q _ (I.hok.fresh (Nat.le_refl _))⟩
  exact ⟨by rw [rp.length]; exact Nat.le_trans hle hz, _, 0, rp, Heap.get?_push_size _ rfl⟩
def rSsT (K : PySem.W.Frag) : V → Option Int → Option Int → Int → Hp → VK → Prop := fun x lo hi c H Q => ∃ a xs, x = .ref a ∧ SqT K H a xs ∧ c ≠ 0 ∧ c ≠ 1 ∧ ((stepIx xs.length lo hi c).filterMap (xs[·]?)).length ≤ sizeLine ∧ rNewT ((stepIx xs.length lo hi c).filterMap (xs[·]?)) H Q
theorem ss_tup : SsR X (rSsT X.K) := by
  rintro pins s σ H x v vl vu vs lo hi c sl Q I rx hs pl pu ps ⟨a, xs, rfl, hx, hc, hc1, hsz, q⟩
  have hv : v = .ref a := rx
  subst hv
  obtain ⟨its, r, ht, hz⟩ := I.tuple hx
  have hlen : its.toArray.size = xs.length := by rw [List.size_toArray]; exact r.length.symm
  have rp := valsPick r (stepIx xs.length lo hi c)
  have e : (List.range (Builtin.Slice.slicePlaces (Builtin.Slice.sliceAdjust lo hi c its.toArray.size).1 (Builtin.Slice.sliceAdjust lo hi c its.toArray.size).2 c)).filterMap (fun (k : Nat) => its.toArray[((Builtin.Slice.sliceAdjust lo hi c its.toArray.size).1 + (k : Int) * c).toNat]?) = (stepIx xs.length lo hi c).filterMap (its[·]?) := by
    unfold stepIx
    rw [hlen, List.filterMap_map]
    exact congrFun (congrArg List.filterMap (funext fun i => by simp)) _
  refine ⟨"tuple", _, PyProof.Rows.slot_tuple_getitem.lookup, ht.typeIs, HT.getItem_tuple_step ht hs pl pu ps hc hc1 ?_ ?_⟩
  · rw [e, ← rp.length]; exact hsz
  · rw [e]
    exact Inv.newT I rp hsz q
def eSs (g : PyData → Option Int → Option Int → Int → Option W) (d : Fd) (o o' o'' : Fo) : Fe := fun ρ n => (d ρ n).bind fun p => (o ρ p.2).bind fun q => (o' ρ q.2).bind fun r => (o'' ρ r.2).bind fun s => s.1.bind fun c => (g p.1 q.1 r.1 c).map (·, s.2)
def dSs : PyData → Option Int → Option Int → Int → Option W
  | .list xs, lo, hi, c => if c ≠ 0 then some (.ol ((stepIxL xs.length lo hi c).filterMap (xs[·]?))) else none
  | .tuple xs, lo, hi, c => if c ≠ 0 ∧ c ≠ 1 ∧ ((stepIx xs.length lo hi c).filterMap (xs[·]?)).length ≤ big then some (.d (.tuple ((stepIx xs.length lo hi c).filterMap (xs[·]?)))) else none
  | _, _, _, _ => none
theorem ev_sliceS {lo hi : Option Expr} {st : Expr} {o o' o'' : Fo} (ha : EvB X a d) (hl : EvO X lo o) (hu : EvO X hi o') (hst : EvO X (some st) o'') : EvE X (.Subscript a (.Slice lo hi (some st) p2) pos) (eSs dSs d o o' o'') := by
  obtain ⟨t, p1, w1⟩ := hl.ex
  obtain ⟨t', p1', w1'⟩ := hu.ex
  obtain ⟨t'', p1'', w1''⟩ := hst.ex
  have hr : SsR X (fun x lo hi c H Q => rSsL X.K x lo hi c H Q ∨ rSsT X.K x lo hi c H Q) := fun pins s σ H x v vl vu vs lo hi c sl Q I rx hs pl pu ps q => q.elim (ss_list pins s σ H x v vl vu vs lo hi c sl Q I rx hs pl pu ps) (ss_tup pins s σ H x v vl vu vs lo hi c sl Q I rx hs pl pu ps)
  refine peI (pe_sliceS hr ha p1 p1' p1'') ?_
  rintro σ H Q ⟨C, O, ρ, n, w, n', hf, E, q⟩
  unfold eSs at hf
  obtain ⟨⟨x, n1⟩, e1, hf⟩ := Option.bind_eq_some_iff.mp hf
  obtain ⟨⟨i, n2⟩, e2, hf⟩ := Option.bind_eq_some_iff.mp hf
  obtain ⟨⟨j, n3⟩, e3, hf⟩ := Option.bind_eq_some_iff.mp hf
  obtain ⟨⟨k, n4⟩, e3', hf⟩ := Option.bind_eq_some_iff.mp hf
  obtain ⟨c, e3'', hf⟩ := Option.bind_eq_some_iff.mp hf
  obtain ⟨z, e4, hf⟩ := Option.map_eq_some_iff.mp hf
  cases hf
  refine ⟨C, O, ρ, n, x, _, e1, E, fun v H1 s1 t1 r1 => ?_⟩
  have E1 := E.step s1 t1
  refine w1 σ H1 _ ⟨C, O, ρ, n1, i, n2, e2, E1, fun H2 s2 t2 => ?_⟩
  have E2 := E1.step s2 t2
  refine w1' σ H2 _ ⟨C, O, ρ, n2, j, _, e3, E2, fun H3 s3 t3 => ?_⟩
  have E3 := E2.step s3 t3
  refine w1'' σ H3 _ ⟨C, O, ρ, n3, k, _, e3', E3, fun H4 s4 t4 => ⟨c, e3'', ?_⟩⟩
  have E4 := E3.step s4 t4
  have S4 := ((s1.trans s2).trans s3).trans s4
  have r4 := ((r1.step s2 Av.t).step s3 Av.t).step s4 Av.t
  cases x with
  | list xs =>
    simp only [dSs] at e4
    split at e4
    · rename_i hc
      cases e4
      obtain ⟨a, vs, rfl, h1, h2⟩ := r4.lst
      refine .inl ⟨a, vs, rfl, h1, hc, fun p hp => q _ _ (S4.trans (Grow.upd hp).step) ((Grow.upd hp).town t4) ((new_lst hp ?_).back S4.fr)⟩
      rw [h2.length]; exact h2.pick _
    · cases e4
  | tuple xs =>
    simp only [dSs] at e4
    split at e4
    · rename_i hc
      cases e4
      obtain ⟨a, vs, rfl, h1, h2, h3⟩ := r4.tup
      have hp := h2.pick (stepIx xs.length i j c)
      refine .inr ⟨a, vs, rfl, h1, hc.1, hc.2.1, ?_, fun p o ho hpn => ?_⟩
      · rw [h2.length, hp.length, big_eq]; exact hc.2.2
      · refine q _ _ (S4.trans (Grow.upd hpn).step) ((Grow.upd hpn).town t4) (new_tup hpn E4.av ho ?_)
        rw [h2.length]; exact hp
    · cases e4
  | _ => cases e4
/-! x.count(k), ints -/
def gCount (x : PyData) (ys : List PyData) : Option W := match x, ys with
  | .list xs, [.int k] => (intsOf xs).map fun ns => .d (.int (ns.count k : Nat))
  | _, _ => none
theorem mv_lcount : MtV X "list.count" gCount := ⟨_, mt_lcount, fun A T x vs dx xs w H Q tr rx rxs e q => by
  unfold gCount at e
  split at e
  · rename_i zs k
    obtain ⟨ns, h2, e⟩ := Option.map_eq_some_iff.mp e
    cases e
    obtain ⟨v, rfl, r⟩ := rxs.one
    obtain ⟨a, us, rfl, k1, k2⟩ := rx.lst
    rw [intsOf_ok h2] at k2
    rw [k2.ints] at k1
    exact ⟨a, ns, k, rfl, by rw [r.int], k1, q _ _ Grow.refl (.int _)⟩
  · cases e⟩
def gCountT (x : PyData) (ys : List PyData) : Option W := match x, ys with
  | .tuple xs, [.int k] => (intsOf xs).map fun ns => .d (.int (ns.count k : Nat))
  | _, _ => none
theorem mv_tcount : MtV X "tuple.count" gCountT := by
  refine ⟨fun x xs H Q => ∃ (p : Addr) (ns : List Int) (k : Int), x = .ref p ∧ xs = [.int k] ∧ SqT X.K H p (ns.map V.int) ∧ Q (.int (ns.count k : Nat)) H, ?_, ?_⟩
  · rintro pins s σ H x xs v us Q I rx rxs ⟨p, ns, k, rfl, rfl, hs, q⟩
    have hv : v = .ref p := rx
    subst hv
    obtain ⟨u, rfl, t, rfl⟩ := rxs.one
    obtain ⟨its, rv, pl, hz⟩ := I.tuple hs
    obtain ⟨⟨cls, dd, data, sl⟩, ho, hc, n, hd⟩ := id pl
    simp only at hc hd
    subst hc hd
    have hi := ints_of_vals rv
    refine call_meets PySem.F.slot_tuple_count ⟨_, ho, rfl⟩ PySem.F.entry_tuple_count (PySem.F.args_tuple_count_2 _ _)
      (SeqAt.tuple_countAt p its.toArray n dd sl (.int k t) (eqk k)) ⟨ho, fun y hy => (eqk_gives hi y (by simpa using hy)).at _ _, ?_⟩
    have ec : its.toArray.toList.countP (eqk k) = ns.count k := eqk_count hi
    refine ⟨.int (ns.count k : Nat), H, I.tok _, ⟨s.toks, ?_⟩, q⟩
    show Value.int ((its.toArray.toList.countP (eqk k) : Nat) : Int) s.toks = Value.int ((ns.count k : Nat) : Int) s.toks
    rw [ec]
  · intro A T x vs dx xs w H Q tr rx rxs e q
    unfold gCountT at e
    split at e
    · rename_i zs k
      obtain ⟨ns, h2, e⟩ := Option.map_eq_some_iff.mp e
      cases e
      obtain ⟨v, rfl, r⟩ := rxs.one
      obtain ⟨a, us, rfl, k1, k2, _⟩ := rx.tup
      rw [intsOf_ok h2] at k2
      rw [k2.ints] at k1
      exact ⟨a, ns, k, rfl, by rw [r.int], k1, q _ _ Grow.refl (.int _)⟩
    · cases e
end
end L2.Lv
namespace L2.Lv
open PySem PySem.Spec PyProof.Rows
section
variable {X : Cx} {e a b c : Expr} {es : List Expr} {f fa fb fc : Fe} {d da db : Fd} {fs : Fa} {ds : Fds} {pos : Pos} {st : Stmt} {rest sts sts' : List Stmt} {g h : Fs}
/-! x.insert(k, e) -/
theorem ss_insert {i : Nat} {p2 p3 : Pos} (hb : PE X b (tVar i)) (hk : EvB X a d) (ha : EvE X e f) (hbase : attributeBase b "insert" X.env (eval b X.env) = eval b X.env := by rfl)
    (hfew : ((backTo p3 (starEach [a, e] X.env)).all (fun x => !x.1) && (backToKw p3 (keywordEach [] X.env)).all (fun x => x.1.isSome)
      && decide ([a, e].length + ([] : List Keyword).length + (if ([] : List Keyword).isEmpty then 0 else 1) < 30)) = true := by rfl)
    (hline : (p2.endLine == p3.line) = true := by rfl) (hs : starEach [a, e] X.env = (false, eval a X.env) :: starEach [e] X.env := by rfl) (hs2 : starEach [e] X.env = (false, eval e X.env) :: starEach [] X.env := by rfl)
    (hpl : (backTo p3 (starEach [e] X.env)).any (·.1) = false := by rfl)
    (hsw : swapsWith (.Call (.Attribute b "insert" p2) [a, e] [] p3) none pos.line X.env = pure false := by rfl) :
    EvS X (.Expr (.Call (.Attribute b "insert" p2) [a, e] [] p3) pos) (sIns i d f) := psI (ps_expr (pe_bm PySem.F.plainAttrs_list PySem.F.slot_list_insert PySem.F.type_list_insert mt_insert hb (pa_cons hk (pa_cons ha pa_nil hs2) hs) hbase hfew hline hs hpl) hsw) (by
  rintro D σ H ⟨C, O, ρ, n, out, hf, E, np, q⟩
  unfold sIns at hf
  obtain ⟨⟨k, n1⟩, e1, hf1⟩ := Option.bind_eq_some_iff.mp hf
  obtain ⟨⟨w, n2⟩, e2, hf2⟩ := Option.bind_eq_some_iff.mp hf1
  obtain ⟨x, e3, hf3⟩ := Option.bind_eq_some_iff.mp hf2
  clear hf hf1 hf2
  have hf := hf3
  clear hf3
  simp only at hf
  split at hf
  · rename_i z xs hx
    split at hf
    · rename_i hz
      cases hf
      obtain ⟨l, vs, h1, h2, h3, h4⟩ := E.sl _ _ hx
      refine ⟨_, h2, .inl ⟨rfl, vs, SqL.of h3⟩, C, O, ρ, n, _, n1, e1, E, fun u H1 s t r => ?_⟩
      have E1 := E.step s t
      refine ⟨C, O, ρ, n1, w, n2, e2, E1, fun v H2 s2 t2 r2 => ?_⟩
      have E2 := E1.step s2 t2
      have h3' : H2 l = some (.lst vs) := s2.st _ _ (s.st _ _ h3 (E.own i l h1).1) (E.own i l h1).1
      have r' : Dv (Av C O) X.K H2 v x := (r2.frz E1.av).val e3
      have hbz : xs.length < sizeLine := by rw [big_eq]; exact hz.1
      refine ⟨l, vs, z, v, rfl, by rw [r.int], h3', by rw [h4.length]; exact hbz, hz.2.1, ?_, ?_⟩
      · have : big < 2 ^ 63 := by decide
        have := hz.1
        have := hz.2.2
        have : ((2 : Int) ^ 63) = 9223372036854775808 := by decide
        have : ((2 : Nat) ^ 63) = 9223372036854775808 := by decide
        omega
      · have hav : Av C O l := .inr (.inr ⟨i, h1⟩)
        have h5 := (h4.mono (s.keep Av.t)).mono (s2.keep Av.t)
        obtain ⟨E3, s3⟩ := E2.write (o := .lst (vs.take z.toNat ++ [v] ++ vs.drop z.toNat)) (w' := .ol (xs.take z.toNat ++ x :: xs.drop z.toNat)) h1 ⟨l, _, rfl, h2, upd_same, by
          have := ((h5.take z.toNat).append (.cons r' (h5.drop z.toNat))).mono (keep_upd hav (o := .lst (vs.take z.toNat ++ [v] ++ vs.drop z.toNat)))
          rw [List.append_assoc]
          simpa using this⟩
        exact q O σ _ ((s.trans s2).stepS0.trans s3) E3
    · cases hf
  · cases hf)
/-! is True, is not True -/
def dIsB : PyData → PyData → Option W
  | .bool x, .bool y => some (.d (.bool (decide (x = y))))
  | _, _ => none
def dNotB : PyData → PyData → Option W
  | .bool x, .bool y => some (.d (.bool (!decide (x = y))))
  | _, _ => none
theorem ov_isB : OpV X (compareOp .Is) dIsB := ⟨_, op_isBl, fun A T x y dx dy w H Q tr rx ry e q => by
  unfold dIsB at e
  split at e
  · cases e
    exact ⟨_, _, rx.bl, ry.bl, q _ _ Grow.refl (.bl _)⟩
  · cases e⟩
theorem ov_notB : OpV X (compareOp .IsNot) dNotB := ⟨_, op_notBl, fun A T x y dx dy w H Q tr rx ry e q => by
  unfold dNotB at e
  split at e
  · cases e
    exact ⟨_, _, rx.bl, ry.bl, q _ _ Grow.refl (.bl _)⟩
  · cases e⟩
/-! a, b, c = x, y, z -/
def sPar3 (i j l : Nat) (fs : Fa) : Fs := fun ρ n => (fs ρ n).bind fun p => match p.1 with
  | [w, w', w''] => some (.nx (((ρ.set i w).set j w').set l w'') p.2)
  | _ => none
theorem ss_par3 {i j l : Nat} {x y z : Str} {px py pz pt : Pos} {kt k2 pt2} (hc : X.calm = true) (hN : X.N.Nodup) (hi : X.N[i]? = some x) (hj : X.N[j]? = some y) (hl : X.N[l]? = some z) (hij : i ≠ j) (hil : i ≠ l) (hjl : j ≠ l)
    (hx : X.env.scope.names.lookup x = some .local) (hy : X.env.scope.names.lookup y = some .local) (hz : X.env.scope.names.lookup z = some .local) (ha : EvA X [a, b, c] fs)
    (hw : swappedStores [.Tuple [.Name x px, .Name y py, .Name z pz] kt pt] (.Tuple [a, b, c] k2 pt2) X.env = pure (some [x, y, z]))
    (hs : swapsWithSole [.Tuple [.Name x px, .Name y py, .Name z pz] kt pt] (.Tuple [a, b, c] k2 pt2) pos.line X.env = pure false := by rfl) :
    EvS X (.Assign [.Tuple [.Name x px, .Name y py, .Name z pz] kt pt] (.Tuple [a, b, c] k2 pt2) pos) (sPar3 i j l fs) := psI (ps_par3 hc hN hi hj hl hij hil hjl hx hy hz ha.pa hw hs) (by
  rintro D σ H ⟨C, O, ρ, n, out, hf, E, np, q⟩
  unfold sPar3 at hf
  obtain ⟨⟨ws, n1⟩, e1, hf⟩ := Option.bind_eq_some_iff.mp hf
  simp only at hf
  split at hf
  · rename_i w w' w''
    cases hf
    refine ⟨C, O, ρ, n, _, n1, e1, E, fun vs H1 s t r => ?_⟩
    cases r with
    | cons r1 r2 =>
      cases r2 with
      | cons r2 r3 =>
        cases r3 with
        | cons r3 r4 =>
          cases r4
          rename_i v1 v2 v3
          have E1 := E.step s t
          have toR : ∀ {v : V} {w : W} {O' : Ow}, ArgOk (Av C O') C.T X.K H1 v w → Res (Av C O') C.T X.K H1 H1 v w := fun {v w O'} z => by
            cases w with
            | d x => exact z
            | town => exact z
            | no => exact z
            | ol _ => exact False.elim z
            | od _ => exact False.elim z
          have kp : ∀ {v : V} {w : W} {O' O'' : Ow}, StepS C O' O'' H1 H1 → ArgOk (Av C O') C.T X.K H1 v w → ArgOk (Av C O'') C.T X.K H1 v w := fun {v w O' O''} s z => by
            cases w with
            | d x => exact Dv.mono s.keep z
            | town => exact z
            | no => exact z
            | ol _ => exact z
            | od _ => exact z
          obtain ⟨O2, E2, s2⟩ := E1.assign (i := i) (n' := n1) (H1 := H1) Step.refl E1.town (toR r1)
          obtain ⟨O3, E3, s3⟩ := E2.assign (i := j) (n' := n1) (H1 := H1) Step.refl E2.town (toR (kp s2 r2))
          obtain ⟨O4, E4, s4⟩ := E3.assign (i := l) (n' := n1) (H1 := H1) Step.refl E3.town (toR (kp s3 (kp s2 r3)))
          exact ⟨_, _, _, rfl, q O4 _ H1 (((s.stepS0.trans s2).trans s3).trans s4) E4⟩
  · cases hf)
/-! an expression that takes an item out of a list of ours -/
abbrev Fx := List W → Nat → Option (PyData × List W × Nat)
def tVX (K : PySem.W.Frag) (f : Fx) : TE := fun σ H Q => ∃ C O ρ n x ρ' n', f ρ n = some (x, ρ', n') ∧ EnvOk C O K σ H ρ n ∧ OwnP C O ∧ ∀ v H', StepS C O O H H' → EnvOk C O K σ H' ρ' n' → Dv (Av C O) K H' v x → Q v H'
abbrev EvX (X : Cx) (e : Expr) (f : Fx) : Prop := PE X e (tVX X.K f)
def xPop (i : Nat) (d : Fd) : Fx := fun ρ n => (d ρ n).bind fun k => match k.1, ρ[i]? with
  | .int z, some (.ol xs) => if xs.length ≤ big then (ixN xs.length z).bind fun j => (xs[j]?).map fun x => (x, ρ.set i (.ol (xs.eraseIdx j)), k.2) else none
  | _, _ => none
theorem ex_pop {i : Nat} {p2 p3 : Pos} (hb : PE X b (tVar i)) (hk : EvB X a d) (hbase : attributeBase b "pop" X.env (eval b X.env) = eval b X.env := by rfl)
    (hfew : ((backTo p3 (starEach [a] X.env)).all (fun x => !x.1) && (backToKw p3 (keywordEach [] X.env)).all (fun x => x.1.isSome)
      && decide ([a].length + ([] : List Keyword).length + (if ([] : List Keyword).isEmpty then 0 else 1) < 30)) = true := by rfl)
    (hline : (p2.endLine == p3.line) = true := by rfl) (hs : starEach [a] X.env = (false, eval a X.env) :: starEach [] X.env := by rfl) :
    EvX X (.Call (.Attribute b "pop" p2) [a] [] p3) (xPop i d) := peI (pe_bm PySem.F.plainAttrs_list PySem.F.slot_list_pop PySem.F.type_list_pop mt_popAt hb (pa_cons hk pa_nil hs) hbase hfew hline hs rfl) (by
  rintro σ H Q ⟨C, O, ρ, n, x, ρ', n', hf, E, np, q⟩
  unfold xPop at hf
  obtain ⟨⟨k, n1⟩, e1, hf⟩ := Option.bind_eq_some_iff.mp hf
  simp only at hf
  split at hf
  · rename_i z xs hx
    split at hf
    · rename_i hz
      obtain ⟨j, e2, hf⟩ := Option.bind_eq_some_iff.mp hf
      obtain ⟨y, e3, hf⟩ := Option.map_eq_some_iff.mp hf
      cases hf
      obtain ⟨l, vs, h1, h2, h3, h4⟩ := E.sl _ _ hx
      refine ⟨_, h2, .inl ⟨rfl, vs, SqL.of h3⟩, C, O, ρ, n, _, _, e1, E, fun u H1 s t r => ?_⟩
      have E1 := E.step s t
      have h3' : H1 l = some (.lst vs) := s.st _ _ h3 (E.own i l h1).1
      have h5 := h4.mono (s.keep Av.t)
      obtain ⟨v, g1, g2⟩ := h5.get e3
      obtain ⟨k1, k2, k3, k4⟩ := ixN_seq e2
      have hbg : big = 16777216 := rfl
      have : ((2 : Int) ^ 63) = 9223372036854775808 := by decide
      refine ⟨l, vs, z, j, v, rfl, by rw [r.int], h3', by omega, by omega, by rw [h4.length]; exact k1, g1, ?_⟩
      have hav : Av C O l := .inr (.inr ⟨i, h1⟩)
      obtain ⟨E3, s3⟩ := E1.write (o := .lst (vs.eraseIdx j)) (w' := .ol (xs.eraseIdx j)) h1 ⟨l, _, rfl, h2, upd_same, (h5.eraseIdx j).mono (keep_upd hav)⟩
      exact q v _ (s.stepS0.trans s3) E3 (g2.mono s3.keep)
    · cases hf
  · cases hf)
def xTup1 (f : Fx) : Fx := fun ρ n => (f ρ n).map fun p => (.tuple [p.1], p.2.1, p.2.2)
theorem ex_tup1 {f : Fx} {x1} (h : EvX X e f) (hs : starEach [e] X.env = (false, eval e X.env) :: starEach [] X.env := by rfl) : EvX X (.Tuple [e] x1 pos) (xTup1 f) := peI (pe_tupF (pa_cons h pa_nil hs)) (by
  rintro σ H Q ⟨C, O, ρ, n, x, ρ', n', hf, E, np, q⟩
  obtain ⟨⟨y, ρ1, n1⟩, e1, e2⟩ := Option.map_eq_some_iff.mp hf
  cases e2
  refine ⟨C, O, ρ, n, y, _, _, e1, E, np, fun v H1 s E1 r => ⟨by show 1 ≤ sizeLine; rw [big_eq]; decide, fun p o ho hp => ?_⟩⟩
  have g : Step C H1 (upd H1 p (.frz o (.tup [v]))) := (Grow.upd hp).step
  exact q _ _ (s.trans g.stepS0) (E1.step g ((Grow.upd hp).town E1.town)) (new_tup hp E1.av ho (.cons r .nil)))
/-- a + (the taken one) -/
def xCat (fa : Fe) (f : Fx) : Fx := fun ρ n => (fa ρ n).bind fun p => p.1.val.bind fun x => (f ρ p.2).bind fun q => match dAdd x q.1 with
  | some (.d z) => some (z, q.2.1, q.2.2)
  | _ => none
theorem ex_cat {f : Fx} (ha : EvE X a fa) (hb : EvX X b f) : EvX X (.BinOp a .Add b pos) (xCat fa f) := by
  obtain ⟨r, h1, h2⟩ := ov_add (X := X)
  refine peI (pe_op h1 ha hb) ?_
  rintro σ H Q ⟨C, O, ρ, n, x, ρ', n', hf, E, np, q⟩
  unfold xCat at hf
  obtain ⟨⟨w, n1⟩, e1, hf⟩ := Option.bind_eq_some_iff.mp hf
  obtain ⟨y, e2, hf⟩ := Option.bind_eq_some_iff.mp hf
  obtain ⟨⟨z, ρ1, n2⟩, e3, hf⟩ := Option.bind_eq_some_iff.mp hf
  simp only at hf
  split at hf
  · rename_i u hu
    cases hf
    refine ⟨C, O, ρ, n, w, n1, e1, E, fun v H1 s1 t1 r1 => ?_⟩
    have E1 := E.step s1 t1
    have r1' : Dv (Av C O) X.K H1 v y := r1.val e2
    refine ⟨C, O, ρ, n1, z, _, _, e3, E1, np, fun v2 H2 s2 E2 r2 => ?_⟩
    refine h2 (Av C O) C.T v v2 y z _ H2 Q E2.av (.inl (r1'.mono s2.keep)) (.inl r2) hu fun v3 H3 g3 r3 => ?_
    exact q v3 H3 ((s1.stepS0.trans s2).trans g3.step.stepS0) (E2.step g3.step (g3.town E2.town)) r3
  · cases hf
def sSetX (i : Nat) (f : Fx) : Fs := fun ρ n => (f ρ n).map fun p => .nx (p.2.1.set i (.d p.1)) p.2.2
theorem ss_setX {f : Fx} {i : Nat} {x : Str} {pos' : Pos} (hN : X.N.Nodup) (hi : X.N[i]? = some x) (hx : Loc X.env.scope x) (ha : EvX X e f) (hs : swapsWith e (some (.Name x pos')) pos.line X.env = pure false := by rfl) (hf : X.fn x = true ∨ X.env.scope.names.lookup x = some .local := by first | exact .inl rfl | exact .inr rfl | assumption) :
    EvS X (.Assign [.Name x pos'] e pos) (sSetX i f) := psI (ps_set hN hi hx ha hs hf) (by
  rintro D σ H ⟨C, O, ρ, n, out, hf, E, np, q⟩
  obtain ⟨⟨y, ρ1, n1⟩, e1, e2⟩ := Option.map_eq_some_iff.mp hf
  cases e2
  refine ⟨C, O, ρ, n, y, ρ1, n1, e1, E, np, fun v H1 s E1 r => ?_⟩
  obtain ⟨O', E', s'⟩ := E1.assign (i := i) (w := .d y) (v := v) (n' := n1) (H1 := H1) Step.refl E1.town r
  exact q O' _ H1 (s.trans s') E')
/-- x.append(the taken one) -/
def sAppX (i : Nat) (f : Fx) : Fs := fun ρ n => match ρ[i]? with
  | some (.ol _) => (f ρ n).bind fun p => match p.2.1[i]? with
    | some (.ol xs) => if xs.length < big then some (.nx (p.2.1.set i (.ol (xs ++ [p.1]))) p.2.2) else none
    | _ => none
  | _ => none
theorem ss_appX {f : Fx} {i : Nat} {p2 p3 : Pos} (hb : PE X b (tVar i)) (ha : EvX X e f) (hbase : attributeBase b "append" X.env (eval b X.env) = eval b X.env := by rfl)
    (hfew : ((backTo p3 (starEach [e] X.env)).all (fun x => !x.1) && (backToKw p3 (keywordEach [] X.env)).all (fun x => x.1.isSome)
      && decide ([e].length + ([] : List Keyword).length + (if ([] : List Keyword).isEmpty then 0 else 1) < 30)) = true := by rfl)
    (hline : (p2.endLine == p3.line) = true := by rfl) (hs : starEach [e] X.env = (false, eval e X.env) :: starEach [] X.env := by rfl)
    (hsw : swapsWith (.Call (.Attribute b "append" p2) [e] [] p3) none pos.line X.env = pure false := by rfl) :
    EvS X (.Expr (.Call (.Attribute b "append" p2) [e] [] p3) pos) (sAppX i f) := psI (ps_expr (pe_bm PySem.F.plainAttrs_list PySem.F.slot_list_append PySem.F.type_list_append mt_append hb (pa_cons ha pa_nil hs) hbase hfew hline hs rfl) hsw) (by
  rintro D σ H ⟨C, O, ρ, n, out, hf, E, np, q⟩
  unfold sAppX at hf
  split at hf
  · rename_i ys hy
    obtain ⟨⟨x, ρ1, n1⟩, e1, hf⟩ := Option.bind_eq_some_iff.mp hf
    simp only at hf
    split at hf
    · rename_i xs hx
      split at hf
      · rename_i hz
        cases hf
        obtain ⟨l, vs, h1, h2, h3, h4⟩ := E.sl _ _ hy
        refine ⟨_, h2, .inl ⟨rfl, vs, SqL.of h3⟩, C, O, ρ, n, x, ρ1, n1, e1, E, np, fun v H1 s E1 r => ?_⟩
        obtain ⟨l', vs', k1, k2, k3, k4⟩ := E1.sl _ _ hx
        obtain rfl : l' = l := Option.some.inj (k1.symm.trans h1)
        refine ⟨l', vs', v, rfl, rfl, k3, by rw [k4.length, big_eq]; exact hz, ?_⟩
        have hav : Av C O l' := .inr (.inr ⟨i, h1⟩)
        obtain ⟨E2, s2⟩ := E1.write (o := .lst (vs' ++ [v])) (w' := .ol (xs ++ [x])) h1 ⟨l', vs' ++ [v], rfl, h2, upd_same, (k4.append (.cons r .nil)).mono (keep_upd hav)⟩
        exact q O σ _ (s.trans s2) E2
      · cases hf
    · cases hf
  · cases hf)
end
end L2.Lv
namespace L2.Lv
open PySem PySem.Spec PyProof.Rows
/-! a, b = x, y where they may be ours -/
theorem EnvOk.assignX {C : Cn} {O : Ow} {K : PySem.W.Frag} {σ : St} {H H1 : Hp} {ρ : List W} {n n' : Nat} {v : V} {w : W} {i : Nat} (E : EnvOk C O K σ H ρ n) (s : Step C H H1) (t : TownAt C H1 n') (r : Res (Av C O) C.T K H H1 v w) :
    ∃ O', EnvOk C O' K (σ.set i (some v)) H1 (ρ.set i w) n' ∧ StepS C O O' H H1 ∧ ∀ b, Av C O' b → Av C O b ∨ (v = .ref b ∧ H b = none ∧ H1 b ≠ none) := by
  have E1 := E.step s t
  by_cases hi : i < ρ.length
  · have hj : ∀ j w', (ρ.set i w)[j]? = some w' → (j = i ∧ w' = w) ∨ (j ≠ i ∧ ρ[j]? = some w') := fun j w' e => by
      by_cases h : j = i
      · subst h
        rw [List.getElem?_set_self hi] at e
        cases e
        exact .inl ⟨rfl, rfl⟩
      · rw [List.getElem?_set_ne (Ne.symm h)] at e
        exact .inr ⟨h, e⟩
    have hσ : i < σ.length := by rw [← E.len]; exact hi
    -- the address that is new, if any
    have key : ∀ o : Option Addr, (∀ a, o = some a → H a = none ∧ C.T ≠ some a ∧ H1 a ≠ none) → (∀ a, o = some a → v = .ref a) →
        SlOk (Av C (owSet O i o)) C.T K H1 (some (some v)) o w →
        ∃ O', EnvOk C O' K (σ.set i (some v)) H1 (ρ.set i w) n' ∧ StepS C O O' H H1 ∧ ∀ b, Av C O' b → Av C O b ∨ (v = .ref b ∧ H b = none ∧ H1 b ≠ none) := by
      intro o ho hvo hw
      have kp : Keep (Av C O) (Av C (owSet O i o)) H H1 := fun a u na r => by
        refine ⟨?_, s.st _ _ r (fun e => na (.inr (.inl e)))⟩
        rintro (z | z | ⟨j, z⟩)
        · exact na (.inl z)
        · exact na (.inr (.inl z))
        · by_cases h : j = i
          · rw [h, owSet_at] at z
            rw [(ho a z).1] at r; cases r
          · rw [owSet_of h] at z
            exact na (.inr (.inr ⟨j, z⟩))
      refine ⟨owSet O i o, ⟨by simpa using E.len, fun j w' e => ?_, fun j k a h1 h2 => ?_, fun j a h => ?_, t, E1.base, E1.ptr, E1.fr⟩, s.stepS fun j a h => ?_, fun b hb => ?_⟩
      · rcases hj j w' e with ⟨rfl, rfl⟩ | ⟨ne, e⟩
        · rw [List.getElem?_set_self hσ, owSet_at]
          exact hw
        · rw [List.getElem?_set_ne (Ne.symm ne), owSet_of ne]
          have q := E.sl j w' e
          cases w' with
          | no => trivial
          | d x => obtain ⟨u, h1, h2⟩ := q; exact ⟨u, h1, h2.mono kp⟩
          | town => exact q
          | ol xs =>
            obtain ⟨a, vs, h1, h2, h3, h4⟩ := q
            exact ⟨a, vs, h1, h2, s.st _ _ h3 (E.own j a h1).1, h4.mono kp⟩
          | od kvs =>
            obtain ⟨a, h1, h2, h3⟩ := q
            exact ⟨a, h1, h2, h3.mono kp fun o e => s.st _ _ e (E.own j a h1).1⟩
      · by_cases hj : j = i
        · rw [hj, owSet_at] at h1
          by_cases hk : k = i
          · rw [hj, hk]
          · rw [owSet_of hk] at h2
            exact absurd (ho a h1).1 (E.own k a h2).2.2
        · rw [owSet_of hj] at h1
          by_cases hk : k = i
          · rw [hk, owSet_at] at h2
            exact absurd (ho a h2).1 (E.own j a h1).2.2
          · rw [owSet_of hk] at h2
            exact E.inj j k a h1 h2
      · skip
        by_cases hj : j = i
        · rw [hj, owSet_at] at h
          exact ⟨(ho a h).2.1, E.fr a (ho a h).1, (ho a h).2.2⟩
        · rw [owSet_of hj] at h
          exact E1.own j a h
      · skip
        by_cases hj : j = i
        · rw [hj, owSet_at] at h
          exact .inr (ho a h).1
        · rw [owSet_of hj] at h
          exact .inl ⟨j, h⟩
      · rcases hb with z | z | ⟨j, z⟩
        · exact .inl (.inl z)
        · exact .inl (.inr (.inl z))
        · by_cases hj : j = i
          · rw [hj, owSet_at] at z
            exact .inr ⟨hvo b z, (ho b z).1, (ho b z).2.2⟩
          · rw [owSet_of hj] at z
            exact .inl (.inr (.inr ⟨j, z⟩))
    have avn : ∀ b, Av C (owSet O i none) b → Av C O b := by
      rintro b (z | z | ⟨j, z⟩)
      · exact .inl z
      · exact .inr (.inl z)
      · by_cases h : j = i
        · rw [h, owSet_at] at z; cases z
        · rw [owSet_of h] at z; exact .inr (.inr ⟨j, z⟩)
    have avs : ∀ a b, Av C (owSet O i (some a)) b → Av C O b ∨ b = a := by
      rintro a b (z | z | ⟨j, z⟩)
      · exact .inl (.inl z)
      · exact .inl (.inr (.inl z))
      · by_cases h : j = i
        · rw [h, owSet_at] at z; cases z; exact .inr rfl
        · rw [owSet_of h] at z; exact .inl (.inr (.inr ⟨j, z⟩))
    cases w with
    | no => exact False.elim r
    | d x => exact key none (fun a e => by cases e) (fun a e => by cases e) ⟨v, rfl, Dv.mono (fun a u na r => ⟨fun z => na (avn a z), r⟩) r⟩
    | town =>
      obtain ⟨a, h1, h2⟩ := r
      exact key none (fun a e => by cases e) (fun a e => by cases e) ⟨a, h1, by rw [h2]⟩
    | ol xs =>
      obtain ⟨a, vs, h1, h2, h3, h4⟩ := r
      subst h1
      exact key (some a) (fun b e => by cases e; exact ⟨h2, fun z => E.tr a z h2, by rw [h3]; simp⟩) (fun b e => by cases e; rfl) ⟨a, vs, rfl, rfl, h3, h4.mono fun b u nb r => ⟨fun z => nb (avs a b z), r⟩⟩
    | od kvs =>
      obtain ⟨a, h1, h2, h3⟩ := r
      subst h1
      exact key (some a) (fun b e => by cases e; exact ⟨h2, fun z => E.tr a z h2, h3.there⟩) (fun b e => by cases e; rfl) ⟨a, rfl, rfl, h3.mono (fun b u nb r => ⟨fun z => nb (avs a b z), r⟩) fun o e => e⟩
  · have e1 : ρ.set i w = ρ := List.set_eq_of_length_le (by omega)
    have e2 : σ.set i (some v) = σ := List.set_eq_of_length_le (by rw [← E.len]; omega)
    rw [e1, e2]
    exact ⟨O, E1, s.stepS0, fun b hb => .inl hb⟩
section
variable {X : Cx} {e a b : Expr} {es : List Expr} {f fa fb : Fe} {d da db : Fd} {fs : Fa} {ds : Fds} {pos : Pos} {st : Stmt} {rest sts sts' : List Stmt} {gs h : Fs}
def sParO (i j : Nat) (fa fb : Fe) : Fs := fun ρ n => (fa ρ n).bind fun p => (fb ρ p.2).bind fun q => some (.nx ((ρ.set i p.1).set j q.1) q.2)
theorem ss_parO {i j : Nat} {x y : Str} {px py pt : Pos} {kt k2 pt2} (hc : X.calm = true) (hN : X.N.Nodup) (hi : X.N[i]? = some x) (hj : X.N[j]? = some y) (hij : i ≠ j)
    (hx : X.env.scope.names.lookup x = some .local) (hy : X.env.scope.names.lookup y = some .local) (ha : EvE X a fa) (hb : EvE X b fb)
    (hw : swappedStores [.Tuple [.Name x px, .Name y py] kt pt] (.Tuple [a, b] k2 pt2) X.env = pure (some [x, y]))
    (hs1 : starEach [a, b] X.env = (false, eval a X.env) :: starEach [b] X.env := by rfl) (hs2 : starEach [b] X.env = (false, eval b X.env) :: starEach [] X.env := by rfl)
    (hs : swapsWithSole [.Tuple [.Name x px, .Name y py] kt pt] (.Tuple [a, b] k2 pt2) pos.line X.env = pure false := by rfl) :
    EvS X (.Assign [.Tuple [.Name x px, .Name y py] kt pt] (.Tuple [a, b] k2 pt2) pos) (sParO i j fa fb) := psI (ps_par hc hN hi hj hij hx hy (pa_cons ha (pa_cons hb pa_nil hs2) hs1) hw hs) (by
  rintro D σ H ⟨C, O, ρ, n, out, hf, E, np, q⟩
  unfold sParO at hf
  obtain ⟨⟨w1, n1⟩, e1, hf1⟩ := Option.bind_eq_some_iff.mp hf
  obtain ⟨⟨w2, n2⟩, e2, hf2⟩ := Option.bind_eq_some_iff.mp hf1
  cases hf2
  refine ⟨C, O, ρ, n, w1, n1, e1, E, fun v1 H1 s1 t1 r1 => ?_⟩
  have E1 := E.step s1 t1
  have fin : ∀ (C' : Cn) (H2 : Hp) (v2 : V), C'.T = C.T → Step C H1 H2 → TownAt C H2 n2 → (∀ b, Av C O b → Av C' O b) → (∀ b, v1 = .ref b → H b = none → H1 b ≠ none → Av C' O b) → Res (Av C' O) C.T X.K H1 H2 v2 w2 → D.nx ((σ.set i (some v1)).set j (some v2)) H2 := by
    intro C' H2 v2 hT s2 t2 h1 h2 r2
    obtain ⟨O2, E2, S2, A2⟩ := E.assignX (i := i) s1 t1 r1
    have r2' : Res (Av C O2) C.T X.K H1 H2 v2 w2 := r2.av fun b hb => (A2 b hb).elim (h1 b) fun z => h2 b z.1 z.2.1 z.2.2
    obtain ⟨O3, E3, S3⟩ := E2.assign (i := j) s2 t2 r2'
    exact q O3 _ H2 (S2.trans S3) E3
  cases hv : v1 with
  | ref a1 =>
    cases hH : H a1 with
    | some o =>
      refine ⟨C, O, ρ, n1, w2, n2, e2, E1, fun v2 H2 s2 t2 r2 => ?_⟩
      rw [← hv]
      exact ⟨v1, v2, rfl, fin C H2 v2 rfl s2 t2 (fun b z => z) (fun b z1 z2 _ => by rw [hv] at z1; cases z1; rw [hH] at z2; cases z2) r2⟩
    | none =>
      cases hH1 : H1 a1 with
      | none =>
        refine ⟨C, O, ρ, n1, w2, n2, e2, E1, fun v2 H2 s2 t2 r2 => ?_⟩
        rw [← hv]
        exact ⟨v1, v2, rfl, fin C H2 v2 rfl s2 t2 (fun b z => z) (fun b z1 _ z3 => by rw [hv] at z1; cases z1; exact absurd hH1 z3) r2⟩
      | some o =>
        have EB : EnvOk (blkC C O a1) O X.K σ H1 ρ n1 := E.blk (vs := []) hH s1 t1 (by rw [hH1]; simp)
        refine ⟨_, O, ρ, n1, w2, n2, e2, EB, fun v2 H2 s2 t2 r2 => ?_⟩
        rw [← hv]
        exact ⟨v1, v2, rfl, fin (blkC C O a1) H2 v2 rfl ⟨s2.st, s2.fr⟩ t2 (fun b z => blkC_av b (.inl z)) (fun b z1 z2 _ => blkC_av b (.inr (by rw [hv] at z1; cases z1; rfl))) r2⟩
  | _ =>
    refine ⟨C, O, ρ, n1, w2, n2, e2, E1, fun v2 H2 s2 t2 r2 => ?_⟩
    rw [← hv]
    exact ⟨v1, v2, rfl, fin C H2 v2 rfl s2 t2 (fun b z => z) (fun b z1 z2 _ => by rw [hv] at z1; cases z1) r2⟩)
end
end L2.Lv
namespace L2.Lv
open PySem PySem.Spec PyProof.Rows
/-! for p, q in enumerate(a list of ours): if test: y = e -/
def loopI (p q : Nat) (tst : Ft) (y : Nat) (fe : Fe) : List (Nat × PyData) → List W → Nat → Option (List W × Nat)
  | [], ρ, n => some (ρ, n)
  | x :: xs, ρ, n => (tst ((ρ.set p (.d (.int (x.1 : Nat)))).set q (.d x.2)) n).bind fun c => if c.1 then (fe ((ρ.set p (.d (.int (x.1 : Nat)))).set q (.d x.2)) c.2).bind fun w => w.1.val.bind fun z => loopI p q tst y fe xs (((ρ.set p (.d (.int (x.1 : Nat)))).set q (.d x.2)).set y (.d z)) w.2
      else loopI p q tst y fe xs ((ρ.set p (.d (.int (x.1 : Nat)))).set q (.d x.2)) c.2
def enumN (xs : List PyData) : List (Nat × PyData) := xs.mapIdx fun i x => (i, x)
def sForEI (i p q : Nat) (tst : Ft) (y : Nat) (fe : Fe) : Fs := fun ρ n => match ρ[i]? with
  | some (.ol xs) => (loopI p q tst y fe (enumN xs) ρ n).map fun r => .nx r.1 r.2
  | _ => none
section
variable {X : Cx} {e a b : Expr} {es : List Expr} {f fa fb fe : Fe} {d da db : Fd} {fs : Fa} {ds : Fds} {pos : Pos} {st : Stmt} {rest sts sts' : List Stmt} {gs h : Fs} {tst : Ft}
theorem setV2 {i p q : Nat} {vs : List V} {σ : St} (hp : i ≠ p) (hq : i ≠ q) : (setV [p, q] vs σ)[i]? = σ[i]? := by
  match vs with
  | [] => rfl
  | [v] => show (σ.set p (some v))[i]? = _; rw [List.getElem?_set_ne (Ne.symm hp)]
  | v :: u :: _ => show ((σ.set p (some v)).set q (some u))[i]? = _; rw [List.getElem?_set_ne (Ne.symm hq), List.getElem?_set_ne (Ne.symm hp)]
theorem ss_forEI {i p q y : Nat} {c : Expr} {tg : Expr} {p1 : Pos} {x : Str} {pos' pa pi p4 : Pos} {te : List Expr} {kk : Nat} {tpos : Pos} (hp : PassesOwn (model X.prog X.w) X.A X.env X.xe) (hc : X.calm = true)
    (hge : Gl X "enumerate") (hme : X.mg "enumerate" = none) (hb : PE X b (tVar i)) (hs1 : starEach [b] X.env = (false, eval b X.env) :: starEach [] X.env)
    (hg : EvG X true (.Tuple te kk tpos) [p, q] (gMany [p, q])) (ht : EvT X c tst)
    (hN : X.N.Nodup) (hi : X.N[y]? = some x) (hx : Loc X.env.scope x) (ha : EvE X e fe)
    (h1 : i ≠ p) (h2 : i ≠ q) (h3 : i ≠ y)
    (hsw : swapsWith e (some (.Name x pos')) pa.line X.env = pure false := by rfl) (hf : X.fn x = true ∨ X.env.scope.names.lookup x = some .local := by first | exact .inl rfl | exact .inr rfl | assumption)
    (hs : ∀ x, foldedSetIterable (.Call (.Name "enumerate" p1) [b] [] p4) X.env x = pure x := by intro _; rfl) :
    EvS X (.For (.Tuple te kk tpos) (.Call (.Name "enumerate" p1) [b] [] p4) [.If c [.Assign [.Name x pos'] e pa] [] pi] [] pos) (sForEI i p q tst y fe) :=
  psI (ps_for hp hc (pi_enumA hge hme hb hs1) hg (pss_one (ps_if ht (pss_one (ps_set hN hi hx ha hsw hf)) pss_nil)) hs) (by
  rintro D σ H ⟨C, O, ρ, n, out, hfn, E, np, Q⟩
  unfold sForEI at hfn
  split at hfn
  case h_2 => cases hfn
  rename_i xs hxs
  obtain ⟨⟨ρf, nf⟩, e1, e2⟩ := Option.map_eq_some_iff.mp hfn
  cases e2
  obtain ⟨l, vs, k1, k2, k3, k4⟩ := E.sl _ _ hxs
  refine ⟨_, k2, l, vs, rfl, .inl ⟨SqL.of k3, ?_⟩⟩
  have hen : (enumN xs).length = xs.length := by simp [enumN]
  refine ⟨fun j m σ' H' => ∃ O' ρ' n', m = xs.length - j ∧ j ≤ xs.length ∧ StepS C O O' H H' ∧ EnvOk C O' X.K σ' H' ρ' n' ∧ ρ'[i]? = some (.ol xs) ∧ σ'[i]? = some (some (.ref l)) ∧ loopI p q tst y fe ((enumN xs).drop j) ρ' n' = some (ρf, nf),
    ⟨_, O, ρ, n, rfl, Nat.zero_le _, Step.refl.stepS0, E, hxs, k2, e1⟩, ?_⟩
  rintro j m σ' H' ⟨O', ρ', n', rfl, hj, S', E', hx', hσ', hl⟩
  obtain ⟨l', vs', q1, q2, q3, q4⟩ := E'.sl _ _ hx'
  obtain rfl : l' = l := by rw [hσ'] at q2; cases q2; rfl
  have sq : SqL X.K H' l' vs' := SqL.of q3
  by_cases hlt : j < xs.length
  · obtain ⟨v, g1, g2⟩ := q4.get (List.getElem?_eq_getElem hlt)
    have hd : (enumN xs).drop j = (j, xs[j]) :: (enumN xs).drop (j + 1) := by
      rw [List.drop_eq_getElem_cons (by rw [hen]; exact hlt)]
      simp [enumN]
    rw [hd] at hl
    unfold loopI at hl
    obtain ⟨⟨c1, n1⟩, e3, hl⟩ := Option.bind_eq_some_iff.mp hl
    refine .inr ⟨⟨vs', v, sq, g1⟩, fun σ'' H'' => ∃ O'' ρ'' n'', StepS C O O'' H H'' ∧ EnvOk C O'' X.K σ'' H'' ρ'' n'' ∧ ρ''[i]? = some (.ol xs) ∧ σ''[i]? = some (some (.ref l')) ∧ loopI p q tst y fe ((enumN xs).drop (j + 1)) ρ'' n'' = some (ρf, nf), ?_, ?_⟩
    · rintro σ'' H'' ⟨O'', ρ'', n'', z1, z2, z3, z4, z5⟩
      exact ⟨xs.length - (j + 1), by omega, O'', ρ'', n'', rfl, hlt, z1, z2, z3, z4, z5⟩
    · rintro v' H2 ⟨T, z, rfl, hT, rfl, fz⟩
      have hz := fz vs' sq
      rw [g1] at hz
      cases hz
      have gr : Grow H' (upd H' T (.tup [.int (j : Nat), v])) := Grow.upd hT
      have E2 := E'.step gr.step (gr.town E'.town)
      have S2 : StepS C O O' H (upd H' T (.tup [.int (j : Nat), v])) := S'.trans gr.step.stepS0
      have rv : DvI true (Av C O') X.K (upd H' T (.tup [.int (j : Nat), v])) (.ref T) (.tuple [.int (j : Nat), xs[j]]) := pair_ok hT (.cons (.int _) (.cons g2 .nil))
      refine ⟨C, O', ρ', n', .tuple [.int (j : Nat), xs[j]], (ρ'.set p (.d (.int (j : Nat)))).set q (.d xs[j]), rfl, E2, rv, fun O3 ws s3 E3 => ?_⟩
      have hr1 : ((ρ'.set p (.d (.int (j : Nat)))).set q (.d xs[j]))[i]? = some (.ol xs) := by rw [List.getElem?_set_ne (Ne.symm h2), List.getElem?_set_ne (Ne.symm h1)]; exact hx'
      have hσ3 : (setV [p, q] ws σ')[i]? = some (some (.ref l')) := (setV2 h1 h2).trans hσ'
      refine ⟨C, O3, _, n', c1, n1, e3, E3, fun H4 s4 t4 => ?_⟩
      have E4 := E3.step s4 t4
      cases c1 with
      | false =>
        simp only [Bool.false_eq_true, if_false] at hl ⊢
        exact ⟨O3, _, n1, (S2.trans s3).trans s4.stepS0, E4, hr1, hσ3, hl⟩
      | true =>
        simp only [if_true] at hl ⊢
        obtain ⟨⟨w, n2⟩, e4, hl⟩ := Option.bind_eq_some_iff.mp hl
        obtain ⟨z, e5, hl⟩ := Option.bind_eq_some_iff.mp hl
        refine ⟨C, O3, _, n1, w, n2, e4, E4, fun u H5 s5 t5 r5 => ?_⟩
        obtain ⟨O6, E6, S6⟩ := E4.assign (i := y) (w := .d z) s5 t5 (r5.val e5)
        exact ⟨O6, _, n2, ((S2.trans s3).trans s4.stepS0).trans S6, E6, by rw [List.getElem?_set_ne (Ne.symm h3)]; exact hr1, by rw [List.getElem?_set_ne (Ne.symm h3)]; exact hσ3, hl⟩
  · obtain rfl : j = xs.length := by omega
    rw [List.drop_eq_nil_of_le (by rw [hen]; exact Nat.le_refl _)] at hl
    cases hl
    exact .inl ⟨⟨vs', sq, by rw [q4.length]; exact Nat.le_refl _⟩, Q O' σ' H' S' E'⟩)
end
end L2.Lv
namespace L2.Lv
open PySem PySem.Spec PyProof.Rows
/-! a for whose walked thing is forgotten -/
def sForK (ks : List Nat) (fi : Fi) (g : Fg) (body : Fs) : Fs := fun ρ n => (fi ρ n).bind fun p => loopF g body p.1 (wipeW ρ ks) p.2
section
variable {X : Cx} {e a b : Expr} {es : List Expr} {f fa fb : Fe} {d da db : Fd} {fs : Fa} {ds : Fds} {pos : Pos} {st : Stmt} {rest sts sts' : List Stmt} {gs h : Fs}
theorem ss_forK (ks : List Nat) {p : Bool} {tg : Expr} {fi : Fi} {is : List Nat} {g : Fg} {body : Fs} (hp : PassesOwn (model X.prog X.w) X.A X.env X.xe) (hc : X.calm = true) (hi : EvI X p tg e fi) (hg : EvG X p tg is g) (hb : EvSs X sts body)
    (hs : ∀ x, foldedSetIterable e X.env x = pure x := by intro _; rfl) : EvS X (.For tg e sts [] pos) (sForK ks fi g body) := psI (ps_for hp hc hi hg hb hs) (by
  rintro D σ H ⟨C, O, ρ, n, out, hf, E, np, q⟩
  unfold sForK at hf
  obtain ⟨⟨xs, n1⟩, e1, hf⟩ := Option.bind_eq_some_iff.mp hf
  refine ⟨C, O, ρ, n, xs, n1, e1, E, fun J H1 s t it => ?_⟩
  refine ⟨fun i m σ' H' => ∃ O' ρ' n', m = xs.length - i ∧ i ≤ xs.length ∧ StepS C O O' H1 H' ∧ EnvOk C O' X.K σ' H' ρ' n' ∧ loopF g body (xs.drop i) ρ' n' = some out,
    ⟨_, O, wipeW ρ ks, n1, rfl, Nat.zero_le _, Step.refl.stepS0, (E.step s t).wipe ks, hf⟩, ?_⟩
  rintro i m σ' H' ⟨O', ρ', n', rfl, hi, S', E', hl⟩
  obtain ⟨items, stop⟩ := it H' (fun a o e na => S'.st a o e (fun z => na (.inr (.inl z))) fun j z => na (.inr (.inr ⟨j, z⟩))) S'.fr
  by_cases hlt : i < xs.length
  · obtain ⟨go, yl⟩ := items i xs[i] (List.getElem?_eq_getElem hlt)
    rw [List.drop_eq_getElem_cons hlt] at hl
    unfold loopF at hl
    obtain ⟨ρ1, e2, hl⟩ := Option.bind_eq_some_iff.mp hl
    obtain ⟨o, e3, hl⟩ := Option.bind_eq_some_iff.mp hl
    refine .inr ⟨go, fun σ'' H'' => ∃ O'' ρ'' n'', StepS C O O'' H1 H'' ∧ EnvOk C O'' X.K σ'' H'' ρ'' n'' ∧ loopF g body (xs.drop (i + 1)) ρ'' n'' = some out, ?_, fun v H2 y => ?_⟩
    · rintro σ'' H'' ⟨O'', ρ'', n'', S'', E'', hl''⟩
      exact ⟨xs.length - (i + 1), by omega, O'', ρ'', n'', rfl, hlt, S'', E'', hl''⟩
    · obtain ⟨gr, it2⟩ := yl v H2 y
      have r := it2 (Av C O') S'.keep E'.av
      have E2 := E'.step gr.step (gr.town E'.town)
      have S2 : StepS C O O' H1 H2 := S'.trans gr.step.stepS0
      refine ⟨C, O', ρ', n', xs[i], ρ1, e2, E2, r, fun O3 vs s3 E3 => ⟨C, O3, ρ1, n', o, e3, E3, np.step E (s.stepS0.trans (S2.trans s3)), ?_⟩⟩
      cases o with
      | nx ρ4 n4 => exact fun O4 σ4 H4 s4 E4 => ⟨O4, ρ4, n4, (S2.trans s3).trans s4, E4, hl⟩
      | bk ρ4 n4 =>
        cases hl
        exact fun O4 σ4 H4 s4 E4 => q O4 σ4 H4 (s.stepS0.trans ((S2.trans s3).trans s4)) E4
      | rt w n4 =>
        cases hl
        exact q
  · have hie : i = xs.length := by omega
    subst hie
    rw [List.drop_length] at hl
    cases hl
    exact .inl ⟨stop, q O' σ' H' (s.stepS0.trans S') E'⟩)
end
end L2.Lv
namespace L2.Lv.Sh
open PySem PySem.Spec PyProof.Rows L2 L2.Lv
def b_is_whole : Fs :=
    (sRet (eAnd (eIsa "int" (dVar 0)) (eAnd (eNotD (dOf (eIsa "bool" (dVar 0)))) (eChain (dCmp rLe zLe) (dCmp rLe zLe) (dVar 1) (dVar 0) (dVar 2)))))
def m_is_whole : Fn := runB 3 b_is_whole
def b_is_thing : Fs :=
    (sRet (eAnd (eIsa "tuple" (dVar 0)) (eAnd (eBin dEq (dOf (eApp gLen (sCons (dVar 0) sNil))) (dOf (eC (.int 3)))) (eApp gAll (sCons (dOf (eComp (iOf (dVar 0)) (gOne 1) [1] bYes (eCall m_is_whole (aCons (eVar 1) (aCons (eC (.int 0)) (aCons (eC (.int 5)) aNil)))))) sNil)))))
def m_is_thing : Fn := runB 2 b_is_thing
def b__law_same (m : Fn) : Fs :=
    (sSeq (sIf (bTest (eBin dIsN (dVar 1) (dOf (eC .none))))
    (sRet (eBin dIsN (dVar 0) (dOf (eC .none))))
    sNil')
    (sSeq (sIf (bTru (dOf (eIsa "bool" (dVar 1))))
    (sRet (eAnd (eIsa "bool" (dVar 0)) (eBin dEq (dVar 0) (dVar 1))))
    sNil')
    (sSeq (sIf (bTru (dOf (eIsa "tuple" (dVar 1))))
    (sSeq (sIf (bOr (bNot (bTru (dOf (eIsa "tuple" (dVar 0))))) (bTest (eBin dNe (dOf (eApp gLen (sCons (dVar 0) sNil))) (dOf (eApp gLen (sCons (dVar 1) sNil))))))
    (sRet (eC (.bool false)))
    sNil')
    (sRet (eApp gAll (sCons (dOf (eComp (iZipV (dVar 0) (dVar 1)) (gMany [2, 3]) [2, 3] bYes (eCall m (aCons (eVar 2) (aCons (eVar 3) aNil))))) sNil))))
    sNil')
    (sSeq (sIf (bTru (dOf (eIsa "str" (dVar 1))))
    (sRet (eAnd (eIsa "str" (dVar 0)) (eBin dEq (dVar 0) (dVar 1))))
    sNil')
    (sRet (eAnd (eIsa "int" (dVar 0)) (eAnd (eNotD (dOf (eIsa "bool" (dVar 0)))) (eBin dEq (dVar 0) (dVar 1)))))))))
def m__law_same_ : Nat → Fn
  | 0 => fun _ _ => none
  | k + 1 => runB 4 (b__law_same (m__law_same_ k))
def m__law_same : Fn := m__law_same_ 12
def b__law_draw : Fs :=
    (sSeq (sTown 1)
    (sSeq (sSet 3 (eTLen 1))
    (sSeq (sSet 4 (eC (.int 0)))
    (sSeq (sIf (bTru (dVar 0))
    (sSet 4 (eBin dIx (dVar 0) (dOf (eBin dMod (dVar 3) (dOf (eApp gLen (sCons (dVar 0) sNil)))))))
    sNil')
    (sSeq (sSet 5 (eBin dMod (dOf (eBin dAdd (dVar 4) (dOf (eBin dMul (dOf (eC (.int 104729))) (dVar 3))))) (dOf (eC (.int 4294967291)))))
    (sSeq (sSet 5 (eBin dMod (dOf (eBin dMul (dOf (eBin dMod (dOf (eBin dMul (dVar 5) (dVar 5))) (dOf (eC (.int 4294967279))))) (dOf (eC (.int 48271))))) (dOf (eC (.int 4294967291)))))
    (sRet (eBin dMod (dOf (eBin dDiv (dVar 5) (dOf (eC (.int 64))))) (dVar 2)))))))))
def m__law_draw : Fn := runB 6 b__law_draw
def b__law_pick : Fs :=
    (sRet (eBin dIx (dVar 2) (dOf (eCall m__law_draw (aCons (eVar 0) (aCons (eVar 1) (aCons (eApp gLen (sCons (dVar 2) sNil)) aNil)))))))
def m__law_pick : Fn := runB 3 b__law_pick
def l__law_plain_1 : Fs :=
    (sSeq (sSet 6 (eCall m__law_draw (aCons (eVar 0) (aCons (eVar 1) (aCons (eC (.int 6)) aNil)))))
    (sIf (bTest (eBin dNotIn (dVar 6) (dVar 4)))
    (sSet 4 (eFrz (eBin dAdd (dVar 4) (dOf (eTup (aCons (eVar 6) aNil))))))
    sNil'))
def b__law_plain : Fs :=
    (sSeq (sSet 2 (eCall m__law_draw (aCons (eVar 0) (aCons (eVar 1) (aCons (eC (.int 9)) aNil)))))
    (sSeq (sSet 3 (eCall m__law_draw (aCons (eVar 0) (aCons (eVar 1) (aCons (eC (.int 3)) aNil)))))
    (sSeq (sIf (bTest (eBin (dCmp rLt zLt) (dVar 2) (dOf (eC (.int 2)))))
    (sRet (eTup (aCons (eC (.str "up")) (aCons (eVar 3) aNil))))
    sNil')
    (sSeq (sIf (bTest (eBin (dCmp rLt zLt) (dVar 2) (dOf (eC (.int 4)))))
    (sRet (eTup (aCons (eBin dIx (dOf (eLst (aCons (eC (.str "part")) (aCons (eC (.str "rest")) aNil)))) (dOf (eBin dSub (dVar 2) (dOf (eC (.int 2)))))) (aCons (eVar 3) (aCons (eBin dAdd (dOf (eC (.int 2))) (dOf (eCall m__law_draw (aCons (eVar 0) (aCons (eVar 1) (aCons (eC (.int 2)) aNil)))))) aNil)))))
    sNil')
    (sSeq (sIf (bTest (eBin (dCmp rLt zLt) (dVar 2) (dOf (eC (.int 6)))))
    (sSeq (sSet 4 (eTup aNil))
    (sSeq (sFor (iRng1 (dOf (eBin dAdd (dOf (eC (.int 1))) (dOf (eCall m__law_draw (aCons (eVar 0) (aCons (eVar 1) (aCons (eC (.int 4)) aNil)))))))) (gOne 5)
    l__law_plain_1)
    (sRet (eIf (bTest (eBin dEq (dVar 2) (dOf (eC (.int 4))))) (eTup (aCons (eC (.str "table")) (aCons (eVar 3) (aCons (eVar 4) aNil)))) (eTup (aCons (eC (.str "among")) (aCons (eVar 3) (aCons (eApp gTup (sCons (dOf (eApp gSorted (sCons (dVar 4) sNil))) sNil)) aNil))))))))
    sNil')
    (sSeq (sSet 7 (eFrz (eCall m__law_pick (aCons (eVar 0) (aCons (eVar 1) (aCons (eLst (aCons (eTup (aCons (eC (.int 0)) (aCons (eC (.int 1)) aNil))) (aCons (eTup (aCons (eC (.int 0)) (aCons (eC (.int 2)) aNil))) (aCons (eTup (aCons (eC (.int 1)) (aCons (eC (.int 2)) aNil))) aNil)))) aNil))))))
    (sRet (eBin dAdd (dOf (eTup (aCons (eBin dIx (dOf (eLst (aCons (eC (.str "sum")) (aCons (eC (.str "gap")) (aCons (eC (.str "most")) aNil))))) (dOf (eBin dSub (dVar 2) (dOf (eC (.int 6)))))) aNil))) (dVar 7)))))))))
def m__law_plain : Fn := runB 8 b__law_plain
def b__law_key : Fs :=
    (sSeq (sSet 2 (eFrz (eCall m__law_plain (aCons (eVar 0) (aCons (eVar 1) aNil)))))
    (sRet (eIf (bTest (eBin dEq (dOf (eCall m__law_draw (aCons (eVar 0) (aCons (eVar 1) (aCons (eC (.int 3)) aNil))))) (dOf (eC (.int 0))))) (eTup (aCons (eC (.str "down")) (aCons (eVar 2) aNil))) (eVar 2))))
def m__law_key : Fn := runB 3 b__law_key
def b__law_keys : Fs :=
    (sRet (eApp gTup (sCons (dOf (eComp (iRng1 (dOf (eCall m__law_draw (aCons (eVar 0) (aCons (eVar 1) (aCons (eBin dAdd (dVar 2) (dOf (eC (.int 1)))) aNil)))))) (gOne 3) [3] bYes (eCall m__law_key (aCons (eVar 0) (aCons (eVar 1) aNil))))) sNil)))
def m__law_keys : Fn := runB 4 b__law_keys
def b__law_thing : Fs :=
    (sRet (eTup (aCons (eCall m__law_draw (aCons (eVar 0) (aCons (eVar 1) (aCons (eC (.int 6)) aNil)))) (aCons (eCall m__law_draw (aCons (eVar 0) (aCons (eVar 1) (aCons (eC (.int 6)) aNil)))) (aCons (eCall m__law_draw (aCons (eVar 0) (aCons (eVar 1) (aCons (eC (.int 6)) aNil)))) aNil)))))
def m__law_thing : Fn := runB 2 b__law_thing
def b__law_whole : Fs :=
    (sRet (eAnd (eIsa "int" (dVar 0)) (eAnd (eNotD (dOf (eIsa "bool" (dVar 0)))) (eChain (dCmp rLe zLe) (dCmp rLe zLe) (dVar 1) (dVar 0) (dVar 2)))))
def m__law_whole : Fn := runB 3 b__law_whole
-- l__law_is_plain_1: head 0:_law_thing_here 1:_law_seen of 3
def l__law_is_plain_1 : Fs :=
    (sSeq (sIf (bOr (bNot (bTru (dOf (eCall m__law_whole (aCons (eVar 2) (aCons (eC (.int 0)) (aCons (eC (.int 5)) aNil))))))) (bOr (bTest (eBin dIn (dVar 2) (dVar 1))) (bAnd (bTest (eBin dEq (dOf (eBin dIx (dVar 0) (dOf (eC (.int 0))))) (dOf (eC (.str "among"))))) (bAnd (bTru (dVar 1)) (bTest (eBin (dCmp rLt zLt) (dVar 2) (dOf (eBin dIx (dVar 1) (dOf (eUn dNeg (dOf (eC (.int 1)))))))))))))
    (sRet (eC (.bool false)))
    sNil')
    (sEnd [2] (sApp 1 (eVar 2))))
def b__law_is_plain : Fs :=
    (sSeq (sIf (bOr (bNot (bTru (dOf (eIsa "tuple" (dVar 0))))) (bOr (bTest (eBin (dCmp rLt zLt) (dOf (eApp gLen (sCons (dVar 0) sNil))) (dOf (eC (.int 2))))) (bNot (bTru (dOf (eCall m__law_whole (aCons (eBin dIx (dVar 0) (dOf (eC (.int 1)))) (aCons (eC (.int 0)) (aCons (eC (.int 2)) aNil)))))))))
    (sRet (eC (.bool false)))
    sNil')
    (sSeq (sIf (bTest (eBin dEq (dOf (eBin dIx (dVar 0) (dOf (eC (.int 0))))) (dOf (eC (.str "up")))))
    (sRet (eBin dEq (dOf (eApp gLen (sCons (dVar 0) sNil))) (dOf (eC (.int 2)))))
    sNil')
    (sSeq (sIf (bTest (eBin dNe (dOf (eApp gLen (sCons (dVar 0) sNil))) (dOf (eC (.int 3)))))
    (sRet (eC (.bool false)))
    sNil')
    (sSeq (sIf (bOr (bTest (eBin dEq (dOf (eBin dIx (dVar 0) (dOf (eC (.int 0))))) (dOf (eC (.str "part"))))) (bTest (eBin dEq (dOf (eBin dIx (dVar 0) (dOf (eC (.int 0))))) (dOf (eC (.str "rest"))))))
    (sRet (eCall m__law_whole (aCons (eBin dIx (dVar 0) (dOf (eC (.int 2)))) (aCons (eC (.int 2)) (aCons (eC (.int 3)) aNil)))))
    sNil')
    (sSeq (sIf (bOr (bTest (eBin dEq (dOf (eBin dIx (dVar 0) (dOf (eC (.int 0))))) (dOf (eC (.str "table"))))) (bTest (eBin dEq (dOf (eBin dIx (dVar 0) (dOf (eC (.int 0))))) (dOf (eC (.str "among"))))))
    (sSeq (sIf (bOr (bNot (bTru (dOf (eIsa "tuple" (dOf (eBin dIx (dVar 0) (dOf (eC (.int 2))))))))) (bNot (bTest (eChain (dCmp rLe zLe) (dCmp rLe zLe) (dOf (eC (.int 1))) (dOf (eApp gLen (sCons (dOf (eBin dIx (dVar 0) (dOf (eC (.int 2))))) sNil))) (dOf (eC (.int 4)))))))
    (sRet (eC (.bool false)))
    sNil')
    (sSeq (sSet 1 (eLst aNil))
    (sSeq (sEnd [0, 1] (sFor (iVal (eBin dIx (dVar 0) (dOf (eC (.int 2))))) (gOne 2)
    l__law_is_plain_1))
    (sRet (eC (.bool true))))))
    sNil')
    (sRet (eAnd (eBin dIn (dOf (eBin dIx (dVar 0) (dOf (eC (.int 0))))) (dOf (eLst (aCons (eC (.str "sum")) (aCons (eC (.str "gap")) (aCons (eC (.str "most")) aNil)))))) (eCall m__law_whole (aCons (eBin dIx (dVar 0) (dOf (eC (.int 2)))) (aCons (eBin dAdd (dOf (eBin dIx (dVar 0) (dOf (eC (.int 1))))) (dOf (eC (.int 1)))) (aCons (eC (.int 2)) aNil)))))))))))
def m__law_is_plain : Fn := runB 3 b__law_is_plain
def b__law_is_key : Fs :=
    (sSeq (sIf (bAnd (bTru (dOf (eIsa "tuple" (dVar 0)))) (bAnd (bTest (eBin dEq (dOf (eApp gLen (sCons (dVar 0) sNil))) (dOf (eC (.int 2))))) (bTest (eBin dEq (dOf (eBin dIx (dVar 0) (dOf (eC (.int 0))))) (dOf (eC (.str "down")))))))
    (sRet (eCall m__law_is_plain (aCons (eBin dIx (dVar 0) (dOf (eC (.int 1)))) aNil)))
    sNil')
    (sRet (eCall m__law_is_plain (aCons (eVar 0) aNil))))
def m__law_is_key : Fn := runB 1 b__law_is_key
def b__law_is_row : Fs :=
    (sRet (eAnd (eIsa "tuple" (dVar 0)) (eAnd (eBin (dCmp rLe zLe) (dOf (eApp gLen (sCons (dVar 0) sNil))) (dOf (eC (.int 5)))) (eApp gAll (sCons (dOf (eComp (iOf (dVar 0)) (gOne 1) [1] bYes (eCall m__law_is_key (aCons (eVar 1) aNil)))) sNil)))))
def m__law_is_row : Fn := runB 2 b__law_is_row
def b__law_is_thing : Fs :=
    (sRet (eAnd (eIsa "tuple" (dVar 0)) (eAnd (eBin dEq (dOf (eApp gLen (sCons (dVar 0) sNil))) (dOf (eC (.int 3)))) (eApp gAll (sCons (dOf (eComp (iOf (dVar 0)) (gOne 1) [1] bYes (eCall m__law_whole (aCons (eVar 1) (aCons (eC (.int 0)) (aCons (eC (.int 5)) aNil)))))) sNil)))))
def m__law_is_thing : Fn := runB 2 b__law_is_thing
def b__law_bent (m : Fn) : Fs :=
    (sSeq (sSet 3 (eFrz (eLst (aCons (eC .none) (aCons (eC (.bool true)) (aCons (eUn dNeg (dOf (eC (.int 1)))) (aCons (eC (.int 0)) (aCons (eC (.int 1)) (aCons (eC (.int 2)) (aCons (eC (.int 3)) (aCons (eC (.int 5)) (aCons (eC (.int 6)) (aCons (eC (.str "up")) (aCons (eC (.str "down")) (aCons (eC (.str "part")) (aCons (eC (.str "rest")) (aCons (eC (.str "table")) (aCons (eC (.str "among")) (aCons (eC (.str "sum")) (aCons (eC (.str "gap")) (aCons (eC (.str "most")) (aCons (eC (.str "a")) aNil))))))))))))))))))))))
    (sSeq (sSet 3 (eFrz (eBin dAdd (dVar 3) (dOf (eLst (aCons (eTup aNil) (aCons (eTup (aCons (eC (.int 0)) aNil)) (aCons (eTup (aCons (eC (.int 5)) (aCons (eC (.int 0)) aNil))) (aCons (eTup (aCons (eC (.int 0)) (aCons (eC (.int 5)) aNil))) (aCons (eTup (aCons (eC (.int 1)) (aCons (eC (.int 1)) aNil))) (aCons (eTup (aCons (eC (.int 0)) (aCons (eC (.int 1)) (aCons (eC (.int 2)) (aCons (eC (.int 3)) aNil))))) (aCons (eTup (aCons (eC (.int 0)) (aCons (eC (.int 1)) (aCons (eC (.int 2)) (aCons (eC (.int 3)) (aCons (eC (.int 4)) aNil)))))) (aCons (eTup (aCons (eC (.int 6)) aNil)) (aCons (eLst (aCons (eC (.int 0)) aNil)) (aCons (eTup (aCons (eC (.str "up")) (aCons (eC (.int 0)) aNil))) (aCons (eTup (aCons (eC (.bool true)) aNil)) (aCons (eC (.str "")) aNil)))))))))))))))))
    (sSeq (sEnd [3] (sIf (bOr (bNot (bTru (dOf (eIsa "tuple" (dVar 2))))) (bOr (bTest (eBin dEq (dVar 2) (dOf (eTup aNil)))) (bTest (eBin dEq (dOf (eCall m__law_draw (aCons (eVar 0) (aCons (eVar 1) (aCons (eC (.int 4)) aNil))))) (dOf (eC (.int 0)))))))
    (sRet (eCall m__law_pick (aCons (eVar 0) (aCons (eVar 1) (aCons (eVar 3) aNil)))))
    sNil'))
    (sSeq (sSet 4 (eCall m__law_draw (aCons (eVar 0) (aCons (eVar 1) (aCons (eApp gLen (sCons (dVar 2) sNil)) aNil)))))
    (sSeq (sSet 5 (eCall m__law_draw (aCons (eVar 0) (aCons (eVar 1) (aCons (eC (.int 8)) aNil)))))
    (sSeq (sIf (bTest (eBin dEq (dVar 5) (dOf (eC (.int 0)))))
    (sRet (eBin dAdd (dOf (eSl dSl (dVar 2) oNone (oSome (dVar 4)))) (dOf (eSl dSl (dVar 2) (oSome (dOf (eBin dAdd (dVar 4) (dOf (eC (.int 1)))))) oNone))))
    sNil')
    (sSeq (sIf (bTest (eBin dEq (dVar 5) (dOf (eC (.int 1)))))
    (sRet (eBin dAdd (dOf (eBin dAdd (dOf (eSl dSl (dVar 2) oNone (oSome (dVar 4)))) (dOf (eTup (aCons (eBin dIx (dVar 2) (dVar 4)) aNil))))) (dOf (eSl dSl (dVar 2) (oSome (dVar 4)) oNone))))
    sNil')
    (sSeq (sEnd [5] (sIf (bTest (eBin dEq (dVar 5) (dOf (eC (.int 2)))))
    (sRet (eApp gList (sCons (dVar 2) sNil)))
    sNil'))
    (sRet (eBin dAdd (dOf (eBin dAdd (dOf (eSl dSl (dVar 2) oNone (oSome (dVar 4)))) (dOf (eTup (aCons (eCall m (aCons (eVar 0) (aCons (eVar 1) (aCons (eBin dIx (dVar 2) (dVar 4)) aNil)))) aNil))))) (dOf (eSl dSl (dVar 2) (oSome (dOf (eBin dAdd (dVar 4) (dOf (eC (.int 1)))))) oNone))))))))))))
def m__law_bent_ : Nat → Fn
  | 0 => fun _ _ => none
  | k + 1 => runB 6 (b__law_bent (m__law_bent_ k))
def m__law_bent : Fn := m__law_bent_ 10
def b_worth (m : Fn) : Fs :=
    (sSeq (sSet 2 (eBin dIx (dVar 0) (dOf (eC (.int 0)))))
    (sSeq (sIf (bTest (eBin dEq (dVar 2) (dOf (eC (.str "down")))))
    (sRet (eBin dSub (dOf (eC (.int 0))) (dOf (eCall m (aCons (eBin dIx (dVar 0) (dOf (eC (.int 1)))) (aCons (eVar 1) aNil))))))
    sNil')
    (sSeq (sSet 3 (eBin dIx (dVar 1) (dOf (eBin dIx (dVar 0) (dOf (eC (.int 1)))))))
    (sSeq (sIf (bTest (eBin dEq (dVar 2) (dOf (eC (.str "up")))))
    (sRet (eVar 3))
    sNil')
    (sSeq (sIf (bTest (eBin dEq (dVar 2) (dOf (eC (.str "part")))))
    (sRet (eBin dDiv (dVar 3) (dOf (eBin dIx (dVar 0) (dOf (eC (.int 2)))))))
    sNil')
    (sSeq (sIf (bTest (eBin dEq (dVar 2) (dOf (eC (.str "rest")))))
    (sRet (eBin dMod (dVar 3) (dOf (eBin dIx (dVar 0) (dOf (eC (.int 2)))))))
    sNil')
    (sSeq (sIf (bTest (eBin dEq (dVar 2) (dOf (eC (.str "table")))))
    (sRet (eIf (bTest (eBin dIn (dVar 3) (dOf (eBin dIx (dVar 0) (dOf (eC (.int 2))))))) (eMt isTupD gIndexT (dOf (eBin dIx (dVar 0) (dOf (eC (.int 2))))) (sCons (dVar 3) sNil)) (eApp gLen (sCons (dOf (eBin dIx (dVar 0) (dOf (eC (.int 2))))) sNil))))
    sNil')
    (sSeq (sIf (bTest (eBin dEq (dVar 2) (dOf (eC (.str "among")))))
    (sRet (eApp gInt (sCons (dOf (eBin dNotIn (dVar 3) (dOf (eBin dIx (dVar 0) (dOf (eC (.int 2))))))) sNil)))
    sNil')
    (sSeq (sSet 4 (eBin dIx (dVar 1) (dOf (eBin dIx (dVar 0) (dOf (eC (.int 2)))))))
    (sSeq (sIf (bTest (eBin dEq (dVar 2) (dOf (eC (.str "sum")))))
    (sRet (eBin dAdd (dVar 3) (dVar 4)))
    sNil')
    (sSeq (sIf (bTest (eBin dEq (dVar 2) (dOf (eC (.str "gap")))))
    (sRet (eApp gAbs (sCons (dOf (eBin dSub (dVar 3) (dVar 4))) sNil)))
    sNil')
    (sRet (eApp gMax2 (sCons (dVar 3) (sCons (dVar 4) sNil)))))))))))))))
def m_worth_ : Nat → Fn
  | 0 => fun _ _ => none
  | k + 1 => runB 5 (b_worth (m_worth_ k))
def m_worth : Fn := m_worth_ 4
def b_worths : Fs :=
    (sRet (eApp gTup (sCons (dOf (eComp (iOf (dVar 0)) (gOne 2) [2] bYes (eCall m_worth (aCons (eVar 2) (aCons (eVar 1) aNil))))) sNil)))
def m_worths : Fn := runB 3 b_worths
def b_told : Fs :=
    (sSeq (sSet 3 (eFrz (eCall m_worths (aCons (eVar 0) (aCons (eVar 1) aNil)))))
    (sSeq (sSet 4 (eFrz (eCall m_worths (aCons (eVar 0) (aCons (eVar 2) aNil)))))
    (sRet (eBin dSub (dOf (eApp gInt (sCons (dOf (eBin (dCmp rGt zGt) (dVar 3) (dVar 4))) sNil))) (dOf (eApp gInt (sCons (dOf (eBin (dCmp rLt zLt) (dVar 3) (dVar 4))) sNil)))))))
def m_told : Fn := runB 5 b_told
def b_turned_key : Fs :=
    (sSeq (sIf (bTest (eBin dEq (dOf (eBin dIx (dVar 0) (dOf (eC (.int 0))))) (dOf (eC (.str "down")))))
    (sRet (eBin dIx (dVar 0) (dOf (eC (.int 1)))))
    sNil')
    (sRet (eTup (aCons (eC (.str "down")) (aCons (eVar 0) aNil)))))
def m_turned_key : Fn := runB 1 b_turned_key
def b_turned : Fs :=
    (sRet (eApp gTup (sCons (dOf (eComp (iOf (dVar 0)) (gOne 1) [1] bYes (eCall m_turned_key (aCons (eVar 1) aNil)))) sNil)))
def m_turned : Fn := runB 2 b_turned
def l_all_things_2 : Fs :=
    (sExt 1 (eComp (iOf (dVar 0)) (gOne 4) [4] bYes (eTup (aCons (eVar 2) (aCons (eVar 3) (aCons (eVar 4) aNil))))))
def l_all_things_1 : Fs :=
    (sFor (iVal (eVar 0)) (gOne 3)
    l_all_things_2)
def b_all_things : Fs :=
    (sSeq (sSet 0 (eFrz (eListRg1 (dOf (eBin dAdd (dOf (eC (.int 5))) (dOf (eC (.int 1))))))))
    (sSeq (sSet 1 (eLst aNil))
    (sSeq (sFor (iVal (eVar 0)) (gOne 2)
    l_all_things_1)
    (sRet (eApp gTup (sCons (dVar 1) sNil))))))
def m_all_things : Fn := runB 5 b_all_things
def b__law_worth (m : Fn) : Fs :=
    (sSeq (sIf (bTest (eBin dEq (dOf (eBin dIx (dVar 0) (dOf (eC (.int 0))))) (dOf (eC (.str "down")))))
    (sRet (eUn dNeg (dOf (eCall m (aCons (eBin dIx (dVar 0) (dOf (eC (.int 1)))) (aCons (eVar 1) aNil))))))
    sNil')
    (sSeq (sSet 2 (eBin dIx (dVar 1) (dOf (eBin dIx (dVar 0) (dOf (eC (.int 1)))))))
    (sSeq (sIf (bTest (eBin dEq (dOf (eBin dIx (dVar 0) (dOf (eC (.int 0))))) (dOf (eC (.str "up")))))
    (sRet (eVar 2))
    sNil')
    (sSeq (sIf (bTest (eBin dEq (dOf (eBin dIx (dVar 0) (dOf (eC (.int 0))))) (dOf (eC (.str "part")))))
    (sRet (eApp gLen (sCons (dOf (eComp (iRng2 (dOf (eC (.int 1))) (dOf (eC (.int 6)))) (gOne 3) [3] (bAnd (bTest (eBin (dCmp rLe zLe) (dVar 3) (dVar 2))) (bTest (eBin dEq (dOf (eBin dMod (dVar 3) (dOf (eBin dIx (dVar 0) (dOf (eC (.int 2))))))) (dOf (eC (.int 0)))))) (eVar 3))) sNil)))
    sNil')
    (sSeq (sIf (bTest (eBin dEq (dOf (eBin dIx (dVar 0) (dOf (eC (.int 0))))) (dOf (eC (.str "rest")))))
    (sRet (eBin dSub (dVar 2) (dOf (eBin dMul (dOf (eBin dDiv (dVar 2) (dOf (eBin dIx (dVar 0) (dOf (eC (.int 2))))))) (dOf (eBin dIx (dVar 0) (dOf (eC (.int 2)))))))))
    sNil')
    (sSeq (sIf (bTest (eBin dEq (dOf (eBin dIx (dVar 0) (dOf (eC (.int 0))))) (dOf (eC (.str "table")))))
    (sRet (eMt isLstD gIndexL (dOf (eBin dAdd (dOf (eApp gList (sCons (dOf (eBin dIx (dVar 0) (dOf (eC (.int 2))))) sNil))) (dOf (eLst (aCons (eVar 2) aNil))))) (sCons (dVar 2) sNil)))
    sNil')
    (sSeq (sIf (bTest (eBin dEq (dOf (eBin dIx (dVar 0) (dOf (eC (.int 0))))) (dOf (eC (.str "among")))))
    (sRet (eIf (bTest (eBin dIn (dVar 2) (dOf (eBin dIx (dVar 0) (dOf (eC (.int 2))))))) (eC (.int 0)) (eC (.int 1))))
    sNil')
    (sSeq (sSet 4 (eBin dIx (dVar 1) (dOf (eBin dIx (dVar 0) (dOf (eC (.int 2)))))))
    (sSeq (sIf (bTest (eBin dEq (dOf (eBin dIx (dVar 0) (dOf (eC (.int 0))))) (dOf (eC (.str "sum")))))
    (sRet (eBin dAdd (dVar 2) (dVar 4)))
    sNil')
    (sSeq (sIf (bTest (eBin dEq (dOf (eBin dIx (dVar 0) (dOf (eC (.int 0))))) (dOf (eC (.str "gap")))))
    (sRet (eIf (bTest (eBin (dCmp rGt zGt) (dVar 2) (dVar 4))) (eBin dSub (dVar 2) (dVar 4)) (eBin dSub (dVar 4) (dVar 2))))
    sNil')
    (sRet (eIf (bTest (eBin (dCmp rGt zGt) (dVar 2) (dVar 4))) (eVar 2) (eVar 4)))))))))))))
def m__law_worth_ : Nat → Fn
  | 0 => fun _ _ => none
  | k + 1 => runB 5 (b__law_worth (m__law_worth_ k))
def m__law_worth : Fn := m__law_worth_ 4
def b__law_worths : Fs :=
    (sRet (eApp gTup (sCons (dOf (eComp (iOf (dVar 0)) (gOne 2) [2] bYes (eCall m__law_worth (aCons (eVar 2) (aCons (eVar 1) aNil))))) sNil)))
def m__law_worths : Fn := runB 3 b__law_worths
def l__law_word_1 : Fs :=
    (sSeq (sPar 4 5 (aCons (eCall m__law_worth (aCons (eVar 3) (aCons (eVar 1) aNil))) (aCons (eCall m__law_worth (aCons (eVar 3) (aCons (eVar 2) aNil))) aNil)))
    (sIf (bTest (eBin dNe (dVar 4) (dVar 5)))
    (sRet (eIf (bTest (eBin (dCmp rLt zLt) (dVar 4) (dVar 5))) (eUn dNeg (dOf (eC (.int 1)))) (eC (.int 1))))
    sNil'))
def b__law_word : Fs :=
    (sSeq (sFor (iVal (eVar 0)) (gOne 3)
    l__law_word_1)
    (sRet (eC (.int 0))))
def m__law_word : Fn := runB 6 b__law_word
def b_pairs_of : Fs :=
    (sRet (eBin dDiv (dOf (eBin dMul (dVar 0) (dOf (eBin dSub (dVar 0) (dOf (eC (.int 1))))))) (dOf (eC (.int 2)))))
def m_pairs_of : Fn := runB 1 b_pairs_of
-- l__law_every_1: head 0:_law_got of 2
def l__law_every_1 : Fs :=
    (sEnd [1] (sApp 0 (eTup (aCons (eBin dDiv (dVar 1) (dOf (eC (.int 36)))) (aCons (eBin dMod (dOf (eBin dDiv (dVar 1) (dOf (eC (.int 6))))) (dOf (eC (.int 6)))) (aCons (eBin dMod (dVar 1) (dOf (eC (.int 6)))) aNil))))))
def b__law_every : Fs :=
    (sSeq (sSet 0 (eLst aNil))
    (sSeq (sFor (iRng1 (dOf (eC (.int 216)))) (gOne 1)
    l__law_every_1)
    (sRetO 0)))
def m__law_every : Fn := runB 2 b__law_every
def b__law_same_v2 (m : Fn) : Fs :=
    (sSeq (sIf (bTest (eBin dIsN (dVar 1) (dOf (eC .none))))
    (sRet (eBin dIsN (dVar 0) (dOf (eC .none))))
    sNil')
    (sSeq (sIf (bTru (dOf (eIsa "bool" (dVar 1))))
    (sRet (eAnd (eIsa "bool" (dVar 0)) (eBin dEq (dVar 0) (dVar 1))))
    sNil')
    (sSeq (sIf (bTru (dOf (eIsa "tuple" (dVar 1))))
    (sSeq (sIf (bOr (bNot (bTru (dOf (eIsa "tuple" (dVar 0))))) (bTest (eBin dNe (dOf (eApp gLen (sCons (dVar 0) sNil))) (dOf (eApp gLen (sCons (dVar 1) sNil))))))
    (sRet (eC (.bool false)))
    sNil')
    (sRet (eApp gAll (sCons (dOf (eComp (iZipV (dVar 0) (dVar 1)) (gMany [2, 3]) [2, 3] bYes (eCall m (aCons (eVar 2) (aCons (eVar 3) aNil))))) sNil))))
    sNil')
    (sSeq (sIf (bTru (dOf (eIsa "str" (dVar 1))))
    (sRet (eAnd (eIsa "str" (dVar 0)) (eBin dEq (dVar 0) (dVar 1))))
    sNil')
    (sRet (eAnd (eIsa "int" (dVar 0)) (eAnd (eNotD (dOf (eIsa "bool" (dVar 0)))) (eBin dEq (dVar 0) (dVar 1)))))))))
def m__law_same_v2_ : Nat → Fn
  | 0 => fun _ _ => none
  | k + 1 => runB 4 (b__law_same_v2 (m__law_same_v2_ k))
def m__law_same_v2 : Fn := m__law_same_v2_ 12
def b__law_turn : Fs :=
    (sRet (eIf (bTest (eBin dEq (dOf (eBin dIx (dVar 0) (dOf (eC (.int 0))))) (dOf (eC (.str "down"))))) (eBin dIx (dVar 0) (dOf (eC (.int 1)))) (eTup (aCons (eC (.str "down")) (aCons (eVar 0) aNil)))))
def m__law_turn : Fn := runB 1 b__law_turn
def b_without : Fs :=
    (sRet (eBin dAdd (dOf (eSl dSl (dVar 0) oNone (oSome (dVar 1)))) (dOf (eSl dSl (dVar 0) (oSome (dOf (eBin dAdd (dVar 1) (dOf (eC (.int 1)))))) oNone))))
def m_without : Fn := runB 2 b_without
def b__law_worths_v2 : Fs :=
    (sRet (eApp gTup (sCons (dOf (eComp (iOf (dVar 0)) (gOne 2) [2] bYes (eCall m__law_worth (aCons (eVar 2) (aCons (eVar 1) aNil))))) sNil)))
def m__law_worths_v2 : Fn := runB 3 b__law_worths_v2
-- l__law_row_1: head 0:_law_script 1:_law_town 2:_law_row_here of 7
def l__law_row_1 : Fs :=
    (sSeq (sEnd [3] (sSet 4 (eFrz (eCall m__law_key (aCons (eVar 0) (aCons (eVar 1) aNil))))))
    (sSeq (sIf (bAnd (bTru (dVar 2)) (bTest (eBin dEq (dOf (eCall m__law_draw (aCons (eVar 0) (aCons (eVar 1) (aCons (eC (.int 2)) aNil))))) (dOf (eC (.int 0))))))
    (sSeq (sSet 4 (eFrz (eCall m__law_pick (aCons (eVar 0) (aCons (eVar 1) (aCons (eVar 2) aNil))))))
    (sSeq (sSet 5 (eIf (bTest (eBin dEq (dOf (eBin dIx (dVar 4) (dOf (eC (.int 0))))) (dOf (eC (.str "down"))))) (eBin dIx (dOf (eBin dIx (dVar 4) (dOf (eC (.int 1))))) (dOf (eC (.int 1)))) (eBin dIx (dVar 4) (dOf (eC (.int 1))))))
    (sSeq (sEnd [5] (sSet 6 (eFrz (eLst (aCons (eTup (aCons (eC (.str "up")) (aCons (eVar 5) aNil))) (aCons (eTup (aCons (eC (.str "part")) (aCons (eVar 5) (aCons (eC (.int 2)) aNil)))) (aCons (eTup (aCons (eC (.str "rest")) (aCons (eVar 5) (aCons (eC (.int 3)) aNil)))) (aCons (eTup (aCons (eC (.str "among")) (aCons (eVar 5) (aCons (eTup (aCons (eC (.int 0)) (aCons (eC (.int 3)) aNil))) aNil)))) aNil))))))))
    (sEnd [6] (sSet 4 (eFrz (eCall m__law_pick (aCons (eVar 0) (aCons (eVar 1) (aCons (eBin dAdd (dVar 6) (dOf (eLst (aCons (eVar 4) (aCons (eVar 4) (aCons (eCall m__law_turn (aCons (eVar 4) aNil)) aNil)))))) aNil))))))))))
    sNil')
    (sEnd [4] (sSet 2 (eFrz (eBin dAdd (dVar 2) (dOf (eTup (aCons (eVar 4) aNil)))))))))
def b__law_row : Fs :=
    (sSeq (sSet 2 (eTup aNil))
    (sSeq (sEnd [0, 1] (sFor (iRng1 (dOf (eCall m__law_draw (aCons (eVar 0) (aCons (eVar 1) (aCons (eC (.int 6)) aNil)))))) (gOne 3)
    l__law_row_1))
    (sRet (eVar 2))))
def m__law_row : Fn := runB 7 b__law_row
-- l__law_speaks_3: head 0:_law_row_here 1:_law_every_here 3:_law_got 5:_law_one 6:_law_other_here of 8
def l__law_speaks_3 : Fs :=
    (sEnd [7] (sIf (bAnd (bTest (eBin dEq (dOf (eSl dSl (dVar 5) oNone (oSome (dVar 7)))) (dOf (eSl dSl (dVar 6) oNone (oSome (dVar 7)))))) (bTest (eBin dNe (dOf (eBin dIx (dVar 5) (dVar 7))) (dOf (eBin dIx (dVar 6) (dVar 7))))))
    (sEnd [7] (sSetIx 3 (dVar 7) (eBin dAdd (dOf (eBin dIx (dVar 3) (dVar 7))) (dOf (eC (.int 1))))))
    sNil'))
-- l__law_speaks_2: head 0:_law_row_here 1:_law_every_here 3:_law_got 5:_law_one of 8
def l__law_speaks_2 : Fs :=
    (sEnd [6] (sFor (iRng1 (dOf (eApp gLen (sCons (dVar 0) sNil)))) (gOne 7)
    l__law_speaks_3))
-- l__law_speaks_1: head 0:_law_row_here 1:_law_every_here 3:_law_got of 8
def l__law_speaks_1 : Fs :=
    (sEnd [5] (sForK [4] (iVal (eSl dSl (dVar 1) (oSome (dOf (eBin dAdd (dVar 4) (dOf (eC (.int 1)))))) oNone)) (gOne 6)
    l__law_speaks_2))
def b__law_speaks : Fs :=
    (sSeq (sSet 1 (eFrz (eComp (iOf (dOf (eCall m__law_every aNil))) (gOne 2) [2] bYes (eCall m__law_worths_v2 (aCons (eVar 0) (aCons (eVar 2) aNil))))))
    (sSeq (sSet 3 (eBin dMul (dOf (eLst (aCons (eC (.int 0)) aNil))) (dOf (eApp gLen (sCons (dVar 0) sNil)))))
    (sSeq (sEnd [0, 1] (sFor (iEnumF (eVar 1)) (gMany [4, 5])
    l__law_speaks_1))
    (sRetO 3))))
def m__law_speaks : Fn := runB 8 b__law_speaks
def b_places : Fs :=
    (sSeq (sSet 2 (eFrz (eApp gSorted (sCons (dOf (eComp (iEnumV (dVar 1)) (gMany [3, 4]) [3, 4] bYes (eTup (aCons (eCall m_worths (aCons (eVar 0) (aCons (eVar 4) aNil))) (aCons (eVar 3) aNil))))) sNil))))
    (sRet (eApp gTup (sCons (dOf (eComp (iOf (dVar 2)) (gMany [5, 3]) [5, 3] bYes (eVar 3))) sNil))))
def m_places : Fn := runB 6 b_places
def b_ordered : Fs :=
    (sRet (eApp gTup (sCons (dOf (eComp (iOf (dOf (eCall m_places (aCons (eVar 0) (aCons (eVar 1) aNil))))) (gOne 2) [2] bYes (eBin dIx (dVar 1) (dVar 2)))) sNil)))
def m_ordered : Fn := runB 3 b_ordered
def b_is_ordered : Fs :=
    (sRet (eApp gAll (sCons (dOf (eComp (iZipV (dOf (eSl dSl (dVar 1) oNone (oSome (dOf (eUn dNeg (dOf (eC (.int 1)))))))) (dOf (eSl dSl (dVar 1) (oSome (dOf (eC (.int 1)))) oNone))) (gMany [2, 3]) [2, 3] bYes (eBin (dCmp rLt zLt) (dOf (eCall m_told (aCons (eVar 0) (aCons (eVar 2) (aCons (eVar 3) aNil))))) (dOf (eC (.int 1)))))) sNil)))
def m_is_ordered : Fn := runB 4 b_is_ordered
def l_runs_1 : Fs :=
    (sIf (bAnd (bTru (dVar 2)) (bTest (eBin (dCmp rLt zLt) (dOf (eCall m_told (aCons (eVar 0) (aCons (eBin dIx (dOf (eBin dIx (dVar 2) (dOf (eUn dNeg (dOf (eC (.int 1))))))) (dOf (eUn dNeg (dOf (eC (.int 1)))))) (aCons (eVar 3) aNil))))) (dOf (eC (.int 1))))))
    (sSetIx 2 (dOf (eUn dNeg (dOf (eC (.int 1))))) (eBin dAdd (dOf (eBin dIx (dVar 2) (dOf (eUn dNeg (dOf (eC (.int 1))))))) (dOf (eTup (aCons (eVar 3) aNil)))))
    (sApp 2 (eTup (aCons (eVar 3) aNil))))
def b_runs : Fs :=
    (sSeq (sSet 2 (eLst aNil))
    (sSeq (sFor (iVal (eVar 1)) (gOne 3)
    l_runs_1)
    (sRet (eApp gTup (sCons (dVar 2) sNil)))))
def m_runs : Fn := runB 4 b_runs
def l_crossings_1 : Fs :=
    (sSet 2 (eFrz (eBin dAdd (dVar 2) (dOf (eApp gLen (sCons (dOf (eComp (iOf (dOf (eSl dSl (dVar 1) (oSome (dOf (eBin dAdd (dVar 3) (dOf (eC (.int 1)))))) oNone))) (gOne 5) [5] (bTest (eBin dEq (dOf (eCall m_told (aCons (eVar 0) (aCons (eVar 4) (aCons (eVar 5) aNil))))) (dOf (eC (.int 1))))) (eVar 5))) sNil))))))
def b_crossings : Fs :=
    (sSeq (sSet 2 (eC (.int 0)))
    (sSeq (sFor (iEnumF (eVar 1)) (gMany [3, 4])
    l_crossings_1)
    (sRet (eVar 2))))
def m_crossings : Fn := runB 6 b_crossings
def l__law_list_1 : Fs :=
    (sSet 5 (eFrz (eBin dAdd (dVar 5) (dOf (eTup (aCons (eCall m__law_pick (aCons (eVar 0) (aCons (eVar 1) (aCons (eBin dAdd (dVar 3) (dOf (eLst (aCons (eCall m__law_thing (aCons (eVar 0) (aCons (eVar 1) aNil))) aNil)))) aNil)))) aNil))))))
def b__law_list : Fs :=
    (sSeq (sSet 3 (eFrz (eComp (iRng1 (dOf (eC (.int 4)))) (gOne 4) [4] bYes (eCall m__law_thing (aCons (eVar 0) (aCons (eVar 1) aNil))))))
    (sSeq (sSet 5 (eTup aNil))
    (sSeq (sFor (iRng1 (dOf (eCall m__law_draw (aCons (eVar 0) (aCons (eVar 1) (aCons (eBin dAdd (dVar 2) (dOf (eC (.int 1)))) aNil)))))) (gOne 4)
    l__law_list_1)
    (sRet (eVar 5)))))
def m__law_list : Fn := runB 6 b__law_list
def l__law_sorted_2 : Fs :=
    (sSet 5 (eFrz (eBin dAdd (dVar 5) (dOf (eC (.int 1))))))
def l__law_sorted_1 : Fs :=
    (sSeq (sSet 5 (eC (.int 0)))
    (sSeq (loopW (bAnd (bTest (eBin (dCmp rLt zLt) (dVar 5) (dOf (eApp gLen (sCons (dVar 2) sNil))))) (bTest (eBin (dCmp rLt zLt) (dOf (eCall m__law_word (aCons (eVar 0) (aCons (eBin dIx (dVar 1) (dOf (eBin dIx (dVar 2) (dVar 5)))) (aCons (eVar 4) aNil))))) (dOf (eC (.int 1)))))) l__law_sorted_2 100000)
    (sSet 2 (eFrz (eBin dAdd (dOf (eBin dAdd (dOf (eSl dSl (dVar 2) oNone (oSome (dVar 5)))) (dOf (eLst (aCons (eVar 3) aNil))))) (dOf (eSl dSl (dVar 2) (oSome (dVar 5)) oNone)))))))
def b__law_sorted : Fs :=
    (sSeq (sSet 2 (eFrz (eLst aNil)))
    (sSeq (sFor (iEnumF (eVar 1)) (gMany [3, 4])
    l__law_sorted_1)
    (sRet (eVar 2))))
def m__law_sorted : Fn := runB 6 b__law_sorted
-- l_merged_1: head 0:row 1:ones 2:others 3:found of 4
def l_merged_1 : Fs :=
    (sIf (bTest (eBin (dCmp rLt zLt) (dOf (eCall m_told (aCons (eVar 0) (aCons (eBin dIx (dVar 1) (dOf (eC (.int 0)))) (aCons (eBin dIx (dVar 2) (dOf (eC (.int 0)))) aNil))))) (dOf (eC (.int 1)))))
    (sSeq (sSet 3 (eFrz (eBin dAdd (dVar 3) (dOf (eSl dSl (dVar 1) oNone (oSome (dOf (eC (.int 1)))))))))
    (sSet 1 (eFrz (eSl dSl (dVar 1) (oSome (dOf (eC (.int 1)))) oNone))))
    (sSeq (sSet 3 (eFrz (eBin dAdd (dVar 3) (dOf (eSl dSl (dVar 2) oNone (oSome (dOf (eC (.int 1)))))))))
    (sSet 2 (eFrz (eSl dSl (dVar 2) (oSome (dOf (eC (.int 1)))) oNone)))))
def b_merged : Fs :=
    (sSeq (sSet 3 (eTup aNil))
    (sSeq (sEnd [0] (loopW (bAnd (bTru (dVar 1)) (bTru (dVar 2))) l_merged_1 100000))
    (sRet (eBin dAdd (dOf (eBin dAdd (dVar 3) (dVar 1))) (dVar 2)))))
def m_merged : Fn := runB 4 b_merged
-- l_turns_2: head 0:row 2:rows 3:found 4:after of 9
def l_turns_2 : Fs :=
    (sSeq (sEnd [5] (sSet 6 (eFrz (eSl dSl (dVar 2) (oSome (dVar 5)) (oSome (dOf (eBin dAdd (dVar 5) (dOf (eC (.int 2))))))))))
    (sEnd [6] (sApp 4 (eCall m_merged (aCons (eVar 0) (aCons (eBin dIx (dVar 6) (dOf (eC (.int 0)))) (aCons (eBin dIx (dOf (eBin dAdd (dVar 6) (dOf (eLst (aCons (eTup aNil) aNil))))) (dOf (eC (.int 1)))) aNil)))))))
-- l_turns_3: head 0:row 2:rows 3:found 7:whole of 9
def l_turns_3 : Fs :=
    (sEnd [8] (sSet 7 (eFrz (eBin dAdd (dVar 7) (dVar 8)))))
-- l_turns_1: head 0:row 2:rows 3:found of 9
def l_turns_1 : Fs :=
    (sSeq (sSet 4 (eLst aNil))
    (sSeq (sEnd [2] (sFor (iRng3D (dOf (eC (.int 0))) (dOf (eApp gLen (sCons (dVar 2) sNil))) (dOf (eC (.int 2)))) (gOne 5)
    l_turns_2))
    (sSeq (sEnd [4] (frzAt 4 (sSet 2 (eVar 4))))
    (sSeq (sSet 7 (eTup aNil))
    (sSeq (sFor (iVal (eVar 2)) (gOne 8)
    l_turns_3)
    (sEnd [7] (sApp 3 (eVar 7))))))))
def b_turns : Fs :=
    (sSeq (sEnd [1] (sSet 2 (eFrz (eApp gList (sCons (dOf (eCall m_runs (aCons (eVar 0) (aCons (eVar 1) aNil)))) sNil)))))
    (sSeq (sSet 3 (eLst aNil))
    (sSeq (sEnd [0, 2] (loopW (bTest (eBin (dCmp rGt zGt) (dOf (eApp gLen (sCons (dVar 2) sNil))) (dOf (eC (.int 1))))) l_turns_1 100000))
    (sRet (eApp gTup (sCons (dVar 3) sNil))))))
def m_turns : Fn := runB 9 b_turns
def b__law_together : Fs :=
    (sSeq (sEnd [1, 2] (sSet 3 (eFrz (eBin dAdd (dVar 1) (dVar 2)))))
    (sRet (eApp gTup (sCons (dOf (eComp (iOf (dOf (eCall m__law_sorted (aCons (eVar 0) (aCons (eVar 3) aNil))))) (gOne 4) [4] bYes (eBin dIx (dVar 3) (dVar 4)))) sNil))))
def m__law_together : Fn := runB 5 b__law_together
-- l__law_turns_1: head 0:_law_row 2:_law_cut of 9
def l__law_turns_1 : Fs :=
    (sIf (bAnd (bTru (dVar 2)) (bTest (eBin (dCmp rLt zLt) (dOf (eCall m__law_word (aCons (eVar 0) (aCons (eBin dIx (dOf (eBin dIx (dVar 2) (dOf (eUn dNeg (dOf (eC (.int 1))))))) (dOf (eUn dNeg (dOf (eC (.int 1)))))) (aCons (eVar 3) aNil))))) (dOf (eC (.int 1))))))
    (sEnd [3] (sSetIx 2 (dOf (eUn dNeg (dOf (eC (.int 1))))) (eBin dAdd (dOf (eBin dIx (dVar 2) (dOf (eUn dNeg (dOf (eC (.int 1))))))) (dOf (eTup (aCons (eVar 3) aNil))))))
    (sEnd [3] (sApp 2 (eTup (aCons (eVar 3) aNil)))))
-- l__law_turns_3: head 0:_law_row 2:_law_cut 4:_law_got 5:_law_after of 9
def l__law_turns_3 : Fs :=
    (sIf (bTest (eBin (dCmp rLt zLt) (dOf (eBin dAdd (dVar 6) (dOf (eC (.int 1))))) (dOf (eApp gLen (sCons (dVar 2) sNil)))))
    (sEnd [6] (sApp 5 (eCall m__law_together (aCons (eVar 0) (aCons (eBin dIx (dVar 2) (dVar 6)) (aCons (eBin dIx (dVar 2) (dOf (eBin dAdd (dVar 6) (dOf (eC (.int 1)))))) aNil))))))
    (sEnd [6] (sApp 5 (eBin dIx (dVar 2) (dVar 6)))))
-- l__law_turns_4: head 0:_law_row 2:_law_cut 4:_law_got 7:_law_whole of 9
def l__law_turns_4 : Fs :=
    (sEnd [8] (sSet 7 (eFrz (eBin dAdd (dVar 7) (dVar 8)))))
-- l__law_turns_2: head 0:_law_row 2:_law_cut 4:_law_got of 9
def l__law_turns_2 : Fs :=
    (sSeq (sSet 5 (eLst aNil))
    (sSeq (sEnd [2] (sFor (iRng3D (dOf (eC (.int 0))) (dOf (eApp gLen (sCons (dVar 2) sNil))) (dOf (eC (.int 2)))) (gOne 6)
    l__law_turns_3))
    (sSeq (sEnd [5] (frzAt 5 (sSet 2 (eVar 5))))
    (sSeq (sSet 7 (eTup aNil))
    (sSeq (frzAt 2 (sFor (iVal (eVar 2)) (gOne 8)
    l__law_turns_4))
    (sEnd [7] (sApp 4 (eVar 7))))))))
def b__law_turns : Fs :=
    (sSeq (sSet 2 (eLst aNil))
    (sSeq (sForK [1] (iVal (eVar 1)) (gOne 3)
    l__law_turns_1)
    (sSeq (sSet 4 (eLst aNil))
    (sSeq (sEnd [0, 2] (loopW (bTest (eBin (dCmp rGt zGt) (dOf (eApp gLen (sCons (dVar 2) sNil))) (dOf (eC (.int 1))))) l__law_turns_2 100000))
    (sRet (eApp gTup (sCons (dVar 4) sNil)))))))
def m__law_turns : Fn := runB 9 b__law_turns
def l_first_place_1 : Fs :=
    (sSeq (sSet 5 (eBin dDiv (dOf (eBin dAdd (dVar 3) (dVar 4))) (dOf (eC (.int 2)))))
    (sIf (bTest (eBin (dCmp rLt zLt) (dOf (eCall m_told (aCons (eVar 0) (aCons (eBin dIx (dVar 1) (dVar 5)) (aCons (eVar 2) aNil))))) (dOf (eC (.int 0)))))
    (sSet 3 (eFrz (eBin dAdd (dVar 5) (dOf (eC (.int 1))))))
    (sSet 4 (eVar 5))))
def b_first_place : Fs :=
    (sSeq (sSet 3 (eC (.int 0)))
    (sSeq (sSet 4 (eApp gLen (sCons (dVar 1) sNil)))
    (sSeq (loopW (bTest (eBin (dCmp rLt zLt) (dVar 3) (dVar 4))) l_first_place_1 100000)
    (sRet (eVar 3)))))
def m_first_place : Fn := runB 6 b_first_place
def l_last_place_1 : Fs :=
    (sSeq (sSet 5 (eBin dDiv (dOf (eBin dAdd (dVar 3) (dVar 4))) (dOf (eC (.int 2)))))
    (sIf (bTest (eBin (dCmp rLt zLt) (dOf (eCall m_told (aCons (eVar 0) (aCons (eBin dIx (dVar 1) (dVar 5)) (aCons (eVar 2) aNil))))) (dOf (eC (.int 1)))))
    (sSet 3 (eFrz (eBin dAdd (dVar 5) (dOf (eC (.int 1))))))
    (sSet 4 (eVar 5))))
def b_last_place : Fs :=
    (sSeq (sSet 3 (eC (.int 0)))
    (sSeq (sSet 4 (eApp gLen (sCons (dVar 1) sNil)))
    (sSeq (loopW (bTest (eBin (dCmp rLt zLt) (dVar 3) (dVar 4))) l_last_place_1 100000)
    (sRet (eVar 3)))))
def m_last_place : Fn := runB 6 b_last_place
def l_groups_1 : Fs :=
    (sIf (bAnd (bTru (dVar 2)) (bTest (eBin dEq (dOf (eCall m_told (aCons (eVar 0) (aCons (eBin dIx (dOf (eBin dIx (dVar 2) (dOf (eUn dNeg (dOf (eC (.int 1))))))) (dOf (eC (.int 0)))) (aCons (eVar 3) aNil))))) (dOf (eC (.int 0))))))
    (sSetIx 2 (dOf (eUn dNeg (dOf (eC (.int 1))))) (eBin dAdd (dOf (eBin dIx (dVar 2) (dOf (eUn dNeg (dOf (eC (.int 1))))))) (dOf (eTup (aCons (eVar 3) aNil)))))
    (sApp 2 (eTup (aCons (eVar 3) aNil))))
def b_groups : Fs :=
    (sSeq (sSet 2 (eLst aNil))
    (sSeq (sFor (iVal (eCall m_ordered (aCons (eVar 0) (aCons (eVar 1) aNil)))) (gOne 3)
    l_groups_1)
    (sRet (eApp gTup (sCons (dVar 2) sNil)))))
def m_groups : Fn := runB 4 b_groups
def l_best_1 : Fs :=
    (sIf (bTest (eBin (dCmp rLt zLt) (dOf (eApp gLen (sCons (dVar 3) sNil))) (dVar 2)))
    (sSet 3 (eFrz (eBin dAdd (dVar 3) (dVar 4))))
    sNil')
def b_best : Fs :=
    (sSeq (sSet 3 (eTup aNil))
    (sSeq (sFor (iVal (eCall m_groups (aCons (eVar 0) (aCons (eVar 1) aNil)))) (gOne 4)
    l_best_1)
    (sRet (eVar 3))))
def m_best : Fn := runB 5 b_best
def l_list_told_1 : Fs :=
    (sSeq (sSet 5 (eFrz (eCall m_told (aCons (eVar 0) (aCons (eVar 3) (aCons (eVar 4) aNil))))))
    (sIf (bTest (eBin dNe (dVar 5) (dOf (eC (.int 0)))))
    (sRet (eVar 5))
    sNil'))
def b_list_told : Fs :=
    (sSeq (sFor (iZipF (eVar 1) (eVar 2)) (gMany [3, 4])
    l_list_told_1)
    (sRet (eBin dSub (dOf (eApp gInt (sCons (dOf (eBin (dCmp rGt zGt) (dOf (eApp gLen (sCons (dVar 1) sNil))) (dOf (eApp gLen (sCons (dVar 2) sNil))))) sNil))) (dOf (eApp gInt (sCons (dOf (eBin (dCmp rLt zLt) (dOf (eApp gLen (sCons (dVar 1) sNil))) (dOf (eApp gLen (sCons (dVar 2) sNil))))) sNil))))))
def m_list_told : Fn := runB 6 b_list_told
def l__law_lists_1 : Fs :=
    (sSeq (sSet 4 (eFrz (eCall m__law_word (aCons (eVar 0) (aCons (eBin dIx (dVar 1) (dVar 3)) (aCons (eBin dIx (dVar 2) (dVar 3)) aNil))))))
    (sIf (bTest (eBin dNe (dVar 4) (dOf (eC (.int 0)))))
    (sRet (eVar 4))
    sNil'))
def b__law_lists : Fs :=
    (sSeq (sFor (iRng1 (dOf (eApp gMin2 (sCons (dOf (eApp gLen (sCons (dVar 1) sNil))) (sCons (dOf (eApp gLen (sCons (dVar 2) sNil))) sNil))))) (gOne 3)
    l__law_lists_1)
    (sRet (eIf (bTest (eBin dEq (dOf (eApp gLen (sCons (dVar 1) sNil))) (dOf (eApp gLen (sCons (dVar 2) sNil))))) (eC (.int 0)) (eIf (bTest (eBin (dCmp rLt zLt) (dOf (eApp gLen (sCons (dVar 1) sNil))) (dOf (eApp gLen (sCons (dVar 2) sNil))))) (eUn dNeg (dOf (eC (.int 1)))) (eC (.int 1))))))
def m__law_lists : Fn := runB 5 b__law_lists
def b_table_of : Fs :=
    (sRet (eApp gTup (sCons (dOf (eComp (iOf (dVar 1)) (gOne 2) [2] bYes (eApp gTup (sCons (dOf (eComp (iOf (dVar 1)) (gOne 3) [3] bYes (eCall m_told (aCons (eVar 0) (aCons (eVar 2) (aCons (eVar 3) aNil)))))) sNil)))) sNil)))
def m_table_of : Fn := runB 4 b_table_of
def b_is_odd : Fs :=
    (sRet (eBin dNe (dOf (eBin dIx (dOf (eBin dIx (dVar 0) (dVar 1))) (dVar 2))) (dOf (eBin dSub (dOf (eC (.int 0))) (dOf (eBin dIx (dOf (eBin dIx (dVar 0) (dVar 2))) (dVar 1)))))))
def m_is_odd : Fn := runB 3 b_is_odd
def b_is_chain : Fs :=
    (sSeq (sSet 4 (eBin dIx (dOf (eBin dIx (dVar 0) (dVar 1))) (dVar 2)))
    (sSeq (sEnd [2] (sSet 5 (eBin dIx (dOf (eBin dIx (dVar 0) (dVar 2))) (dVar 3))))
    (sRet (eAnd (eBin (dCmp rLt zLt) (dVar 4) (dOf (eC (.int 1)))) (eAnd (eBin (dCmp rLt zLt) (dVar 5) (dOf (eC (.int 1)))) (eBin dNe (dOf (eBin dIx (dOf (eBin dIx (dVar 0) (dVar 1))) (dVar 3))) (dOf (eApp gMin2 (sCons (dVar 4) (sCons (dVar 5) sNil))))))))))
def m_is_chain : Fn := runB 6 b_is_chain
-- l_why_none_2: head 0:table 1:many 2:one of 5
def l_why_none_2 : Fs :=
    (sEnd [3] (sIf (bTru (dOf (eCall m_is_odd (aCons (eVar 0) (aCons (eVar 2) (aCons (eVar 3) aNil))))))
    (sRet (eTup (aCons (eC (.str "odd")) (aCons (eVar 2) (aCons (eVar 3) aNil)))))
    sNil'))
-- l_why_none_1: head 0:table 1:many of 5
def l_why_none_1 : Fs :=
    (sEnd [2] (sFor (iVal (eVar 1)) (gOne 3)
    l_why_none_2))
-- l_why_none_5: head 0:table 1:many 2:one 3:other of 5
def l_why_none_5 : Fs :=
    (sEnd [4] (sIf (bTru (dOf (eCall m_is_chain (aCons (eVar 0) (aCons (eVar 2) (aCons (eVar 3) (aCons (eVar 4) aNil)))))))
    (sRet (eTup (aCons (eC (.str "chain")) (aCons (eVar 2) (aCons (eVar 3) (aCons (eVar 4) aNil))))))
    sNil'))
-- l_why_none_4: head 0:table 1:many 2:one of 5
def l_why_none_4 : Fs :=
    (sEnd [3] (sFor (iVal (eVar 1)) (gOne 4)
    l_why_none_5))
-- l_why_none_3: head 0:table 1:many of 5
def l_why_none_3 : Fs :=
    (sEnd [2] (sFor (iVal (eVar 1)) (gOne 3)
    l_why_none_4))
def b_why_none : Fs :=
    (sSeq (sSet 1 (eFrz (eListRg1 (dOf (eApp gLen (sCons (dVar 0) sNil))))))
    (sSeq (sFor (iVal (eVar 1)) (gOne 2)
    l_why_none_1)
    (sSeq (sEnd [0, 1] (sFor (iVal (eVar 1)) (gOne 2)
    l_why_none_3))
    (sRet (eC .none)))))
def m_why_none : Fn := runB 5 b_why_none
def b_is_why_none : Fs :=
    (sSeq (sIf (bOr (bNot (bTru (dOf (eIsa "tuple" (dVar 1))))) (bOr (bTest (eBin dNotIn (dOf (eApp gLen (sCons (dVar 1) sNil))) (dOf (eTup (aCons (eC (.int 3)) (aCons (eC (.int 4)) aNil)))))) (bTest (eBin dNe (dOf (eBin dIx (dVar 1) (dOf (eC (.int 0))))) (dOf (eIf (bTest (eBin dEq (dOf (eApp gLen (sCons (dVar 1) sNil))) (dOf (eC (.int 3))))) (eC (.str "odd")) (eC (.str "chain"))))))))
    (sRet (eC (.bool false)))
    sNil')
    (sSeq (sIf (bNot (bTru (dOf (eApp gAll (sCons (dOf (eComp (iOf (dOf (eSl dSl (dVar 1) (oSome (dOf (eC (.int 1)))) oNone))) (gOne 2) [2] bYes (eCall m_is_whole (aCons (eVar 2) (aCons (eC (.int 0)) (aCons (eBin dSub (dOf (eApp gLen (sCons (dVar 0) sNil))) (dOf (eC (.int 1)))) aNil)))))) sNil)))))
    (sRet (eC (.bool false)))
    sNil')
    (sSeq (sIf (bTest (eBin dEq (dOf (eApp gLen (sCons (dVar 1) sNil))) (dOf (eC (.int 3)))))
    (sRet (eCall m_is_odd (aCons (eVar 0) (aCons (eBin dIx (dVar 1) (dOf (eC (.int 1)))) (aCons (eBin dIx (dVar 1) (dOf (eC (.int 2)))) aNil)))))
    sNil')
    (sRet (eCall m_is_chain (aCons (eVar 0) (aCons (eBin dIx (dVar 1) (dOf (eC (.int 1)))) (aCons (eBin dIx (dVar 1) (dOf (eC (.int 2)))) (aCons (eBin dIx (dVar 1) (dOf (eC (.int 3)))) aNil)))))))))
def m_is_why_none : Fn := runB 3 b_is_why_none
def b__law_is_odd : Fs :=
    (sRet (eBin dNe (dOf (eBin dAdd (dOf (eBin dIx (dOf (eBin dIx (dVar 0) (dVar 1))) (dVar 2))) (dOf (eBin dIx (dOf (eBin dIx (dVar 0) (dVar 2))) (dVar 1))))) (dOf (eC (.int 0)))))
def m__law_is_odd : Fn := runB 3 b__law_is_odd
def b__law_is_chain : Fs :=
    (sSeq (sIf (bOr (bTest (eBin dEq (dOf (eBin dIx (dOf (eBin dIx (dVar 0) (dVar 1))) (dVar 2))) (dOf (eC (.int 1))))) (bTest (eBin dEq (dOf (eBin dIx (dOf (eBin dIx (dVar 0) (dVar 2))) (dVar 3))) (dOf (eC (.int 1))))))
    (sRet (eC (.bool false)))
    sNil')
    (sRet (eBin dNe (dOf (eBin dIx (dOf (eBin dIx (dVar 0) (dVar 1))) (dVar 3))) (dOf (eIf (bTest (eBin dIn (dOf (eUn dNeg (dOf (eC (.int 1))))) (dOf (eTup (aCons (eBin dIx (dOf (eBin dIx (dVar 0) (dVar 1))) (dVar 2)) (aCons (eBin dIx (dOf (eBin dIx (dVar 0) (dVar 2))) (dVar 3)) aNil)))))) (eUn dNeg (dOf (eC (.int 1)))) (eC (.int 0)))))))
def m__law_is_chain : Fn := runB 4 b__law_is_chain
-- l__law_papers_2: head 0:_law_table_here 1:_law_every 2:_law_got 3:_law_k of 6
def l__law_papers_2 : Fs :=
    (sSeq (sIf (bTru (dOf (eCall m__law_is_odd (aCons (eVar 0) (aCons (eVar 3) (aCons (eVar 4) aNil))))))
    (sApp 2 (eTup (aCons (eC (.str "odd")) (aCons (eVar 3) (aCons (eVar 4) aNil)))))
    sNil')
    (sEnd [4] (sSet 2 (eBin dAdd (dVar 2) (dOf (eComp (iOf (dVar 1)) (gOne 5) [5] (bTru (dOf (eCall m__law_is_chain (aCons (eVar 0) (aCons (eVar 3) (aCons (eVar 4) (aCons (eVar 5) aNil))))))) (eTup (aCons (eC (.str "chain")) (aCons (eVar 3) (aCons (eVar 4) (aCons (eVar 5) aNil)))))))))))
-- l__law_papers_1: head 0:_law_table_here 1:_law_every 2:_law_got of 6
def l__law_papers_1 : Fs :=
    (sEnd [3] (sFor (iVal (eVar 1)) (gOne 4)
    l__law_papers_2))
def b__law_papers : Fs :=
    (sSeq (sSet 1 (eFrz (eListRg1 (dOf (eApp gLen (sCons (dVar 0) sNil))))))
    (sSeq (sSet 2 (eLst aNil))
    (sSeq (sEnd [0, 1] (sFor (iVal (eVar 1)) (gOne 3)
    l__law_papers_1))
    (sRetO 2))))
def m__law_papers : Fn := runB 6 b__law_papers
def b_is_table : Fs :=
    (sSeq (sIf (bOr (bNot (bTru (dOf (eIsa "tuple" (dVar 0))))) (bNot (bTest (eChain (dCmp rLe zLe) (dCmp rLe zLe) (dOf (eC (.int 1))) (dOf (eApp gLen (sCons (dVar 0) sNil))) (dOf (eC (.int 6)))))))
    (sRet (eC (.bool false)))
    sNil')
    (sSeq (sIf (bNot (bTru (dOf (eApp gAll (sCons (dOf (eComp (iOf (dVar 0)) (gOne 1) [1] bYes (eAnd (eIsa "tuple" (dVar 1)) (eBin dEq (dOf (eApp gLen (sCons (dVar 1) sNil))) (dOf (eApp gLen (sCons (dVar 0) sNil))))))) sNil)))))
    (sRet (eC (.bool false)))
    sNil')
    (sRet (eApp gAll (sCons (dOf (eComp (iOf (dVar 0)) (gOne 1) [1] bYes (eApp gAll (sCons (dOf (eComp (iOf (dVar 1)) (gOne 2) [2] bYes (eCall m_is_whole (aCons (eVar 2) (aCons (eUn dNeg (dOf (eC (.int 1)))) (aCons (eC (.int 1)) aNil)))))) sNil)))) sNil)))))
def m_is_table : Fn := runB 3 b_is_table
-- l__law_is_why_1: head 0:_law_table_here 1:_law_thing of 3
def l__law_is_why_1 : Fs :=
    (sEnd [2] (sIf (bOr (bNot (bTru (dOf (eIsa "int" (dVar 2))))) (bOr (bTru (dOf (eIsa "bool" (dVar 2)))) (bOr (bTest (eBin (dCmp rLt zLt) (dVar 2) (dOf (eC (.int 0))))) (bTest (eBin (dCmp rGe zGe) (dVar 2) (dOf (eApp gLen (sCons (dVar 0) sNil))))))))
    (sRet (eC (.bool false)))
    sNil'))
def b__law_is_why : Fs :=
    (sSeq (sIf (bOr (bNot (bTru (dOf (eIsa "tuple" (dVar 1))))) (bTest (eBin (dCmp rLt zLt) (dOf (eApp gLen (sCons (dVar 1) sNil))) (dOf (eC (.int 3))))))
    (sRet (eC (.bool false)))
    sNil')
    (sSeq (sFor (iVal (eSl dSl (dVar 1) (oSome (dOf (eC (.int 1)))) oNone)) (gOne 2)
    l__law_is_why_1)
    (sSeq (sIf (bTest (eBin dEq (dOf (eBin dIx (dVar 1) (dOf (eC (.int 0))))) (dOf (eC (.str "odd")))))
    (sRet (eAnd (eBin dEq (dOf (eApp gLen (sCons (dVar 1) sNil))) (dOf (eC (.int 3)))) (eCall m__law_is_odd (aCons (eVar 0) (aCons (eBin dIx (dVar 1) (dOf (eC (.int 1)))) (aCons (eBin dIx (dVar 1) (dOf (eC (.int 2)))) aNil))))))
    sNil')
    (sRet (eAnd (eBin dEq (dOf (eBin dIx (dVar 1) (dOf (eC (.int 0))))) (dOf (eC (.str "chain")))) (eAnd (eBin dEq (dOf (eApp gLen (sCons (dVar 1) sNil))) (dOf (eC (.int 4)))) (eCall m__law_is_chain (aCons (eVar 0) (aCons (eBin dIx (dVar 1) (dOf (eC (.int 1)))) (aCons (eBin dIx (dVar 1) (dOf (eC (.int 2)))) (aCons (eBin dIx (dVar 1) (dOf (eC (.int 3)))) aNil)))))))))))
def m__law_is_why : Fn := runB 3 b__law_is_why
-- l__law_is_table_2: head 0:_law_thing of 3
def l__law_is_table_2 : Fs :=
    (sEnd [2] (sIf (bOr (bNot (bTru (dOf (eIsa "int" (dVar 2))))) (bOr (bTru (dOf (eIsa "bool" (dVar 2)))) (bTest (eBin dNotIn (dVar 2) (dOf (eTup (aCons (eUn dNeg (dOf (eC (.int 1)))) (aCons (eC (.int 0)) (aCons (eC (.int 1)) aNil)))))))))
    (sRet (eC (.bool false)))
    sNil'))
-- l__law_is_table_1: head 0:_law_thing of 3
def l__law_is_table_1 : Fs :=
    (sSeq (sIf (bOr (bNot (bTru (dOf (eIsa "tuple" (dVar 1))))) (bTest (eBin dNe (dOf (eApp gLen (sCons (dVar 1) sNil))) (dOf (eApp gLen (sCons (dVar 0) sNil))))))
    (sRet (eC (.bool false)))
    sNil')
    (sForK [1] (iVal (eVar 1)) (gOne 2)
    l__law_is_table_2))
def b__law_is_table : Fs :=
    (sSeq (sIf (bOr (bNot (bTru (dOf (eIsa "tuple" (dVar 0))))) (bNot (bTest (eChain (dCmp rLe zLe) (dCmp rLe zLe) (dOf (eC (.int 1))) (dOf (eApp gLen (sCons (dVar 0) sNil))) (dOf (eC (.int 6)))))))
    (sRet (eC (.bool false)))
    sNil')
    (sSeq (sEnd [0] (sFor (iVal (eVar 0)) (gOne 1)
    l__law_is_table_1))
    (sRet (eC (.bool true)))))
def m__law_is_table : Fn := runB 3 b__law_is_table
def b__law_bent_v2 (m : Fn) : Fs :=
    (sSeq (sSet 3 (eFrz (eLst (aCons (eC .none) (aCons (eC (.bool true)) (aCons (eC (.bool false)) (aCons (eUn dNeg (dOf (eC (.int 2)))) (aCons (eUn dNeg (dOf (eC (.int 1)))) (aCons (eC (.int 0)) (aCons (eC (.int 1)) (aCons (eC (.int 2)) (aCons (eC (.str "0")) (aCons (eTup aNil) (aCons (eTup (aCons (eC (.int 0)) aNil)) (aCons (eLst (aCons (eC (.int 0)) aNil)) (aCons (eTup (aCons (eC (.int 0)) (aCons (eC (.int 0)) aNil))) (aCons (eBin dMul (dOf (eTup (aCons (eC (.int 0)) aNil))) (dOf (eC (.int 6)))) (aCons (eBin dMul (dOf (eTup (aCons (eC (.int 0)) aNil))) (dOf (eC (.int 7)))) aNil))))))))))))))))))
    (sSeq (sEnd [3] (sIf (bOr (bNot (bTru (dOf (eIsa "tuple" (dVar 2))))) (bOr (bTest (eBin dEq (dVar 2) (dOf (eTup aNil)))) (bTest (eBin dEq (dOf (eCall m__law_draw (aCons (eVar 0) (aCons (eVar 1) (aCons (eC (.int 4)) aNil))))) (dOf (eC (.int 0)))))))
    (sRet (eCall m__law_pick (aCons (eVar 0) (aCons (eVar 1) (aCons (eVar 3) aNil)))))
    sNil'))
    (sSeq (sSet 4 (eCall m__law_draw (aCons (eVar 0) (aCons (eVar 1) (aCons (eApp gLen (sCons (dVar 2) sNil)) aNil)))))
    (sSeq (sSet 5 (eCall m__law_draw (aCons (eVar 0) (aCons (eVar 1) (aCons (eC (.int 7)) aNil)))))
    (sSeq (sIf (bTest (eBin dEq (dVar 5) (dOf (eC (.int 0)))))
    (sRet (eBin dAdd (dOf (eSl dSl (dVar 2) oNone (oSome (dVar 4)))) (dOf (eSl dSl (dVar 2) (oSome (dOf (eBin dAdd (dVar 4) (dOf (eC (.int 1)))))) oNone))))
    sNil')
    (sSeq (sIf (bTest (eBin dEq (dVar 5) (dOf (eC (.int 1)))))
    (sRet (eBin dAdd (dOf (eBin dAdd (dOf (eSl dSl (dVar 2) oNone (oSome (dVar 4)))) (dOf (eTup (aCons (eBin dIx (dVar 2) (dVar 4)) aNil))))) (dOf (eSl dSl (dVar 2) (oSome (dVar 4)) oNone))))
    sNil')
    (sSeq (sEnd [5] (sIf (bTest (eBin dEq (dVar 5) (dOf (eC (.int 2)))))
    (sRet (eApp gList (sCons (dVar 2) sNil)))
    sNil'))
    (sRet (eBin dAdd (dOf (eBin dAdd (dOf (eSl dSl (dVar 2) oNone (oSome (dVar 4)))) (dOf (eTup (aCons (eCall m (aCons (eVar 0) (aCons (eVar 1) (aCons (eBin dIx (dVar 2) (dVar 4)) aNil)))) aNil))))) (dOf (eSl dSl (dVar 2) (oSome (dOf (eBin dAdd (dVar 4) (dOf (eC (.int 1)))))) oNone)))))))))))
def m__law_bent_v2_ : Nat → Fn
  | 0 => fun _ _ => none
  | k + 1 => runB 6 (b__law_bent_v2 (m__law_bent_v2_ k))
def m__law_bent_v2 : Fn := m__law_bent_v2_ 10
def b_behind : Fs :=
    (sRet (eApp gSorted (sCons (dOf (eComp (iOf (dVar 0)) (gMany [2, 3]) [2, 3] (bTest (eBin dEq (dVar 2) (dVar 1))) (eVar 3))) sNil)))
def m_behind : Fn := runB 4 b_behind
-- l_ring_from_1: head 0:pairs 1:way of 4
def l_ring_from_1 (m : Fn) : Fs :=
    (sSeq (sIf (bTest (eBin dEq (dVar 2) (dOf (eBin dIx (dVar 1) (dOf (eC (.int 0)))))))
    (sRet (eVar 1))
    sNil')
    (sEnd [2] (sIf (bAnd (bTest (eBin (dCmp rGt zGt) (dVar 2) (dOf (eBin dIx (dVar 1) (dOf (eC (.int 0))))))) (bTest (eBin dNotIn (dVar 2) (dVar 1))))
    (sSeq (sEnd [2] (sSet 3 (eFrz (eCall m (aCons (eVar 0) (aCons (eBin dAdd (dVar 1) (dOf (eTup (aCons (eVar 2) aNil)))) aNil))))))
    (sEnd [3] (sIf (bTest (eBin dNotN (dVar 3) (dOf (eC .none))))
    (sRet (eVar 3))
    sNil')))
    sNil')))
def b_ring_from (m : Fn) : Fs :=
    (sSeq (sEnd [0, 1] (sFor (iVal (eCall m_behind (aCons (eVar 0) (aCons (eBin dIx (dVar 1) (dOf (eUn dNeg (dOf (eC (.int 1)))))) aNil)))) (gOne 2)
    (l_ring_from_1 m)))
    (sRet (eC .none)))
def m_ring_from_ : Nat → Fn
  | 0 => fun _ _ => none
  | k + 1 => runB 4 (b_ring_from (m_ring_from_ k))
def m_ring_from : Fn := m_ring_from_ 10
-- l__law_rings_1: head 0:_law_pairs_here 1:_law_way 2:_law_got of 5
def l__law_rings_1 (m : Fn) : Fs :=
    (sSeq (sIf (bAnd (bTest (eBin dEq (dVar 3) (dOf (eBin dIx (dVar 1) (dOf (eUn dNeg (dOf (eC (.int 1))))))))) (bTest (eBin dEq (dVar 4) (dOf (eBin dIx (dVar 1) (dOf (eC (.int 0))))))))
    (sApp 2 (eVar 1))
    sNil')
    (sEnd [3, 4] (sIf (bAnd (bTest (eBin dEq (dVar 3) (dOf (eBin dIx (dVar 1) (dOf (eUn dNeg (dOf (eC (.int 1))))))))) (bAnd (bTest (eBin (dCmp rGt zGt) (dVar 4) (dOf (eBin dIx (dVar 1) (dOf (eC (.int 0))))))) (bTest (eBin dNotIn (dVar 4) (dVar 1)))))
    (sEnd [3, 4] (sSet 2 (eBin dAdd (dVar 2) (dOf (eCall m (aCons (eVar 0) (aCons (eBin dAdd (dVar 1) (dOf (eTup (aCons (eVar 4) aNil)))) aNil)))))))
    sNil')))
def b__law_rings (m : Fn) : Fs :=
    (sSeq (sSet 2 (eLst aNil))
    (sSeq (sEnd [0, 1] (sFor (iVal (eVar 0)) (gMany [3, 4])
    (l__law_rings_1 m)))
    (sRetO 2)))
def m__law_rings_ : Nat → Fn
  | 0 => fun _ _ => none
  | k + 1 => runB 5 (b__law_rings (m__law_rings_ k))
def m__law_rings : Fn := m__law_rings_ 10
-- l__law_orders_1: head 0:_law_pairs_here 1:_law_left 2:_law_got of 9
def l__law_orders_1 (m : Fn) : Fs :=
    (sEnd [3] (sIf (bNot (bTru (dOf (eComp (iOf (dVar 0)) (gMany [4, 5]) [4, 5] (bAnd (bTest (eBin dEq (dVar 5) (dVar 3))) (bTest (eBin dIn (dVar 4) (dVar 1)))) (eC (.int 1))))))
    (sSeq (sSet 6 (eFrz (eComp (iOf (dVar 1)) (gOne 7) [7] (bTest (eBin dNe (dVar 7) (dVar 3))) (eVar 7))))
    (sEnd [3, 6] (sSet 2 (eFrz (eBin dAdd (dVar 2) (dOf (eComp (iOf (dOf (eCall m (aCons (eVar 0) (aCons (eVar 6) aNil))))) (gOne 8) [8] bYes (eBin dAdd (dOf (eTup (aCons (eVar 3) aNil))) (dVar 8)))))))))
    sNil'))
def b__law_orders (m : Fn) : Fs :=
    (sSeq (sIf (bNot (bTru (dVar 1)))
    (sRet (eLst (aCons (eTup aNil) aNil)))
    sNil')
    (sSeq (sSet 2 (eFrz (eLst aNil)))
    (sSeq (sEnd [0, 1] (sFor (iVal (eVar 1)) (gOne 3)
    (l__law_orders_1 m)))
    (sRet (eVar 2)))))
def m__law_orders_ : Nat → Fn
  | 0 => fun _ _ => none
  | k + 1 => runB 9 (b__law_orders (m__law_orders_ k))
def m__law_orders : Fn := m__law_orders_ 10
-- l_orders_from_1: head 0:pairs 1:left 2:found of 8
def l_orders_from_1 (m : Fn) : Fs :=
    (sEnd [3] (sIf (bNot (bTru (dOf (eComp (iOf (dVar 0)) (gMany [4, 5]) [4, 5] (bAnd (bTest (eBin dEq (dVar 5) (dVar 3))) (bTest (eBin dIn (dVar 4) (dVar 1)))) (eVar 4)))))
    (sEnd [3] (sExt 2 (eComp (iOf (dOf (eCall m (aCons (eVar 0) (aCons (eComp (iOf (dVar 1)) (gOne 7) [7] (bTest (eBin dNe (dVar 7) (dVar 3))) (eVar 7)) aNil))))) (gOne 6) [6] bYes (eBin dAdd (dOf (eTup (aCons (eVar 3) aNil))) (dVar 6)))))
    sNil'))
def b_orders_from (m : Fn) : Fs :=
    (sSeq (sIf (bNot (bTru (dVar 1)))
    (sRet (eLst (aCons (eTup aNil) aNil)))
    sNil')
    (sSeq (sSet 2 (eLst aNil))
    (sSeq (sEnd [0, 1] (sFor (iVal (eVar 1)) (gOne 3)
    (l_orders_from_1 m)))
    (sRetO 2))))
def m_orders_from_ : Nat → Fn
  | 0 => fun _ _ => none
  | k + 1 => runB 8 (b_orders_from (m_orders_from_ k))
def m_orders_from : Fn := m_orders_from_ 10
-- l_plain_keys_1: head 0:found of 4
def l_plain_keys_1 : Fs :=
    (sEnd [1] (sExt 0 (eComp (iRng2 (dOf (eBin dAdd (dVar 1) (dOf (eC (.int 1))))) (dOf (eC (.int 3)))) (gOne 3) [3] bYes (eTup (aCons (eC (.str "sum")) (aCons (eVar 1) (aCons (eVar 3) aNil)))))))
def b_plain_keys : Fs :=
    (sSeq (sSet 0 (eComp (iRng1 (dOf (eC (.int 3)))) (gOne 1) [1] bYes (eTup (aCons (eC (.str "up")) (aCons (eVar 1) aNil)))))
    (sSeq (sExt 0 (eComp (iOf (dOf (eApp gList (sCons (dVar 0) sNil)))) (gOne 2) [2] bYes (eCall m_turned_key (aCons (eVar 2) aNil))))
    (sSeq (sExt 0 (eComp (iRng1 (dOf (eC (.int 3)))) (gOne 1) [1] bYes (eTup (aCons (eC (.str "rest")) (aCons (eVar 1) (aCons (eC (.int 2)) aNil))))))
    (sSeq (sExt 0 (eComp (iRng1 (dOf (eC (.int 3)))) (gOne 1) [1] bYes (eTup (aCons (eC (.str "part")) (aCons (eVar 1) (aCons (eC (.int 2)) aNil))))))
    (sSeq (sFor (iRng1 (dOf (eC (.int 3)))) (gOne 1)
    l_plain_keys_1)
    (sRet (eApp gTup (sCons (dVar 0) sNil))))))))
def m_plain_keys : Fn := runB 4 b_plain_keys
-- l_agreeing_1: head 0:things 1:keys 2:found of 5
def l_agreeing_1 : Fs :=
    (sEnd [3] (sIf (bTru (dOf (eCall m_is_ordered (aCons (eTup (aCons (eVar 3) aNil)) (aCons (eVar 0) aNil)))))
    (sEnd [3] (sExt 2 (eComp (iOf (dVar 1)) (gOne 4) [4] (bAnd (bTest (eBin dNe (dVar 4) (dVar 3))) (bTru (dOf (eCall m_is_ordered (aCons (eTup (aCons (eVar 3) (aCons (eVar 4) aNil))) (aCons (eVar 0) aNil)))))) (eTup (aCons (eVar 3) (aCons (eVar 4) aNil))))))
    sNil'))
def b_agreeing : Fs :=
    (sSeq (sSet 1 (eFrz (eCall m_plain_keys aNil)))
    (sSeq (sSet 2 (eComp (iOf (dVar 1)) (gOne 3) [3] (bTru (dOf (eCall m_is_ordered (aCons (eTup (aCons (eVar 3) aNil)) (aCons (eVar 0) aNil))))) (eTup (aCons (eVar 3) aNil))))
    (sSeq (sEnd [0, 1] (sFor (iVal (eVar 1)) (gOne 3)
    l_agreeing_1))
    (sRet (eApp gTup (sCons (dVar 2) sNil))))))
def m_agreeing : Fn := runB 5 b_agreeing
def b_told_by : Fs :=
    (sSeq (sSet 1 (eFrz (eCall m_agreeing (aCons (eBin dIx (dVar 0) (dOf (eC (.int 0)))) aNil))))
    (sRet (eApp gTup (sCons (dOf (eComp (iOf (dVar 1)) (gOne 2) [2] (bTru (dOf (eApp gAll (sCons (dOf (eComp (iOf (dVar 0)) (gOne 3) [3] bYes (eCall m_is_ordered (aCons (eVar 2) (aCons (eVar 3) aNil))))) sNil)))) (eVar 2))) sNil))))
def m_told_by : Fn := runB 4 b_told_by
def b__law_fifteen : Fs :=
    (sSeq (sSet 0 (eFrz (eBin dAdd (dOf (eComp (iRng1 (dOf (eC (.int 3)))) (gOne 1) [1] bYes (eTup (aCons (eC (.str "up")) (aCons (eVar 1) aNil))))) (dOf (eComp (iRng1 (dOf (eC (.int 3)))) (gOne 1) [1] bYes (eTup (aCons (eC (.str "down")) (aCons (eTup (aCons (eC (.str "up")) (aCons (eVar 1) aNil))) aNil))))))))
    (sSeq (sSet 0 (eFrz (eBin dAdd (dOf (eBin dAdd (dVar 0) (dOf (eComp (iRng1 (dOf (eC (.int 3)))) (gOne 1) [1] bYes (eTup (aCons (eC (.str "rest")) (aCons (eVar 1) (aCons (eC (.int 2)) aNil)))))))) (dOf (eComp (iRng1 (dOf (eC (.int 3)))) (gOne 1) [1] bYes (eTup (aCons (eC (.str "part")) (aCons (eVar 1) (aCons (eC (.int 2)) aNil)))))))))
    (sRet (eBin dAdd (dVar 0) (dOf (eLst (aCons (eTup (aCons (eC (.str "sum")) (aCons (eC (.int 0)) (aCons (eC (.int 1)) aNil)))) (aCons (eTup (aCons (eC (.str "sum")) (aCons (eC (.int 0)) (aCons (eC (.int 2)) aNil)))) (aCons (eTup (aCons (eC (.str "sum")) (aCons (eC (.int 1)) (aCons (eC (.int 2)) aNil)))) aNil)))))))))
def m__law_fifteen : Fn := runB 2 b__law_fifteen
def b__law_fits : Fs :=
    (sRet (eBin dEq (dOf (eComp (iRng2 (dOf (eC (.int 1))) (dOf (eApp gLen (sCons (dVar 1) sNil)))) (gOne 2) [2] (bTest (eBin (dCmp rGt zGt) (dOf (eCall m__law_word (aCons (eVar 0) (aCons (eBin dIx (dVar 1) (dOf (eBin dSub (dVar 2) (dOf (eC (.int 1)))))) (aCons (eBin dIx (dVar 1) (dVar 2)) aNil))))) (dOf (eC (.int 0))))) (eVar 2))) (dOf (eLst aNil))))
def m__law_fits : Fn := runB 3 b__law_fits
-- l__law_rows_1: head 0:_law_every_here 1:_law_got of 4
def l__law_rows_1 : Fs :=
    (sEnd [2] (sSet 1 (eFrz (eBin dAdd (dVar 1) (dOf (eComp (iOf (dVar 0)) (gOne 3) [3] (bTest (eBin dNe (dVar 3) (dVar 2))) (eTup (aCons (eVar 2) (aCons (eVar 3) aNil)))))))))
def b__law_rows : Fs :=
    (sSeq (sSet 0 (eFrz (eCall m__law_fifteen aNil)))
    (sSeq (sSet 1 (eFrz (eComp (iOf (dVar 0)) (gOne 2) [2] bYes (eTup (aCons (eVar 2) aNil)))))
    (sSeq (sEnd [0] (sFor (iVal (eVar 0)) (gOne 2)
    l__law_rows_1))
    (sRet (eVar 1)))))
def m__law_rows : Fn := runB 4 b__law_rows
def b__law_deed : Fs :=
    (sSeq (sSet 3 (eCall m__law_draw (aCons (eVar 0) (aCons (eVar 1) (aCons (eC (.int 10)) aNil)))))
    (sSeq (sSet 4 (eFrz (eCall m__law_thing (aCons (eVar 0) (aCons (eVar 1) aNil)))))
    (sSeq (sIf (bAnd (bTru (dVar 2)) (bTest (eBin dEq (dOf (eCall m__law_draw (aCons (eVar 0) (aCons (eVar 1) (aCons (eC (.int 3)) aNil))))) (dOf (eC (.int 0))))))
    (sSet 4 (eFrz (eCall m__law_pick (aCons (eVar 0) (aCons (eVar 1) (aCons (eVar 2) aNil))))))
    sNil')
    (sSeq (sEnd [4] (sIf (bTest (eBin (dCmp rLt zLt) (dVar 3) (dOf (eC (.int 5)))))
    (sRet (eTup (aCons (eC (.str "put")) (aCons (eVar 4) aNil))))
    sNil'))
    (sSeq (sEnd [2] (sIf (bTest (eBin (dCmp rLt zLt) (dVar 3) (dOf (eC (.int 7)))))
    (sRet (eTup (aCons (eC (.str "take")) (aCons (eBin dSub (dOf (eCall m__law_draw (aCons (eVar 0) (aCons (eVar 1) (aCons (eBin dAdd (dOf (eApp gLen (sCons (dVar 2) sNil))) (dOf (eC (.int 3)))) aNil))))) (dOf (eC (.int 1)))) aNil))))
    sNil'))
    (sSeq (sEnd [0, 1] (sIf (bTest (eBin dEq (dVar 3) (dOf (eC (.int 7)))))
    (sRet (eTup (aCons (eC (.str "order")) (aCons (eCall m__law_keys (aCons (eVar 0) (aCons (eVar 1) (aCons (eC (.int 3)) aNil)))) aNil))))
    sNil'))
    (sRet (eTup (aCons (eBin dIx (dOf (eLst (aCons (eC (.str "back")) (aCons (eC (.str "forth")) aNil)))) (dOf (eBin dSub (dVar 3) (dOf (eC (.int 8)))))) aNil)))))))))
def m__law_deed : Fn := runB 5 b__law_deed
def b__law_or : Fs :=
    (sSeq (sIf (bTest (eBin dIsN (dVar 0) (dOf (eC .none))))
    (sRet (eC (.str "refused")))
    sNil')
    (sRet (eVar 0)))
def m__law_or : Fn := runB 1 b__law_or
def b__law_draw_v2 : Fs :=
    (sSeq (sTown 1)
    (sSeq (sEnd [1] (sSet 3 (eTLen 1)))
    (sSeq (sSet 4 (eC (.int 0)))
    (sSeq (sEnd [0] (sIf (bTru (dVar 0))
    (sEnd [0] (sSet 4 (eBin dIx (dVar 0) (dOf (eBin dMod (dVar 3) (dOf (eApp gLen (sCons (dVar 0) sNil))))))))
    sNil'))
    (sSeq (sEnd [3, 4] (sSet 5 (eBin dMod (dOf (eBin dAdd (dVar 4) (dOf (eBin dMul (dOf (eC (.int 104729))) (dVar 3))))) (dOf (eC (.int 4294967291))))))
    (sSeq (sSet 5 (eBin dMod (dOf (eBin dMul (dOf (eBin dMod (dOf (eBin dMul (dVar 5) (dVar 5))) (dOf (eC (.int 4294967279))))) (dOf (eC (.int 48271))))) (dOf (eC (.int 4294967291)))))
    (sRet (eBin dMod (dOf (eBin dDiv (dVar 5) (dOf (eC (.int 64))))) (dVar 2)))))))))
def m__law_draw_v2 : Fn := runB 6 b__law_draw_v2
def b__law_pick_v2 : Fs :=
    (sRet (eBin dIx (dVar 2) (dOf (eCall m__law_draw_v2 (aCons (eVar 0) (aCons (eVar 1) (aCons (eApp gLen (sCons (dVar 2) sNil)) aNil)))))))
def m__law_pick_v2 : Fn := runB 3 b__law_pick_v2
-- l__law_plain_v2_1: head 0:_law_script 1:_law_town 2:_law_kind 3:_law_at 4:_law_some of 8
def l__law_plain_v2_1 : Fs :=
    (sSeq (sEnd [5] (sSet 6 (eCall m__law_draw_v2 (aCons (eVar 0) (aCons (eVar 1) (aCons (eC (.int 6)) aNil))))))
    (sEnd [6] (sIf (bTest (eBin dNotIn (dVar 6) (dVar 4)))
    (sEnd [6] (sSet 4 (eFrz (eBin dAdd (dVar 4) (dOf (eTup (aCons (eVar 6) aNil)))))))
    sNil')))
def b__law_plain_v2 : Fs :=
    (sSeq (sSet 2 (eCall m__law_draw_v2 (aCons (eVar 0) (aCons (eVar 1) (aCons (eC (.int 9)) aNil)))))
    (sSeq (sSet 3 (eCall m__law_draw_v2 (aCons (eVar 0) (aCons (eVar 1) (aCons (eC (.int 3)) aNil)))))
    (sSeq (sIf (bTest (eBin (dCmp rLt zLt) (dVar 2) (dOf (eC (.int 2)))))
    (sRet (eTup (aCons (eC (.str "up")) (aCons (eVar 3) aNil))))
    sNil')
    (sSeq (sIf (bTest (eBin (dCmp rLt zLt) (dVar 2) (dOf (eC (.int 4)))))
    (sRet (eTup (aCons (eBin dIx (dOf (eLst (aCons (eC (.str "part")) (aCons (eC (.str "rest")) aNil)))) (dOf (eBin dSub (dVar 2) (dOf (eC (.int 2)))))) (aCons (eVar 3) (aCons (eBin dAdd (dOf (eC (.int 2))) (dOf (eCall m__law_draw_v2 (aCons (eVar 0) (aCons (eVar 1) (aCons (eC (.int 2)) aNil)))))) aNil)))))
    sNil')
    (sSeq (sEnd [3] (sIf (bTest (eBin (dCmp rLt zLt) (dVar 2) (dOf (eC (.int 6)))))
    (sSeq (sSet 4 (eTup aNil))
    (sSeq (sEnd [0, 1] (sFor (iRng1 (dOf (eBin dAdd (dOf (eC (.int 1))) (dOf (eCall m__law_draw_v2 (aCons (eVar 0) (aCons (eVar 1) (aCons (eC (.int 4)) aNil)))))))) (gOne 5)
    l__law_plain_v2_1))
    (sRet (eIf (bTest (eBin dEq (dVar 2) (dOf (eC (.int 4))))) (eTup (aCons (eC (.str "table")) (aCons (eVar 3) (aCons (eVar 4) aNil)))) (eTup (aCons (eC (.str "among")) (aCons (eVar 3) (aCons (eApp gTup (sCons (dOf (eApp gSorted (sCons (dVar 4) sNil))) sNil)) aNil))))))))
    sNil'))
    (sSeq (sEnd [0, 1] (sSet 7 (eFrz (eCall m__law_pick_v2 (aCons (eVar 0) (aCons (eVar 1) (aCons (eLst (aCons (eTup (aCons (eC (.int 0)) (aCons (eC (.int 1)) aNil))) (aCons (eTup (aCons (eC (.int 0)) (aCons (eC (.int 2)) aNil))) (aCons (eTup (aCons (eC (.int 1)) (aCons (eC (.int 2)) aNil))) aNil)))) aNil)))))))
    (sRet (eBin dAdd (dOf (eTup (aCons (eBin dIx (dOf (eLst (aCons (eC (.str "sum")) (aCons (eC (.str "gap")) (aCons (eC (.str "most")) aNil))))) (dOf (eBin dSub (dVar 2) (dOf (eC (.int 6)))))) aNil))) (dVar 7)))))))))
def m__law_plain_v2 : Fn := runB 8 b__law_plain_v2
def b__law_key_v2 : Fs :=
    (sSeq (sSet 2 (eFrz (eCall m__law_plain_v2 (aCons (eVar 0) (aCons (eVar 1) aNil)))))
    (sRet (eIf (bTest (eBin dEq (dOf (eCall m__law_draw_v2 (aCons (eVar 0) (aCons (eVar 1) (aCons (eC (.int 3)) aNil))))) (dOf (eC (.int 0))))) (eTup (aCons (eC (.str "down")) (aCons (eVar 2) aNil))) (eVar 2))))
def m__law_key_v2 : Fn := runB 3 b__law_key_v2
def b__law_keys_v2 : Fs :=
    (sRet (eApp gTup (sCons (dOf (eComp (iRng1 (dOf (eCall m__law_draw_v2 (aCons (eVar 0) (aCons (eVar 1) (aCons (eBin dAdd (dVar 2) (dOf (eC (.int 1)))) aNil)))))) (gOne 3) [3] bYes (eCall m__law_key_v2 (aCons (eVar 0) (aCons (eVar 1) aNil))))) sNil)))
def m__law_keys_v2 : Fn := runB 4 b__law_keys_v2
def b__law_number : Fs :=
    (sRet (eIf (bAnd (bTest (eBin dEq (dOf (eApp gLen (sCons (dVar 0) sNil))) (dOf (eC (.int 1))))) (bTest (eBin dIn (dVar 0) (dOf (eC (.str "0123456789")))))) (eMt isTupD gIndexT (dOf (eC (.str "0123456789"))) (sCons (dVar 0) sNil)) (eC .none)))
def m__law_number : Fn := runB 1 b__law_number
-- l__law_goes_on_3: head 0:_law_row 1:_law_lists 2:_law_some 3:_law_other of 5
def l__law_goes_on_3 : Fs :=
    (sEnd [4] (sIf (bAnd (bTest (eBin (dCmp rLt zLt) (dOf (eCall m_list_told (aCons (eVar 0) (aCons (eVar 2) (aCons (eVar 3) aNil))))) (dOf (eC (.int 1))))) (bTest (eBin (dCmp rLt zLt) (dOf (eCall m_list_told (aCons (eVar 0) (aCons (eVar 3) (aCons (eVar 4) aNil))))) (dOf (eC (.int 1))))))
    (sEnd [4] (sIf (bTest (eBin (dCmp rGt zGt) (dOf (eCall m_list_told (aCons (eVar 0) (aCons (eVar 2) (aCons (eVar 4) aNil))))) (dOf (eC (.int 0)))))
    (sRet (eC (.bool false)))
    sNil'))
    sNil'))
-- l__law_goes_on_2: head 0:_law_row 1:_law_lists 2:_law_some of 5
def l__law_goes_on_2 : Fs :=
    (sEnd [3] (sFor (iVal (eVar 1)) (gOne 4)
    l__law_goes_on_3))
-- l__law_goes_on_1: head 0:_law_row 1:_law_lists of 5
def l__law_goes_on_1 : Fs :=
    (sEnd [2] (sFor (iVal (eVar 1)) (gOne 3)
    l__law_goes_on_2))
def b__law_goes_on : Fs :=
    (sSeq (sEnd [0, 1] (sFor (iVal (eVar 1)) (gOne 2)
    l__law_goes_on_1))
    (sRet (eC (.bool true))))
def m__law_goes_on : Fn := runB 5 b__law_goes_on
-- l__law_ways_1: head 1:_law_got of 3
def l__law_ways_1 : Fs :=
    (sEnd [2] (sSet 1 (eBin dMul (dVar 1) (dVar 2))))
def b__law_ways : Fs :=
    (sSeq (sSet 1 (eC (.int 1)))
    (sSeq (sForK [0] (iRng2 (dOf (eC (.int 2))) (dOf (eBin dAdd (dVar 0) (dOf (eC (.int 1)))))) (gOne 2)
    l__law_ways_1)
    (sRet (eVar 1))))
def m__law_ways : Fn := runB 3 b__law_ways
-- l__law_word_v2_1: head 1:_law_one 2:_law_other_here of 6
def l__law_word_v2_1 : Fs :=
    (sSeq (sEnd [3] (sPar 4 5 (aCons (eCall m__law_worth (aCons (eVar 3) (aCons (eVar 1) aNil))) (aCons (eCall m__law_worth (aCons (eVar 3) (aCons (eVar 2) aNil))) aNil))))
    (sEnd [4, 5] (sIf (bTest (eBin dNe (dVar 4) (dVar 5)))
    (sRet (eIf (bTest (eBin (dCmp rLt zLt) (dVar 4) (dVar 5))) (eUn dNeg (dOf (eC (.int 1)))) (eC (.int 1))))
    sNil')))
def b__law_word_v2 : Fs :=
    (sSeq (sEnd [1, 2] (sForK [0] (iVal (eVar 0)) (gOne 3)
    l__law_word_v2_1))
    (sRet (eC (.int 0))))
def m__law_word_v2 : Fn := runB 6 b__law_word_v2
def b_chosen : Fs :=
    (sRet (eApp gTup (sCons (dOf (eComp (iOf (dVar 1)) (gOne 2) [2] bYes (eBin dIx (dVar 0) (dVar 2)))) sNil)))
def m_chosen : Fn := runB 3 b_chosen
-- l__law_choices_1: head 1:_law_got of 4
def l__law_choices_1 : Fs :=
    (sEnd [2] (sSet 1 (eFrz (eBin dAdd (dVar 1) (dOf (eComp (iOf (dVar 1)) (gOne 3) [3] bYes (eBin dAdd (dVar 3) (dOf (eTup (aCons (eVar 2) aNil))))))))))
def b__law_choices : Fs :=
    (sSeq (sSet 1 (eFrz (eLst (aCons (eTup aNil) aNil))))
    (sSeq (sForK [0] (iRng1 (dVar 0)) (gOne 2)
    l__law_choices_1)
    (sRet (eApp gSorted (sCons (dOf (eComp (iOf (dVar 1)) (gOne 3) [3] bYes (eTup (aCons (eApp gLen (sCons (dVar 3) sNil)) (aCons (eVar 3) aNil))))) sNil)))))
def m__law_choices : Fn := runB 4 b__law_choices
def b_comes_later : Fs :=
    (sSeq (sIf (bTest (eBin dEq (dVar 1) (dOf (eC (.str "many")))))
    (sRet (eBin (dCmp rGt zGt) (dOf (eApp gLen (sCons (dVar 2) sNil))) (dOf (eApp gLen (sCons (dVar 3) sNil)))))
    sNil')
    (sSeq (sIf (bTest (eBin dEq (dVar 1) (dOf (eC (.str "first")))))
    (sRet (eBin (dCmp rGt zGt) (dOf (eCall m_told (aCons (eVar 0) (aCons (eBin dIx (dVar 2) (dOf (eC (.int 0)))) (aCons (eBin dIx (dVar 3) (dOf (eC (.int 0)))) aNil))))) (dOf (eC (.int 0)))))
    sNil')
    (sSeq (sEnd [0, 1, 2, 3] (sIf (bTest (eBin dEq (dVar 1) (dOf (eC (.str "last")))))
    (sRet (eBin (dCmp rGt zGt) (dOf (eCall m_told (aCons (eVar 0) (aCons (eBin dIx (dVar 2) (dOf (eUn dNeg (dOf (eC (.int 1)))))) (aCons (eBin dIx (dVar 3) (dOf (eUn dNeg (dOf (eC (.int 1)))))) aNil))))) (dOf (eC (.int 0)))))
    sNil'))
    (sRet (eC (.bool false))))))
def m_comes_later : Fn := runB 4 b_comes_later
-- l_nested_2: head 1:inner 2:kind 4:found 6:one 7:at of 8
def l_nested_2 : Fs :=
    (sSet 7 (eBin dSub (dVar 7) (dOf (eC (.int 1)))))
-- l_nested_1: head 1:inner 2:kind 4:found of 8
def l_nested_1 : Fs :=
    (sSeq (sEnd [5] (sSet 6 (eFrz (eCall m_ordered (aCons (eVar 1) (aCons (eVar 5) aNil))))))
    (sSeq (sSet 7 (eApp gLen (sCons (dVar 4) sNil)))
    (sSeq (loopW (bAnd (bTest (eBin (dCmp rGt zGt) (dVar 7) (dOf (eC (.int 0))))) (bTru (dOf (eCall m_comes_later (aCons (eVar 1) (aCons (eVar 2) (aCons (eBin dIx (dVar 4) (dOf (eBin dSub (dVar 7) (dOf (eC (.int 1)))))) (aCons (eVar 6) aNil)))))))) l_nested_2 100000)
    (sEnd [6, 7] (sIns 4 (dVar 7) (eVar 6))))))
def b_nested : Fs :=
    (sSeq (sSet 4 (eLst aNil))
    (sSeq (sEnd [1, 2] (sForK [0, 3] (iVal (eCall m_groups (aCons (eVar 0) (aCons (eVar 3) aNil)))) (gOne 5)
    l_nested_1))
    (sRet (eApp gTup (sCons (dVar 4) sNil)))))
def m_nested : Fn := runB 8 b_nested
-- l__law_groups_1: head 0:_law_row 1:_law_inner 2:_law_things 3:_law_got of 6
def l__law_groups_1 : Fs :=
    (sIf (bAnd (bTru (dVar 3)) (bTest (eBin dEq (dOf (eCall m__law_word (aCons (eVar 0) (aCons (eBin dIx (dOf (eBin dIx (dVar 3) (dOf (eUn dNeg (dOf (eC (.int 1))))))) (dOf (eC (.int 0)))) (aCons (eBin dIx (dVar 2) (dVar 4)) aNil))))) (dOf (eC (.int 0))))))
    (sEnd [4] (sSetIx 3 (dOf (eUn dNeg (dOf (eC (.int 1))))) (eBin dAdd (dOf (eBin dIx (dVar 3) (dOf (eUn dNeg (dOf (eC (.int 1))))))) (dOf (eTup (aCons (eBin dIx (dVar 2) (dVar 4)) aNil))))))
    (sEnd [4] (sApp 3 (eTup (aCons (eBin dIx (dVar 2) (dVar 4)) aNil)))))
def b__law_groups : Fs :=
    (sSeq (sSet 3 (eLst aNil))
    (sSeq (sEnd [0, 2] (sFor (iVal (eCall m__law_sorted (aCons (eVar 0) (aCons (eVar 2) aNil)))) (gOne 4)
    l__law_groups_1))
    (sRet (eComp (iOf (dVar 3)) (gOne 5) [5] bYes (eApp gTup (sCons (dOf (eComp (iOf (dOf (eCall m__law_sorted (aCons (eVar 1) (aCons (eVar 5) aNil))))) (gOne 4) [4] bYes (eBin dIx (dVar 5) (dVar 4)))) sNil))))))
def m__law_groups : Fn := runB 6 b__law_groups
def b__law_less : Fs :=
    (sSeq (sIf (bTest (eBin dEq (dVar 1) (dOf (eC (.str "many")))))
    (sRet (eBin (dCmp rLt zLt) (dOf (eApp gLen (sCons (dVar 2) sNil))) (dOf (eApp gLen (sCons (dVar 3) sNil)))))
    sNil')
    (sSeq (sIf (bTest (eBin dEq (dVar 1) (dOf (eC (.str "first")))))
    (sRet (eBin (dCmp rLt zLt) (dOf (eCall m__law_word (aCons (eVar 0) (aCons (eBin dIx (dVar 2) (dOf (eC (.int 0)))) (aCons (eBin dIx (dVar 3) (dOf (eC (.int 0)))) aNil))))) (dOf (eC (.int 0)))))
    sNil')
    (sRet (eAnd (eBin dEq (dVar 1) (dOf (eC (.str "last")))) (eBin (dCmp rLt zLt) (dOf (eCall m__law_word (aCons (eVar 0) (aCons (eBin dIx (dVar 2) (dOf (eUn dNeg (dOf (eC (.int 1)))))) (aCons (eBin dIx (dVar 3) (dOf (eUn dNeg (dOf (eC (.int 1)))))) aNil))))) (dOf (eC (.int 0))))))))
def m__law_less : Fn := runB 4 b__law_less
-- l_merged_all_1: head 0:row 2:left 3:found of 7
def l_merged_all_1 : Fs :=
    (sSeq (sSet 5 (eC .none))
    (sSeq (sEnd [6, 4] (sForEI 2 6 4 (bAnd (bTru (dVar 4)) (bOr (bTest (eBin dIsN (dVar 5) (dOf (eC .none)))) (bTest (eBin (dCmp rLt zLt) (dOf (eCall m_told (aCons (eVar 0) (aCons (eBin dIx (dVar 4) (dOf (eC (.int 0)))) (aCons (eBin dIx (dOf (eBin dIx (dVar 2) (dVar 5))) (dOf (eC (.int 0)))) aNil))))) (dOf (eC (.int 0))))))) 5 (eVar 6)))
    (sSeq (sSet 3 (eFrz (eBin dAdd (dVar 3) (dOf (eSl dSl (dOf (eBin dIx (dVar 2) (dVar 5))) oNone (oSome (dOf (eC (.int 1)))))))))
    (sEnd [5] (sSetIx 2 (dVar 5) (eSl dSl (dOf (eBin dIx (dVar 2) (dVar 5))) (oSome (dOf (eC (.int 1)))) oNone))))))
def b_merged_all : Fs :=
    (sSeq (sEnd [1] (sSet 2 (eApp gList (sCons (dVar 1) sNil))))
    (sSeq (sSet 3 (eTup aNil))
    (sSeq (sEnd [0, 2] (loopW (bTru (dOf (eComp (iOf (dVar 2)) (gOne 4) [4] (bTru (dVar 4)) (eVar 4)))) l_merged_all_1 100000))
    (sRet (eVar 3)))))
def m_merged_all : Fn := runB 7 b_merged_all
def b_beats : Fs :=
    (sSeq (sEnd [0, 1, 2] (sSet 3 (eFrz (eComp (iOf (dVar 0)) (gOne 4) [4] bYes (eCall m_told (aCons (eVar 4) (aCons (eVar 1) (aCons (eVar 2) aNil))))))))
    (sRet (eAnd (eBin dIn (dOf (eUn dNeg (dOf (eC (.int 1))))) (dVar 3)) (eBin dNotIn (dOf (eC (.int 1))) (dVar 3)))))
def m_beats : Fn := runB 5 b_beats
-- l_front_1: head 0:rows 1:things 2:found of 6
def l_front_1 : Fs :=
    (sEnd [3, 4] (sIf (bNot (bTru (dOf (eApp gAny (sCons (dOf (eComp (iOf (dVar 1)) (gOne 5) [5] bYes (eCall m_beats (aCons (eVar 0) (aCons (eVar 5) (aCons (eVar 4) aNil)))))) sNil)))))
    (sEnd [3, 4] (sApp 2 (eVar 3)))
    sNil'))
def b_front : Fs :=
    (sSeq (sSet 2 (eLst aNil))
    (sSeq (sEnd [0, 1] (sFor (iEnumF (eVar 1)) (gMany [3, 4])
    l_front_1))
    (sRet (eApp gTup (sCons (dVar 2) sNil)))))
def m_front : Fn := runB 6 b_front
-- l_layers_1: head 0:rows 1:things 2:left 3:found of 7
def l_layers_1 : Fs :=
    (sSeq (sSet 4 (eFrz (eCall m_front (aCons (eVar 0) (aCons (eApp gTup (sCons (dOf (eComp (iOf (dVar 2)) (gOne 5) [5] bYes (eBin dIx (dVar 1) (dVar 5)))) sNil)) aNil)))))
    (sSeq (sEnd [4] (sSet 6 (eApp gTup (sCons (dOf (eComp (iOf (dVar 4)) (gOne 5) [5] bYes (eBin dIx (dVar 2) (dVar 5)))) sNil))))
    (sSeq (sSet 3 (eFrz (eBin dAdd (dVar 3) (dOf (eTup (aCons (eVar 6) aNil))))))
    (sEnd [6] (sSet 2 (eFrz (eComp (iOf (dVar 2)) (gOne 5) [5] (bTest (eBin dNotIn (dVar 5) (dVar 6))) (eVar 5))))))))
def b_layers : Fs :=
    (sSeq (sSet 2 (eFrz (eListRg1 (dOf (eApp gLen (sCons (dVar 1) sNil))))))
    (sSeq (sSet 3 (eTup aNil))
    (sSeq (sEnd [0, 1, 2] (loopW (bTru (dVar 2)) l_layers_1 100000))
    (sRet (eVar 3)))))
def m_layers : Fn := runB 7 b_layers
-- l_agreed_1: head 0:rows 1:things 2:found of 7
def l_agreed_1 : Fs :=
    (sEnd [3, 4] (sExt 2 (eComp (iEnumV (dVar 1)) (gMany [5, 6]) [5, 6] (bTru (dOf (eCall m_beats (aCons (eVar 0) (aCons (eVar 4) (aCons (eVar 6) aNil)))))) (eTup (aCons (eVar 3) (aCons (eVar 5) aNil))))))
def b_agreed : Fs :=
    (sSeq (sSet 2 (eLst aNil))
    (sSeq (sEnd [0, 1] (sFor (iEnumF (eVar 1)) (gMany [3, 4])
    l_agreed_1))
    (sRet (eApp gTup (sCons (dVar 2) sNil)))))
def m_agreed : Fn := runB 7 b_agreed
def b__law_beats : Fs :=
    (sSeq (sEnd [0, 1, 2] (sSet 3 (eFrz (eComp (iOf (dVar 0)) (gOne 4) [4] bYes (eCall m__law_word_v2 (aCons (eVar 4) (aCons (eVar 1) (aCons (eVar 2) aNil))))))))
    (sRet (eAnd (eBin dEq (dOf (eMt isLstD gCount (dVar 3) (sCons (dOf (eC (.int 1))) sNil))) (dOf (eC (.int 0)))) (eBin (dCmp rGt zGt) (dOf (eMt isLstD gCount (dVar 3) (sCons (dOf (eUn dNeg (dOf (eC (.int 1))))) sNil))) (dOf (eC (.int 0)))))))
def m__law_beats : Fn := runB 5 b__law_beats
-- l__law_rows_v2_1: head 0:_law_script 1:_law_town 2:_law_rows_here of 6
def l__law_rows_v2_1 : Fs :=
    (sSeq (sEnd [3] (sSet 4 (eFrz (eCall m__law_keys (aCons (eVar 0) (aCons (eVar 1) (aCons (eC (.int 2)) aNil)))))))
    (sSeq (sIf (bAnd (bTru (dVar 2)) (bTest (eBin dEq (dOf (eCall m__law_draw (aCons (eVar 0) (aCons (eVar 1) (aCons (eC (.int 4)) aNil))))) (dOf (eC (.int 0))))))
    (sSet 4 (eApp gTup (sCons (dOf (eComp (iOf (dOf (eBin dIx (dVar 2) (dOf (eC (.int 0)))))) (gOne 5) [5] bYes (eCall m__law_turn (aCons (eVar 5) aNil)))) sNil)))
    sNil')
    (sEnd [4] (sSet 2 (eFrz (eBin dAdd (dVar 2) (dOf (eTup (aCons (eVar 4) aNil)))))))))
def b__law_rows_v2 : Fs :=
    (sSeq (sSet 2 (eTup aNil))
    (sSeq (sEnd [0, 1] (sFor (iRng1 (dOf (eCall m__law_draw (aCons (eVar 0) (aCons (eVar 1) (aCons (eC (.int 5)) aNil)))))) (gOne 3)
    l__law_rows_v2_1))
    (sRet (eVar 2))))
def m__law_rows_v2 : Fn := runB 6 b__law_rows_v2
def b__law_draw_v3 : Fs :=
    (sSeq (sTown 1)
    (sSeq (sEnd [1] (sSet 3 (eTLen 1)))
    (sSeq (sSet 4 (eC (.int 0)))
    (sSeq (sEnd [0] (sIf (bTru (dVar 0))
    (sEnd [0] (sSet 4 (eBin dIx (dVar 0) (dOf (eBin dMod (dVar 3) (dOf (eApp gLen (sCons (dVar 0) sNil))))))))
    sNil'))
    (sSeq (sEnd [3, 4] (sSet 5 (eBin dMod (dOf (eBin dAdd (dVar 4) (dOf (eBin dMul (dOf (eC (.int 104729))) (dVar 3))))) (dOf (eC (.int 4294967291))))))
    (sSeq (sSet 5 (eBin dMod (dOf (eBin dMul (dOf (eBin dMod (dOf (eBin dMul (dVar 5) (dVar 5))) (dOf (eC (.int 4294967279))))) (dOf (eC (.int 48271))))) (dOf (eC (.int 4294967291)))))
    (sSeq (sSet 6 (eBin dMod (dOf (eBin dMul (dOf (eBin dMod (dOf (eBin dMul (dVar 5) (dVar 5))) (dOf (eC (.int 4294967279))))) (dOf (eC (.int 69621))))) (dOf (eC (.int 4294967291)))))
    (sRet (eBin dMod (dOf (eBin dAdd (dOf (eBin dMul (dOf (eBin dDiv (dVar 5) (dOf (eC (.int 64))))) (dOf (eC (.int 67108864))))) (dOf (eBin dDiv (dVar 6) (dOf (eC (.int 64))))))) (dVar 2))))))))))
def m__law_draw_v3 : Fn := runB 7 b__law_draw_v3
def b__law_pick_v3 : Fs :=
    (sRet (eBin dIx (dVar 2) (dOf (eCall m__law_draw_v3 (aCons (eVar 0) (aCons (eVar 1) (aCons (eApp gLen (sCons (dVar 2) sNil)) aNil)))))))
def m__law_pick_v3 : Fn := runB 3 b__law_pick_v3
-- l__law_plain_v3_1: head 0:_law_script 1:_law_town 2:_law_field 3:_law_word 6:_law_left 7:_law_got of 9
def l__law_plain_v3_1 : Fs :=
    (sEnd [8] (sSetX 7 (xCat (eVar 7) (xTup1 (xPop 6 (dOf (eCall m__law_draw_v3 (aCons (eVar 0) (aCons (eVar 1) (aCons (eApp gLen (sCons (dVar 6) sNil)) aNil))))))))))
def b__law_plain_v3 : Fs :=
    (sSeq (sPar 2 3 (aCons (eCall m__law_draw_v3 (aCons (eVar 0) (aCons (eVar 1) (aCons (eC (.int 3)) aNil)))) (aCons (eCall m__law_draw_v3 (aCons (eVar 0) (aCons (eVar 1) (aCons (eC (.int 6)) aNil)))) aNil)))
    (sSeq (sIf (bTest (eBin (dCmp rLt zLt) (dVar 3) (dOf (eC (.int 2)))))
    (sRet (eTup (aCons (eC (.str "up")) (aCons (eVar 2) aNil))))
    sNil')
    (sSeq (sIf (bTest (eBin dEq (dVar 3) (dOf (eC (.int 2)))))
    (sRet (eTup (aCons (eCall m__law_pick_v3 (aCons (eVar 0) (aCons (eVar 1) (aCons (eLst (aCons (eC (.str "part")) (aCons (eC (.str "rest")) aNil))) aNil)))) (aCons (eVar 2) (aCons (eBin dAdd (dOf (eC (.int 2))) (dOf (eCall m__law_draw_v3 (aCons (eVar 0) (aCons (eVar 1) (aCons (eC (.int 2)) aNil)))))) aNil)))))
    sNil')
    (sSeq (sIf (bTest (eBin dEq (dVar 3) (dOf (eC (.int 5)))))
    (sSeq (sEnd [2, 3] (sAsg (gMany [4, 5]) (eCall m__law_pick_v3 (aCons (eVar 0) (aCons (eVar 1) (aCons (eLst (aCons (eTup (aCons (eC (.int 0)) (aCons (eC (.int 1)) aNil))) (aCons (eTup (aCons (eC (.int 0)) (aCons (eC (.int 2)) aNil))) (aCons (eTup (aCons (eC (.int 1)) (aCons (eC (.int 2)) aNil))) aNil)))) aNil))))))
    (sRet (eTup (aCons (eCall m__law_pick_v3 (aCons (eVar 0) (aCons (eVar 1) (aCons (eLst (aCons (eC (.str "sum")) (aCons (eC (.str "gap")) (aCons (eC (.str "most")) aNil)))) aNil)))) (aCons (eVar 4) (aCons (eVar 5) aNil))))))
    sNil')
    (sSeq (sParO 6 7 (eLst (aCons (eC (.int 0)) (aCons (eC (.int 1)) (aCons (eC (.int 2)) (aCons (eC (.int 3)) (aCons (eC (.int 4)) (aCons (eC (.int 5)) aNil))))))) (eTup aNil))
    (sSeq (sEnd [0, 1, 6] (sFor (iRng1 (dOf (eBin dAdd (dOf (eC (.int 1))) (dOf (eCall m__law_draw_v3 (aCons (eVar 0) (aCons (eVar 1) (aCons (eC (.int 4)) aNil)))))))) (gOne 8)
    l__law_plain_v3_1))
    (sRet (eIf (bTest (eBin dEq (dVar 3) (dOf (eC (.int 3))))) (eTup (aCons (eC (.str "table")) (aCons (eVar 2) (aCons (eVar 7) aNil)))) (eTup (aCons (eC (.str "among")) (aCons (eVar 2) (aCons (eApp gTup (sCons (dOf (eApp gSorted (sCons (dVar 7) sNil))) sNil)) aNil))))))))))))
def m__law_plain_v3 : Fn := runB 9 b__law_plain_v3
-- l__law_row_v2_1: head 0:_law_script 1:_law_town 3:_law_got of 6
def l__law_row_v2_1 : Fs :=
    (sSeq (sEnd [4] (sSet 5 (eFrz (eCall m__law_plain_v3 (aCons (eVar 0) (aCons (eVar 1) aNil))))))
    (sEnd [5] (sSet 3 (eFrz (eBin dAdd (dVar 3) (dOf (eTup (aCons (eIf (bTest (eBin dEq (dOf (eCall m__law_draw_v3 (aCons (eVar 0) (aCons (eVar 1) (aCons (eC (.int 3)) aNil))))) (dOf (eC (.int 0))))) (eTup (aCons (eC (.str "down")) (aCons (eVar 5) aNil))) (eVar 5)) aNil))))))))
def b__law_row_v2 : Fs :=
    (sSeq (sSet 3 (eTup aNil))
    (sSeq (sEnd [0, 1] (sForK [2] (iRng1 (dOf (eCall m__law_draw_v3 (aCons (eVar 0) (aCons (eVar 1) (aCons (eBin dAdd (dVar 2) (dOf (eC (.int 1)))) aNil)))))) (gOne 4)
    l__law_row_v2_1))
    (sRet (eVar 3))))
def m__law_row_v2 : Fn := runB 6 b__law_row_v2
def b__law_thing_v2 : Fs :=
    (sRet (eApp gTup (sCons (dOf (eComp (iRng1 (dOf (eC (.int 3)))) (gOne 2) [2] bYes (eCall m__law_draw_v3 (aCons (eVar 0) (aCons (eVar 1) (aCons (eC (.int 6)) aNil)))))) sNil)))
def m__law_thing_v2 : Fn := runB 3 b__law_thing_v2
def b__law_three_hold : Fs :=
    (sSeq (sEnd [3] (sPar3 4 5 6 (aCons (eCall m_told (aCons (eVar 0) (aCons (eVar 1) (aCons (eVar 2) aNil)))) (aCons (eCall m_told (aCons (eVar 0) (aCons (eVar 2) (aCons (eVar 3) aNil)))) (aCons (eCall m_told (aCons (eVar 0) (aCons (eVar 1) (aCons (eVar 3) aNil)))) aNil)))))
    (sSeq (sIf (bOr (bTest (eBin dNotIn (dVar 4) (dOf (eTup (aCons (eUn dNeg (dOf (eC (.int 1)))) (aCons (eC (.int 0)) (aCons (eC (.int 1)) aNil))))))) (bOr (bTest (eBin dNe (dOf (eCall m_told (aCons (eVar 0) (aCons (eVar 2) (aCons (eVar 1) aNil))))) (dOf (eBin dSub (dOf (eC (.int 0))) (dVar 4))))) (bTest (eBin dNe (dOf (eCall m_told (aCons (eVar 0) (aCons (eVar 1) (aCons (eVar 1) aNil))))) (dOf (eC (.int 0)))))))
    (sRet (eC (.bool false)))
    sNil')
    (sSeq (sEnd [5, 6] (sIf (bAnd (bTest (eBin (dCmp rLt zLt) (dVar 4) (dOf (eC (.int 1))))) (bAnd (bTest (eBin (dCmp rLt zLt) (dVar 5) (dOf (eC (.int 1))))) (bTest (eBin dNe (dVar 6) (dOf (eApp gMin2 (sCons (dVar 4) (sCons (dVar 5) sNil))))))))
    (sRet (eC (.bool false)))
    sNil'))
    (sSeq (sPar 7 8 (aCons (eCall m_worths (aCons (eVar 0) (aCons (eVar 1) aNil))) (aCons (eCall m_worths (aCons (eVar 0) (aCons (eVar 2) aNil))) aNil)))
    (sSeq (sEnd [7, 8] (sIf (bOr (bTest (eBin dNe (dOf (eBin dEq (dVar 4) (dOf (eC (.int 0))))) (dOf (eBin dEq (dVar 7) (dVar 8))))) (bTest (eBin dNe (dOf (eBin (dCmp rLt zLt) (dVar 4) (dOf (eC (.int 0))))) (dOf (eBin (dCmp rLt zLt) (dVar 7) (dVar 8))))))
    (sRet (eC (.bool false)))
    sNil'))
    (sRet (eBin dEq (dOf (eCall m_told (aCons (eCall m_turned (aCons (eVar 0) aNil)) (aCons (eVar 1) (aCons (eVar 2) aNil))))) (dOf (eBin dSub (dOf (eC (.int 0))) (dVar 4))))))))))
def m__law_three_hold : Fn := runB 9 b__law_three_hold
def b__law_full : Fs :=
    (sSeq (sSet 2 (eFrz (eCall m__law_row_v2 (aCons (eVar 0) (aCons (eVar 1) (aCons (eC (.int 3)) aNil))))))
    (sSeq (sEnd [0, 1] (sIf (bAnd (bTru (dVar 2)) (bTru (dOf (eCall m__law_draw_v3 (aCons (eVar 0) (aCons (eVar 1) (aCons (eC (.int 2)) aNil)))))))
    (sSeq (sSet 3 (eFrz (eCall m__law_pick_v3 (aCons (eVar 0) (aCons (eVar 1) (aCons (eVar 2) aNil))))))
    (sEnd [0, 1, 3] (sSet 2 (eFrz (eBin dAdd (dVar 2) (dOf (eCall m__law_pick_v3 (aCons (eVar 0) (aCons (eVar 1) (aCons (eLst (aCons (eTup (aCons (eVar 3) aNil)) (aCons (eCall m_turned (aCons (eTup (aCons (eVar 3) aNil)) aNil)) aNil))) aNil))))))))))
    sNil'))
    (sRet (eVar 2))))
def m__law_full : Fn := runB 4 b__law_full
-- l__law_choices_v2_2: head 0:_law_many 1:_law_some 2:_law_got 3:_law_first of 6
def l__law_choices_v2_2 (m : Fn) : Fs :=
    (sEnd [4] (sApp 2 (eBin dAdd (dOf (eTup (aCons (eVar 3) aNil))) (dOf (eApp gTup (sCons (dOf (eComp (iOf (dVar 4)) (gOne 5) [5] bYes (eBin dAdd (dOf (eBin dAdd (dVar 5) (dVar 3))) (dOf (eC (.int 1)))))) sNil))))))
-- l__law_choices_v2_1: head 0:_law_many 1:_law_some 2:_law_got of 6
def l__law_choices_v2_1 (m : Fn) : Fs :=
    (sEnd [3] (sFor (iVal (eCall m (aCons (eBin dSub (dOf (eBin dSub (dVar 0) (dVar 3))) (dOf (eC (.int 1)))) (aCons (eBin dSub (dVar 1) (dOf (eC (.int 1)))) aNil)))) (gOne 4)
    (l__law_choices_v2_2 m)))
def b__law_choices_v2 (m : Fn) : Fs :=
    (sSeq (sIf (bTest (eBin dEq (dVar 1) (dOf (eC (.int 0)))))
    (sRet (eLst (aCons (eTup aNil) aNil)))
    sNil')
    (sSeq (sSet 2 (eLst aNil))
    (sSeq (sEnd [0, 1] (sFor (iRng1 (dVar 0)) (gOne 3)
    (l__law_choices_v2_1 m)))
    (sRetO 2))))
def m__law_choices_v2_ : Nat → Fn
  | 0 => fun _ _ => none
  | k + 1 => runB 6 (b__law_choices_v2 (m__law_choices_v2_ k))
def m__law_choices_v2 : Fn := m__law_choices_v2_ 10
-- l__law_things_1: head 0:_law_script 1:_law_town 3:_law_got of 5
def l__law_things_1 : Fs :=
    (sEnd [4] (sSet 3 (eFrz (eBin dAdd (dVar 3) (dOf (eTup (aCons (eCall m__law_pick_v3 (aCons (eVar 0) (aCons (eVar 1) (aCons (eBin dAdd (dOf (eTup (aCons (eCall m__law_thing_v2 (aCons (eVar 0) (aCons (eVar 1) aNil))) aNil))) (dOf (eSl dSl (dVar 3) oNone (oSome (dOf (eC (.int 1))))))) aNil)))) aNil)))))))
def b__law_things : Fs :=
    (sSeq (sSet 3 (eTup aNil))
    (sSeq (sEnd [0, 1] (sForK [2] (iRng1 (dOf (eCall m__law_draw_v3 (aCons (eVar 0) (aCons (eVar 1) (aCons (eBin dAdd (dVar 2) (dOf (eC (.int 1)))) aNil)))))) (gOne 4)
    l__law_things_1))
    (sRet (eVar 3))))
def m__law_things : Fn := runB 5 b__law_things
-- l__law_order_holds_1: head 0:_law_row_here 1:_law_things_here of 7
def l__law_order_holds_1 : Fs :=
    (sSeq (sSet 5 (eFrz (eCall m_told (aCons (eVar 0) (aCons (eBin dIx (dVar 1) (dVar 3)) (aCons (eBin dIx (dVar 1) (dVar 4)) aNil))))))
    (sEnd [3, 4, 5] (sIf (bOr (bTest (eBin (dCmp rGt zGt) (dVar 5) (dOf (eC (.int 0))))) (bAnd (bTest (eBin dEq (dVar 5) (dOf (eC (.int 0))))) (bTest (eBin (dCmp rGt zGt) (dVar 3) (dVar 4)))))
    (sRet (eC (.bool false)))
    sNil')))
def b__law_order_holds : Fs :=
    (sSeq (sSet 2 (eFrz (eCall m_places (aCons (eVar 0) (aCons (eVar 1) aNil)))))
    (sSeq (sIf (bOr (bTest (eBin dNe (dOf (eApp gSorted (sCons (dVar 2) sNil))) (dOf (eListRg1 (dOf (eApp gLen (sCons (dVar 1) sNil))))))) (bTest (eBin dNe (dOf (eCall m_ordered (aCons (eVar 0) (aCons (eVar 1) aNil)))) (dOf (eApp gTup (sCons (dOf (eComp (iOf (dVar 2)) (gOne 3) [3] bYes (eBin dIx (dVar 1) (dVar 3)))) sNil))))))
    (sRet (eC (.bool false)))
    sNil')
    (sSeq (sForK [2] (iZipF (eSl dSl (dVar 2) oNone (oSome (dOf (eUn dNeg (dOf (eC (.int 1))))))) (eSl dSl (dVar 2) (oSome (dOf (eC (.int 1)))) oNone)) (gMany [3, 4])
    l__law_order_holds_1)
    (sSeq (sEnd [1] (sSet 6 (eFrz (eCall m_ordered (aCons (eVar 0) (aCons (eVar 1) aNil))))))
    (sSeq (sIf (bOr (bNot (bTru (dOf (eCall m_is_ordered (aCons (eVar 0) (aCons (eVar 6) aNil)))))) (bOr (bTest (eBin dNe (dOf (eCall m_ordered (aCons (eVar 0) (aCons (eVar 6) aNil)))) (dVar 6))) (bTest (eBin dNe (dOf (eCall m_crossings (aCons (eVar 0) (aCons (eVar 6) aNil)))) (dOf (eC (.int 0)))))))
    (sRet (eC (.bool false)))
    sNil')
    (sRet (eBin dEq (dOf (eApp gList (sCons (dOf (eCall m_places (aCons (eVar 0) (aCons (eVar 6) aNil)))) sNil))) (dOf (eListRg1 (dOf (eApp gLen (sCons (dVar 6) sNil))))))))))))
def m__law_order_holds : Fn := runB 7 b__law_order_holds
-- l__law_runs_hold_1: head 0:_law_row_here 1:_law_things_here 2:_law_some 3:_law_whole of 6
def l__law_runs_hold_1 : Fs :=
    (sSeq (sEnd [4] (sIf (bOr (bTest (eBin dEq (dVar 5) (dOf (eTup aNil)))) (bOr (bNot (bTru (dOf (eCall m_is_ordered (aCons (eVar 0) (aCons (eVar 5) aNil)))))) (bAnd (bTru (dVar 4)) (bTest (eBin dNe (dOf (eCall m_told (aCons (eVar 0) (aCons (eBin dIx (dOf (eBin dIx (dVar 2) (dOf (eBin dSub (dVar 4) (dOf (eC (.int 1))))))) (dOf (eUn dNeg (dOf (eC (.int 1)))))) (aCons (eBin dIx (dVar 5) (dOf (eC (.int 0)))) aNil))))) (dOf (eC (.int 1))))))))
    (sRet (eC (.bool false)))
    sNil'))
    (sEnd [5] (sSet 3 (eFrz (eBin dAdd (dVar 3) (dVar 5))))))
def b__law_runs_hold : Fs :=
    (sSeq (sPar 2 3 (aCons (eCall m_runs (aCons (eVar 0) (aCons (eVar 1) aNil))) (aCons (eTup aNil) aNil)))
    (sSeq (sFor (iEnumF (eVar 2)) (gMany [4, 5])
    l__law_runs_hold_1)
    (sRet (eAnd (eBin dEq (dVar 3) (dVar 1)) (eBin dEq (dOf (eCall m_is_ordered (aCons (eVar 0) (aCons (eVar 1) aNil)))) (dOf (eBin (dCmp rLt zLt) (dOf (eApp gLen (sCons (dVar 2) sNil))) (dOf (eC (.int 2))))))))))
def m__law_runs_hold : Fn := runB 6 b__law_runs_hold
-- l__law_turns_hold_1: head 0:_law_row_here 1:_law_things_here 2:_law_some 3:_law_many 4:_law_due of 7
def l__law_turns_hold_1 : Fs :=
    (sPar 3 4 (aCons (eBin dDiv (dOf (eBin dAdd (dVar 3) (dOf (eC (.int 1))))) (dOf (eC (.int 2)))) (aCons (eBin dAdd (dVar 4) (dOf (eC (.int 1)))) aNil)))
-- l__law_turns_hold_2: head 0:_law_row_here 1:_law_things_here 5:_law_before of 7
def l__law_turns_hold_2 : Fs :=
    (sSeq (sIf (bOr (bTest (eBin dNe (dOf (eApp gSorted (sCons (dVar 6) sNil))) (dOf (eApp gSorted (sCons (dVar 1) sNil))))) (bTest (eBin (dCmp rGe zGe) (dOf (eApp gLen (sCons (dOf (eCall m_runs (aCons (eVar 0) (aCons (eVar 6) aNil)))) sNil))) (dOf (eApp gLen (sCons (dOf (eCall m_runs (aCons (eVar 0) (aCons (eVar 5) aNil)))) sNil))))))
    (sRet (eC (.bool false)))
    sNil')
    (sSeq (sEnd [5] (sIf (bOr (bTest (eBin (dCmp rGt zGt) (dOf (eCall m_crossings (aCons (eVar 0) (aCons (eVar 6) aNil)))) (dOf (eCall m_crossings (aCons (eVar 0) (aCons (eVar 5) aNil)))))) (bTest (eBin dNe (dOf (eCall m_ordered (aCons (eVar 0) (aCons (eVar 6) aNil)))) (dOf (eCall m_ordered (aCons (eVar 0) (aCons (eVar 1) aNil)))))))
    (sRet (eC (.bool false)))
    sNil'))
    (sEnd [6] (sSet 5 (eVar 6)))))
def b__law_turns_hold : Fs :=
    (sSeq (sPar 2 3 (aCons (eCall m_turns (aCons (eVar 0) (aCons (eVar 1) aNil))) (aCons (eApp gLen (sCons (dOf (eCall m_runs (aCons (eVar 0) (aCons (eVar 1) aNil)))) sNil)) aNil)))
    (sSeq (sSet 4 (eC (.int 0)))
    (sSeq (sEnd [3] (loopW (bTest (eBin (dCmp rGt zGt) (dVar 3) (dOf (eC (.int 1))))) l__law_turns_hold_1 100000))
    (sSeq (sEnd [4] (sIf (bOr (bTest (eBin dNe (dOf (eApp gLen (sCons (dVar 2) sNil))) (dVar 4))) (bAnd (bTru (dVar 4)) (bTest (eBin dNe (dOf (eBin dIx (dVar 2) (dOf (eUn dNeg (dOf (eC (.int 1))))))) (dOf (eCall m_ordered (aCons (eVar 0) (aCons (eVar 1) aNil))))))))
    (sRet (eC (.bool false)))
    sNil'))
    (sSeq (sSet 5 (eVar 1))
    (sSeq (sEnd [0, 1, 5] (sForK [2] (iVal (eVar 2)) (gOne 6)
    l__law_turns_hold_2))
    (sRet (eC (.bool true)))))))))
def m__law_turns_hold : Fn := runB 7 b__law_turns_hold
-- l__law_place_holds_1: head 0:_law_row_here 1:_law_things_here 2:_law_thing_here of 8
def l__law_place_holds_1 : Fs :=
    (sEnd [7] (sIf (bNot (bTru (dOf (eCall m_is_ordered (aCons (eVar 0) (aCons (eBin dAdd (dOf (eBin dAdd (dOf (eSl dSl (dVar 1) oNone (oSome (dVar 7)))) (dOf (eTup (aCons (eVar 2) aNil))))) (dOf (eSl dSl (dVar 1) (oSome (dVar 7)) oNone))) aNil))))))
    (sRet (eC (.bool false)))
    sNil'))
def b__law_place_holds : Fs :=
    (sSeq (sPar 3 4 (aCons (eCall m_first_place (aCons (eVar 0) (aCons (eVar 1) (aCons (eVar 2) aNil)))) (aCons (eCall m_last_place (aCons (eVar 0) (aCons (eVar 1) (aCons (eVar 2) aNil)))) aNil)))
    (sSeq (sSet 5 (eFrz (eComp (iOf (dVar 1)) (gOne 6) [6] bYes (eCall m_told (aCons (eVar 0) (aCons (eVar 6) (aCons (eVar 2) aNil)))))))
    (sSeq (sEnd [5] (sIf (bTest (eBin dNe (dVar 5) (dOf (eBin dAdd (dOf (eBin dAdd (dOf (eBin dMul (dOf (eLst (aCons (eUn dNeg (dOf (eC (.int 1)))) aNil))) (dVar 3))) (dOf (eBin dMul (dOf (eLst (aCons (eC (.int 0)) aNil))) (dOf (eBin dSub (dVar 4) (dVar 3))))))) (dOf (eBin dMul (dOf (eLst (aCons (eC (.int 1)) aNil))) (dOf (eBin dSub (dOf (eApp gLen (sCons (dVar 1) sNil))) (dVar 4)))))))))
    (sRet (eC (.bool false)))
    sNil'))
    (sSeq (sEnd [0, 1, 2] (sForK [3, 4] (iVal (eTup (aCons (eVar 3) (aCons (eVar 4) aNil)))) (gOne 7)
    l__law_place_holds_1))
    (sRet (eC (.bool true)))))))
def m__law_place_holds : Fn := runB 8 b__law_place_holds
-- l__law_groups_hold_1: head 0:_law_row_here 1:_law_things_here 2:_law_some 3:_law_whole of 10
def l__law_groups_hold_1 : Fs :=
    (sSeq (sEnd [4] (sIf (bOr (bTru (dOf (eApp gAny (sCons (dOf (eComp (iOf (dVar 5)) (gOne 6) [6] bYes (eCall m_told (aCons (eVar 0) (aCons (eBin dIx (dVar 5) (dOf (eC (.int 0)))) (aCons (eVar 6) aNil)))))) sNil)))) (bAnd (bTru (dVar 4)) (bTest (eBin dNe (dOf (eCall m_told (aCons (eVar 0) (aCons (eBin dIx (dOf (eBin dIx (dVar 2) (dOf (eBin dSub (dVar 4) (dOf (eC (.int 1))))))) (dOf (eC (.int 0)))) (aCons (eBin dIx (dVar 5) (dOf (eC (.int 0)))) aNil))))) (dOf (eUn dNeg (dOf (eC (.int 1)))))))))
    (sRet (eC (.bool false)))
    sNil'))
    (sEnd [5] (sSet 3 (eFrz (eBin dAdd (dVar 3) (dVar 5))))))
-- l__law_groups_hold_3: head 0:_law_row_here 1:_law_things_here 2:_law_some 3:_law_whole 7:_law_many 8:_law_top 9:_law_size of 10
def l__law_groups_hold_3 : Fs :=
    (sEnd [5] (sSet 9 (eFrz (eBin dAdd (dVar 9) (dOf (eIf (bTest (eBin (dCmp rLt zLt) (dVar 9) (dVar 7))) (eApp gLen (sCons (dVar 5) sNil)) (eC (.int 0))))))))
-- l__law_groups_hold_2: head 0:_law_row_here 1:_law_things_here 2:_law_some 3:_law_whole of 10
def l__law_groups_hold_2 : Fs :=
    (sSeq (sSet 8 (eFrz (eCall m_best (aCons (eVar 0) (aCons (eVar 1) (aCons (eVar 7) aNil))))))
    (sSeq (sSet 9 (eC (.int 0)))
    (sSeq (sFor (iVal (eVar 2)) (gOne 5)
    l__law_groups_hold_3)
    (sEnd [7, 8, 9] (sIf (bOr (bTest (eBin dNe (dVar 8) (dOf (eSl dSl (dVar 3) oNone (oSome (dVar 9)))))) (bTest (eBin (dCmp rLt zLt) (dOf (eApp gLen (sCons (dVar 8) sNil))) (dVar 7))))
    (sRet (eC (.bool false)))
    sNil')))))
def b__law_groups_hold : Fs :=
    (sSeq (sPar 2 3 (aCons (eCall m_groups (aCons (eVar 0) (aCons (eVar 1) aNil))) (aCons (eTup aNil) aNil)))
    (sSeq (sFor (iEnumF (eVar 2)) (gMany [4, 5])
    l__law_groups_hold_1)
    (sSeq (sIf (bOr (bTest (eBin dNe (dVar 3) (dOf (eCall m_ordered (aCons (eVar 0) (aCons (eVar 1) aNil)))))) (bOr (bTest (eBin dNe (dOf (eCall m_best (aCons (eVar 0) (aCons (eVar 1) (aCons (eC (.int 0)) aNil))))) (dOf (eTup aNil)))) (bTest (eBin dNe (dOf (eCall m_best (aCons (eVar 0) (aCons (eVar 1) (aCons (eC (.int 99)) aNil))))) (dVar 3)))))
    (sRet (eC (.bool false)))
    sNil')
    (sSeq (sEnd [0, 1, 2, 3] (sFor (iRng2 (dOf (eC (.int 1))) (dOf (eBin dAdd (dOf (eApp gLen (sCons (dVar 1) sNil))) (dOf (eC (.int 1)))))) (gOne 7)
    l__law_groups_hold_2))
    (sRet (eC (.bool true)))))))
def m__law_groups_hold : Fn := runB 10 b__law_groups_hold
-- l__law_mixed_1: head 0:_law_script 1:_law_town 3:_law_left 4:_law_got of 5
def l__law_mixed_1 : Fs :=
    (sAppX 4 (xPop 3 (dOf (eCall m__law_draw_v3 (aCons (eVar 0) (aCons (eVar 1) (aCons (eApp gLen (sCons (dVar 3) sNil)) aNil)))))))
def b__law_mixed : Fs :=
    (sSeq (sEnd [2] (sParO 3 4 (eApp gList (sCons (dVar 2) sNil)) (eLst aNil)))
    (sSeq (sEnd [0, 1, 3] (loopW (bTru (dVar 3)) l__law_mixed_1 100000))
    (sRetO 4)))
def m__law_mixed : Fn := runB 5 b__law_mixed
def b__law_part : Fs :=
    (sRet (eApp gTup (sCons (dOf (eComp (iOf (dVar 1)) (gOne 2) [2] bYes (eApp gTup (sCons (dOf (eComp (iOf (dVar 1)) (gOne 3) [3] bYes (eBin dIx (dOf (eBin dIx (dVar 0) (dVar 2))) (dVar 3)))) sNil)))) sNil)))
def m__law_part : Fn := runB 4 b__law_part
def b__law_paper_holds : Fs :=
    (sSeq (sIf (bNot (bTru (dOf (eCall m_is_why_none (aCons (eVar 0) (aCons (eVar 1) aNil))))))
    (sRet (eC (.bool false)))
    sNil')
    (sSeq (sIf (bTest (eBin dEq (dOf (eBin dIx (dVar 1) (dOf (eC (.int 0))))) (dOf (eC (.str "odd")))))
    (sRet (eAnd (eBin dEq (dOf (eApp gLen (sCons (dVar 1) sNil))) (dOf (eC (.int 3)))) (eBin dNe (dOf (eBin dIx (dOf (eBin dIx (dVar 0) (dOf (eBin dIx (dVar 1) (dOf (eC (.int 1))))))) (dOf (eBin dIx (dVar 1) (dOf (eC (.int 2))))))) (dOf (eBin dSub (dOf (eC (.int 0))) (dOf (eBin dIx (dOf (eBin dIx (dVar 0) (dOf (eBin dIx (dVar 1) (dOf (eC (.int 2))))))) (dOf (eBin dIx (dVar 1) (dOf (eC (.int 1))))))))))))
    sNil')
    (sSeq (sAsg (gMany [2, 3, 4]) (eSl dSl (dVar 1) (oSome (dOf (eC (.int 1)))) oNone))
    (sSeq (sEnd [3] (sPar 5 6 (aCons (eBin dIx (dOf (eBin dIx (dVar 0) (dVar 2))) (dVar 3)) (aCons (eBin dIx (dOf (eBin dIx (dVar 0) (dVar 3))) (dVar 4)) aNil))))
    (sSeq (sEnd [0, 2, 4] (sSet 7 (eBin dIx (dOf (eBin dIx (dVar 0) (dVar 2))) (dVar 4))))
    (sRet (eAnd (eBin dEq (dOf (eBin dIx (dVar 1) (dOf (eC (.int 0))))) (dOf (eC (.str "chain")))) (eAnd (eBin (dCmp rLt zLt) (dVar 5) (dOf (eC (.int 1)))) (eAnd (eBin (dCmp rLt zLt) (dVar 6) (dOf (eC (.int 1)))) (eBin dNe (dVar 7) (dOf (eApp gMin2 (sCons (dVar 5) (sCons (dVar 6) sNil))))))))))))))
def m__law_paper_holds : Fn := runB 8 b__law_paper_holds
def b__law_short_row : Fs :=
    (sSeq (sEnd [2] (sPar 3 4 (aCons (eCall m__law_pick_v3 (aCons (eVar 0) (aCons (eVar 1) (aCons (eVar 2) aNil)))) (aCons (eCall m__law_pick_v3 (aCons (eVar 0) (aCons (eVar 1) (aCons (eVar 2) aNil)))) aNil))))
    (sRet (eIf (bOr (bTest (eBin dEq (dVar 3) (dVar 4))) (bTest (eBin dEq (dOf (eCall m__law_draw_v3 (aCons (eVar 0) (aCons (eVar 1) (aCons (eC (.int 3)) aNil))))) (dOf (eC (.int 0)))))) (eTup (aCons (eVar 3) aNil)) (eTup (aCons (eVar 3) (aCons (eVar 4) aNil))))))
def m__law_short_row : Fn := runB 5 b__law_short_row
-- l__law_all_rows_1: head 0:_law_keys 1:_law_got of 4
def l__law_all_rows_1 : Fs :=
    (sEnd [2] (sExt 1 (eComp (iOf (dVar 0)) (gOne 3) [3] (bTest (eBin dNe (dVar 3) (dVar 2))) (eTup (aCons (eVar 2) (aCons (eVar 3) aNil))))))
def b__law_all_rows : Fs :=
    (sSeq (sSet 1 (eComp (iOf (dVar 0)) (gOne 2) [2] bYes (eTup (aCons (eVar 2) aNil))))
    (sSeq (sEnd [0] (sFor (iVal (eVar 0)) (gOne 2)
    l__law_all_rows_1))
    (sRetO 1)))
def m__law_all_rows : Fn := runB 4 b__law_all_rows
def b__law_deed_v2 : Fs :=
    (sSeq (sSet 2 (eFrz (eCall m__law_pick_v3 (aCons (eVar 0) (aCons (eVar 1) (aCons (eLst (aCons (eC (.str "put")) (aCons (eC (.str "put")) (aCons (eC (.str "put")) (aCons (eC (.str "put")) (aCons (eC (.str "take")) (aCons (eC (.str "order")) (aCons (eC (.str "back")) (aCons (eC (.str "forth")) aNil))))))))) aNil))))))
    (sRet (eTup (aCons (eVar 2) (aCons (eCall m__law_thing_v2 (aCons (eVar 0) (aCons (eVar 1) aNil))) (aCons (eBin dSub (dOf (eCall m__law_draw_v3 (aCons (eVar 0) (aCons (eVar 1) (aCons (eC (.int 12)) aNil))))) (dOf (eC (.int 1)))) (aCons (eCall m__law_row_v2 (aCons (eVar 0) (aCons (eVar 1) (aCons (eC (.int 2)) aNil)))) aNil)))))))
def m__law_deed_v2 : Fn := runB 3 b__law_deed_v2
def b__law_deed_holds : Fs :=
    (sSeq (sEnd [0] (sAsg (gMany [4, 5, 6, 7]) (eVar 0)))
    (sSeq (sEnd [5] (sIf (bTest (eBin dEq (dVar 4) (dOf (eC (.str "put")))))
    (sSeq (sEnd [4, 6, 7] (sSet 8 (eFrz (eCall m_last_place (aCons (eBin dIx (dVar 1) (dOf (eC (.int 0)))) (aCons (eBin dIx (dVar 1) (dOf (eC (.int 1)))) (aCons (eVar 5) aNil)))))))
    (sSeq (sEnd [5] (sSet 9 (eFrz (eBin dAdd (dOf (eBin dAdd (dOf (eSl dSl (dOf (eBin dIx (dVar 1) (dOf (eC (.int 1))))) oNone (oSome (dVar 8)))) (dOf (eTup (aCons (eVar 5) aNil))))) (dOf (eSl dSl (dOf (eBin dIx (dVar 1) (dOf (eC (.int 1))))) (oSome (dVar 8)) oNone))))))
    (sRet (eAnd (eBin dEq (dVar 3) (dVar 8)) (eBin dEq (dVar 2) (dOf (eTup (aCons (eBin dIx (dVar 1) (dOf (eC (.int 0)))) (aCons (eVar 9) aNil)))))))))
    sNil'))
    (sSeq (sEnd [6] (sIf (bAnd (bTest (eBin dEq (dVar 4) (dOf (eC (.str "take"))))) (bTest (eChain (dCmp rLe zLe) (dCmp rLt zLt) (dOf (eC (.int 0))) (dVar 6) (dOf (eApp gLen (sCons (dOf (eBin dIx (dVar 1) (dOf (eC (.int 1))))) sNil))))))
    (sRet (eAnd (eBin dEq (dVar 3) (dOf (eBin dIx (dOf (eBin dIx (dVar 1) (dOf (eC (.int 1))))) (dVar 6)))) (eBin dEq (dVar 2) (dOf (eTup (aCons (eBin dIx (dVar 1) (dOf (eC (.int 0)))) (aCons (eBin dAdd (dOf (eSl dSl (dOf (eBin dIx (dVar 1) (dOf (eC (.int 1))))) oNone (oSome (dVar 6)))) (dOf (eSl dSl (dOf (eBin dIx (dVar 1) (dOf (eC (.int 1))))) (oSome (dOf (eBin dAdd (dVar 6) (dOf (eC (.int 1)))))) oNone))) aNil)))))))
    sNil'))
    (sSeq (sIf (bTest (eBin dEq (dVar 4) (dOf (eC (.str "take")))))
    (sRet (eAnd (eBin dEq (dVar 3) (dOf (eC (.str "NoPlace")))) (eBin dEq (dVar 2) (dVar 1))))
    sNil')
    (sRet (eOr (eBin dNe (dVar 4) (dOf (eC (.str "order")))) (eAnd (eBin dIsN (dVar 3) (dOf (eC .none))) (eBin dEq (dVar 2) (dOf (eTup (aCons (eVar 7) (aCons (eCall m_ordered (aCons (eVar 7) (aCons (eBin dIx (dVar 1) (dOf (eC (.int 1)))) aNil))) aNil))))))))))))
def m__law_deed_holds : Fn := runB 10 b__law_deed_holds
-- l__law_layers_hold_2: head 0:_law_rows 1:_law_things_here 2:_law_some 3:_law_left 4:_law_at 5:_law_layer of 11
def l__law_layers_hold_2 : Fs :=
    (sSeq (sSet 9 (eFrz (eComp (iOf (dOf (eBin dIx (dVar 2) (dOf (eBin dSub (dVar 4) (dOf (eC (.int 1)))))))) (gOne 8) [8] bYes (eBin dIx (dVar 1) (dVar 8)))))
    (sEnd [7, 9] (sIf (bNot (bTru (dOf (eApp gAny (sCons (dOf (eComp (iOf (dVar 9)) (gOne 8) [8] bYes (eCall m_beats (aCons (eVar 0) (aCons (eVar 8) (aCons (eBin dIx (dVar 1) (dVar 7)) aNil)))))) sNil)))))
    (sRet (eC (.bool false)))
    sNil')))
-- l__law_layers_hold_1: head 0:_law_rows 1:_law_things_here 2:_law_some 3:_law_left of 11
def l__law_layers_hold_1 : Fs :=
    (sSeq (sSet 6 (eComp (iOf (dVar 3)) (gOne 7) [7] (bNot (bTru (dOf (eApp gAny (sCons (dOf (eComp (iOf (dVar 3)) (gOne 8) [8] bYes (eCall m_beats (aCons (eVar 0) (aCons (eBin dIx (dVar 1) (dVar 8)) (aCons (eBin dIx (dVar 1) (dVar 7)) aNil)))))) sNil))))) (eVar 7)))
    (sSeq (sEnd [6] (sIf (bOr (bTest (eBin dNe (dOf (eApp gList (sCons (dVar 5) sNil))) (dVar 6))) (bTest (eBin dEq (dVar 5) (dOf (eTup aNil)))))
    (sRet (eC (.bool false)))
    sNil'))
    (sSeq (sEnd [4] (sFor (iVal (eIf (bTru (dVar 4)) (eVar 5) (eTup aNil))) (gOne 7)
    l__law_layers_hold_2))
    (sEnd [5] (sSet 3 (eFrz (eComp (iOf (dVar 3)) (gOne 7) [7] (bTest (eBin dNotIn (dVar 7) (dVar 5))) (eVar 7))))))))
-- l__law_layers_hold_3: head 0:_law_rows 1:_law_things_here 6:_law_due of 11
def l__law_layers_hold_3 : Fs :=
    (sEnd [4, 8] (sExt 6 (eComp (iEnumV (dVar 1)) (gMany [7, 10]) [7, 10] (bTru (dOf (eCall m_beats (aCons (eVar 0) (aCons (eVar 8) (aCons (eVar 10) aNil)))))) (eTup (aCons (eVar 4) (aCons (eVar 7) aNil))))))
def b__law_layers_hold : Fs :=
    (sSeq (sAsg (gMany [2, 3]) (eTup (aCons (eCall m_layers (aCons (eVar 0) (aCons (eVar 1) aNil))) (aCons (eListRg1 (dOf (eApp gLen (sCons (dVar 1) sNil)))) aNil))))
    (sSeq (sFor (iEnumF (eVar 2)) (gMany [4, 5])
    l__law_layers_hold_1)
    (sSeq (sEnd [2, 3] (sIf (bOr (bTest (eBin dNe (dVar 3) (dOf (eLst aNil)))) (bTest (eBin dNe (dOf (eCall m_front (aCons (eVar 0) (aCons (eVar 1) aNil)))) (dOf (eIf (bTru (dVar 2)) (eBin dIx (dVar 2) (dOf (eC (.int 0)))) (eTup aNil))))))
    (sRet (eC (.bool false)))
    sNil'))
    (sSeq (sSet 6 (eLst aNil))
    (sSeq (sFor (iEnumF (eVar 1)) (gMany [4, 8])
    l__law_layers_hold_3)
    (sRet (eBin dEq (dOf (eApp gList (sCons (dOf (eCall m_agreed (aCons (eVar 0) (aCons (eVar 1) aNil)))) sNil))) (dVar 6))))))))
def m__law_layers_hold : Fn := runB 11 b__law_layers_hold
def b__law_three_hold_v2 : Fs :=
    (sSeq (sIf (bAnd (bTru (dOf (eCall m_beats (aCons (eVar 0) (aCons (eVar 1) (aCons (eVar 2) aNil)))))) (bOr (bTru (dOf (eCall m_beats (aCons (eVar 0) (aCons (eVar 2) (aCons (eVar 1) aNil)))))) (bTest (eBin dEq (dVar 1) (dVar 2)))))
    (sRet (eC (.bool false)))
    sNil')
    (sSeq (sEnd [3] (sIf (bAnd (bTru (dOf (eCall m_beats (aCons (eVar 0) (aCons (eVar 1) (aCons (eVar 2) aNil)))))) (bAnd (bTru (dOf (eCall m_beats (aCons (eVar 0) (aCons (eVar 2) (aCons (eVar 3) aNil)))))) (bNot (bTru (dOf (eCall m_beats (aCons (eVar 0) (aCons (eVar 1) (aCons (eVar 3) aNil)))))))))
    (sRet (eC (.bool false)))
    sNil'))
    (sSeq (sIf (bTest (eBin dNe (dOf (eCall m_beats (aCons (eApp gTup (sCons (dOf (eComp (iOf (dVar 0)) (gOne 4) [4] bYes (eCall m_turned (aCons (eVar 4) aNil)))) sNil)) (aCons (eVar 2) (aCons (eVar 1) aNil))))) (dOf (eCall m_beats (aCons (eVar 0) (aCons (eVar 1) (aCons (eVar 2) aNil)))))))
    (sRet (eC (.bool false)))
    sNil')
    (sSeq (sSet 5 (eFrz (eComp (iOf (dVar 0)) (gOne 4) [4] bYes (eCall m_told (aCons (eVar 4) (aCons (eVar 1) (aCons (eVar 2) aNil)))))))
    (sSeq (sIf (bTest (eBin dNe (dOf (eCall m_beats (aCons (eVar 0) (aCons (eVar 1) (aCons (eVar 2) aNil))))) (dOf (eAnd (eBin (dCmp rGt zGt) (dOf (eMt isLstD gCount (dVar 5) (sCons (dOf (eUn dNeg (dOf (eC (.int 1))))) sNil))) (dOf (eC (.int 0)))) (eBin dEq (dOf (eMt isLstD gCount (dVar 5) (sCons (dOf (eC (.int 1))) sNil))) (dOf (eC (.int 0))))))))
    (sRet (eC (.bool false)))
    sNil')
    (sRet (eAnd (eBin dIsB (dOf (eCall m_beats (aCons (eTup aNil) (aCons (eVar 1) (aCons (eVar 2) aNil))))) (dOf (eC (.bool false)))) (eBin dEq (dOf (eCall m_beats (aCons (eSl dSl (dVar 0) oNone (oSome (dOf (eC (.int 1))))) (aCons (eVar 1) (aCons (eVar 2) aNil))))) (dOf (eBin dEq (dOf (eSl dSl (dVar 5) oNone (oSome (dOf (eC (.int 1)))))) (dOf (eLst (aCons (eUn dNeg (dOf (eC (.int 1)))) aNil)))))))))))))
def m__law_three_hold_v2 : Fn := runB 6 b__law_three_hold_v2
-- l__law_nest_holds_2: head 0:_law_row_here 1:_law_inner 2:_law_things_here 3:_law_base 5:_law_kind 6:_law_some 7:_law_places_of of 13
def l__law_nest_holds_2 : Fs :=
    (sSeq (sIf (bTest (eBin dNotIn (dVar 4) (dVar 3)))
    (sRet (eC (.bool false)))
    sNil')
    (sEnd [4] (sApp 7 (eMt isLstD gIndexL (dVar 3) (sCons (dVar 4) sNil)))))
-- l__law_nest_holds_3: head 0:_law_row_here 1:_law_inner 2:_law_things_here 3:_law_base 5:_law_kind 6:_law_some 7:_law_places_of of 13
def l__law_nest_holds_3 : Fs :=
    (sSeq (sPar 9 10 (aCons (eBin dIx (dVar 6) (dOf (eBin dSub (dVar 8) (dOf (eC (.int 1)))))) (aCons (eBin dIx (dVar 6) (dVar 8)) aNil)))
    (sSeq (sSet 11 (eBin dSub (dOf (eApp gInt (sCons (dOf (eBin (dCmp rGt zGt) (dOf (eApp gLen (sCons (dVar 9) sNil))) (dOf (eApp gLen (sCons (dVar 10) sNil))))) sNil))) (dOf (eApp gInt (sCons (dOf (eBin (dCmp rLt zLt) (dOf (eApp gLen (sCons (dVar 9) sNil))) (dOf (eApp gLen (sCons (dVar 10) sNil))))) sNil)))))
    (sSeq (sEnd [9, 10] (sIf (bTest (eBin dNe (dVar 5) (dOf (eC (.str "many")))))
    (sSeq (sEnd [11] (sSet 12 (eIf (bTest (eBin dEq (dVar 5) (dOf (eC (.str "first"))))) (eC (.int 0)) (eUn dNeg (dOf (eC (.int 1)))))))
    (sEnd [9, 10, 12] (sSet 11 (eFrz (eCall m_told (aCons (eVar 1) (aCons (eBin dIx (dVar 9) (dVar 12)) (aCons (eBin dIx (dVar 10) (dVar 12)) aNil))))))))
    sNil'))
    (sEnd [8, 11] (sIf (bOr (bTest (eBin (dCmp rGt zGt) (dVar 11) (dOf (eC (.int 0))))) (bAnd (bTest (eBin dEq (dVar 11) (dOf (eC (.int 0))))) (bTest (eBin (dCmp rGt zGt) (dOf (eBin dIx (dVar 7) (dOf (eBin dSub (dVar 8) (dOf (eC (.int 1))))))) (dOf (eBin dIx (dVar 7) (dVar 8)))))))
    (sRet (eC (.bool false)))
    sNil')))))
-- l__law_nest_holds_1: head 0:_law_row_here 1:_law_inner 2:_law_things_here 3:_law_base of 13
def l__law_nest_holds_1 : Fs :=
    (sSeq (sParO 6 7 (eFrz (eCall m_nested (aCons (eVar 0) (aCons (eVar 1) (aCons (eVar 5) (aCons (eVar 2) aNil)))))) (eLst aNil))
    (sSeq (sFor (iVal (eVar 6)) (gOne 4)
    l__law_nest_holds_2)
    (sSeq (sIf (bTest (eBin dNe (dOf (eApp gSorted (sCons (dVar 7) sNil))) (dOf (eListRg1 (dOf (eApp gLen (sCons (dVar 3) sNil)))))))
    (sRet (eC (.bool false)))
    sNil')
    (sEnd [5, 6, 7] (sFor (iRng2 (dOf (eC (.int 1))) (dOf (eApp gLen (sCons (dVar 6) sNil)))) (gOne 8)
    l__law_nest_holds_3)))))
def b__law_nest_holds : Fs :=
    (sSeq (sSet 3 (eFrz (eComp (iOf (dOf (eCall m_groups (aCons (eVar 0) (aCons (eVar 2) aNil))))) (gOne 4) [4] bYes (eCall m_ordered (aCons (eVar 1) (aCons (eVar 4) aNil))))))
    (sSeq (sIf (bTest (eBin dNe (dOf (eApp gList (sCons (dOf (eCall m_nested (aCons (eVar 0) (aCons (eVar 1) (aCons (eC (.str "as")) (aCons (eVar 2) aNil)))))) sNil))) (dVar 3)))
    (sRet (eC (.bool false)))
    sNil')
    (sSeq (sEnd [0, 1, 2, 3] (sFor (iVal (eTup (aCons (eC (.str "many")) (aCons (eC (.str "first")) (aCons (eC (.str "last")) aNil))))) (gOne 5)
    l__law_nest_holds_1))
    (sRet (eC (.bool true))))))
def m__law_nest_holds : Fn := runB 13 b__law_nest_holds
end L2.Lv.Sh
namespace L2.Lv
open PySem PySem.Spec PyProof.Rows
theorem eVar_ap (i : Nat) (ρ : List W) (n : Nat) : eVar i ρ n = match ρ[i]? with
  | some (.d x) => some (.d x, n)
  | some .town => some (.town, n)
  | _ => none := rfl
theorem dVar_ap (i : Nat) (ρ : List W) (n : Nat) : dVar i ρ n = (ρ[i]?.bind W.dat).map (·, n) := rfl
theorem eC_ap (x : PyData) (ρ : List W) (n : Nat) : eC x ρ n = some (.d x, n) := rfl
theorem dOf_ap (f : Fe) (ρ : List W) (n : Nat) : dOf f ρ n = (f ρ n).bind fun p => p.1.dat.map (·, p.2) := rfl
theorem eFrz_ap (f : Fe) (ρ : List W) (n : Nat) : eFrz f ρ n = (f ρ n).map fun p => (p.1.frz, p.2) := rfl
theorem eBin_ap (g : PyData → PyData → Option W) (fa fb : Fd) (ρ : List W) (n : Nat) : eBin g fa fb ρ n = (fa ρ n).bind fun p => (fb ρ p.2).bind fun q => (g p.1 q.1).map (·, q.2) := rfl
theorem bTest_ap (f : Fe) (ρ : List W) (n : Nat) : bTest f ρ n = (f ρ n).bind fun p => match p.1 with
  | .d (.bool c) => some (c, p.2)
  | _ => none := rfl
theorem bTru_ap (f : Fd) (ρ : List W) (n : Nat) : bTru f ρ n = (f ρ n).bind fun p => (dTru p.1).map (·, p.2) := rfl
theorem bAnd_ap (ta tb : Ft) (ρ : List W) (n : Nat) : bAnd ta tb ρ n = (ta ρ n).bind fun p => if p.1 then tb ρ p.2 else some (false, p.2) := rfl
theorem bOr_ap (ta tb : Ft) (ρ : List W) (n : Nat) : bOr ta tb ρ n = (ta ρ n).bind fun p => if p.1 then some (true, p.2) else tb ρ p.2 := rfl
theorem bNot_ap (ta : Ft) (ρ : List W) (n : Nat) : bNot ta ρ n = (ta ρ n).map fun p => (!p.1, p.2) := rfl
theorem eIf_ap (tc : Ft) (fa fb : Fe) (ρ : List W) (n : Nat) : eIf tc fa fb ρ n = (tc ρ n).bind fun p => if p.1 then fa ρ p.2 else fb ρ p.2 := rfl
theorem eB_ap (t : Ft) (ρ : List W) (n : Nat) : eB t ρ n = (t ρ n).map fun p => (.d (.bool p.1), p.2) := rfl
theorem eAnd_ap (fa fb : Fe) (ρ : List W) (n : Nat) : eAnd fa fb ρ n = (fa ρ n).bind fun p => match p.1 with
  | .d (.bool true) => fb ρ p.2
  | .d (.bool false) => some (.d (.bool false), p.2)
  | _ => none := rfl
theorem eOr_ap (fa fb : Fe) (ρ : List W) (n : Nat) : eOr fa fb ρ n = (fa ρ n).bind fun p => match p.1 with
  | .d (.bool false) => fb ρ p.2
  | .d (.bool true) => some (.d (.bool true), p.2)
  | _ => none := rfl
theorem aNil_ap (ρ : List W) (n : Nat) : aNil  ρ n = some ([], n) := rfl
theorem aCons_ap (f : Fe) (fs : Fa) (ρ : List W) (n : Nat) : aCons f fs ρ n = (f ρ n).bind fun p => p.1.arg.bind fun w => (fs ρ p.2).map fun q => (w :: q.1, q.2) := rfl
theorem sNil_ap (ρ : List W) (n : Nat) : sNil  ρ n = some ([], n) := rfl
theorem sCons_ap (f : Fd) (fs : Fds) (ρ : List W) (n : Nat) : sCons f fs ρ n = (f ρ n).bind fun p => (fs ρ p.2).map fun q => (p.1 :: q.1, q.2) := rfl
theorem eTup_ap (fs : Fa) (ρ : List W) (n : Nat) : eTup fs ρ n = (fs ρ n).bind fun p => (vals p.1).map fun xs => (.d (.tuple xs), p.2) := rfl
theorem eLst_ap (fs : Fa) (ρ : List W) (n : Nat) : eLst fs ρ n = (fs ρ n).bind fun p => (vals p.1).map fun xs => (.ol xs, p.2) := rfl
theorem eCall_ap (F : Fn) (fs : Fa) (ρ : List W) (n : Nat) : eCall F fs ρ n = (fs ρ n).bind fun p => F p.1 p.2 := rfl
theorem eApp_ap (g : List PyData → Option W) (ds : Fds) (ρ : List W) (n : Nat) : eApp g ds ρ n = (ds ρ n).bind fun p => (g p.1).map (·, p.2) := rfl
theorem oNone_ap (ρ : List W) (n : Nat) : oNone  ρ n = some (none, n) := rfl
theorem oSome_ap (d : Fd) (ρ : List W) (n : Nat) : oSome d ρ n = (d ρ n).bind fun p => match p.1 with
  | .int i => some (some i, p.2)
  | _ => none := rfl
theorem eSl_ap (g : PyData → Option Int → Option Int → Option W) (d : Fd) (o o' : Fo) (ρ : List W) (n : Nat) : eSl g d o o' ρ n = (d ρ n).bind fun p => (o ρ p.2).bind fun q => (o' ρ q.2).bind fun r => (g p.1 q.1 r.1).map (·, r.2) := rfl
theorem sNil'_ap (ρ : List W) (n : Nat) : sNil'  ρ n = some (.nx ρ n) := rfl
theorem sSeq_ap (g h : Fs) (ρ : List W) (n : Nat) : sSeq g h ρ n = (g ρ n).bind fun o => match o with
  | .nx ρ' n' => h ρ' n'
  | o => some o := rfl
theorem sBrk_ap (ρ : List W) (n : Nat) : sBrk  ρ n = some (.bk ρ n) := rfl
theorem sRet_ap (f : Fe) (ρ : List W) (n : Nat) : sRet f ρ n = (f ρ n).map fun p => .rt p.1 p.2 := rfl
theorem sRetN_ap (ρ : List W) (n : Nat) : sRetN  ρ n = some (.rt (.d .none) n) := rfl
theorem sRetO_ap (i : Nat) (ρ : List W) (n : Nat) : sRetO i ρ n = match ρ[i]? with
  | some (.ol xs) => some (.rt (.ol xs) n)
  | some (.od xs) => some (.rt (.od xs) n)
  | _ => none := rfl
theorem sDrop_ap (f : Fe) (ρ : List W) (n : Nat) : sDrop f ρ n = (f ρ n).map fun p => .nx ρ p.2 := rfl
theorem sIf_ap (c : Ft) (g h : Fs) (ρ : List W) (n : Nat) : sIf c g h ρ n = (c ρ n).bind fun p => if p.1 then g ρ p.2 else h ρ p.2 := rfl
theorem sSet_ap (i : Nat) (f : Fe) (ρ : List W) (n : Nat) : sSet i f ρ n = (f ρ n).map fun p => .nx (ρ.set i p.1) p.2 := rfl
theorem sApp_ap (i : Nat) (f : Fe) (ρ : List W) (n : Nat) : sApp i f ρ n = (f ρ n).bind fun p => p.1.frz.val.bind fun x => match ρ[i]? with
  | some (.ol xs) => if xs.length < big then some (.nx (ρ.set i (.ol (xs ++ [x]))) p.2) else none
  | _ => none := rfl
theorem sTown_ap (i : Nat) (ρ : List W) (n : Nat) : sTown i ρ n = match ρ[i]? with
  | some .town => if n < big then some (.nx ρ (n + 1)) else none
  | _ => none := rfl
theorem sExt_ap (i : Nat) (f : Fe) (ρ : List W) (n : Nat) : sExt i f ρ n = (f ρ n).bind fun p => match p.1, ρ[i]? with
  | .ol ys, some (.ol xs) => if xs.length + ys.length ≤ big then some (.nx (ρ.set i (.ol (xs ++ ys))) p.2) else none
  | _, _ => none := rfl
theorem sIns_ap (i : Nat) (d : Fd) (f : Fe) (ρ : List W) (n : Nat) : sIns i d f ρ n = (d ρ n).bind fun k => (f ρ k.2).bind fun p => p.1.frz.val.bind fun x => match k.1, ρ[i]? with
  | .int z, some (.ol xs) => if xs.length < big ∧ 0 ≤ z ∧ z ≤ xs.length then some (.nx (ρ.set i (.ol (xs.take z.toNat ++ x :: xs.drop z.toNat))) p.2) else none
  | _, _ => none := rfl
theorem sSetIx_ap (i : Nat) (d : Fd) (f : Fe) (ρ : List W) (n : Nat) : sSetIx i d f ρ n = (f ρ n).bind fun p => p.1.frz.val.bind fun x => (d ρ p.2).bind fun k => match k.1, ρ[i]? with
  | .int z, some (.ol xs) => (ixN xs.length z).map fun j => .nx (ρ.set i (.ol (xs.set j x))) k.2
  | _, _ => none := rfl
theorem sAsg_ap (g : Fg) (f : Fe) (ρ : List W) (n : Nat) : sAsg g f ρ n = (f ρ n).bind fun p => p.1.frz.val.bind fun x => (g x ρ).map fun ρ' => .nx ρ' p.2 := rfl
theorem sPar_ap (i j : Nat) (fs : Fa) (ρ : List W) (n : Nat) : sPar i j fs ρ n = (fs ρ n).bind fun p => match p.1 with
  | [w, w'] => some (.nx ((ρ.set i w).set j w') p.2)
  | _ => none := rfl
theorem iOf_ap (d : Fd) (ρ : List W) (n : Nat) : iOf d ρ n = (d ρ n).bind fun p => (iSeq p.1).map (·, p.2) := rfl
theorem iVal_ap (f : Fe) (ρ : List W) (n : Nat) : iVal f ρ n = (f ρ n).bind fun p => p.1.frz.val.bind fun x => (iSeq x).map (·, p.2) := rfl
theorem iRng1_ap (d : Fd) (ρ : List W) (n : Nat) : iRng1 d ρ n = (d ρ n).bind fun p => (rng1 p.1).map (·, p.2) := rfl
theorem iRng2_ap (da db : Fd) (ρ : List W) (n : Nat) : iRng2 da db ρ n = (da ρ n).bind fun p => (db ρ p.2).bind fun q => (rng2 p.1 q.1).map (·, q.2) := rfl
theorem sFor_ap (fi : Fi) (g : Fg) (body : Fs) (ρ : List W) (n : Nat) : sFor fi g body ρ n = (fi ρ n).bind fun p => loopF g body p.1 ρ p.2 := rfl
theorem eComp_ap (fi : Fi) (g : Fg) (own : List Nat) (tst : Ft) (elt : Fe) (ρ : List W) (n : Nat) : eComp fi g own tst elt ρ n = (fi ρ n).bind fun p => if p.1.length ≤ big then (loopC g own tst elt ρ p.1 p.2).map fun q => (.ol q.1, q.2) else none := rfl
theorem bYes_ap (ρ : List W) (n : Nat) : bYes  ρ n = some (true, n) := rfl
theorem frzAt_ap (i : Nat) (g : Fs) (ρ : List W) (n : Nat) : frzAt i g ρ n = match ρ[i]? with
  | some w => g (ρ.set i w.frz) n
  | none => none := rfl
theorem eUn_ap (g : PyData → Option W) (d : Fd) (ρ : List W) (n : Nat) : eUn g d ρ n = (d ρ n).bind fun p => (g p.1).map (·, p.2) := rfl
theorem eNotD_ap (d : Fd) (ρ : List W) (n : Nat) : eNotD d ρ n = (d ρ n).bind fun p => (dTru p.1).map fun c => (.d (.bool (!c)), p.2) := rfl
theorem eOrD_ap (fa fb : Fe) (ρ : List W) (n : Nat) : eOrD fa fb ρ n = (fa ρ n).bind fun p => p.1.val.bind fun x => (dTru x).bind fun c => if c then some (.d x, p.2) else fb ρ p.2 := rfl
theorem eChain_ap (g g' : PyData → PyData → Option W) (da db dc : Fd) (ρ : List W) (n : Nat) : eChain g g' da db dc ρ n = (da ρ n).bind fun p => (db ρ p.2).bind fun q => (g p.1 q.1).bind fun w => match w with
  | .d (.bool true) => (dc ρ q.2).bind fun r => (g' q.1 r.1).map (·, r.2)
  | .d (.bool false) => some (.d (.bool false), q.2)
  | _ => none := rfl
theorem eListRg1_ap (d : Fd) (ρ : List W) (n : Nat) : eListRg1 d ρ n = (d ρ n).bind fun p => match p.1 with
  | .int j => if 0 ≤ j ∧ j ≤ big then some (.ol (rangeD 0 j.toNat), p.2) else none
  | _ => none := rfl
theorem eIsa_ap (T : String) (d : Fd) (ρ : List W) (n : Nat) : eIsa T d ρ n = (d ρ n).bind fun p => match p.1 with
  | .dict _ => none
  | x => some (.d (.bool (isa T x)), p.2) := rfl
theorem eMt_ap (p : PyData → Bool) (g : PyData → List PyData → Option W) (d : Fd) (ds : Fds) (ρ : List W) (n : Nat) : eMt p g d ds ρ n = (d ρ n).bind fun x => if p x.1 then (ds ρ x.2).bind fun q => (g x.1 q.1).map (·, q.2) else none := rfl
theorem iEnumV_ap (d : Fd) (ρ : List W) (n : Nat) : iEnumV d ρ n = (d ρ n).bind fun p => (seqOf p.1).map fun xs => (enumD xs, p.2) := rfl
theorem iEnumF_ap (f : Fe) (ρ : List W) (n : Nat) : iEnumF f ρ n = (f ρ n).bind fun p => p.1.frz.val.bind fun x => (seqOf x).map fun xs => (enumD xs, p.2) := rfl
theorem iZipV_ap (da db : Fd) (ρ : List W) (n : Nat) : iZipV da db ρ n = (da ρ n).bind fun p => (db ρ p.2).bind fun q => (zipOk p.1 q.1).map (·, q.2) := rfl
theorem iZipF_ap (fa fb : Fe) (ρ : List W) (n : Nat) : iZipF fa fb ρ n = (fa ρ n).bind fun p => p.1.frz.val.bind fun x => (fb ρ p.2).bind fun q => q.1.frz.val.bind fun y => (zipOk x y).map (·, q.2) := rfl
theorem eTLen_ap (i : Nat) (ρ : List W) (n : Nat) : eTLen i ρ n = match ρ[i]? with
  | some .town => some (.d (.int n), n)
  | _ => none := rfl
theorem iRng3D_ap (da db dc : Fd) (ρ : List W) (n : Nat) : iRng3D da db dc ρ n = (da ρ n).bind fun p => (db ρ p.2).bind fun q => (dc ρ q.2).bind fun r => (rng3 p.1 q.1 r.1).map (·, r.2) := rfl
theorem sEnd_ap (is : List Nat) (g : Fs) (ρ : List W) (n : Nat) : sEnd is g ρ n = (g ρ n).map (Out.kill is) := rfl
theorem eSs_ap (g : PyData → Option Int → Option Int → Int → Option W) (d : Fd) (o o' o'' : Fo) (ρ : List W) (n : Nat) : eSs g d o o' o'' ρ n = (d ρ n).bind fun p => (o ρ p.2).bind fun q => (o' ρ q.2).bind fun r => (o'' ρ r.2).bind fun s => s.1.bind fun c => (g p.1 q.1 r.1 c).map (·, s.2) := rfl
theorem sPar3_ap (i j l : Nat) (fs : Fa) (ρ : List W) (n : Nat) : sPar3 i j l fs ρ n = (fs ρ n).bind fun p => match p.1 with
  | [w, w', w''] => some (.nx (((ρ.set i w).set j w').set l w'') p.2)
  | _ => none := rfl
theorem xPop_ap (i : Nat) (d : Fd) (ρ : List W) (n : Nat) : xPop i d ρ n = (d ρ n).bind fun k => match k.1, ρ[i]? with
  | .int z, some (.ol xs) => if xs.length ≤ big then (ixN xs.length z).bind fun j => (xs[j]?).map fun x => (x, ρ.set i (.ol (xs.eraseIdx j)), k.2) else none
  | _, _ => none := rfl
theorem xTup1_ap (f : Fx) (ρ : List W) (n : Nat) : xTup1 f ρ n = (f ρ n).map fun p => (.tuple [p.1], p.2.1, p.2.2) := rfl
theorem xCat_ap (fa : Fe) (f : Fx) (ρ : List W) (n : Nat) : xCat fa f ρ n = (fa ρ n).bind fun p => p.1.val.bind fun x => (f ρ p.2).bind fun q => match dAdd x q.1 with
  | some (.d z) => some (z, q.2.1, q.2.2)
  | _ => none := rfl
theorem sSetX_ap (i : Nat) (f : Fx) (ρ : List W) (n : Nat) : sSetX i f ρ n = (f ρ n).map fun p => .nx (p.2.1.set i (.d p.1)) p.2.2 := rfl
theorem sAppX_ap (i : Nat) (f : Fx) (ρ : List W) (n : Nat) : sAppX i f ρ n = match ρ[i]? with
  | some (.ol _) => (f ρ n).bind fun p => match p.2.1[i]? with
    | some (.ol xs) => if xs.length < big then some (.nx (p.2.1.set i (.ol (xs ++ [p.1]))) p.2.2) else none
    | _ => none
  | _ => none := rfl
theorem sParO_ap (i j : Nat) (fa fb : Fe) (ρ : List W) (n : Nat) : sParO i j fa fb ρ n = (fa ρ n).bind fun p => (fb ρ p.2).bind fun q => some (.nx ((ρ.set i p.1).set j q.1) q.2) := rfl
theorem sForEI_ap (i p q : Nat) (tst : Ft) (y : Nat) (fe : Fe) (ρ : List W) (n : Nat) : sForEI i p q tst y fe ρ n = match ρ[i]? with
  | some (.ol xs) => (loopI p q tst y fe (enumN xs) ρ n).map fun r => .nx r.1 r.2
  | _ => none := rfl
theorem sForK_ap (ks : List Nat) (fi : Fi) (g : Fg) (body : Fs) (ρ : List W) (n : Nat) : sForK ks fi g body ρ n = (fi ρ n).bind fun p => loopF g body p.1 (wipeW ρ ks) p.2 := rfl
theorem runB_ap (m : Nat) (g : Fs) (ws : List W) (n : Nat) : runB m g ws n = (g (ws ++ List.replicate (m - ws.length) .no) n).bind fun o => match o with
  | .rt w n' => some (w, n')
  | .nx _ n' => some (.d .none, n')
  | .bk _ _ => none := rfl
theorem gOne_ap (i : Nat) (x : PyData) (ρ : List W) : gOne i x ρ = some (ρ.set i (.d x)) := rfl
theorem gMany_ap (is : List Nat) (xs : List PyData) (ρ : List W) : gMany is (.tuple xs) ρ = setD is xs ρ := rfl
theorem dI_ap (C : Int → Int → Bool) (g : Int → Int → Int) (i j : Int) : dI C g (.int i) (.int j) = if C i j then some (.d (.int (g i j))) else none := rfl
theorem yesC_ap (i j : Int) : yesC i j = true := rfl
theorem dCmp_int (r : Int → Int → Bool) (z : Nat → Nat → Bool) (i j : Int) : dCmp r z (.int i) (.int j) = some (.d (.bool (r i j))) := rfl
theorem dCmp_tup (r : Int → Int → Bool) (z : Nat → Nat → Bool) (i j : List Int) : dCmp r z (.tuple (i.map .int)) (.tuple (j.map .int)) = some (.d (.bool (lexB r z i j))) := by
  simp [dCmp]
theorem loopF_nil (g : Fg) (body : Fs) (ρ : List W) (n : Nat) : loopF g body [] ρ n = some (.nx ρ n) := rfl
theorem loopF_cons (g : Fg) (body : Fs) (x : PyData) (xs : List PyData) (ρ : List W) (n : Nat) : loopF g body (x :: xs) ρ n = (g x ρ).bind fun ρ1 => (body ρ1 n).bind fun o => match o with
    | .nx ρ' n' => loopF g body xs ρ' n'
    | .bk ρ' n' => some (.nx ρ' n')
    | .rt w n' => some (.rt w n') := rfl
theorem loopC_nil (g : Fg) (own : List Nat) (tst : Ft) (elt : Fe) (ρ : List W) (n : Nat) : loopC g own tst elt ρ [] n = some ([], n) := rfl
theorem loopC_cons (g : Fg) (own : List Nat) (tst : Ft) (elt : Fe) (ρ : List W) (x : PyData) (xs : List PyData) (n : Nat) : loopC g own tst elt ρ (x :: xs) n = (g x (wipeW ρ own)).bind fun ρ1 => (tst ρ1 n).bind fun b => if b.1 then
      (elt ρ1 b.2).bind fun w => w.1.frz.val.bind fun y => (loopC g own tst elt ρ xs w.2).map fun r => (y :: r.1, r.2)
    else loopC g own tst elt ρ xs b.2 := rfl
theorem loopW_succ (c : Ft) (body : Fs) (k : Nat) (ρ : List W) (n : Nat) : loopW c body (k + 1) ρ n = (c ρ n).bind fun p => if p.1 then (body ρ p.2).bind fun o => match o with
    | .nx ρ' n' => loopW c body k ρ' n'
    | .bk ρ' n' => some (.nx ρ' n')
    | .rt w n' => some (.rt w n')
    else some (.nx ρ p.2) := rfl
theorem wdat_no : W.dat (.no) = none := rfl
theorem wdat_d (x : PyData) : W.dat (.d x) = some x := rfl
theorem wdat_town : W.dat (.town) = none := rfl
theorem wdat_ol (xs : List PyData) : W.dat (.ol xs) = some (.list xs) := rfl
theorem wdat_od (xs : List (PyData × PyData)) : W.dat (.od xs) = some (.dict xs) := rfl
theorem wfrz_no : W.frz (.no) = .no := rfl
theorem wfrz_d (x : PyData) : W.frz (.d x) = .d x := rfl
theorem wfrz_town : W.frz (.town) = .town := rfl
theorem wfrz_ol (xs : List PyData) : W.frz (.ol xs) = .d (.list xs) := rfl
theorem wfrz_od (xs : List (PyData × PyData)) : W.frz (.od xs) = .od xs := rfl
theorem wval_no : W.val (.no) = none := rfl
theorem wval_d (x : PyData) : W.val (.d x) = some x := rfl
theorem wval_town : W.val (.town) = none := rfl
theorem wval_ol (xs : List PyData) : W.val (.ol xs) = none := rfl
theorem wval_od (xs : List (PyData × PyData)) : W.val (.od xs) = none := rfl
theorem warg_no : W.arg (.no) = none := rfl
theorem warg_d (x : PyData) : W.arg (.d x) = some (.d x) := rfl
theorem warg_town : W.arg (.town) = some .town := rfl
theorem warg_ol (xs : List PyData) : W.arg (.ol xs) = some (.d (.list xs)) := rfl
theorem warg_od (xs : List (PyData × PyData)) : W.arg (.od xs) = none := rfl
theorem kill_nx (is : List Nat) (ρ : List W) (n : Nat) : Out.kill is (.nx ρ n) = .nx (wipeW ρ is) n := rfl
theorem kill_rt (is : List Nat) (w : W) (n : Nat) : Out.kill is (.rt w n) = .rt w n := rfl
theorem kill_bk (is : List Nat) (ρ : List W) (n : Nat) : Out.kill is (.bk ρ n) = .bk ρ n := rfl

end L2.Lv
namespace L2.Lv.Sh
open PySem PySem.Spec PyProof.Rows L2 L2.Lv
abbrev Sc (ns : List Int) : W := .d (.list (ns.map .int))
abbrev I' (i : Int) : W := .d (.int i)
theorem mulC_l {i j : Int} (h : -(2 ^ 64) < i) (h2 : i < 2 ^ 64) : mulC i j = true := decide_eq_true (.inl ⟨h, h2⟩)
theorem divC_ok {i j : Int} (h : 0 < j) (h2 : j < 1073741824) : divC i j = true := decide_eq_true ⟨h, h2⟩
theorem modC_ok {i j : Int} (h : 0 < j) : modC i j = true := decide_eq_true h
theorem atI_ok {α : Type} {xs : List α} {i : Int} (h : 0 ≤ i) (h2 : i.toNat < xs.length) : atI xs i = some xs[i.toNat] := by
  obtain ⟨k, rfl⟩ := Int.eq_ofNat_of_zero_le h
  simp only [Int.ofNat_eq_natCast, Int.toNat_natCast] at h2 ⊢
  exact atI_nat (List.getElem?_eq_getElem h2)
def drawG (c1 c2 c3 c4 c5 : Int) : Fs :=
    (sSeq (sTown 1)
    (sSeq (sSet 3 (eTLen 1))
    (sSeq (sSet 4 (eC (.int 0)))
    (sSeq (sIf (bTru (dVar 0))
    (sSet 4 (eBin dIx (dVar 0) (dOf (eBin dMod (dVar 3) (dOf (eApp gLen (sCons (dVar 0) sNil)))))))
    sNil')
    (sSeq (sSet 5 (eBin dMod (dOf (eBin dAdd (dVar 4) (dOf (eBin dMul (dOf (eC (.int c1))) (dVar 3))))) (dOf (eC (.int c2)))))
    (sSeq (sSet 5 (eBin dMod (dOf (eBin dMul (dOf (eBin dMod (dOf (eBin dMul (dVar 5) (dVar 5))) (dOf (eC (.int c3))))) (dOf (eC (.int c4))))) (dOf (eC (.int c2)))))
    (sRet (eBin dMod (dOf (eBin dDiv (dVar 5) (dOf (eC (.int c5))))) (dVar 2)))))))))
theorem drawG_ok (c1 c2 c3 c4 c5 : Int) (h1 : ∀ k : Int, mulC c1 k = true) (h2 : ∀ k : Int, mulC (k % c2) (k % c2) = true) (h3 : ∀ k : Int, mulC (k % c3) c4 = true) (h4 : ∀ k : Int, modC k c2 = true) (h5 : ∀ k : Int, modC k c3 = true) (h6 : ∀ k : Int, divC k c5 = true)
    (ns : List Int) (n : Nat) (hn : n < big) (many : Int) (hm : 0 < many) : ∃ r : Int, 0 ≤ r ∧ r < many ∧ runB 6 (drawG c1 c2 c3 c4 c5) [Sc ns, .town, I' many] n = some (I' r, n + 1) := by
  have h7 : ∀ k : Int, modC k many = true := fun k => modC_ok hm
  unfold drawG
  cases ns with
  | nil =>
    simp -implicitDefEqProofs only [eVar_ap, dVar_ap, eC_ap, dOf_ap, eFrz_ap, eBin_ap, bTest_ap, bTru_ap, bAnd_ap, bOr_ap, bNot_ap, eIf_ap, eB_ap, eAnd_ap, eOr_ap, aNil_ap, aCons_ap, sNil_ap, sCons_ap, eTup_ap, eLst_ap, eCall_ap, eApp_ap, oNone_ap, oSome_ap, eSl_ap, sNil'_ap, sSeq_ap, sBrk_ap, sRet_ap, sRetN_ap, sRetO_ap, sDrop_ap, sIf_ap, sSet_ap, sApp_ap, sTown_ap, sExt_ap, sIns_ap, sSetIx_ap, sAsg_ap, sPar_ap, iOf_ap, iVal_ap, iRng1_ap, iRng2_ap, sFor_ap, eComp_ap, bYes_ap, frzAt_ap, eUn_ap, eNotD_ap, eOrD_ap, eChain_ap, eListRg1_ap, eIsa_ap, eMt_ap, iEnumV_ap, iEnumF_ap, iZipV_ap, iZipF_ap, eTLen_ap, iRng3D_ap, sEnd_ap, eSs_ap, sPar3_ap, xPop_ap, xTup1_ap, xCat_ap, sSetX_ap, sAppX_ap, sParO_ap, sForEI_ap, sForK_ap, runB_ap, gOne_ap, gMany_ap, dI_ap, yesC_ap, dCmp_int, setD, kill_nx, kill_rt, kill_bk, Option.bind_some, Option.map_some, Option.bind_none, Option.map_none, List.getElem?_cons_zero, List.getElem?_cons_succ, List.set_cons_zero, List.set_cons_succ, List.cons_append, List.nil_append, List.append_nil, List.replicate, List.length_cons, List.length_nil, Nat.reduceAdd, Nat.reduceSub, Nat.zero_add, wdat_no, wdat_d, wdat_town, wdat_ol, wdat_od, wfrz_no, wfrz_d, wfrz_town, wfrz_ol, wfrz_od, wval_no, wval_d, wval_town, wval_ol, wval_od, warg_no, warg_d, warg_town, warg_ol, warg_od, vals, gLen, gAbs, gMax2, gMin2, gInt, gTup, gList, wipeW, if_true, if_false, Bool.false_eq_true, Bool.not_true, Bool.not_false, reduceCtorEq, Sc, I', List.map_nil]
    rw [if_pos hn]
    simp -implicitDefEqProofs only [eVar_ap, dVar_ap, eC_ap, dOf_ap, eFrz_ap, eBin_ap, bTest_ap, bTru_ap, bAnd_ap, bOr_ap, bNot_ap, eIf_ap, eB_ap, eAnd_ap, eOr_ap, aNil_ap, aCons_ap, sNil_ap, sCons_ap, eTup_ap, eLst_ap, eCall_ap, eApp_ap, oNone_ap, oSome_ap, eSl_ap, sNil'_ap, sSeq_ap, sBrk_ap, sRet_ap, sRetN_ap, sRetO_ap, sDrop_ap, sIf_ap, sSet_ap, sApp_ap, sTown_ap, sExt_ap, sIns_ap, sSetIx_ap, sAsg_ap, sPar_ap, iOf_ap, iVal_ap, iRng1_ap, iRng2_ap, sFor_ap, eComp_ap, bYes_ap, frzAt_ap, eUn_ap, eNotD_ap, eOrD_ap, eChain_ap, eListRg1_ap, eIsa_ap, eMt_ap, iEnumV_ap, iEnumF_ap, iZipV_ap, iZipF_ap, eTLen_ap, iRng3D_ap, sEnd_ap, eSs_ap, sPar3_ap, xPop_ap, xTup1_ap, xCat_ap, sSetX_ap, sAppX_ap, sParO_ap, sForEI_ap, sForK_ap, runB_ap, gOne_ap, gMany_ap, dI_ap, yesC_ap, dCmp_int, setD, kill_nx, kill_rt, kill_bk, Option.bind_some, Option.map_some, Option.bind_none, Option.map_none, List.getElem?_cons_zero, List.getElem?_cons_succ, List.set_cons_zero, List.set_cons_succ, List.cons_append, List.nil_append, List.append_nil, List.replicate, List.length_cons, List.length_nil, Nat.reduceAdd, Nat.reduceSub, Nat.zero_add, wdat_no, wdat_d, wdat_town, wdat_ol, wdat_od, wfrz_no, wfrz_d, wfrz_town, wfrz_ol, wfrz_od, wval_no, wval_d, wval_town, wval_ol, wval_od, warg_no, warg_d, warg_town, warg_ol, warg_od, vals, gLen, gAbs, gMax2, gMin2, gInt, gTup, gList, wipeW, if_true, if_false, Bool.false_eq_true, Bool.not_true, Bool.not_false, reduceCtorEq, dTru, List.isEmpty_nil]
    simp -implicitDefEqProofs only [eVar_ap, dVar_ap, eC_ap, dOf_ap, eFrz_ap, eBin_ap, bTest_ap, bTru_ap, bAnd_ap, bOr_ap, bNot_ap, eIf_ap, eB_ap, eAnd_ap, eOr_ap, aNil_ap, aCons_ap, sNil_ap, sCons_ap, eTup_ap, eLst_ap, eCall_ap, eApp_ap, oNone_ap, oSome_ap, eSl_ap, sNil'_ap, sSeq_ap, sBrk_ap, sRet_ap, sRetN_ap, sRetO_ap, sDrop_ap, sIf_ap, sSet_ap, sApp_ap, sTown_ap, sExt_ap, sIns_ap, sSetIx_ap, sAsg_ap, sPar_ap, iOf_ap, iVal_ap, iRng1_ap, iRng2_ap, sFor_ap, eComp_ap, bYes_ap, frzAt_ap, eUn_ap, eNotD_ap, eOrD_ap, eChain_ap, eListRg1_ap, eIsa_ap, eMt_ap, iEnumV_ap, iEnumF_ap, iZipV_ap, iZipF_ap, eTLen_ap, iRng3D_ap, sEnd_ap, eSs_ap, sPar3_ap, xPop_ap, xTup1_ap, xCat_ap, sSetX_ap, sAppX_ap, sParO_ap, sForEI_ap, sForK_ap, runB_ap, gOne_ap, gMany_ap, dI_ap, yesC_ap, dCmp_int, setD, kill_nx, kill_rt, kill_bk, Option.bind_some, Option.map_some, Option.bind_none, Option.map_none, List.getElem?_cons_zero, List.getElem?_cons_succ, List.set_cons_zero, List.set_cons_succ, List.cons_append, List.nil_append, List.append_nil, List.replicate, List.length_cons, List.length_nil, Nat.reduceAdd, Nat.reduceSub, Nat.zero_add, wdat_no, wdat_d, wdat_town, wdat_ol, wdat_od, wfrz_no, wfrz_d, wfrz_town, wfrz_ol, wfrz_od, wval_no, wval_d, wval_town, wval_ol, wval_od, warg_no, warg_d, warg_town, warg_ol, warg_od, vals, gLen, gAbs, gMax2, gMin2, gInt, gTup, gList, wipeW, if_true, if_false, Bool.false_eq_true, Bool.not_true, Bool.not_false, reduceCtorEq, dAdd, dMul, dMod, dDiv, h1, h2, h3, h4, h5, h6, h7]
    exact ⟨_, Int.emod_nonneg _ (by omega), Int.emod_lt_of_pos _ hm, rfl⟩
  | cons a ns =>
    simp -implicitDefEqProofs only [eVar_ap, dVar_ap, eC_ap, dOf_ap, eFrz_ap, eBin_ap, bTest_ap, bTru_ap, bAnd_ap, bOr_ap, bNot_ap, eIf_ap, eB_ap, eAnd_ap, eOr_ap, aNil_ap, aCons_ap, sNil_ap, sCons_ap, eTup_ap, eLst_ap, eCall_ap, eApp_ap, oNone_ap, oSome_ap, eSl_ap, sNil'_ap, sSeq_ap, sBrk_ap, sRet_ap, sRetN_ap, sRetO_ap, sDrop_ap, sIf_ap, sSet_ap, sApp_ap, sTown_ap, sExt_ap, sIns_ap, sSetIx_ap, sAsg_ap, sPar_ap, iOf_ap, iVal_ap, iRng1_ap, iRng2_ap, sFor_ap, eComp_ap, bYes_ap, frzAt_ap, eUn_ap, eNotD_ap, eOrD_ap, eChain_ap, eListRg1_ap, eIsa_ap, eMt_ap, iEnumV_ap, iEnumF_ap, iZipV_ap, iZipF_ap, eTLen_ap, iRng3D_ap, sEnd_ap, eSs_ap, sPar3_ap, xPop_ap, xTup1_ap, xCat_ap, sSetX_ap, sAppX_ap, sParO_ap, sForEI_ap, sForK_ap, runB_ap, gOne_ap, gMany_ap, dI_ap, yesC_ap, dCmp_int, setD, kill_nx, kill_rt, kill_bk, Option.bind_some, Option.map_some, Option.bind_none, Option.map_none, List.getElem?_cons_zero, List.getElem?_cons_succ, List.set_cons_zero, List.set_cons_succ, List.cons_append, List.nil_append, List.append_nil, List.replicate, List.length_cons, List.length_nil, Nat.reduceAdd, Nat.reduceSub, Nat.zero_add, wdat_no, wdat_d, wdat_town, wdat_ol, wdat_od, wfrz_no, wfrz_d, wfrz_town, wfrz_ol, wfrz_od, wval_no, wval_d, wval_town, wval_ol, wval_od, warg_no, warg_d, warg_town, warg_ol, warg_od, vals, gLen, gAbs, gMax2, gMin2, gInt, gTup, gList, wipeW, if_true, if_false, Bool.false_eq_true, Bool.not_true, Bool.not_false, reduceCtorEq, Sc, I', List.map_cons]
    rw [if_pos hn]
    simp -implicitDefEqProofs only [eVar_ap, dVar_ap, eC_ap, dOf_ap, eFrz_ap, eBin_ap, bTest_ap, bTru_ap, bAnd_ap, bOr_ap, bNot_ap, eIf_ap, eB_ap, eAnd_ap, eOr_ap, aNil_ap, aCons_ap, sNil_ap, sCons_ap, eTup_ap, eLst_ap, eCall_ap, eApp_ap, oNone_ap, oSome_ap, eSl_ap, sNil'_ap, sSeq_ap, sBrk_ap, sRet_ap, sRetN_ap, sRetO_ap, sDrop_ap, sIf_ap, sSet_ap, sApp_ap, sTown_ap, sExt_ap, sIns_ap, sSetIx_ap, sAsg_ap, sPar_ap, iOf_ap, iVal_ap, iRng1_ap, iRng2_ap, sFor_ap, eComp_ap, bYes_ap, frzAt_ap, eUn_ap, eNotD_ap, eOrD_ap, eChain_ap, eListRg1_ap, eIsa_ap, eMt_ap, iEnumV_ap, iEnumF_ap, iZipV_ap, iZipF_ap, eTLen_ap, iRng3D_ap, sEnd_ap, eSs_ap, sPar3_ap, xPop_ap, xTup1_ap, xCat_ap, sSetX_ap, sAppX_ap, sParO_ap, sForEI_ap, sForK_ap, runB_ap, gOne_ap, gMany_ap, dI_ap, yesC_ap, dCmp_int, setD, kill_nx, kill_rt, kill_bk, Option.bind_some, Option.map_some, Option.bind_none, Option.map_none, List.getElem?_cons_zero, List.getElem?_cons_succ, List.set_cons_zero, List.set_cons_succ, List.cons_append, List.nil_append, List.append_nil, List.replicate, List.length_cons, List.length_nil, Nat.reduceAdd, Nat.reduceSub, Nat.zero_add, wdat_no, wdat_d, wdat_town, wdat_ol, wdat_od, wfrz_no, wfrz_d, wfrz_town, wfrz_ol, wfrz_od, wval_no, wval_d, wval_town, wval_ol, wval_od, warg_no, warg_d, warg_town, warg_ol, warg_od, vals, gLen, gAbs, gMax2, gMin2, gInt, gTup, gList, wipeW, if_true, if_false, Bool.false_eq_true, Bool.not_true, Bool.not_false, reduceCtorEq, dTru, List.isEmpty_cons]
    have h8 : modC ((n + 1 : Nat) : Int) ((List.map PyData.int ns).length + 1 : Nat) = true := modC_ok (by omega)
    have h9 : ∃ c : Int, dIx (.list (PyData.int a :: List.map PyData.int ns)) (.int (((n + 1 : Nat) : Int) % ((List.map PyData.int ns).length + 1 : Nat))) = some (.d (.int c)) := by
      have e : PyData.int a :: List.map PyData.int ns = (a :: ns).map .int := rfl
      rw [e]
      have l0 := Int.emod_nonneg ((n + 1 : Nat) : Int) (show (((List.map PyData.int ns).length + 1 : Nat) : Int) ≠ 0 by omega)
      have l1 := Int.emod_lt_of_pos ((n + 1 : Nat) : Int) (show 0 < (((List.map PyData.int ns).length + 1 : Nat) : Int) by omega)
      have l2 : (((n + 1 : Nat) : Int) % ((List.map PyData.int ns).length + 1 : Nat)).toNat < ((a :: ns).map PyData.int).length := by
        simp only [List.length_map, List.length_cons] at l0 l1 ⊢
        omega
      refine ⟨(a :: ns)[(((n + 1 : Nat) : Int) % ((List.map PyData.int ns).length + 1 : Nat)).toNat]'(by simpa using l2), ?_⟩
      show (atI _ _).map W.d = _
      rw [atI_ok l0 l2, Option.map_some, List.getElem_map]
    obtain ⟨c, h9⟩ := h9
    simp -implicitDefEqProofs only [eVar_ap, dVar_ap, eC_ap, dOf_ap, eFrz_ap, eBin_ap, bTest_ap, bTru_ap, bAnd_ap, bOr_ap, bNot_ap, eIf_ap, eB_ap, eAnd_ap, eOr_ap, aNil_ap, aCons_ap, sNil_ap, sCons_ap, eTup_ap, eLst_ap, eCall_ap, eApp_ap, oNone_ap, oSome_ap, eSl_ap, sNil'_ap, sSeq_ap, sBrk_ap, sRet_ap, sRetN_ap, sRetO_ap, sDrop_ap, sIf_ap, sSet_ap, sApp_ap, sTown_ap, sExt_ap, sIns_ap, sSetIx_ap, sAsg_ap, sPar_ap, iOf_ap, iVal_ap, iRng1_ap, iRng2_ap, sFor_ap, eComp_ap, bYes_ap, frzAt_ap, eUn_ap, eNotD_ap, eOrD_ap, eChain_ap, eListRg1_ap, eIsa_ap, eMt_ap, iEnumV_ap, iEnumF_ap, iZipV_ap, iZipF_ap, eTLen_ap, iRng3D_ap, sEnd_ap, eSs_ap, sPar3_ap, xPop_ap, xTup1_ap, xCat_ap, sSetX_ap, sAppX_ap, sParO_ap, sForEI_ap, sForK_ap, runB_ap, gOne_ap, gMany_ap, dI_ap, yesC_ap, dCmp_int, setD, kill_nx, kill_rt, kill_bk, Option.bind_some, Option.map_some, Option.bind_none, Option.map_none, List.getElem?_cons_zero, List.getElem?_cons_succ, List.set_cons_zero, List.set_cons_succ, List.cons_append, List.nil_append, List.append_nil, List.replicate, List.length_cons, List.length_nil, Nat.reduceAdd, Nat.reduceSub, Nat.zero_add, wdat_no, wdat_d, wdat_town, wdat_ol, wdat_od, wfrz_no, wfrz_d, wfrz_town, wfrz_ol, wfrz_od, wval_no, wval_d, wval_town, wval_ol, wval_od, warg_no, warg_d, warg_town, warg_ol, warg_od, vals, gLen, gAbs, gMax2, gMin2, gInt, gTup, gList, wipeW, if_true, if_false, Bool.false_eq_true, Bool.not_true, Bool.not_false, reduceCtorEq, dAdd, dMul, dMod, dDiv, h1, h2, h3, h4, h5, h6, h7, h8, h9]
    exact ⟨_, Int.emod_nonneg _ (by omega), Int.emod_lt_of_pos _ hm, rfl⟩
theorem draw_ok (ns : List Int) (n : Nat) (hn : n < big) (many : Int) (hm : 0 < many) : ∃ r : Int, 0 ≤ r ∧ r < many ∧ m__law_draw [Sc ns, .town, I' many] n = some (I' r, n + 1) :=
  drawG_ok 104729 4294967291 4294967279 48271 64 (fun k => mulC_l (by decide) (by decide)) (fun k => mulC_l (by omega) (by omega)) (fun k => mulC_l (by omega) (by omega)) (fun k => modC_ok (by decide)) (fun k => modC_ok (by decide)) (fun k => divC_ok (by decide) (by decide)) ns n hn many hm
end L2.Lv.Sh
namespace L2.Lv.Sh
open PySem PySem.Spec PyProof.Rows L2 L2.Lv
/-! isinstance -/
theorem isa_b_i (i : Int) : isa "bool" (.int i) = false := by simp [isa, tyN]
theorem isa_b_b (i : Bool) : isa "bool" (.bool i) = true := by simp [isa, tyN]
theorem isa_b_s (i : Str) : isa "bool" (.str i) = false := by simp [isa, tyN]
theorem isa_b_t (i : List PyData) : isa "bool" (.tuple i) = false := by simp [isa, tyN]
theorem isa_b_l (i : List PyData) : isa "bool" (.list i) = false := by simp [isa, tyN]
theorem isa_b_n : isa "bool" .none = false := by simp [isa, tyN]
theorem isa_t_i (i : Int) : isa "tuple" (.int i) = false := by simp [isa, tyN]
theorem isa_t_b (i : Bool) : isa "tuple" (.bool i) = false := by simp [isa, tyN]
theorem isa_t_s (i : Str) : isa "tuple" (.str i) = false := by simp [isa, tyN]
theorem isa_t_t (i : List PyData) : isa "tuple" (.tuple i) = true := by simp [isa, tyN]
theorem isa_t_l (i : List PyData) : isa "tuple" (.list i) = false := by simp [isa, tyN]
theorem isa_t_n : isa "tuple" .none = false := by simp [isa, tyN]
theorem isa_s_i (i : Int) : isa "str" (.int i) = false := by simp [isa, tyN]
theorem isa_s_b (i : Bool) : isa "str" (.bool i) = false := by simp [isa, tyN]
theorem isa_s_s (i : Str) : isa "str" (.str i) = true := by simp [isa, tyN]
theorem isa_s_t (i : List PyData) : isa "str" (.tuple i) = false := by simp [isa, tyN]
theorem isa_s_n : isa "str" .none = false := by simp [isa, tyN]
theorem isa_i_i (i : Int) : isa "int" (.int i) = true := by simp [isa, tyN]
theorem isa_i_b (i : Bool) : isa "int" (.bool i) = true := by simp [isa, tyN]
theorem isa_i_s (i : Str) : isa "int" (.str i) = false := by simp [isa, tyN]
theorem isa_i_t (i : List PyData) : isa "int" (.tuple i) = false := by simp [isa, tyN]
theorem isa_i_n : isa "int" .none = false := by simp [isa, tyN]

theorem shp_int (i : Int) : shp (.int i) = true := by simp [shp, SeqAt.shaped, PyData.canLay0, PyData.depth]
theorem shp_bool (i : Bool) : shp (.bool i) = true := by simp [shp, SeqAt.shaped, PyData.canLay0, PyData.depth]
theorem shp_none : shp .none = true := by simp [shp, SeqAt.shaped, PyData.canLay0, PyData.depth]
theorem dEq_int (i j : Int) : dEq (.int i) (.int j) = some (.d (.bool (i == j))) := by simp [dEq, shp_int, PyData.eqv]
theorem dNe_int (i j : Int) : dNe (.int i) (.int j) = some (.d (.bool (!(i == j)))) := by simp [dNe, shp_int, PyData.eqv]
theorem dEq_bool (i j : Bool) : dEq (.bool i) (.bool j) = some (.d (.bool (i == j))) := by simp [dEq, shp_bool, PyData.eqv]
theorem dEq_str {i j : Str} (h : shp (.str i) = true) (h2 : shp (.str j) = true) : dEq (.str i) (.str j) = some (.d (.bool (i == j))) := by simp [dEq, h, h2, PyData.eqv]
theorem dNe_str {i j : Str} (h : shp (.str i) = true) (h2 : shp (.str j) = true) : dNe (.str i) (.str j) = some (.d (.bool (!(i == j)))) := by simp [dNe, h, h2, PyData.eqv]
/-- plain data: no list, no dict; depth at most k -/
def sm : Nat → PyData → Bool
  | 0, _ => false
  | _ + 1, .none => true
  | _ + 1, .bool _ => true
  | _ + 1, .int _ => true
  | _ + 1, .str s => shp (.str s)
  | k + 1, .tuple xs => xs.all (sm k)
  | _ + 1, _ => false
theorem boolsOf_rep (k : Nat) : boolsOf (List.replicate k (.bool true)) = some (List.replicate k true) := by
  induction k with
  | zero => rfl
  | succ k ih => rw [List.replicate_succ]; show (boolsOf (List.replicate k (PyData.bool true))).map _ = _; rw [ih]; rfl
theorem all_rep (k : Nat) : (List.replicate k true).all id = true := by
  induction k with
  | zero => rfl
  | succ k ih => rw [List.replicate_succ]; simpa using ih
theorem zipD_length : ∀ (xs ys : List PyData), (zipD xs ys).length ≤ xs.length
  | [], [] => Nat.le_refl _
  | [], _ :: _ => Nat.le_refl _
  | _ :: _, [] => Nat.zero_le _
  | _ :: xs, _ :: ys => Nat.succ_le_succ (zipD_length xs ys)
theorem same_refl_ : ∀ (k : Nat) (x : PyData) (n : Nat), sm k x = true → (∀ xs, x = .tuple xs → True) → (hb : ∀ xs, x = .tuple xs → xs.length ≤ 1000000) → m__law_same_ k [.d x, .d x] n = some (.d (.bool true), n) ∨ ∃ xs, x = .tuple xs ∧ ∃ y ∈ xs, m__law_same_ (k - 1) [.d y, .d y] n ≠ some (.d (.bool true), n)
  | 0, _, _, h, _, _ => by simp [sm] at h
  | k + 1, .none, n, h, _, _ => by left; unfold m__law_same_ b__law_same; simp -implicitDefEqProofs only [eVar_ap, dVar_ap, eC_ap, dOf_ap, eFrz_ap, eBin_ap, bTest_ap, bTru_ap, bAnd_ap, bOr_ap, bNot_ap, eIf_ap, eB_ap, eAnd_ap, eOr_ap, aNil_ap, aCons_ap, sNil_ap, sCons_ap, eTup_ap, eLst_ap, eCall_ap, eApp_ap, oNone_ap, oSome_ap, eSl_ap, sNil'_ap, sSeq_ap, sBrk_ap, sRet_ap, sRetN_ap, sRetO_ap, sDrop_ap, sIf_ap, sSet_ap, sApp_ap, sTown_ap, sExt_ap, sIns_ap, sSetIx_ap, sAsg_ap, sPar_ap, iOf_ap, iVal_ap, iRng1_ap, iRng2_ap, sFor_ap, eComp_ap, bYes_ap, frzAt_ap, eUn_ap, eNotD_ap, eOrD_ap, eChain_ap, eListRg1_ap, eIsa_ap, eMt_ap, iEnumV_ap, iEnumF_ap, iZipV_ap, iZipF_ap, eTLen_ap, iRng3D_ap, sEnd_ap, eSs_ap, sPar3_ap, xPop_ap, xTup1_ap, xCat_ap, sSetX_ap, sAppX_ap, sParO_ap, sForEI_ap, sForK_ap, runB_ap, gOne_ap, gMany_ap, dI_ap, yesC_ap, dCmp_int, setD, kill_nx, kill_rt, kill_bk, Option.bind_some, Option.map_some, Option.bind_none, Option.map_none, List.getElem?_cons_zero, List.getElem?_cons_succ, List.set_cons_zero, List.set_cons_succ, List.cons_append, List.nil_append, List.append_nil, List.replicate, List.length_cons, List.length_nil, Nat.reduceAdd, Nat.reduceSub, Nat.zero_add, wdat_no, wdat_d, wdat_town, wdat_ol, wdat_od, wfrz_no, wfrz_d, wfrz_town, wfrz_ol, wfrz_od, wval_no, wval_d, wval_town, wval_ol, wval_od, warg_no, warg_d, warg_town, warg_ol, warg_od, vals, gLen, gAbs, gMax2, gMin2, gInt, gTup, gList, wipeW, if_true, if_false, Bool.false_eq_true, Bool.not_true, Bool.not_false, reduceCtorEq, dTru, isNo, dIsN, dNotN, isa_b_i, isa_b_b, isa_b_s, isa_b_t, isa_b_l, isa_b_n, isa_t_i, isa_t_b, isa_t_s, isa_t_t, isa_t_l, isa_t_n, isa_s_i, isa_s_b, isa_s_s, isa_s_t, isa_s_n, isa_i_i, isa_i_b, isa_i_s, isa_i_t, isa_i_n]
  | k + 1, .bool b, n, h, _, _ => by left; unfold m__law_same_ b__law_same; simp -implicitDefEqProofs only [eVar_ap, dVar_ap, eC_ap, dOf_ap, eFrz_ap, eBin_ap, bTest_ap, bTru_ap, bAnd_ap, bOr_ap, bNot_ap, eIf_ap, eB_ap, eAnd_ap, eOr_ap, aNil_ap, aCons_ap, sNil_ap, sCons_ap, eTup_ap, eLst_ap, eCall_ap, eApp_ap, oNone_ap, oSome_ap, eSl_ap, sNil'_ap, sSeq_ap, sBrk_ap, sRet_ap, sRetN_ap, sRetO_ap, sDrop_ap, sIf_ap, sSet_ap, sApp_ap, sTown_ap, sExt_ap, sIns_ap, sSetIx_ap, sAsg_ap, sPar_ap, iOf_ap, iVal_ap, iRng1_ap, iRng2_ap, sFor_ap, eComp_ap, bYes_ap, frzAt_ap, eUn_ap, eNotD_ap, eOrD_ap, eChain_ap, eListRg1_ap, eIsa_ap, eMt_ap, iEnumV_ap, iEnumF_ap, iZipV_ap, iZipF_ap, eTLen_ap, iRng3D_ap, sEnd_ap, eSs_ap, sPar3_ap, xPop_ap, xTup1_ap, xCat_ap, sSetX_ap, sAppX_ap, sParO_ap, sForEI_ap, sForK_ap, runB_ap, gOne_ap, gMany_ap, dI_ap, yesC_ap, dCmp_int, setD, kill_nx, kill_rt, kill_bk, Option.bind_some, Option.map_some, Option.bind_none, Option.map_none, List.getElem?_cons_zero, List.getElem?_cons_succ, List.set_cons_zero, List.set_cons_succ, List.cons_append, List.nil_append, List.append_nil, List.replicate, List.length_cons, List.length_nil, Nat.reduceAdd, Nat.reduceSub, Nat.zero_add, wdat_no, wdat_d, wdat_town, wdat_ol, wdat_od, wfrz_no, wfrz_d, wfrz_town, wfrz_ol, wfrz_od, wval_no, wval_d, wval_town, wval_ol, wval_od, warg_no, warg_d, warg_town, warg_ol, warg_od, vals, gLen, gAbs, gMax2, gMin2, gInt, gTup, gList, wipeW, if_true, if_false, Bool.false_eq_true, Bool.not_true, Bool.not_false, reduceCtorEq, dTru, isNo, dIsN, dNotN, isa_b_i, isa_b_b, isa_b_s, isa_b_t, isa_b_l, isa_b_n, isa_t_i, isa_t_b, isa_t_s, isa_t_t, isa_t_l, isa_t_n, isa_s_i, isa_s_b, isa_s_s, isa_s_t, isa_s_n, isa_i_i, isa_i_b, isa_i_s, isa_i_t, isa_i_n, dEq_bool, beq_self_eq_true]
  | k + 1, .int b, n, h, _, _ => by left; unfold m__law_same_ b__law_same; simp -implicitDefEqProofs only [eVar_ap, dVar_ap, eC_ap, dOf_ap, eFrz_ap, eBin_ap, bTest_ap, bTru_ap, bAnd_ap, bOr_ap, bNot_ap, eIf_ap, eB_ap, eAnd_ap, eOr_ap, aNil_ap, aCons_ap, sNil_ap, sCons_ap, eTup_ap, eLst_ap, eCall_ap, eApp_ap, oNone_ap, oSome_ap, eSl_ap, sNil'_ap, sSeq_ap, sBrk_ap, sRet_ap, sRetN_ap, sRetO_ap, sDrop_ap, sIf_ap, sSet_ap, sApp_ap, sTown_ap, sExt_ap, sIns_ap, sSetIx_ap, sAsg_ap, sPar_ap, iOf_ap, iVal_ap, iRng1_ap, iRng2_ap, sFor_ap, eComp_ap, bYes_ap, frzAt_ap, eUn_ap, eNotD_ap, eOrD_ap, eChain_ap, eListRg1_ap, eIsa_ap, eMt_ap, iEnumV_ap, iEnumF_ap, iZipV_ap, iZipF_ap, eTLen_ap, iRng3D_ap, sEnd_ap, eSs_ap, sPar3_ap, xPop_ap, xTup1_ap, xCat_ap, sSetX_ap, sAppX_ap, sParO_ap, sForEI_ap, sForK_ap, runB_ap, gOne_ap, gMany_ap, dI_ap, yesC_ap, dCmp_int, setD, kill_nx, kill_rt, kill_bk, Option.bind_some, Option.map_some, Option.bind_none, Option.map_none, List.getElem?_cons_zero, List.getElem?_cons_succ, List.set_cons_zero, List.set_cons_succ, List.cons_append, List.nil_append, List.append_nil, List.replicate, List.length_cons, List.length_nil, Nat.reduceAdd, Nat.reduceSub, Nat.zero_add, wdat_no, wdat_d, wdat_town, wdat_ol, wdat_od, wfrz_no, wfrz_d, wfrz_town, wfrz_ol, wfrz_od, wval_no, wval_d, wval_town, wval_ol, wval_od, warg_no, warg_d, warg_town, warg_ol, warg_od, vals, gLen, gAbs, gMax2, gMin2, gInt, gTup, gList, wipeW, if_true, if_false, Bool.false_eq_true, Bool.not_true, Bool.not_false, reduceCtorEq, dTru, isNo, dIsN, dNotN, isa_b_i, isa_b_b, isa_b_s, isa_b_t, isa_b_l, isa_b_n, isa_t_i, isa_t_b, isa_t_s, isa_t_t, isa_t_l, isa_t_n, isa_s_i, isa_s_b, isa_s_s, isa_s_t, isa_s_n, isa_i_i, isa_i_b, isa_i_s, isa_i_t, isa_i_n, dEq_int, beq_self_eq_true]
  | k + 1, .str b, n, h, _, _ => by
    left
    have h : shp (.str b) = true := h
    unfold m__law_same_ b__law_same
    simp -implicitDefEqProofs only [eVar_ap, dVar_ap, eC_ap, dOf_ap, eFrz_ap, eBin_ap, bTest_ap, bTru_ap, bAnd_ap, bOr_ap, bNot_ap, eIf_ap, eB_ap, eAnd_ap, eOr_ap, aNil_ap, aCons_ap, sNil_ap, sCons_ap, eTup_ap, eLst_ap, eCall_ap, eApp_ap, oNone_ap, oSome_ap, eSl_ap, sNil'_ap, sSeq_ap, sBrk_ap, sRet_ap, sRetN_ap, sRetO_ap, sDrop_ap, sIf_ap, sSet_ap, sApp_ap, sTown_ap, sExt_ap, sIns_ap, sSetIx_ap, sAsg_ap, sPar_ap, iOf_ap, iVal_ap, iRng1_ap, iRng2_ap, sFor_ap, eComp_ap, bYes_ap, frzAt_ap, eUn_ap, eNotD_ap, eOrD_ap, eChain_ap, eListRg1_ap, eIsa_ap, eMt_ap, iEnumV_ap, iEnumF_ap, iZipV_ap, iZipF_ap, eTLen_ap, iRng3D_ap, sEnd_ap, eSs_ap, sPar3_ap, xPop_ap, xTup1_ap, xCat_ap, sSetX_ap, sAppX_ap, sParO_ap, sForEI_ap, sForK_ap, runB_ap, gOne_ap, gMany_ap, dI_ap, yesC_ap, dCmp_int, setD, kill_nx, kill_rt, kill_bk, Option.bind_some, Option.map_some, Option.bind_none, Option.map_none, List.getElem?_cons_zero, List.getElem?_cons_succ, List.set_cons_zero, List.set_cons_succ, List.cons_append, List.nil_append, List.append_nil, List.replicate, List.length_cons, List.length_nil, Nat.reduceAdd, Nat.reduceSub, Nat.zero_add, wdat_no, wdat_d, wdat_town, wdat_ol, wdat_od, wfrz_no, wfrz_d, wfrz_town, wfrz_ol, wfrz_od, wval_no, wval_d, wval_town, wval_ol, wval_od, warg_no, warg_d, warg_town, warg_ol, warg_od, vals, gLen, gAbs, gMax2, gMin2, gInt, gTup, gList, wipeW, if_true, if_false, Bool.false_eq_true, Bool.not_true, Bool.not_false, reduceCtorEq, dTru, isNo, dIsN, dNotN, isa_b_i, isa_b_b, isa_b_s, isa_b_t, isa_b_l, isa_b_n, isa_t_i, isa_t_b, isa_t_s, isa_t_t, isa_t_l, isa_t_n, isa_s_i, isa_s_b, isa_s_s, isa_s_t, isa_s_n, isa_i_i, isa_i_b, isa_i_s, isa_i_t, isa_i_n, dEq_str h h, beq_self_eq_true]
  | k + 1, .tuple xs, n, h, _, hb => by
    by_cases hy : ∃ y ∈ xs, m__law_same_ k [.d y, .d y] n ≠ some (.d (.bool true), n)
    · exact .inr ⟨xs, rfl, hy⟩
    · left
      have key : ∀ ys : List PyData, (∀ y ∈ ys, m__law_same_ k [.d y, .d y] n = some (.d (.bool true), n)) → loopC (gMany [2, 3]) [2, 3] bYes (eCall (m__law_same_ k) (aCons (eVar 2) (aCons (eVar 3) aNil))) [W.d (.tuple xs), .d (.tuple xs), .no, .no] (zipD ys ys) n = some (List.replicate ys.length (.bool true), n) := by
        intro ys hys
        induction ys with
        | nil => rfl
        | cons y ys ih =>
          show loopC _ _ _ _ _ (.tuple [y, y] :: zipD ys ys) n = _
          rw [loopC_cons]
          simp -implicitDefEqProofs only [eVar_ap, dVar_ap, eC_ap, dOf_ap, eFrz_ap, eBin_ap, bTest_ap, bTru_ap, bAnd_ap, bOr_ap, bNot_ap, eIf_ap, eB_ap, eAnd_ap, eOr_ap, aNil_ap, aCons_ap, sNil_ap, sCons_ap, eTup_ap, eLst_ap, eCall_ap, eApp_ap, oNone_ap, oSome_ap, eSl_ap, sNil'_ap, sSeq_ap, sBrk_ap, sRet_ap, sRetN_ap, sRetO_ap, sDrop_ap, sIf_ap, sSet_ap, sApp_ap, sTown_ap, sExt_ap, sIns_ap, sSetIx_ap, sAsg_ap, sPar_ap, iOf_ap, iVal_ap, iRng1_ap, iRng2_ap, sFor_ap, eComp_ap, bYes_ap, frzAt_ap, eUn_ap, eNotD_ap, eOrD_ap, eChain_ap, eListRg1_ap, eIsa_ap, eMt_ap, iEnumV_ap, iEnumF_ap, iZipV_ap, iZipF_ap, eTLen_ap, iRng3D_ap, sEnd_ap, eSs_ap, sPar3_ap, xPop_ap, xTup1_ap, xCat_ap, sSetX_ap, sAppX_ap, sParO_ap, sForEI_ap, sForK_ap, runB_ap, gOne_ap, gMany_ap, dI_ap, yesC_ap, dCmp_int, setD, kill_nx, kill_rt, kill_bk, Option.bind_some, Option.map_some, Option.bind_none, Option.map_none, List.getElem?_cons_zero, List.getElem?_cons_succ, List.set_cons_zero, List.set_cons_succ, List.cons_append, List.nil_append, List.append_nil, List.replicate, List.length_cons, List.length_nil, Nat.reduceAdd, Nat.reduceSub, Nat.zero_add, wdat_no, wdat_d, wdat_town, wdat_ol, wdat_od, wfrz_no, wfrz_d, wfrz_town, wfrz_ol, wfrz_od, wval_no, wval_d, wval_town, wval_ol, wval_od, warg_no, warg_d, warg_town, warg_ol, warg_od, vals, gLen, gAbs, gMax2, gMin2, gInt, gTup, gList, wipeW, if_true, if_false, Bool.false_eq_true, Bool.not_true, Bool.not_false, reduceCtorEq, dTru, isNo, dIsN, dNotN, isa_b_i, isa_b_b, isa_b_s, isa_b_t, isa_b_l, isa_b_n, isa_t_i, isa_t_b, isa_t_s, isa_t_t, isa_t_l, isa_t_n, isa_s_i, isa_s_b, isa_s_s, isa_s_t, isa_s_n, isa_i_i, isa_i_b, isa_i_s, isa_i_t, isa_i_n, hys y (List.mem_cons_self ..), ih fun z hz => hys z (List.mem_cons_of_mem _ hz), List.replicate_succ]
      have hk := key xs fun y hm => Classical.byContradiction fun hn => hy ⟨y, hm, hn⟩
      have hl : (zipD xs xs).length ≤ big := Nat.le_trans (zipD_length xs xs) (Nat.le_trans (hb xs rfl) (by decide))
      unfold m__law_same_ b__law_same
      simp -implicitDefEqProofs only [eVar_ap, dVar_ap, eC_ap, dOf_ap, eFrz_ap, eBin_ap, bTest_ap, bTru_ap, bAnd_ap, bOr_ap, bNot_ap, eIf_ap, eB_ap, eAnd_ap, eOr_ap, aNil_ap, aCons_ap, sNil_ap, sCons_ap, eTup_ap, eLst_ap, eCall_ap, eApp_ap, oNone_ap, oSome_ap, eSl_ap, sNil'_ap, sSeq_ap, sBrk_ap, sRet_ap, sRetN_ap, sRetO_ap, sDrop_ap, sIf_ap, sSet_ap, sApp_ap, sTown_ap, sExt_ap, sIns_ap, sSetIx_ap, sAsg_ap, sPar_ap, iOf_ap, iVal_ap, iRng1_ap, iRng2_ap, sFor_ap, eComp_ap, bYes_ap, frzAt_ap, eUn_ap, eNotD_ap, eOrD_ap, eChain_ap, eListRg1_ap, eIsa_ap, eMt_ap, iEnumV_ap, iEnumF_ap, iZipV_ap, iZipF_ap, eTLen_ap, iRng3D_ap, sEnd_ap, eSs_ap, sPar3_ap, xPop_ap, xTup1_ap, xCat_ap, sSetX_ap, sAppX_ap, sParO_ap, sForEI_ap, sForK_ap, runB_ap, gOne_ap, gMany_ap, dI_ap, yesC_ap, dCmp_int, setD, kill_nx, kill_rt, kill_bk, Option.bind_some, Option.map_some, Option.bind_none, Option.map_none, List.getElem?_cons_zero, List.getElem?_cons_succ, List.set_cons_zero, List.set_cons_succ, List.cons_append, List.nil_append, List.append_nil, List.replicate, List.length_cons, List.length_nil, Nat.reduceAdd, Nat.reduceSub, Nat.zero_add, wdat_no, wdat_d, wdat_town, wdat_ol, wdat_od, wfrz_no, wfrz_d, wfrz_town, wfrz_ol, wfrz_od, wval_no, wval_d, wval_town, wval_ol, wval_od, warg_no, warg_d, warg_town, warg_ol, warg_od, vals, gLen, gAbs, gMax2, gMin2, gInt, gTup, gList, wipeW, if_true, if_false, Bool.false_eq_true, Bool.not_true, Bool.not_false, reduceCtorEq, dTru, isNo, dIsN, dNotN, isa_b_i, isa_b_b, isa_b_s, isa_b_t, isa_b_l, isa_b_n, isa_t_i, isa_t_b, isa_t_s, isa_t_t, isa_t_l, isa_t_n, isa_s_i, isa_s_b, isa_s_s, isa_s_t, isa_s_n, isa_i_i, isa_i_b, isa_i_s, isa_i_t, isa_i_n, dNe_int, beq_self_eq_true, zipOk, hl, hk, gAll, boolsOf_rep, all_rep]
  | k + 1, .list _, n, h, _, _ => by simp [sm] at h
  | k + 1, .dict _, n, h, _, _ => by simp [sm] at h
/-- tuples in it are not too long -/
def short : Nat → PyData → Bool
  | 0, _ => true
  | k + 1, .tuple xs => decide (xs.length ≤ 1000000) && xs.all (short k)
  | _ + 1, _ => true
theorem same_refl : ∀ (k : Nat) (x : PyData) (n : Nat), sm k x = true → short k x = true → m__law_same_ k [.d x, .d x] n = some (.d (.bool true), n)
  | 0, _, _, h, _ => by simp [sm] at h
  | k + 1, x, n, h, h2 => by
    rcases same_refl_ (k + 1) x n h (fun _ _ => trivial) (fun xs e => by subst e; simp [short] at h2; exact h2.1) with q | ⟨xs, rfl, y, hy, q⟩
    · exact q
    · refine absurd (same_refl k y n ?_ ?_) q
      · simp [sm] at h; exact h y hy
      · simp [short] at h2; exact h2.2 y hy
end L2.Lv.Sh
namespace L2.Lv.Sh
open PySem PySem.Spec PyProof.Rows L2 L2.Lv
abbrev sUp : Str := "up"
abbrev sDown : Str := "down"
abbrev sPart : Str := "part"
abbrev sRest : Str := "rest"
abbrev sTable : Str := "table"
abbrev sAmong : Str := "among"
abbrev sSum : Str := "sum"
abbrev sGap : Str := "gap"
abbrev sMost : Str := "most"
/-- plain keys -/
inductive PK where
  | up (a : Int)
  | part (a d : Int)
  | rest (a d : Int)
  | table (a : Int) (t : List Int)
  | among (a : Int) (t : List Int)
  | sum (a b : Int)
  | gap (a b : Int)
  | most (a b : Int)
abbrev ti (t : List Int) : PyData := .tuple (t.map .int)
def PK.d : PK → PyData
  | up a => .tuple [.str sUp, .int a]
  | part a d => .tuple [.str sPart, .int a, .int d]
  | rest a d => .tuple [.str sRest, .int a, .int d]
  | table a t => .tuple [.str sTable, .int a, ti t]
  | among a t => .tuple [.str sAmong, .int a, ti t]
  | sum a b => .tuple [.str sSum, .int a, .int b]
  | gap a b => .tuple [.str sGap, .int a, .int b]
  | most a b => .tuple [.str sMost, .int a, .int b]
inductive Ky where
  | pl (p : PK)
  | dn (p : PK)
def Ky.d : Ky → PyData
  | pl p => p.d
  | dn p => .tuple [.str sDown, p.d]
def pl3 (a : Int) : Prop := 0 ≤ a ∧ a < 3
def tOk (t : List Int) : Prop := t ≠ [] ∧ t.length ≤ 6 ∧ t.Nodup ∧ ∀ x ∈ t, 0 ≤ x ∧ x < 6
def prOk (a b : Int) : Prop := (a = 0 ∧ b = 1) ∨ (a = 0 ∧ b = 2) ∨ (a = 1 ∧ b = 2)
def PK.ok : PK → Prop
  | up a => pl3 a
  | part a d => pl3 a ∧ (d = 2 ∨ d = 3)
  | rest a d => pl3 a ∧ (d = 2 ∨ d = 3)
  | table a t => pl3 a ∧ tOk t
  | among a t => pl3 a ∧ tOk t ∧ t.Pairwise (· < ·)
  | sum a b => prOk a b
  | gap a b => prOk a b
  | most a b => prOk a b
def Ky.pk : Ky → PK
  | pl p => p
  | dn p => p
def Ky.ok (k : Ky) : Prop := k.pk.ok
/-- what a thing is -/
abbrev Th := Int × Int × Int
def Th.d (t : Th) : PyData := ti [t.1, t.2.1, t.2.2]
def Th.ok (t : Th) : Prop := (0 ≤ t.1 ∧ t.1 < 6) ∧ (0 ≤ t.2.1 ∧ t.2.1 < 6) ∧ (0 ≤ t.2.2 ∧ t.2.2 < 6)
def Th.at (t : Th) (i : Int) : Int := if i = 0 then t.1 else if i = 1 then t.2.1 else t.2.2
theorem memD_ints (x : Int) : ∀ t : List Int, memD (.int x) (t.map .int) = decide (x ∈ t)
  | [] => by simp [memD]
  | y :: t => by
    have ih := memD_ints x t
    unfold memD at ih ⊢
    rw [List.map_cons, List.any_cons, ih]
    by_cases h : x = y
    · subst h; simp [PyData.eqv]
    · simp [PyData.eqv, h, Ne.symm h]
theorem canLay_ints : ∀ t : List Int, PyData.canLayAll0 (t.map .int) = true
  | [] => by simp [PyData.canLayAll0]
  | y :: t => by simp [PyData.canLayAll0, PyData.canLay0, canLay_ints t]
theorem depthAll_ints : ∀ t : List Int, PyData.depthAll (t.map .int) ≤ 1
  | [] => by simp [PyData.depthAll]
  | y :: t => by
    have := depthAll_ints t
    simp [PyData.depthAll, PyData.depth]
    omega
theorem shp_ti (t : List Int) : shp (ti t) = true := by
  have := depthAll_ints t
  simp [shp, SeqAt.shaped, PyData.canLay0, PyData.depth, canLay_ints]
  omega
theorem shp_li (t : List Int) : shp (.list (t.map .int)) = true := by
  have := depthAll_ints t
  simp [shp, SeqAt.shaped, PyData.canLay0, PyData.depth, canLay_ints]
  omega
theorem dIn_ints (x : Int) (t : List Int) : dIn (.int x) (ti t) = some (.d (.bool (decide (x ∈ t)))) := by
  show (some (t.map PyData.int)).bind _ = _
  rw [Option.bind_some, shp_int, shp_ti, memD_ints]
  rfl
theorem dNotIn_ints (x : Int) (t : List Int) : dNotIn (.int x) (ti t) = some (.d (.bool (!decide (x ∈ t)))) := by
  show (some (t.map PyData.int)).bind _ = _
  rw [Option.bind_some, shp_int, shp_ti, memD_ints]
  rfl
theorem dAdd_int (i j : Int) : dAdd (.int i) (.int j) = some (.d (.int (i + j))) := rfl
theorem dSub_int (i j : Int) : dSub (.int i) (.int j) = some (.d (.int (i - j))) := rfl
theorem dAdd_tup (xs ys : List PyData) (h : xs.length + ys.length ≤ big) : dAdd (.tuple xs) (.tuple ys) = some (.d (.tuple (xs ++ ys))) := if_pos h
theorem dAdd_lst (xs ys : List PyData) (h : xs.length + ys.length ≤ big) : dAdd (.list xs) (.list ys) = some (.ol (xs ++ ys)) := if_pos h
theorem le_big {k : Nat} (h : k ≤ 1000000) : k ≤ big := Nat.le_trans h (by decide)
/-! sorted ints -/
theorem dataLe_int (a b : Int) : PySem.W.dataLe false (fun x => x) (.int a) (.int b) = decide (a ≤ b) := by
  simp [PySem.W.dataLe, PySem.W.sortLe, PySem.W.keyToks, PyProof.Rows.lexLt, PyProof.Rows.itemLt]
  by_cases h : a ≤ b
  · have : ¬ b < a := by omega
    simp [h, this]
  · have : b < a := by omega
    simp [h, this]
def srtI (t : List Int) : List Int := t.mergeSort fun a b => decide (a ≤ b)
theorem srt_ints (t : List Int) : srt (t.map .int) = (srtI t).map .int := by
  unfold srt srtI
  exact (List.map_mergeSort fun a _ b _ => (dataLe_int a b).symm).symm
theorem srtOk_ints (t : List Int) : srtOk (t.map .int) = true := by
  have h1 : ∀ a b : Int, PySem.W.alike (.int a) (.int b) = true := fun a b => by simp [PySem.W.alike]
  simp [srtOk, h1, PyData.depth]
theorem gSorted_ints (t : List Int) : gSorted [ti t] = some (.ol ((srtI t).map .int)) := by
  simp only [gSorted, ti, seqOf, Option.bind_some, srtOk_ints, srt_ints, if_true]
theorem srtI_perm (t : List Int) : (srtI t).Perm t := List.mergeSort_perm t _
theorem srtI_pw (t : List Int) : (srtI t).Pairwise (· ≤ ·) := by
  have h := List.pairwise_mergeSort (le := fun a b : Int => decide (a ≤ b)) (fun a b c h1 h2 => by simp at h1 h2 ⊢; omega) (fun a b => by simp; omega) t
  exact h.imp fun h => by simpa using h
theorem tOk.srt {t : List Int} (h : tOk t) : tOk (srtI t) ∧ (srtI t).Pairwise (· < ·) := by
  obtain ⟨h1, h2, h3, h4⟩ := h
  have p := srtI_perm t
  have nd : (srtI t).Nodup := p.nodup_iff.mpr h3
  refine ⟨⟨fun e => h1 ?_, by rw [p.length_eq]; exact h2, nd, fun x hx => h4 x (p.mem_iff.mp hx)⟩, ?_⟩
  · have := p.length_eq
    rw [e] at this
    exact List.length_eq_zero_iff.mp this.symm
  · exact (srtI_pw t).imp₂ (fun a b h1 h2 => by have : a ≠ b := h2; omega) nd
/-! draws of keys -/
/-- the value of a draw -/
def Ran (o : Option (W × Nat)) (n c : Nat) (P : W → Prop) : Prop := ∃ w n', o = some (w, n') ∧ n' ≤ n + c ∧ n ≤ n' ∧ P w
theorem pick_ok (ns : List Int) (n : Nat) (hn : n < big) (xs : List PyData) (hx : xs ≠ []) : ∃ x ∈ xs, m__law_pick [Sc ns, .town, .d (.list xs)] n = some (.d x, n + 1) := by
  have hl : 0 < xs.length := List.length_pos_iff.mpr hx
  obtain ⟨r, h0, h1, h2⟩ := draw_ok ns n hn xs.length (by omega)
  have hr : r.toNat < xs.length := by omega
  refine ⟨xs[r.toNat], List.getElem_mem _, ?_⟩
  unfold m__law_pick b__law_pick
  simp -implicitDefEqProofs only [eVar_ap, dVar_ap, eC_ap, dOf_ap, eFrz_ap, eBin_ap, bTest_ap, bTru_ap, bAnd_ap, bOr_ap, bNot_ap, eIf_ap, eB_ap, eAnd_ap, eOr_ap, aNil_ap, aCons_ap, sNil_ap, sCons_ap, eTup_ap, eLst_ap, eCall_ap, eApp_ap, oNone_ap, oSome_ap, eSl_ap, sNil'_ap, sSeq_ap, sBrk_ap, sRet_ap, sRetN_ap, sRetO_ap, sDrop_ap, sIf_ap, sSet_ap, sApp_ap, sTown_ap, sExt_ap, sIns_ap, sSetIx_ap, sAsg_ap, sPar_ap, iOf_ap, iVal_ap, iRng1_ap, iRng2_ap, sFor_ap, eComp_ap, bYes_ap, frzAt_ap, eUn_ap, eNotD_ap, eOrD_ap, eChain_ap, eListRg1_ap, eIsa_ap, eMt_ap, iEnumV_ap, iEnumF_ap, iZipV_ap, iZipF_ap, eTLen_ap, iRng3D_ap, sEnd_ap, eSs_ap, sPar3_ap, xPop_ap, xTup1_ap, xCat_ap, sSetX_ap, sAppX_ap, sParO_ap, sForEI_ap, sForK_ap, runB_ap, gOne_ap, gMany_ap, dI_ap, yesC_ap, dCmp_int, setD, kill_nx, kill_rt, kill_bk, Option.bind_some, Option.map_some, Option.bind_none, Option.map_none, List.getElem?_cons_zero, List.getElem?_cons_succ, List.set_cons_zero, List.set_cons_succ, List.cons_append, List.nil_append, List.append_nil, List.replicate, List.length_cons, List.length_nil, Nat.reduceAdd, Nat.reduceSub, Nat.zero_add, wdat_no, wdat_d, wdat_town, wdat_ol, wdat_od, wfrz_no, wfrz_d, wfrz_town, wfrz_ol, wfrz_od, wval_no, wval_d, wval_town, wval_ol, wval_od, warg_no, warg_d, warg_town, warg_ol, warg_od, vals, gLen, gAbs, gMax2, gMin2, gInt, gTup, gList, wipeW, if_true, if_false, Bool.false_eq_true, Bool.not_true, Bool.not_false, reduceCtorEq, h2, dIx, atI_ok h0 hr]
end L2.Lv.Sh
namespace L2.Lv.Sh
open PySem PySem.Spec PyProof.Rows L2 L2.Lv
theorem rLt_t {i j : Int} (h : i < j) : rLt i j = true := decide_eq_true h
theorem rLt_f {i j : Int} (h : ¬ i < j) : rLt i j = false := decide_eq_false h
theorem ixL (xs : List PyData) (i : Int) (h : 0 ≤ i) (h2 : i.toNat < xs.length) : dIx (.list xs) (.int i) = some (.d xs[i.toNat]) := by
  show (atI _ _).map W.d = _
  rw [atI_ok h h2]; rfl
theorem ixT (xs : List PyData) (i : Int) (h : 0 ≤ i) (h2 : i.toNat < xs.length) : dIx (.tuple xs) (.int i) = some (.d xs[i.toNat]) := by
  show (atI _ _).map W.d = _
  rw [atI_ok h h2]; rfl
/-- the first branch: nothing but the two draws -/
theorem plain_tab (ns : List Int) (k : Int) (a : Int) : ∀ (m : Nat) (is : List PyData) (hl : is.length = m) (n : Nat) (t : List Int) (w5 w6 : W), n + m ≤ big → t.length ≤ 6 → t.Nodup → (∀ x ∈ t, 0 ≤ x ∧ x < 6) → (t = [] → m ≠ 0) → (∀ i ∈ is, ∃ z : Int, i = .int z) →
    ∃ (t' : List Int) (w5' w6' : W), t' ≠ [] ∧ t'.length ≤ 6 ∧ t'.Nodup ∧ (∀ x ∈ t', 0 ≤ x ∧ x < 6) ∧
      loopF (gOne 5) (sSeq (sSet 6 (eCall m__law_draw (aCons (eVar 0) (aCons (eVar 1) (aCons (eC (.int 6)) aNil)))))
        (sIf (bTest (eBin dNotIn (dVar 6) (dVar 4)))
        (sSet 4 (eFrz (eBin dAdd (dVar 4) (dOf (eTup (aCons (eVar 6) aNil))))))
        sNil')) is [Sc ns, .town, I' k, I' a, .d (ti t), w5, w6, .no] n = some (.nx [Sc ns, .town, I' k, I' a, .d (ti t'), w5', w6', .no] (n + m)) := by
  intro m is hl
  induction is generalizing m with
  | nil =>
    intro n t w5 w6 _ h1 h2 h3 h4 _
    simp at hl
    subst hl
    exact ⟨t, w5, w6, fun e => h4 e rfl, h1, h2, h3, rfl⟩
  | cons i is ih =>
    intro n t w5 w6 hn h1 h2 h3 h4 hi
    obtain ⟨z, rfl⟩ := hi i (List.mem_cons_self ..)
    simp at hl
    obtain ⟨m, rfl⟩ : ∃ m', m = m' + 1 := ⟨is.length, hl.symm⟩
    obtain ⟨r, r0, r1, e1⟩ := draw_ok ns n (by omega) 6 (by decide)
    have hi' : ∀ i ∈ is, ∃ z : Int, i = .int z := fun i hi2 => hi i (List.mem_cons_of_mem _ hi2)
    by_cases hr : r ∈ t
    · obtain ⟨t', w5', w6', q1, q2, q3, q4, q5⟩ := ih m (by omega) (n + 1) t (I' z) (I' r) (by omega) h1 h2 h3 (fun e => by rw [e] at hr; simp at hr) hi'
      refine ⟨t', w5', w6', q1, q2, q3, q4, ?_⟩
      rw [loopF_cons]
      simp -implicitDefEqProofs only [eVar_ap, dVar_ap, eC_ap, dOf_ap, eFrz_ap, eBin_ap, bTest_ap, bTru_ap, bAnd_ap, bOr_ap, bNot_ap, eIf_ap, eB_ap, eAnd_ap, eOr_ap, aNil_ap, aCons_ap, sNil_ap, sCons_ap, eTup_ap, eLst_ap, eCall_ap, eApp_ap, oNone_ap, oSome_ap, eSl_ap, sNil'_ap, sSeq_ap, sBrk_ap, sRet_ap, sRetN_ap, sRetO_ap, sDrop_ap, sIf_ap, sSet_ap, sApp_ap, sTown_ap, sExt_ap, sIns_ap, sSetIx_ap, sAsg_ap, sPar_ap, iOf_ap, iVal_ap, iRng1_ap, iRng2_ap, sFor_ap, eComp_ap, bYes_ap, frzAt_ap, eUn_ap, eNotD_ap, eOrD_ap, eChain_ap, eListRg1_ap, eIsa_ap, eMt_ap, iEnumV_ap, iEnumF_ap, iZipV_ap, iZipF_ap, eTLen_ap, iRng3D_ap, sEnd_ap, eSs_ap, sPar3_ap, xPop_ap, xTup1_ap, xCat_ap, sSetX_ap, sAppX_ap, sParO_ap, sForEI_ap, sForK_ap, runB_ap, gOne_ap, gMany_ap, dI_ap, yesC_ap, dCmp_int, setD, kill_nx, kill_rt, kill_bk, Option.bind_some, Option.map_some, Option.bind_none, Option.map_none, List.getElem?_cons_zero, List.getElem?_cons_succ, List.set_cons_zero, List.set_cons_succ, List.cons_append, List.nil_append, List.append_nil, List.replicate, List.length_cons, List.length_nil, Nat.reduceAdd, Nat.reduceSub, Nat.zero_add, wdat_no, wdat_d, wdat_town, wdat_ol, wdat_od, wfrz_no, wfrz_d, wfrz_town, wfrz_ol, wfrz_od, wval_no, wval_d, wval_town, wval_ol, wval_od, warg_no, warg_d, warg_town, warg_ol, warg_od, vals, gLen, gAbs, gMax2, gMin2, gInt, gTup, gList, wipeW, if_true, if_false, Bool.false_eq_true, Bool.not_true, Bool.not_false, reduceCtorEq, e1, dNotIn_ints, hr, decide_true, q5]
      rw [show n + 1 + m = n + (m + 1) by omega]
    · have hc : t.length + 1 ≤ 6 := by
        have hnd : (r :: t).Nodup := List.nodup_cons.mpr ⟨hr, h2⟩
        have hs : ∀ x ∈ r :: t, x ∈ [0, 1, 2, 3, 4, (5 : Int)] := fun x hx => by
          rcases List.mem_cons.mp hx with rfl | hx
          · simp; omega
          · have := h3 x hx; simp; omega
        have := hnd.length_le_of_subset hs
        simpa using this
      obtain ⟨t', w5', w6', q1, q2, q3, q4, q5⟩ := ih m (by omega) (n + 1) (t ++ [r]) (I' z) (I' r) (by omega) (by simpa using hc) (by
        rw [List.nodup_append]
        refine ⟨h2, by simp, fun a ha b hb => ?_⟩
        simp at hb
        subst hb
        exact fun e => hr (by rw [← e]; exact ha)) (fun x hx => by
          rcases List.mem_append.mp hx with hx | hx
          · exact h3 x hx
          · simp at hx; subst hx; exact ⟨r0, r1⟩) (fun e => by simp at e) hi'
      refine ⟨t', w5', w6', q1, q2, q3, q4, ?_⟩
      rw [loopF_cons]
      have ea : dAdd (ti t) (.tuple [.int r]) = some (.d (ti (t ++ [r]))) := by
        rw [dAdd_tup _ _ (le_big (by simp; omega))]
        simp [ti]
      simp -implicitDefEqProofs only [eVar_ap, dVar_ap, eC_ap, dOf_ap, eFrz_ap, eBin_ap, bTest_ap, bTru_ap, bAnd_ap, bOr_ap, bNot_ap, eIf_ap, eB_ap, eAnd_ap, eOr_ap, aNil_ap, aCons_ap, sNil_ap, sCons_ap, eTup_ap, eLst_ap, eCall_ap, eApp_ap, oNone_ap, oSome_ap, eSl_ap, sNil'_ap, sSeq_ap, sBrk_ap, sRet_ap, sRetN_ap, sRetO_ap, sDrop_ap, sIf_ap, sSet_ap, sApp_ap, sTown_ap, sExt_ap, sIns_ap, sSetIx_ap, sAsg_ap, sPar_ap, iOf_ap, iVal_ap, iRng1_ap, iRng2_ap, sFor_ap, eComp_ap, bYes_ap, frzAt_ap, eUn_ap, eNotD_ap, eOrD_ap, eChain_ap, eListRg1_ap, eIsa_ap, eMt_ap, iEnumV_ap, iEnumF_ap, iZipV_ap, iZipF_ap, eTLen_ap, iRng3D_ap, sEnd_ap, eSs_ap, sPar3_ap, xPop_ap, xTup1_ap, xCat_ap, sSetX_ap, sAppX_ap, sParO_ap, sForEI_ap, sForK_ap, runB_ap, gOne_ap, gMany_ap, dI_ap, yesC_ap, dCmp_int, setD, kill_nx, kill_rt, kill_bk, Option.bind_some, Option.map_some, Option.bind_none, Option.map_none, List.getElem?_cons_zero, List.getElem?_cons_succ, List.set_cons_zero, List.set_cons_succ, List.cons_append, List.nil_append, List.append_nil, List.replicate, List.length_cons, List.length_nil, Nat.reduceAdd, Nat.reduceSub, Nat.zero_add, wdat_no, wdat_d, wdat_town, wdat_ol, wdat_od, wfrz_no, wfrz_d, wfrz_town, wfrz_ol, wfrz_od, wval_no, wval_d, wval_town, wval_ol, wval_od, warg_no, warg_d, warg_town, warg_ol, warg_od, vals, gLen, gAbs, gMax2, gMin2, gInt, gTup, gList, wipeW, if_true, if_false, Bool.false_eq_true, Bool.not_true, Bool.not_false, reduceCtorEq, e1, dNotIn_ints, hr, decide_false, ea, q5]
      rw [show n + 1 + m = n + (m + 1) by omega]
theorem rangeD_int (lo : Int) (n : Nat) : ∀ i ∈ rangeD lo n, ∃ z : Int, i = .int z := by
  intro i hi
  simp only [rangeD, List.mem_map] at hi
  obtain ⟨k, _, rfl⟩ := hi
  exact ⟨_, rfl⟩
theorem rangeD_len (lo : Int) (n : Nat) : (rangeD lo n).length = n := by simp [rangeD]
theorem rng1_ok {j : Int} (h : 0 ≤ j) (h2 : j < 1000000) : rng1 (.int j) = some (rangeD 0 j.toNat) := by
  show (if _ then _ else _) = _
  rw [if_pos (by omega)]
theorem plain_ok (ns : List Int) (n : Nat) (hn : n + 8 ≤ big) : Ran (m__law_plain [Sc ns, .town] n) n 8 fun w => ∃ p : PK, p.ok ∧ w = .d p.d := by
  obtain ⟨k, k0, k1, e1⟩ := draw_ok ns n (by omega) 9 (by decide)
  obtain ⟨a, a0, a1, e2⟩ := draw_ok ns (n + 1) (by omega) 3 (by decide)
  unfold m__law_plain b__law_plain l__law_plain_1
  by_cases c1 : k < 2
  · refine ⟨_, n + 2, ?_, by omega, by omega, .up a, ⟨a0, a1⟩, rfl⟩
    simp -implicitDefEqProofs only [eVar_ap, dVar_ap, eC_ap, dOf_ap, eFrz_ap, eBin_ap, bTest_ap, bTru_ap, bAnd_ap, bOr_ap, bNot_ap, eIf_ap, eB_ap, eAnd_ap, eOr_ap, aNil_ap, aCons_ap, sNil_ap, sCons_ap, eTup_ap, eLst_ap, eCall_ap, eApp_ap, oNone_ap, oSome_ap, eSl_ap, sNil'_ap, sSeq_ap, sBrk_ap, sRet_ap, sRetN_ap, sRetO_ap, sDrop_ap, sIf_ap, sSet_ap, sApp_ap, sTown_ap, sExt_ap, sIns_ap, sSetIx_ap, sAsg_ap, sPar_ap, iOf_ap, iVal_ap, iRng1_ap, iRng2_ap, sFor_ap, eComp_ap, bYes_ap, frzAt_ap, eUn_ap, eNotD_ap, eOrD_ap, eChain_ap, eListRg1_ap, eIsa_ap, eMt_ap, iEnumV_ap, iEnumF_ap, iZipV_ap, iZipF_ap, eTLen_ap, iRng3D_ap, sEnd_ap, eSs_ap, sPar3_ap, xPop_ap, xTup1_ap, xCat_ap, sSetX_ap, sAppX_ap, sParO_ap, sForEI_ap, sForK_ap, runB_ap, gOne_ap, gMany_ap, dI_ap, yesC_ap, dCmp_int, setD, kill_nx, kill_rt, kill_bk, Option.bind_some, Option.map_some, Option.bind_none, Option.map_none, List.getElem?_cons_zero, List.getElem?_cons_succ, List.set_cons_zero, List.set_cons_succ, List.cons_append, List.nil_append, List.append_nil, List.replicate, List.length_cons, List.length_nil, Nat.reduceAdd, Nat.reduceSub, Nat.zero_add, wdat_no, wdat_d, wdat_town, wdat_ol, wdat_od, wfrz_no, wfrz_d, wfrz_town, wfrz_ol, wfrz_od, wval_no, wval_d, wval_town, wval_ol, wval_od, warg_no, warg_d, warg_town, warg_ol, warg_od, vals, gLen, gAbs, gMax2, gMin2, gInt, gTup, gList, wipeW, if_true, if_false, Bool.false_eq_true, Bool.not_true, Bool.not_false, reduceCtorEq, e1, e2, dCmp_int, rLt_t c1]
    rfl
  by_cases c2 : k < 4
  · obtain ⟨d, d0, d1, e3⟩ := draw_ok ns (n + 2) (by omega) 2 (by decide)
    have hx : dIx (.list [.str sPart, .str sRest]) (.int (k - 2)) = some (.d (if k = 2 then .str sPart else .str sRest)) := by
      have : k = 2 ∨ k = 3 := by omega
      rcases this with rfl | rfl <;> rfl
    have hd : 2 + d = 2 ∨ 2 + d = 3 := by omega
    refine ⟨_, n + 3, ?_, by omega, by omega, if k = 2 then .part a (2 + d) else .rest a (2 + d), ?_, rfl⟩
    · simp -implicitDefEqProofs only [eVar_ap, dVar_ap, eC_ap, dOf_ap, eFrz_ap, eBin_ap, bTest_ap, bTru_ap, bAnd_ap, bOr_ap, bNot_ap, eIf_ap, eB_ap, eAnd_ap, eOr_ap, aNil_ap, aCons_ap, sNil_ap, sCons_ap, eTup_ap, eLst_ap, eCall_ap, eApp_ap, oNone_ap, oSome_ap, eSl_ap, sNil'_ap, sSeq_ap, sBrk_ap, sRet_ap, sRetN_ap, sRetO_ap, sDrop_ap, sIf_ap, sSet_ap, sApp_ap, sTown_ap, sExt_ap, sIns_ap, sSetIx_ap, sAsg_ap, sPar_ap, iOf_ap, iVal_ap, iRng1_ap, iRng2_ap, sFor_ap, eComp_ap, bYes_ap, frzAt_ap, eUn_ap, eNotD_ap, eOrD_ap, eChain_ap, eListRg1_ap, eIsa_ap, eMt_ap, iEnumV_ap, iEnumF_ap, iZipV_ap, iZipF_ap, eTLen_ap, iRng3D_ap, sEnd_ap, eSs_ap, sPar3_ap, xPop_ap, xTup1_ap, xCat_ap, sSetX_ap, sAppX_ap, sParO_ap, sForEI_ap, sForK_ap, runB_ap, gOne_ap, gMany_ap, dI_ap, yesC_ap, dCmp_int, setD, kill_nx, kill_rt, kill_bk, Option.bind_some, Option.map_some, Option.bind_none, Option.map_none, List.getElem?_cons_zero, List.getElem?_cons_succ, List.set_cons_zero, List.set_cons_succ, List.cons_append, List.nil_append, List.append_nil, List.replicate, List.length_cons, List.length_nil, Nat.reduceAdd, Nat.reduceSub, Nat.zero_add, wdat_no, wdat_d, wdat_town, wdat_ol, wdat_od, wfrz_no, wfrz_d, wfrz_town, wfrz_ol, wfrz_od, wval_no, wval_d, wval_town, wval_ol, wval_od, warg_no, warg_d, warg_town, warg_ol, warg_od, vals, gLen, gAbs, gMax2, gMin2, gInt, gTup, gList, wipeW, if_true, if_false, Bool.false_eq_true, Bool.not_true, Bool.not_false, reduceCtorEq, e1, e2, dCmp_int, rLt_f c1, rLt_t c2, dSub_int, dAdd_int, hx, e3]
      split <;> rfl
    · split
      · exact ⟨⟨a0, a1⟩, hd⟩
      · exact ⟨⟨a0, a1⟩, hd⟩
  by_cases c3 : k < 6
  · obtain ⟨m, m0, m1, e3⟩ := draw_ok ns (n + 2) (by omega) 4 (by decide)
    obtain ⟨t, w5, w6, q1, q2, q3, q4, q5⟩ := plain_tab ns k a (1 + m).toNat (rangeD 0 (1 + m).toNat) (rangeD_len _ _) (n + 3) [] .no .no (by omega) (by simp) (by simp) (by simp) (fun _ => by omega) (rangeD_int _ _)
    have hr := rng1_ok (j := 1 + m) (by omega) (by omega)
    have tk : tOk t := ⟨q1, q2, q3, q4⟩
    have q5 := q5
    rw [show (ti ([] : List Int)) = .tuple [] from rfl] at q5
    refine ⟨_, n + 3 + (1 + m).toNat, ?_, by omega, by omega, if k = 4 then .table a t else .among a (srtI t), ?_, rfl⟩
    · simp -implicitDefEqProofs only [eVar_ap, dVar_ap, eC_ap, dOf_ap, eFrz_ap, eBin_ap, bTest_ap, bTru_ap, bAnd_ap, bOr_ap, bNot_ap, eIf_ap, eB_ap, eAnd_ap, eOr_ap, aNil_ap, aCons_ap, sNil_ap, sCons_ap, eTup_ap, eLst_ap, eCall_ap, eApp_ap, oNone_ap, oSome_ap, eSl_ap, sNil'_ap, sSeq_ap, sBrk_ap, sRet_ap, sRetN_ap, sRetO_ap, sDrop_ap, sIf_ap, sSet_ap, sApp_ap, sTown_ap, sExt_ap, sIns_ap, sSetIx_ap, sAsg_ap, sPar_ap, iOf_ap, iVal_ap, iRng1_ap, iRng2_ap, sFor_ap, eComp_ap, bYes_ap, frzAt_ap, eUn_ap, eNotD_ap, eOrD_ap, eChain_ap, eListRg1_ap, eIsa_ap, eMt_ap, iEnumV_ap, iEnumF_ap, iZipV_ap, iZipF_ap, eTLen_ap, iRng3D_ap, sEnd_ap, eSs_ap, sPar3_ap, xPop_ap, xTup1_ap, xCat_ap, sSetX_ap, sAppX_ap, sParO_ap, sForEI_ap, sForK_ap, runB_ap, gOne_ap, gMany_ap, dI_ap, yesC_ap, dCmp_int, setD, kill_nx, kill_rt, kill_bk, Option.bind_some, Option.map_some, Option.bind_none, Option.map_none, List.getElem?_cons_zero, List.getElem?_cons_succ, List.set_cons_zero, List.set_cons_succ, List.cons_append, List.nil_append, List.append_nil, List.replicate, List.length_cons, List.length_nil, Nat.reduceAdd, Nat.reduceSub, Nat.zero_add, wdat_no, wdat_d, wdat_town, wdat_ol, wdat_od, wfrz_no, wfrz_d, wfrz_town, wfrz_ol, wfrz_od, wval_no, wval_d, wval_town, wval_ol, wval_od, warg_no, warg_d, warg_town, warg_ol, warg_od, vals, gLen, gAbs, gMax2, gMin2, gInt, gTup, gList, wipeW, if_true, if_false, Bool.false_eq_true, Bool.not_true, Bool.not_false, reduceCtorEq, e1, e2, dCmp_int, rLt_f c1, rLt_f c2, rLt_t c3, dAdd_int, e3, hr, q5, dEq_int]
      by_cases h4 : k = 4
      · subst h4
        simp -implicitDefEqProofs only [eVar_ap, dVar_ap, eC_ap, dOf_ap, eFrz_ap, eBin_ap, bTest_ap, bTru_ap, bAnd_ap, bOr_ap, bNot_ap, eIf_ap, eB_ap, eAnd_ap, eOr_ap, aNil_ap, aCons_ap, sNil_ap, sCons_ap, eTup_ap, eLst_ap, eCall_ap, eApp_ap, oNone_ap, oSome_ap, eSl_ap, sNil'_ap, sSeq_ap, sBrk_ap, sRet_ap, sRetN_ap, sRetO_ap, sDrop_ap, sIf_ap, sSet_ap, sApp_ap, sTown_ap, sExt_ap, sIns_ap, sSetIx_ap, sAsg_ap, sPar_ap, iOf_ap, iVal_ap, iRng1_ap, iRng2_ap, sFor_ap, eComp_ap, bYes_ap, frzAt_ap, eUn_ap, eNotD_ap, eOrD_ap, eChain_ap, eListRg1_ap, eIsa_ap, eMt_ap, iEnumV_ap, iEnumF_ap, iZipV_ap, iZipF_ap, eTLen_ap, iRng3D_ap, sEnd_ap, eSs_ap, sPar3_ap, xPop_ap, xTup1_ap, xCat_ap, sSetX_ap, sAppX_ap, sParO_ap, sForEI_ap, sForK_ap, runB_ap, gOne_ap, gMany_ap, dI_ap, yesC_ap, dCmp_int, setD, kill_nx, kill_rt, kill_bk, Option.bind_some, Option.map_some, Option.bind_none, Option.map_none, List.getElem?_cons_zero, List.getElem?_cons_succ, List.set_cons_zero, List.set_cons_succ, List.cons_append, List.nil_append, List.append_nil, List.replicate, List.length_cons, List.length_nil, Nat.reduceAdd, Nat.reduceSub, Nat.zero_add, wdat_no, wdat_d, wdat_town, wdat_ol, wdat_od, wfrz_no, wfrz_d, wfrz_town, wfrz_ol, wfrz_od, wval_no, wval_d, wval_town, wval_ol, wval_od, warg_no, warg_d, warg_town, warg_ol, warg_od, vals, gLen, gAbs, gMax2, gMin2, gInt, gTup, gList, wipeW, if_true, if_false, Bool.false_eq_true, Bool.not_true, Bool.not_false, reduceCtorEq, beq_self_eq_true]
        rfl
      · have : (k == 4) = false := by simpa using h4
        simp -implicitDefEqProofs only [eVar_ap, dVar_ap, eC_ap, dOf_ap, eFrz_ap, eBin_ap, bTest_ap, bTru_ap, bAnd_ap, bOr_ap, bNot_ap, eIf_ap, eB_ap, eAnd_ap, eOr_ap, aNil_ap, aCons_ap, sNil_ap, sCons_ap, eTup_ap, eLst_ap, eCall_ap, eApp_ap, oNone_ap, oSome_ap, eSl_ap, sNil'_ap, sSeq_ap, sBrk_ap, sRet_ap, sRetN_ap, sRetO_ap, sDrop_ap, sIf_ap, sSet_ap, sApp_ap, sTown_ap, sExt_ap, sIns_ap, sSetIx_ap, sAsg_ap, sPar_ap, iOf_ap, iVal_ap, iRng1_ap, iRng2_ap, sFor_ap, eComp_ap, bYes_ap, frzAt_ap, eUn_ap, eNotD_ap, eOrD_ap, eChain_ap, eListRg1_ap, eIsa_ap, eMt_ap, iEnumV_ap, iEnumF_ap, iZipV_ap, iZipF_ap, eTLen_ap, iRng3D_ap, sEnd_ap, eSs_ap, sPar3_ap, xPop_ap, xTup1_ap, xCat_ap, sSetX_ap, sAppX_ap, sParO_ap, sForEI_ap, sForK_ap, runB_ap, gOne_ap, gMany_ap, dI_ap, yesC_ap, dCmp_int, setD, kill_nx, kill_rt, kill_bk, Option.bind_some, Option.map_some, Option.bind_none, Option.map_none, List.getElem?_cons_zero, List.getElem?_cons_succ, List.set_cons_zero, List.set_cons_succ, List.cons_append, List.nil_append, List.append_nil, List.replicate, List.length_cons, List.length_nil, Nat.reduceAdd, Nat.reduceSub, Nat.zero_add, wdat_no, wdat_d, wdat_town, wdat_ol, wdat_od, wfrz_no, wfrz_d, wfrz_town, wfrz_ol, wfrz_od, wval_no, wval_d, wval_town, wval_ol, wval_od, warg_no, warg_d, warg_town, warg_ol, warg_od, vals, gLen, gAbs, gMax2, gMin2, gInt, gTup, gList, wipeW, if_true, if_false, Bool.false_eq_true, Bool.not_true, Bool.not_false, reduceCtorEq, this, h4, gSorted_ints]
        rfl
    · split
      · exact ⟨⟨a0, a1⟩, tk⟩
      · exact ⟨⟨a0, a1⟩, tk.srt.1, tk.srt.2⟩
  · obtain ⟨x, hx, e3⟩ := pick_ok ns (n + 2) (by omega) [.tuple [.int 0, .int 1], .tuple [.int 0, .int 2], .tuple [.int 1, .int 2]] (by simp)
    have hx' : ∃ i j : Int, prOk i j ∧ x = .tuple [.int i, .int j] := by
      simp at hx
      rcases hx with rfl | rfl | rfl
      · exact ⟨_, _, .inl ⟨rfl, rfl⟩, rfl⟩
      · exact ⟨_, _, .inr (.inl ⟨rfl, rfl⟩), rfl⟩
      · exact ⟨_, _, .inr (.inr ⟨rfl, rfl⟩), rfl⟩
    obtain ⟨i, j, pr, rfl⟩ := hx'
    have hk : k = 6 ∨ k = 7 ∨ k = 8 := by omega
    have hx : dIx (.list [.str sSum, .str sGap, .str sMost]) (.int (k - 6)) = some (.d (.str (if k = 6 then sSum else if k = 7 then sGap else sMost))) := by
      rcases hk with rfl | rfl | rfl <;> rfl
    refine ⟨_, n + 3, ?_, by omega, by omega, if k = 6 then .sum i j else if k = 7 then .gap i j else .most i j, ?_, rfl⟩
    · have ea : ∀ s : Str, dAdd (.tuple [.str s]) (.tuple [.int i, .int j]) = some (.d (.tuple [.str s, .int i, .int j])) := fun s => rfl
      simp -implicitDefEqProofs only [eVar_ap, dVar_ap, eC_ap, dOf_ap, eFrz_ap, eBin_ap, bTest_ap, bTru_ap, bAnd_ap, bOr_ap, bNot_ap, eIf_ap, eB_ap, eAnd_ap, eOr_ap, aNil_ap, aCons_ap, sNil_ap, sCons_ap, eTup_ap, eLst_ap, eCall_ap, eApp_ap, oNone_ap, oSome_ap, eSl_ap, sNil'_ap, sSeq_ap, sBrk_ap, sRet_ap, sRetN_ap, sRetO_ap, sDrop_ap, sIf_ap, sSet_ap, sApp_ap, sTown_ap, sExt_ap, sIns_ap, sSetIx_ap, sAsg_ap, sPar_ap, iOf_ap, iVal_ap, iRng1_ap, iRng2_ap, sFor_ap, eComp_ap, bYes_ap, frzAt_ap, eUn_ap, eNotD_ap, eOrD_ap, eChain_ap, eListRg1_ap, eIsa_ap, eMt_ap, iEnumV_ap, iEnumF_ap, iZipV_ap, iZipF_ap, eTLen_ap, iRng3D_ap, sEnd_ap, eSs_ap, sPar3_ap, xPop_ap, xTup1_ap, xCat_ap, sSetX_ap, sAppX_ap, sParO_ap, sForEI_ap, sForK_ap, runB_ap, gOne_ap, gMany_ap, dI_ap, yesC_ap, dCmp_int, setD, kill_nx, kill_rt, kill_bk, Option.bind_some, Option.map_some, Option.bind_none, Option.map_none, List.getElem?_cons_zero, List.getElem?_cons_succ, List.set_cons_zero, List.set_cons_succ, List.cons_append, List.nil_append, List.append_nil, List.replicate, List.length_cons, List.length_nil, Nat.reduceAdd, Nat.reduceSub, Nat.zero_add, wdat_no, wdat_d, wdat_town, wdat_ol, wdat_od, wfrz_no, wfrz_d, wfrz_town, wfrz_ol, wfrz_od, wval_no, wval_d, wval_town, wval_ol, wval_od, warg_no, warg_d, warg_town, warg_ol, warg_od, vals, gLen, gAbs, gMax2, gMin2, gInt, gTup, gList, wipeW, if_true, if_false, Bool.false_eq_true, Bool.not_true, Bool.not_false, reduceCtorEq, e1, e2, dCmp_int, rLt_f c1, rLt_f c2, rLt_f c3, dSub_int, e3, hx, ea]
      rcases hk with rfl | rfl | rfl <;> rfl
    · rcases hk with rfl | rfl | rfl <;> exact pr
end L2.Lv.Sh
namespace L2.Lv.Sh
open PySem PySem.Spec PyProof.Rows L2 L2.Lv
theorem shp_Up : shp (.str sUp) = true := by decide +kernel
theorem shp_Down : shp (.str sDown) = true := by decide +kernel
theorem shp_Part : shp (.str sPart) = true := by decide +kernel
theorem shp_Rest : shp (.str sRest) = true := by decide +kernel
theorem shp_Table : shp (.str sTable) = true := by decide +kernel
theorem shp_Among : shp (.str sAmong) = true := by decide +kernel
theorem shp_Sum : shp (.str sSum) = true := by decide +kernel
theorem shp_Gap : shp (.str sGap) = true := by decide +kernel
theorem shp_Most : shp (.str sMost) = true := by decide +kernel
theorem q_Up_Up : dEq (.str sUp) (.str sUp) = some (.d (.bool true)) := by rw [dEq_str shp_Up shp_Up]; rfl
theorem q_Up_Down : dEq (.str sUp) (.str sDown) = some (.d (.bool false)) := by rw [dEq_str shp_Up shp_Down]; rfl
theorem q_Up_Part : dEq (.str sUp) (.str sPart) = some (.d (.bool false)) := by rw [dEq_str shp_Up shp_Part]; rfl
theorem q_Up_Rest : dEq (.str sUp) (.str sRest) = some (.d (.bool false)) := by rw [dEq_str shp_Up shp_Rest]; rfl
theorem q_Up_Table : dEq (.str sUp) (.str sTable) = some (.d (.bool false)) := by rw [dEq_str shp_Up shp_Table]; rfl
theorem q_Up_Among : dEq (.str sUp) (.str sAmong) = some (.d (.bool false)) := by rw [dEq_str shp_Up shp_Among]; rfl
theorem q_Up_Sum : dEq (.str sUp) (.str sSum) = some (.d (.bool false)) := by rw [dEq_str shp_Up shp_Sum]; rfl
theorem q_Up_Gap : dEq (.str sUp) (.str sGap) = some (.d (.bool false)) := by rw [dEq_str shp_Up shp_Gap]; rfl
theorem q_Down_Up : dEq (.str sDown) (.str sUp) = some (.d (.bool false)) := by rw [dEq_str shp_Down shp_Up]; rfl
theorem q_Down_Down : dEq (.str sDown) (.str sDown) = some (.d (.bool true)) := by rw [dEq_str shp_Down shp_Down]; rfl
theorem q_Down_Part : dEq (.str sDown) (.str sPart) = some (.d (.bool false)) := by rw [dEq_str shp_Down shp_Part]; rfl
theorem q_Down_Rest : dEq (.str sDown) (.str sRest) = some (.d (.bool false)) := by rw [dEq_str shp_Down shp_Rest]; rfl
theorem q_Down_Table : dEq (.str sDown) (.str sTable) = some (.d (.bool false)) := by rw [dEq_str shp_Down shp_Table]; rfl
theorem q_Down_Among : dEq (.str sDown) (.str sAmong) = some (.d (.bool false)) := by rw [dEq_str shp_Down shp_Among]; rfl
theorem q_Down_Sum : dEq (.str sDown) (.str sSum) = some (.d (.bool false)) := by rw [dEq_str shp_Down shp_Sum]; rfl
theorem q_Down_Gap : dEq (.str sDown) (.str sGap) = some (.d (.bool false)) := by rw [dEq_str shp_Down shp_Gap]; rfl
theorem q_Part_Up : dEq (.str sPart) (.str sUp) = some (.d (.bool false)) := by rw [dEq_str shp_Part shp_Up]; rfl
theorem q_Part_Down : dEq (.str sPart) (.str sDown) = some (.d (.bool false)) := by rw [dEq_str shp_Part shp_Down]; rfl
theorem q_Part_Part : dEq (.str sPart) (.str sPart) = some (.d (.bool true)) := by rw [dEq_str shp_Part shp_Part]; rfl
theorem q_Part_Rest : dEq (.str sPart) (.str sRest) = some (.d (.bool false)) := by rw [dEq_str shp_Part shp_Rest]; rfl
theorem q_Part_Table : dEq (.str sPart) (.str sTable) = some (.d (.bool false)) := by rw [dEq_str shp_Part shp_Table]; rfl
theorem q_Part_Among : dEq (.str sPart) (.str sAmong) = some (.d (.bool false)) := by rw [dEq_str shp_Part shp_Among]; rfl
theorem q_Part_Sum : dEq (.str sPart) (.str sSum) = some (.d (.bool false)) := by rw [dEq_str shp_Part shp_Sum]; rfl
theorem q_Part_Gap : dEq (.str sPart) (.str sGap) = some (.d (.bool false)) := by rw [dEq_str shp_Part shp_Gap]; rfl
theorem q_Rest_Up : dEq (.str sRest) (.str sUp) = some (.d (.bool false)) := by rw [dEq_str shp_Rest shp_Up]; rfl
theorem q_Rest_Down : dEq (.str sRest) (.str sDown) = some (.d (.bool false)) := by rw [dEq_str shp_Rest shp_Down]; rfl
theorem q_Rest_Part : dEq (.str sRest) (.str sPart) = some (.d (.bool false)) := by rw [dEq_str shp_Rest shp_Part]; rfl
theorem q_Rest_Rest : dEq (.str sRest) (.str sRest) = some (.d (.bool true)) := by rw [dEq_str shp_Rest shp_Rest]; rfl
theorem q_Rest_Table : dEq (.str sRest) (.str sTable) = some (.d (.bool false)) := by rw [dEq_str shp_Rest shp_Table]; rfl
theorem q_Rest_Among : dEq (.str sRest) (.str sAmong) = some (.d (.bool false)) := by rw [dEq_str shp_Rest shp_Among]; rfl
theorem q_Rest_Sum : dEq (.str sRest) (.str sSum) = some (.d (.bool false)) := by rw [dEq_str shp_Rest shp_Sum]; rfl
theorem q_Rest_Gap : dEq (.str sRest) (.str sGap) = some (.d (.bool false)) := by rw [dEq_str shp_Rest shp_Gap]; rfl
theorem q_Table_Up : dEq (.str sTable) (.str sUp) = some (.d (.bool false)) := by rw [dEq_str shp_Table shp_Up]; rfl
theorem q_Table_Down : dEq (.str sTable) (.str sDown) = some (.d (.bool false)) := by rw [dEq_str shp_Table shp_Down]; rfl
theorem q_Table_Part : dEq (.str sTable) (.str sPart) = some (.d (.bool false)) := by rw [dEq_str shp_Table shp_Part]; rfl
theorem q_Table_Rest : dEq (.str sTable) (.str sRest) = some (.d (.bool false)) := by rw [dEq_str shp_Table shp_Rest]; rfl
theorem q_Table_Table : dEq (.str sTable) (.str sTable) = some (.d (.bool true)) := by rw [dEq_str shp_Table shp_Table]; rfl
theorem q_Table_Among : dEq (.str sTable) (.str sAmong) = some (.d (.bool false)) := by rw [dEq_str shp_Table shp_Among]; rfl
theorem q_Table_Sum : dEq (.str sTable) (.str sSum) = some (.d (.bool false)) := by rw [dEq_str shp_Table shp_Sum]; rfl
theorem q_Table_Gap : dEq (.str sTable) (.str sGap) = some (.d (.bool false)) := by rw [dEq_str shp_Table shp_Gap]; rfl
theorem q_Among_Up : dEq (.str sAmong) (.str sUp) = some (.d (.bool false)) := by rw [dEq_str shp_Among shp_Up]; rfl
theorem q_Among_Down : dEq (.str sAmong) (.str sDown) = some (.d (.bool false)) := by rw [dEq_str shp_Among shp_Down]; rfl
theorem q_Among_Part : dEq (.str sAmong) (.str sPart) = some (.d (.bool false)) := by rw [dEq_str shp_Among shp_Part]; rfl
theorem q_Among_Rest : dEq (.str sAmong) (.str sRest) = some (.d (.bool false)) := by rw [dEq_str shp_Among shp_Rest]; rfl
theorem q_Among_Table : dEq (.str sAmong) (.str sTable) = some (.d (.bool false)) := by rw [dEq_str shp_Among shp_Table]; rfl
theorem q_Among_Among : dEq (.str sAmong) (.str sAmong) = some (.d (.bool true)) := by rw [dEq_str shp_Among shp_Among]; rfl
theorem q_Among_Sum : dEq (.str sAmong) (.str sSum) = some (.d (.bool false)) := by rw [dEq_str shp_Among shp_Sum]; rfl
theorem q_Among_Gap : dEq (.str sAmong) (.str sGap) = some (.d (.bool false)) := by rw [dEq_str shp_Among shp_Gap]; rfl
theorem q_Sum_Up : dEq (.str sSum) (.str sUp) = some (.d (.bool false)) := by rw [dEq_str shp_Sum shp_Up]; rfl
theorem q_Sum_Down : dEq (.str sSum) (.str sDown) = some (.d (.bool false)) := by rw [dEq_str shp_Sum shp_Down]; rfl
theorem q_Sum_Part : dEq (.str sSum) (.str sPart) = some (.d (.bool false)) := by rw [dEq_str shp_Sum shp_Part]; rfl
theorem q_Sum_Rest : dEq (.str sSum) (.str sRest) = some (.d (.bool false)) := by rw [dEq_str shp_Sum shp_Rest]; rfl
theorem q_Sum_Table : dEq (.str sSum) (.str sTable) = some (.d (.bool false)) := by rw [dEq_str shp_Sum shp_Table]; rfl
theorem q_Sum_Among : dEq (.str sSum) (.str sAmong) = some (.d (.bool false)) := by rw [dEq_str shp_Sum shp_Among]; rfl
theorem q_Sum_Sum : dEq (.str sSum) (.str sSum) = some (.d (.bool true)) := by rw [dEq_str shp_Sum shp_Sum]; rfl
theorem q_Sum_Gap : dEq (.str sSum) (.str sGap) = some (.d (.bool false)) := by rw [dEq_str shp_Sum shp_Gap]; rfl
theorem q_Gap_Up : dEq (.str sGap) (.str sUp) = some (.d (.bool false)) := by rw [dEq_str shp_Gap shp_Up]; rfl
theorem q_Gap_Down : dEq (.str sGap) (.str sDown) = some (.d (.bool false)) := by rw [dEq_str shp_Gap shp_Down]; rfl
theorem q_Gap_Part : dEq (.str sGap) (.str sPart) = some (.d (.bool false)) := by rw [dEq_str shp_Gap shp_Part]; rfl
theorem q_Gap_Rest : dEq (.str sGap) (.str sRest) = some (.d (.bool false)) := by rw [dEq_str shp_Gap shp_Rest]; rfl
theorem q_Gap_Table : dEq (.str sGap) (.str sTable) = some (.d (.bool false)) := by rw [dEq_str shp_Gap shp_Table]; rfl
theorem q_Gap_Among : dEq (.str sGap) (.str sAmong) = some (.d (.bool false)) := by rw [dEq_str shp_Gap shp_Among]; rfl
theorem q_Gap_Sum : dEq (.str sGap) (.str sSum) = some (.d (.bool false)) := by rw [dEq_str shp_Gap shp_Sum]; rfl
theorem q_Gap_Gap : dEq (.str sGap) (.str sGap) = some (.d (.bool true)) := by rw [dEq_str shp_Gap shp_Gap]; rfl
theorem q_Most_Up : dEq (.str sMost) (.str sUp) = some (.d (.bool false)) := by rw [dEq_str shp_Most shp_Up]; rfl
theorem q_Most_Down : dEq (.str sMost) (.str sDown) = some (.d (.bool false)) := by rw [dEq_str shp_Most shp_Down]; rfl
theorem q_Most_Part : dEq (.str sMost) (.str sPart) = some (.d (.bool false)) := by rw [dEq_str shp_Most shp_Part]; rfl
theorem q_Most_Rest : dEq (.str sMost) (.str sRest) = some (.d (.bool false)) := by rw [dEq_str shp_Most shp_Rest]; rfl
theorem q_Most_Table : dEq (.str sMost) (.str sTable) = some (.d (.bool false)) := by rw [dEq_str shp_Most shp_Table]; rfl
theorem q_Most_Among : dEq (.str sMost) (.str sAmong) = some (.d (.bool false)) := by rw [dEq_str shp_Most shp_Among]; rfl
theorem q_Most_Sum : dEq (.str sMost) (.str sSum) = some (.d (.bool false)) := by rw [dEq_str shp_Most shp_Sum]; rfl
theorem q_Most_Gap : dEq (.str sMost) (.str sGap) = some (.d (.bool false)) := by rw [dEq_str shp_Most shp_Gap]; rfl

/-! comprehensions -/
theorem comp_ran {i : Nat} {own : List Nat} {elt : Fe} {ρ : List W} {c : Nat} {P : PyData → Prop} : ∀ (xs : List PyData) (n : Nat), n + c * xs.length ≤ big →
    (∀ x ∈ xs, ∀ m, m + c ≤ big → ∃ y m', elt ((wipeW ρ own).set i (.d x)) m = some (.d y, m') ∧ m ≤ m' ∧ m' ≤ m + c ∧ P y) →
    ∃ ys m, loopC (gOne i) own bYes elt ρ xs n = some (ys, m) ∧ ys.length = xs.length ∧ (∀ y ∈ ys, P y) ∧ n ≤ m ∧ m ≤ n + c * xs.length
  | [], n, _, _ => ⟨[], n, rfl, rfl, by simp, Nat.le_refl _, Nat.le_add_right _ _⟩
  | x :: xs, n, hn, h => by
    rw [List.length_cons, Nat.mul_succ] at hn
    obtain ⟨y, m, e1, l1, l2, hp⟩ := h x (List.mem_cons_self ..) n (by omega)
    obtain ⟨ys, m', e2, l3, hq, l4, l5⟩ := comp_ran xs m (by omega) fun z hz => h z (List.mem_cons_of_mem _ hz)
    refine ⟨y :: ys, m', ?_, by simp [l3], fun z hz => ?_, by omega, ?_⟩
    · rw [loopC_cons]
      simp -implicitDefEqProofs only [eVar_ap, dVar_ap, eC_ap, dOf_ap, eFrz_ap, eBin_ap, bTest_ap, bTru_ap, bAnd_ap, bOr_ap, bNot_ap, eIf_ap, eB_ap, eAnd_ap, eOr_ap, aNil_ap, aCons_ap, sNil_ap, sCons_ap, eTup_ap, eLst_ap, eCall_ap, eApp_ap, oNone_ap, oSome_ap, eSl_ap, sNil'_ap, sSeq_ap, sBrk_ap, sRet_ap, sRetN_ap, sRetO_ap, sDrop_ap, sIf_ap, sSet_ap, sApp_ap, sTown_ap, sExt_ap, sIns_ap, sSetIx_ap, sAsg_ap, sPar_ap, iOf_ap, iVal_ap, iRng1_ap, iRng2_ap, sFor_ap, eComp_ap, bYes_ap, frzAt_ap, eUn_ap, eNotD_ap, eOrD_ap, eChain_ap, eListRg1_ap, eIsa_ap, eMt_ap, iEnumV_ap, iEnumF_ap, iZipV_ap, iZipF_ap, eTLen_ap, iRng3D_ap, sEnd_ap, eSs_ap, sPar3_ap, xPop_ap, xTup1_ap, xCat_ap, sSetX_ap, sAppX_ap, sParO_ap, sForEI_ap, sForK_ap, runB_ap, gOne_ap, gMany_ap, dI_ap, yesC_ap, dCmp_int, setD, kill_nx, kill_rt, kill_bk, Option.bind_some, Option.map_some, Option.bind_none, Option.map_none, List.getElem?_cons_zero, List.getElem?_cons_succ, List.set_cons_zero, List.set_cons_succ, List.cons_append, List.nil_append, List.append_nil, List.replicate, List.length_cons, List.length_nil, Nat.reduceAdd, Nat.reduceSub, Nat.zero_add, wdat_no, wdat_d, wdat_town, wdat_ol, wdat_od, wfrz_no, wfrz_d, wfrz_town, wfrz_ol, wfrz_od, wval_no, wval_d, wval_town, wval_ol, wval_od, warg_no, warg_d, warg_town, warg_ol, warg_od, vals, gLen, gAbs, gMax2, gMin2, gInt, gTup, gList, wipeW, if_true, if_false, Bool.false_eq_true, Bool.not_true, Bool.not_false, reduceCtorEq, e1, e2]
    · rcases List.mem_cons.mp hz with rfl | hz
      · exact hp
      · exact hq z hz
    · rw [List.length_cons, Nat.mul_succ]; omega
theorem comp_map {i : Nat} {own : List Nat} {elt : Fe} {ρ : List W} {n : Nat} {f : PyData → PyData} : ∀ (xs : List PyData), (∀ x ∈ xs, elt ((wipeW ρ own).set i (.d x)) n = some (.d (f x), n)) →
    loopC (gOne i) own bYes elt ρ xs n = some (xs.map f, n)
  | [], _ => rfl
  | x :: xs, h => by
    rw [loopC_cons]
    simp -implicitDefEqProofs only [eVar_ap, dVar_ap, eC_ap, dOf_ap, eFrz_ap, eBin_ap, bTest_ap, bTru_ap, bAnd_ap, bOr_ap, bNot_ap, eIf_ap, eB_ap, eAnd_ap, eOr_ap, aNil_ap, aCons_ap, sNil_ap, sCons_ap, eTup_ap, eLst_ap, eCall_ap, eApp_ap, oNone_ap, oSome_ap, eSl_ap, sNil'_ap, sSeq_ap, sBrk_ap, sRet_ap, sRetN_ap, sRetO_ap, sDrop_ap, sIf_ap, sSet_ap, sApp_ap, sTown_ap, sExt_ap, sIns_ap, sSetIx_ap, sAsg_ap, sPar_ap, iOf_ap, iVal_ap, iRng1_ap, iRng2_ap, sFor_ap, eComp_ap, bYes_ap, frzAt_ap, eUn_ap, eNotD_ap, eOrD_ap, eChain_ap, eListRg1_ap, eIsa_ap, eMt_ap, iEnumV_ap, iEnumF_ap, iZipV_ap, iZipF_ap, eTLen_ap, iRng3D_ap, sEnd_ap, eSs_ap, sPar3_ap, xPop_ap, xTup1_ap, xCat_ap, sSetX_ap, sAppX_ap, sParO_ap, sForEI_ap, sForK_ap, runB_ap, gOne_ap, gMany_ap, dI_ap, yesC_ap, dCmp_int, setD, kill_nx, kill_rt, kill_bk, Option.bind_some, Option.map_some, Option.bind_none, Option.map_none, List.getElem?_cons_zero, List.getElem?_cons_succ, List.set_cons_zero, List.set_cons_succ, List.cons_append, List.nil_append, List.append_nil, List.replicate, List.length_cons, List.length_nil, Nat.reduceAdd, Nat.reduceSub, Nat.zero_add, wdat_no, wdat_d, wdat_town, wdat_ol, wdat_od, wfrz_no, wfrz_d, wfrz_town, wfrz_ol, wfrz_od, wval_no, wval_d, wval_town, wval_ol, wval_od, warg_no, warg_d, warg_town, warg_ol, warg_od, vals, gLen, gAbs, gMax2, gMin2, gInt, gTup, gList, wipeW, if_true, if_false, Bool.false_eq_true, Bool.not_true, Bool.not_false, reduceCtorEq, h x (List.mem_cons_self ..), comp_map xs fun z hz => h z (List.mem_cons_of_mem _ hz), List.map_cons]
theorem comp_fil {i : Nat} {own : List Nat} {tst : Ft} {elt : Fe} {ρ : List W} {n : Nat} {p : PyData → Bool} {f : PyData → PyData} : ∀ (xs : List PyData), (∀ x ∈ xs, tst ((wipeW ρ own).set i (.d x)) n = some (p x, n)) → (∀ x ∈ xs, p x = true → elt ((wipeW ρ own).set i (.d x)) n = some (.d (f x), n)) →
    loopC (gOne i) own tst elt ρ xs n = some ((xs.filter p).map f, n)
  | [], _, _ => rfl
  | x :: xs, ht, h => by
    have ih := comp_fil xs (fun z hz => ht z (List.mem_cons_of_mem _ hz)) fun z hz => h z (List.mem_cons_of_mem _ hz)
    rw [loopC_cons]
    cases hp : p x with
    | true => simp -implicitDefEqProofs only [eVar_ap, dVar_ap, eC_ap, dOf_ap, eFrz_ap, eBin_ap, bTest_ap, bTru_ap, bAnd_ap, bOr_ap, bNot_ap, eIf_ap, eB_ap, eAnd_ap, eOr_ap, aNil_ap, aCons_ap, sNil_ap, sCons_ap, eTup_ap, eLst_ap, eCall_ap, eApp_ap, oNone_ap, oSome_ap, eSl_ap, sNil'_ap, sSeq_ap, sBrk_ap, sRet_ap, sRetN_ap, sRetO_ap, sDrop_ap, sIf_ap, sSet_ap, sApp_ap, sTown_ap, sExt_ap, sIns_ap, sSetIx_ap, sAsg_ap, sPar_ap, iOf_ap, iVal_ap, iRng1_ap, iRng2_ap, sFor_ap, eComp_ap, bYes_ap, frzAt_ap, eUn_ap, eNotD_ap, eOrD_ap, eChain_ap, eListRg1_ap, eIsa_ap, eMt_ap, iEnumV_ap, iEnumF_ap, iZipV_ap, iZipF_ap, eTLen_ap, iRng3D_ap, sEnd_ap, eSs_ap, sPar3_ap, xPop_ap, xTup1_ap, xCat_ap, sSetX_ap, sAppX_ap, sParO_ap, sForEI_ap, sForK_ap, runB_ap, gOne_ap, gMany_ap, dI_ap, yesC_ap, dCmp_int, setD, kill_nx, kill_rt, kill_bk, Option.bind_some, Option.map_some, Option.bind_none, Option.map_none, List.getElem?_cons_zero, List.getElem?_cons_succ, List.set_cons_zero, List.set_cons_succ, List.cons_append, List.nil_append, List.append_nil, List.replicate, List.length_cons, List.length_nil, Nat.reduceAdd, Nat.reduceSub, Nat.zero_add, wdat_no, wdat_d, wdat_town, wdat_ol, wdat_od, wfrz_no, wfrz_d, wfrz_town, wfrz_ol, wfrz_od, wval_no, wval_d, wval_town, wval_ol, wval_od, warg_no, warg_d, warg_town, warg_ol, warg_od, vals, gLen, gAbs, gMax2, gMin2, gInt, gTup, gList, wipeW, if_true, if_false, Bool.false_eq_true, Bool.not_true, Bool.not_false, reduceCtorEq, ht x (List.mem_cons_self ..), h x (List.mem_cons_self ..) hp, hp, ih, List.map_cons, List.filter_cons]
    | false => simp -implicitDefEqProofs only [eVar_ap, dVar_ap, eC_ap, dOf_ap, eFrz_ap, eBin_ap, bTest_ap, bTru_ap, bAnd_ap, bOr_ap, bNot_ap, eIf_ap, eB_ap, eAnd_ap, eOr_ap, aNil_ap, aCons_ap, sNil_ap, sCons_ap, eTup_ap, eLst_ap, eCall_ap, eApp_ap, oNone_ap, oSome_ap, eSl_ap, sNil'_ap, sSeq_ap, sBrk_ap, sRet_ap, sRetN_ap, sRetO_ap, sDrop_ap, sIf_ap, sSet_ap, sApp_ap, sTown_ap, sExt_ap, sIns_ap, sSetIx_ap, sAsg_ap, sPar_ap, iOf_ap, iVal_ap, iRng1_ap, iRng2_ap, sFor_ap, eComp_ap, bYes_ap, frzAt_ap, eUn_ap, eNotD_ap, eOrD_ap, eChain_ap, eListRg1_ap, eIsa_ap, eMt_ap, iEnumV_ap, iEnumF_ap, iZipV_ap, iZipF_ap, eTLen_ap, iRng3D_ap, sEnd_ap, eSs_ap, sPar3_ap, xPop_ap, xTup1_ap, xCat_ap, sSetX_ap, sAppX_ap, sParO_ap, sForEI_ap, sForK_ap, runB_ap, gOne_ap, gMany_ap, dI_ap, yesC_ap, dCmp_int, setD, kill_nx, kill_rt, kill_bk, Option.bind_some, Option.map_some, Option.bind_none, Option.map_none, List.getElem?_cons_zero, List.getElem?_cons_succ, List.set_cons_zero, List.set_cons_succ, List.cons_append, List.nil_append, List.append_nil, List.replicate, List.length_cons, List.length_nil, Nat.reduceAdd, Nat.reduceSub, Nat.zero_add, wdat_no, wdat_d, wdat_town, wdat_ol, wdat_od, wfrz_no, wfrz_d, wfrz_town, wfrz_ol, wfrz_od, wval_no, wval_d, wval_town, wval_ol, wval_od, warg_no, warg_d, warg_town, warg_ol, warg_od, vals, gLen, gAbs, gMax2, gMin2, gInt, gTup, gList, wipeW, if_true, if_false, Bool.false_eq_true, Bool.not_true, Bool.not_false, reduceCtorEq, ht x (List.mem_cons_self ..), hp, ih, List.filter_cons]
/-- a list of data as a list of what it stands for -/
theorem ex_map {α : Type} {f : α → PyData} {Q : α → Prop} : ∀ (ys : List PyData), (∀ y ∈ ys, ∃ a, Q a ∧ y = f a) → ∃ as : List α, ys = as.map f ∧ ∀ a ∈ as, Q a
  | [], _ => ⟨[], rfl, by simp⟩
  | y :: ys, h => by
    obtain ⟨a, ha, rfl⟩ := h y (List.mem_cons_self ..)
    obtain ⟨as, rfl, hq⟩ := ex_map ys fun z hz => h z (List.mem_cons_of_mem _ hz)
    exact ⟨a :: as, rfl, fun b hb => (List.mem_cons.mp hb).elim (fun e => e ▸ ha) (hq b)⟩
theorem key_ok (ns : List Int) (n : Nat) (hn : n + 9 ≤ big) : Ran (m__law_key [Sc ns, .town] n) n 9 fun w => ∃ k : Ky, k.ok ∧ w = .d k.d := by
  obtain ⟨w, n1, e1, l1, l2, p, hp, rfl⟩ := plain_ok ns n (by omega)
  obtain ⟨r, r0, r1, e2⟩ := draw_ok ns n1 (by omega) 3 (by decide)
  refine ⟨_, n1 + 1, ?_, by omega, by omega, if r = 0 then .dn p else .pl p, ?_, rfl⟩
  · unfold m__law_key b__law_key
    by_cases h : r = 0
    · subst h
      simp -implicitDefEqProofs only [eVar_ap, dVar_ap, eC_ap, dOf_ap, eFrz_ap, eBin_ap, bTest_ap, bTru_ap, bAnd_ap, bOr_ap, bNot_ap, eIf_ap, eB_ap, eAnd_ap, eOr_ap, aNil_ap, aCons_ap, sNil_ap, sCons_ap, eTup_ap, eLst_ap, eCall_ap, eApp_ap, oNone_ap, oSome_ap, eSl_ap, sNil'_ap, sSeq_ap, sBrk_ap, sRet_ap, sRetN_ap, sRetO_ap, sDrop_ap, sIf_ap, sSet_ap, sApp_ap, sTown_ap, sExt_ap, sIns_ap, sSetIx_ap, sAsg_ap, sPar_ap, iOf_ap, iVal_ap, iRng1_ap, iRng2_ap, sFor_ap, eComp_ap, bYes_ap, frzAt_ap, eUn_ap, eNotD_ap, eOrD_ap, eChain_ap, eListRg1_ap, eIsa_ap, eMt_ap, iEnumV_ap, iEnumF_ap, iZipV_ap, iZipF_ap, eTLen_ap, iRng3D_ap, sEnd_ap, eSs_ap, sPar3_ap, xPop_ap, xTup1_ap, xCat_ap, sSetX_ap, sAppX_ap, sParO_ap, sForEI_ap, sForK_ap, runB_ap, gOne_ap, gMany_ap, dI_ap, yesC_ap, dCmp_int, setD, kill_nx, kill_rt, kill_bk, Option.bind_some, Option.map_some, Option.bind_none, Option.map_none, List.getElem?_cons_zero, List.getElem?_cons_succ, List.set_cons_zero, List.set_cons_succ, List.cons_append, List.nil_append, List.append_nil, List.replicate, List.length_cons, List.length_nil, Nat.reduceAdd, Nat.reduceSub, Nat.zero_add, wdat_no, wdat_d, wdat_town, wdat_ol, wdat_od, wfrz_no, wfrz_d, wfrz_town, wfrz_ol, wfrz_od, wval_no, wval_d, wval_town, wval_ol, wval_od, warg_no, warg_d, warg_town, warg_ol, warg_od, vals, gLen, gAbs, gMax2, gMin2, gInt, gTup, gList, wipeW, if_true, if_false, Bool.false_eq_true, Bool.not_true, Bool.not_false, reduceCtorEq, q_Up_Up, q_Up_Down, q_Up_Part, q_Up_Rest, q_Up_Table, q_Up_Among, q_Up_Sum, q_Up_Gap, q_Down_Up, q_Down_Down, q_Down_Part, q_Down_Rest, q_Down_Table, q_Down_Among, q_Down_Sum, q_Down_Gap, q_Part_Up, q_Part_Down, q_Part_Part, q_Part_Rest, q_Part_Table, q_Part_Among, q_Part_Sum, q_Part_Gap, q_Rest_Up, q_Rest_Down, q_Rest_Part, q_Rest_Rest, q_Rest_Table, q_Rest_Among, q_Rest_Sum, q_Rest_Gap, q_Table_Up, q_Table_Down, q_Table_Part, q_Table_Rest, q_Table_Table, q_Table_Among, q_Table_Sum, q_Table_Gap, q_Among_Up, q_Among_Down, q_Among_Part, q_Among_Rest, q_Among_Table, q_Among_Among, q_Among_Sum, q_Among_Gap, q_Sum_Up, q_Sum_Down, q_Sum_Part, q_Sum_Rest, q_Sum_Table, q_Sum_Among, q_Sum_Sum, q_Sum_Gap, q_Gap_Up, q_Gap_Down, q_Gap_Part, q_Gap_Rest, q_Gap_Table, q_Gap_Among, q_Gap_Sum, q_Gap_Gap, q_Most_Up, q_Most_Down, q_Most_Part, q_Most_Rest, q_Most_Table, q_Most_Among, q_Most_Sum, q_Most_Gap, dIx, dAdd_int, dSub_int, rLt, rLe, rGt, rGe, dEq_int, dNe_int, dIn_ints, dNotIn_ints, e1, e2, beq_self_eq_true]
      rfl
    · have : (r == 0) = false := by simpa using h
      simp -implicitDefEqProofs only [eVar_ap, dVar_ap, eC_ap, dOf_ap, eFrz_ap, eBin_ap, bTest_ap, bTru_ap, bAnd_ap, bOr_ap, bNot_ap, eIf_ap, eB_ap, eAnd_ap, eOr_ap, aNil_ap, aCons_ap, sNil_ap, sCons_ap, eTup_ap, eLst_ap, eCall_ap, eApp_ap, oNone_ap, oSome_ap, eSl_ap, sNil'_ap, sSeq_ap, sBrk_ap, sRet_ap, sRetN_ap, sRetO_ap, sDrop_ap, sIf_ap, sSet_ap, sApp_ap, sTown_ap, sExt_ap, sIns_ap, sSetIx_ap, sAsg_ap, sPar_ap, iOf_ap, iVal_ap, iRng1_ap, iRng2_ap, sFor_ap, eComp_ap, bYes_ap, frzAt_ap, eUn_ap, eNotD_ap, eOrD_ap, eChain_ap, eListRg1_ap, eIsa_ap, eMt_ap, iEnumV_ap, iEnumF_ap, iZipV_ap, iZipF_ap, eTLen_ap, iRng3D_ap, sEnd_ap, eSs_ap, sPar3_ap, xPop_ap, xTup1_ap, xCat_ap, sSetX_ap, sAppX_ap, sParO_ap, sForEI_ap, sForK_ap, runB_ap, gOne_ap, gMany_ap, dI_ap, yesC_ap, dCmp_int, setD, kill_nx, kill_rt, kill_bk, Option.bind_some, Option.map_some, Option.bind_none, Option.map_none, List.getElem?_cons_zero, List.getElem?_cons_succ, List.set_cons_zero, List.set_cons_succ, List.cons_append, List.nil_append, List.append_nil, List.replicate, List.length_cons, List.length_nil, Nat.reduceAdd, Nat.reduceSub, Nat.zero_add, wdat_no, wdat_d, wdat_town, wdat_ol, wdat_od, wfrz_no, wfrz_d, wfrz_town, wfrz_ol, wfrz_od, wval_no, wval_d, wval_town, wval_ol, wval_od, warg_no, warg_d, warg_town, warg_ol, warg_od, vals, gLen, gAbs, gMax2, gMin2, gInt, gTup, gList, wipeW, if_true, if_false, Bool.false_eq_true, Bool.not_true, Bool.not_false, reduceCtorEq, q_Up_Up, q_Up_Down, q_Up_Part, q_Up_Rest, q_Up_Table, q_Up_Among, q_Up_Sum, q_Up_Gap, q_Down_Up, q_Down_Down, q_Down_Part, q_Down_Rest, q_Down_Table, q_Down_Among, q_Down_Sum, q_Down_Gap, q_Part_Up, q_Part_Down, q_Part_Part, q_Part_Rest, q_Part_Table, q_Part_Among, q_Part_Sum, q_Part_Gap, q_Rest_Up, q_Rest_Down, q_Rest_Part, q_Rest_Rest, q_Rest_Table, q_Rest_Among, q_Rest_Sum, q_Rest_Gap, q_Table_Up, q_Table_Down, q_Table_Part, q_Table_Rest, q_Table_Table, q_Table_Among, q_Table_Sum, q_Table_Gap, q_Among_Up, q_Among_Down, q_Among_Part, q_Among_Rest, q_Among_Table, q_Among_Among, q_Among_Sum, q_Among_Gap, q_Sum_Up, q_Sum_Down, q_Sum_Part, q_Sum_Rest, q_Sum_Table, q_Sum_Among, q_Sum_Sum, q_Sum_Gap, q_Gap_Up, q_Gap_Down, q_Gap_Part, q_Gap_Rest, q_Gap_Table, q_Gap_Among, q_Gap_Sum, q_Gap_Gap, q_Most_Up, q_Most_Down, q_Most_Part, q_Most_Rest, q_Most_Table, q_Most_Among, q_Most_Sum, q_Most_Gap, dIx, dAdd_int, dSub_int, rLt, rLe, rGt, rGe, dEq_int, dNe_int, dIn_ints, dNotIn_ints, e1, e2, this, h]
      rfl
  · split <;> exact hp
abbrev rowD (r : List Ky) : PyData := .tuple (r.map Ky.d)
theorem keys_ok (ns : List Int) (n : Nat) (k : Nat) (hk : k ≤ 1000) (hn : n + 1 + 9 * k ≤ big) : Ran (m__law_keys [Sc ns, .town, I' k] n) n (1 + 9 * k) fun w => ∃ r : List Ky, (∀ x ∈ r, x.ok) ∧ r.length ≤ k ∧ w = .d (rowD r) := by
  obtain ⟨m, m0, m1, e1⟩ := draw_ok ns n (by omega) (k + 1 : Int) (by omega)
  have hm : m.toNat ≤ k := by omega
  have hm9 : 9 * m.toNat ≤ 9 * k := Nat.mul_le_mul_left _ hm
  obtain ⟨ys, n2, e2, l1, hq, l2, l3⟩ := comp_ran (i := 3) (own := [3]) (elt := eCall m__law_key (aCons (eVar 0) (aCons (eVar 1) aNil))) (ρ := [Sc ns, .town, I' k, .no]) (c := 9) (P := fun y => ∃ k : Ky, k.ok ∧ y = k.d) (rangeD 0 m.toNat) (n + 1)
    (by rw [rangeD_len]; omega) (fun x _ q hq => by
      obtain ⟨w, q', h1, h2, h3, kk, h4, rfl⟩ := key_ok ns q hq
      exact ⟨_, q', by simp -implicitDefEqProofs only [eVar_ap, dVar_ap, eC_ap, dOf_ap, eFrz_ap, eBin_ap, bTest_ap, bTru_ap, bAnd_ap, bOr_ap, bNot_ap, eIf_ap, eB_ap, eAnd_ap, eOr_ap, aNil_ap, aCons_ap, sNil_ap, sCons_ap, eTup_ap, eLst_ap, eCall_ap, eApp_ap, oNone_ap, oSome_ap, eSl_ap, sNil'_ap, sSeq_ap, sBrk_ap, sRet_ap, sRetN_ap, sRetO_ap, sDrop_ap, sIf_ap, sSet_ap, sApp_ap, sTown_ap, sExt_ap, sIns_ap, sSetIx_ap, sAsg_ap, sPar_ap, iOf_ap, iVal_ap, iRng1_ap, iRng2_ap, sFor_ap, eComp_ap, bYes_ap, frzAt_ap, eUn_ap, eNotD_ap, eOrD_ap, eChain_ap, eListRg1_ap, eIsa_ap, eMt_ap, iEnumV_ap, iEnumF_ap, iZipV_ap, iZipF_ap, eTLen_ap, iRng3D_ap, sEnd_ap, eSs_ap, sPar3_ap, xPop_ap, xTup1_ap, xCat_ap, sSetX_ap, sAppX_ap, sParO_ap, sForEI_ap, sForK_ap, runB_ap, gOne_ap, gMany_ap, dI_ap, yesC_ap, dCmp_int, setD, kill_nx, kill_rt, kill_bk, Option.bind_some, Option.map_some, Option.bind_none, Option.map_none, List.getElem?_cons_zero, List.getElem?_cons_succ, List.set_cons_zero, List.set_cons_succ, List.cons_append, List.nil_append, List.append_nil, List.replicate, List.length_cons, List.length_nil, Nat.reduceAdd, Nat.reduceSub, Nat.zero_add, wdat_no, wdat_d, wdat_town, wdat_ol, wdat_od, wfrz_no, wfrz_d, wfrz_town, wfrz_ol, wfrz_od, wval_no, wval_d, wval_town, wval_ol, wval_od, warg_no, warg_d, warg_town, warg_ol, warg_od, vals, gLen, gAbs, gMax2, gMin2, gInt, gTup, gList, wipeW, if_true, if_false, Bool.false_eq_true, Bool.not_true, Bool.not_false, reduceCtorEq, h1], h3, h2, kk, h4, rfl⟩)
  obtain ⟨r, rfl, hr⟩ := ex_map ys hq
  rw [rangeD_len] at l1 l3
  rw [List.length_map] at l1
  refine ⟨_, n2, ?_, by omega, by omega, r, hr, by omega, rfl⟩
  have hb : m.toNat ≤ big := le_big (by omega)
  unfold m__law_keys b__law_keys
  simp -implicitDefEqProofs only [eVar_ap, dVar_ap, eC_ap, dOf_ap, eFrz_ap, eBin_ap, bTest_ap, bTru_ap, bAnd_ap, bOr_ap, bNot_ap, eIf_ap, eB_ap, eAnd_ap, eOr_ap, aNil_ap, aCons_ap, sNil_ap, sCons_ap, eTup_ap, eLst_ap, eCall_ap, eApp_ap, oNone_ap, oSome_ap, eSl_ap, sNil'_ap, sSeq_ap, sBrk_ap, sRet_ap, sRetN_ap, sRetO_ap, sDrop_ap, sIf_ap, sSet_ap, sApp_ap, sTown_ap, sExt_ap, sIns_ap, sSetIx_ap, sAsg_ap, sPar_ap, iOf_ap, iVal_ap, iRng1_ap, iRng2_ap, sFor_ap, eComp_ap, bYes_ap, frzAt_ap, eUn_ap, eNotD_ap, eOrD_ap, eChain_ap, eListRg1_ap, eIsa_ap, eMt_ap, iEnumV_ap, iEnumF_ap, iZipV_ap, iZipF_ap, eTLen_ap, iRng3D_ap, sEnd_ap, eSs_ap, sPar3_ap, xPop_ap, xTup1_ap, xCat_ap, sSetX_ap, sAppX_ap, sParO_ap, sForEI_ap, sForK_ap, runB_ap, gOne_ap, gMany_ap, dI_ap, yesC_ap, dCmp_int, setD, kill_nx, kill_rt, kill_bk, Option.bind_some, Option.map_some, Option.bind_none, Option.map_none, List.getElem?_cons_zero, List.getElem?_cons_succ, List.set_cons_zero, List.set_cons_succ, List.cons_append, List.nil_append, List.append_nil, List.replicate, List.length_cons, List.length_nil, Nat.reduceAdd, Nat.reduceSub, Nat.zero_add, wdat_no, wdat_d, wdat_town, wdat_ol, wdat_od, wfrz_no, wfrz_d, wfrz_town, wfrz_ol, wfrz_od, wval_no, wval_d, wval_town, wval_ol, wval_od, warg_no, warg_d, warg_town, warg_ol, warg_od, vals, gLen, gAbs, gMax2, gMin2, gInt, gTup, gList, wipeW, if_true, if_false, Bool.false_eq_true, Bool.not_true, Bool.not_false, reduceCtorEq, q_Up_Up, q_Up_Down, q_Up_Part, q_Up_Rest, q_Up_Table, q_Up_Among, q_Up_Sum, q_Up_Gap, q_Down_Up, q_Down_Down, q_Down_Part, q_Down_Rest, q_Down_Table, q_Down_Among, q_Down_Sum, q_Down_Gap, q_Part_Up, q_Part_Down, q_Part_Part, q_Part_Rest, q_Part_Table, q_Part_Among, q_Part_Sum, q_Part_Gap, q_Rest_Up, q_Rest_Down, q_Rest_Part, q_Rest_Rest, q_Rest_Table, q_Rest_Among, q_Rest_Sum, q_Rest_Gap, q_Table_Up, q_Table_Down, q_Table_Part, q_Table_Rest, q_Table_Table, q_Table_Among, q_Table_Sum, q_Table_Gap, q_Among_Up, q_Among_Down, q_Among_Part, q_Among_Rest, q_Among_Table, q_Among_Among, q_Among_Sum, q_Among_Gap, q_Sum_Up, q_Sum_Down, q_Sum_Part, q_Sum_Rest, q_Sum_Table, q_Sum_Among, q_Sum_Sum, q_Sum_Gap, q_Gap_Up, q_Gap_Down, q_Gap_Part, q_Gap_Rest, q_Gap_Table, q_Gap_Among, q_Gap_Sum, q_Gap_Gap, q_Most_Up, q_Most_Down, q_Most_Part, q_Most_Rest, q_Most_Table, q_Most_Among, q_Most_Sum, q_Most_Gap, dIx, dAdd_int, dSub_int, rLt, rLe, rGt, rGe, dEq_int, dNe_int, dIn_ints, dNotIn_ints, e1, rng1_ok m0 (by omega), rangeD_len, hb, e2]
theorem thing_ok (ns : List Int) (n : Nat) (hn : n + 3 ≤ big) : Ran (m__law_thing [Sc ns, .town] n) n 3 fun w => ∃ t : Th, t.ok ∧ w = .d t.d := by
  obtain ⟨a, a0, a1, e1⟩ := draw_ok ns n (by omega) 6 (by decide)
  obtain ⟨b, b0, b1, e2⟩ := draw_ok ns (n + 1) (by omega) 6 (by decide)
  obtain ⟨c, c0, c1, e3⟩ := draw_ok ns (n + 2) (by omega) 6 (by decide)
  refine ⟨_, n + 3, ?_, by omega, by omega, (a, b, c), ⟨⟨a0, a1⟩, ⟨b0, b1⟩, c0, c1⟩, rfl⟩
  unfold m__law_thing b__law_thing
  simp -implicitDefEqProofs only [eVar_ap, dVar_ap, eC_ap, dOf_ap, eFrz_ap, eBin_ap, bTest_ap, bTru_ap, bAnd_ap, bOr_ap, bNot_ap, eIf_ap, eB_ap, eAnd_ap, eOr_ap, aNil_ap, aCons_ap, sNil_ap, sCons_ap, eTup_ap, eLst_ap, eCall_ap, eApp_ap, oNone_ap, oSome_ap, eSl_ap, sNil'_ap, sSeq_ap, sBrk_ap, sRet_ap, sRetN_ap, sRetO_ap, sDrop_ap, sIf_ap, sSet_ap, sApp_ap, sTown_ap, sExt_ap, sIns_ap, sSetIx_ap, sAsg_ap, sPar_ap, iOf_ap, iVal_ap, iRng1_ap, iRng2_ap, sFor_ap, eComp_ap, bYes_ap, frzAt_ap, eUn_ap, eNotD_ap, eOrD_ap, eChain_ap, eListRg1_ap, eIsa_ap, eMt_ap, iEnumV_ap, iEnumF_ap, iZipV_ap, iZipF_ap, eTLen_ap, iRng3D_ap, sEnd_ap, eSs_ap, sPar3_ap, xPop_ap, xTup1_ap, xCat_ap, sSetX_ap, sAppX_ap, sParO_ap, sForEI_ap, sForK_ap, runB_ap, gOne_ap, gMany_ap, dI_ap, yesC_ap, dCmp_int, setD, kill_nx, kill_rt, kill_bk, Option.bind_some, Option.map_some, Option.bind_none, Option.map_none, List.getElem?_cons_zero, List.getElem?_cons_succ, List.set_cons_zero, List.set_cons_succ, List.cons_append, List.nil_append, List.append_nil, List.replicate, List.length_cons, List.length_nil, Nat.reduceAdd, Nat.reduceSub, Nat.zero_add, wdat_no, wdat_d, wdat_town, wdat_ol, wdat_od, wfrz_no, wfrz_d, wfrz_town, wfrz_ol, wfrz_od, wval_no, wval_d, wval_town, wval_ol, wval_od, warg_no, warg_d, warg_town, warg_ol, warg_od, vals, gLen, gAbs, gMax2, gMin2, gInt, gTup, gList, wipeW, if_true, if_false, Bool.false_eq_true, Bool.not_true, Bool.not_false, reduceCtorEq, e1, e2, e3]
  rfl
end L2.Lv.Sh
namespace L2.Lv.Sh
open PySem PySem.Spec PyProof.Rows L2 L2.Lv
/-! what a key tells of a thing -/
def PK.worth (p : PK) (t : Th) : Int := match p with
  | up a => t.at a
  | part a d => t.at a / d
  | rest a d => t.at a % d
  | table a l => if t.at a ∈ l then (l.idxOf (t.at a) : Nat) else (l.length : Nat)
  | among a l => if t.at a ∈ l then 0 else 1
  | sum a b => t.at a + t.at b
  | gap a b => if t.at a - t.at b < 0 then -(t.at a - t.at b) else t.at a - t.at b
  | most a b => if t.at b > t.at a then t.at b else t.at a
def Ky.worth (k : Ky) (t : Th) : Int := match k with
  | pl p => p.worth t
  | dn p => 0 - p.worth t
theorem prOk.l {a b : Int} (h : prOk a b) : pl3 a ∧ pl3 b := by
  rcases h with ⟨rfl, rfl⟩ | ⟨rfl, rfl⟩ | ⟨rfl, rfl⟩ <;> simp [pl3]
theorem atTh {t : Th} {a : Int} (h : pl3 a) : atI [PyData.int t.1, .int t.2.1, .int t.2.2] a = some (.int (t.at a)) := by
  have : a = 0 ∨ a = 1 ∨ a = 2 := by unfold pl3 at h; omega
  rcases this with rfl | rfl | rfl <;> rfl
theorem ixTh {t : Th} {a : Int} (h : pl3 a) : dIx t.d (.int a) = some (.d (.int (t.at a))) := by
  show (atI _ _).map W.d = _
  rw [show ([t.1, t.2.1, t.2.2].map PyData.int) = [PyData.int t.1, .int t.2.1, .int t.2.2] from rfl, atTh h]; rfl
theorem gIndexT_ints {t : List Int} {x : Int} (h : x ∈ t) : gIndexT (ti t) [.int x] = some (.d (.int (t.idxOf x : Nat))) := by
  simp [gIndexT, ti, h]
theorem gIndexL_ints {t : List Int} {x : Int} (h : x ∈ t) : gIndexL (.list (t.map .int)) [.int x] = some (.d (.int (t.idxOf x : Nat))) := by
  simp [gIndexL, h]
theorem i0 (x : PyData) (xs : List PyData) : dIx (.tuple (x :: xs)) (.int 0) = some (.d x) := ixT (x :: xs) 0 (by decide) (by simp)
theorem i1 (x y : PyData) (xs : List PyData) : dIx (.tuple (x :: y :: xs)) (.int 1) = some (.d y) := ixT (x :: y :: xs) 1 (by decide) (by simp)
theorem i2 (x y z : PyData) : dIx (.tuple [x, y, z]) (.int 2) = some (.d z) := rfl
theorem dEqS (s t : Str) (h : shp (.str s) = true) (h2 : shp (.str t) = true) : dEq (.str s) (.str t) = some (.d (.bool (s == t))) := dEq_str h h2

theorem worth_pl (k : Nat) (p : PK) (h : p.ok) (t : Th) (n : Nat) : m_worth_ (k + 1) [.d p.d, .d t.d] n = some (I' (p.worth t), n) := by
  unfold m_worth_ b_worth
  cases p with
  | up a => simp -implicitDefEqProofs only [eVar_ap, dVar_ap, eC_ap, dOf_ap, eFrz_ap, eBin_ap, bTest_ap, bTru_ap, bAnd_ap, bOr_ap, bNot_ap, eIf_ap, eB_ap, eAnd_ap, eOr_ap, aNil_ap, aCons_ap, sNil_ap, sCons_ap, eTup_ap, eLst_ap, eCall_ap, eApp_ap, oNone_ap, oSome_ap, eSl_ap, sNil'_ap, sSeq_ap, sBrk_ap, sRet_ap, sRetN_ap, sRetO_ap, sDrop_ap, sIf_ap, sSet_ap, sApp_ap, sTown_ap, sExt_ap, sIns_ap, sSetIx_ap, sAsg_ap, sPar_ap, iOf_ap, iVal_ap, iRng1_ap, iRng2_ap, sFor_ap, eComp_ap, bYes_ap, frzAt_ap, eUn_ap, eNotD_ap, eOrD_ap, eChain_ap, eListRg1_ap, eIsa_ap, eMt_ap, iEnumV_ap, iEnumF_ap, iZipV_ap, iZipF_ap, eTLen_ap, iRng3D_ap, sEnd_ap, eSs_ap, sPar3_ap, xPop_ap, xTup1_ap, xCat_ap, sSetX_ap, sAppX_ap, sParO_ap, sForEI_ap, sForK_ap, runB_ap, gOne_ap, gMany_ap, dI_ap, yesC_ap, dCmp_int, setD, kill_nx, kill_rt, kill_bk, Option.bind_some, Option.map_some, Option.bind_none, Option.map_none, List.getElem?_cons_zero, List.getElem?_cons_succ, List.set_cons_zero, List.set_cons_succ, List.cons_append, List.nil_append, List.append_nil, List.replicate, List.length_cons, List.length_nil, Nat.reduceAdd, Nat.reduceSub, Nat.zero_add, wdat_no, wdat_d, wdat_town, wdat_ol, wdat_od, wfrz_no, wfrz_d, wfrz_town, wfrz_ol, wfrz_od, wval_no, wval_d, wval_town, wval_ol, wval_od, warg_no, warg_d, warg_town, warg_ol, warg_od, vals, gLen, gAbs, gMax2, gMin2, gInt, gTup, gList, wipeW, if_true, if_false, Bool.false_eq_true, Bool.not_true, Bool.not_false, reduceCtorEq, q_Up_Up, q_Up_Down, q_Up_Part, q_Up_Rest, q_Up_Table, q_Up_Among, q_Up_Sum, q_Up_Gap, q_Down_Up, q_Down_Down, q_Down_Part, q_Down_Rest, q_Down_Table, q_Down_Among, q_Down_Sum, q_Down_Gap, q_Part_Up, q_Part_Down, q_Part_Part, q_Part_Rest, q_Part_Table, q_Part_Among, q_Part_Sum, q_Part_Gap, q_Rest_Up, q_Rest_Down, q_Rest_Part, q_Rest_Rest, q_Rest_Table, q_Rest_Among, q_Rest_Sum, q_Rest_Gap, q_Table_Up, q_Table_Down, q_Table_Part, q_Table_Rest, q_Table_Table, q_Table_Among, q_Table_Sum, q_Table_Gap, q_Among_Up, q_Among_Down, q_Among_Part, q_Among_Rest, q_Among_Table, q_Among_Among, q_Among_Sum, q_Among_Gap, q_Sum_Up, q_Sum_Down, q_Sum_Part, q_Sum_Rest, q_Sum_Table, q_Sum_Among, q_Sum_Sum, q_Sum_Gap, q_Gap_Up, q_Gap_Down, q_Gap_Part, q_Gap_Rest, q_Gap_Table, q_Gap_Among, q_Gap_Sum, q_Gap_Gap, q_Most_Up, q_Most_Down, q_Most_Part, q_Most_Rest, q_Most_Table, q_Most_Among, q_Most_Sum, q_Most_Gap, i0, i1, i2, dAdd_int, dSub_int, rLt, rLe, rGt, rGe, dEq_int, dNe_int, dIn_ints, dNotIn_ints, isTupD, isLstD, PK.d, ixTh (t := t) (show pl3 a from h)]; rfl
  | part a d =>
    have hd : divC (t.at a) d = true := divC_ok (by rcases h.2 with rfl | rfl <;> decide) (by rcases h.2 with rfl | rfl <;> decide)
    simp -implicitDefEqProofs only [eVar_ap, dVar_ap, eC_ap, dOf_ap, eFrz_ap, eBin_ap, bTest_ap, bTru_ap, bAnd_ap, bOr_ap, bNot_ap, eIf_ap, eB_ap, eAnd_ap, eOr_ap, aNil_ap, aCons_ap, sNil_ap, sCons_ap, eTup_ap, eLst_ap, eCall_ap, eApp_ap, oNone_ap, oSome_ap, eSl_ap, sNil'_ap, sSeq_ap, sBrk_ap, sRet_ap, sRetN_ap, sRetO_ap, sDrop_ap, sIf_ap, sSet_ap, sApp_ap, sTown_ap, sExt_ap, sIns_ap, sSetIx_ap, sAsg_ap, sPar_ap, iOf_ap, iVal_ap, iRng1_ap, iRng2_ap, sFor_ap, eComp_ap, bYes_ap, frzAt_ap, eUn_ap, eNotD_ap, eOrD_ap, eChain_ap, eListRg1_ap, eIsa_ap, eMt_ap, iEnumV_ap, iEnumF_ap, iZipV_ap, iZipF_ap, eTLen_ap, iRng3D_ap, sEnd_ap, eSs_ap, sPar3_ap, xPop_ap, xTup1_ap, xCat_ap, sSetX_ap, sAppX_ap, sParO_ap, sForEI_ap, sForK_ap, runB_ap, gOne_ap, gMany_ap, dI_ap, yesC_ap, dCmp_int, setD, kill_nx, kill_rt, kill_bk, Option.bind_some, Option.map_some, Option.bind_none, Option.map_none, List.getElem?_cons_zero, List.getElem?_cons_succ, List.set_cons_zero, List.set_cons_succ, List.cons_append, List.nil_append, List.append_nil, List.replicate, List.length_cons, List.length_nil, Nat.reduceAdd, Nat.reduceSub, Nat.zero_add, wdat_no, wdat_d, wdat_town, wdat_ol, wdat_od, wfrz_no, wfrz_d, wfrz_town, wfrz_ol, wfrz_od, wval_no, wval_d, wval_town, wval_ol, wval_od, warg_no, warg_d, warg_town, warg_ol, warg_od, vals, gLen, gAbs, gMax2, gMin2, gInt, gTup, gList, wipeW, if_true, if_false, Bool.false_eq_true, Bool.not_true, Bool.not_false, reduceCtorEq, q_Up_Up, q_Up_Down, q_Up_Part, q_Up_Rest, q_Up_Table, q_Up_Among, q_Up_Sum, q_Up_Gap, q_Down_Up, q_Down_Down, q_Down_Part, q_Down_Rest, q_Down_Table, q_Down_Among, q_Down_Sum, q_Down_Gap, q_Part_Up, q_Part_Down, q_Part_Part, q_Part_Rest, q_Part_Table, q_Part_Among, q_Part_Sum, q_Part_Gap, q_Rest_Up, q_Rest_Down, q_Rest_Part, q_Rest_Rest, q_Rest_Table, q_Rest_Among, q_Rest_Sum, q_Rest_Gap, q_Table_Up, q_Table_Down, q_Table_Part, q_Table_Rest, q_Table_Table, q_Table_Among, q_Table_Sum, q_Table_Gap, q_Among_Up, q_Among_Down, q_Among_Part, q_Among_Rest, q_Among_Table, q_Among_Among, q_Among_Sum, q_Among_Gap, q_Sum_Up, q_Sum_Down, q_Sum_Part, q_Sum_Rest, q_Sum_Table, q_Sum_Among, q_Sum_Sum, q_Sum_Gap, q_Gap_Up, q_Gap_Down, q_Gap_Part, q_Gap_Rest, q_Gap_Table, q_Gap_Among, q_Gap_Sum, q_Gap_Gap, q_Most_Up, q_Most_Down, q_Most_Part, q_Most_Rest, q_Most_Table, q_Most_Among, q_Most_Sum, q_Most_Gap, i0, i1, i2, dAdd_int, dSub_int, rLt, rLe, rGt, rGe, dEq_int, dNe_int, dIn_ints, dNotIn_ints, isTupD, isLstD, PK.d, ixTh (t := t) (show pl3 a from h.1), hd]; rfl
  | rest a d =>
    have hd : modC (t.at a) d = true := modC_ok (by rcases h.2 with rfl | rfl <;> decide)
    simp -implicitDefEqProofs only [eVar_ap, dVar_ap, eC_ap, dOf_ap, eFrz_ap, eBin_ap, bTest_ap, bTru_ap, bAnd_ap, bOr_ap, bNot_ap, eIf_ap, eB_ap, eAnd_ap, eOr_ap, aNil_ap, aCons_ap, sNil_ap, sCons_ap, eTup_ap, eLst_ap, eCall_ap, eApp_ap, oNone_ap, oSome_ap, eSl_ap, sNil'_ap, sSeq_ap, sBrk_ap, sRet_ap, sRetN_ap, sRetO_ap, sDrop_ap, sIf_ap, sSet_ap, sApp_ap, sTown_ap, sExt_ap, sIns_ap, sSetIx_ap, sAsg_ap, sPar_ap, iOf_ap, iVal_ap, iRng1_ap, iRng2_ap, sFor_ap, eComp_ap, bYes_ap, frzAt_ap, eUn_ap, eNotD_ap, eOrD_ap, eChain_ap, eListRg1_ap, eIsa_ap, eMt_ap, iEnumV_ap, iEnumF_ap, iZipV_ap, iZipF_ap, eTLen_ap, iRng3D_ap, sEnd_ap, eSs_ap, sPar3_ap, xPop_ap, xTup1_ap, xCat_ap, sSetX_ap, sAppX_ap, sParO_ap, sForEI_ap, sForK_ap, runB_ap, gOne_ap, gMany_ap, dI_ap, yesC_ap, dCmp_int, setD, kill_nx, kill_rt, kill_bk, Option.bind_some, Option.map_some, Option.bind_none, Option.map_none, List.getElem?_cons_zero, List.getElem?_cons_succ, List.set_cons_zero, List.set_cons_succ, List.cons_append, List.nil_append, List.append_nil, List.replicate, List.length_cons, List.length_nil, Nat.reduceAdd, Nat.reduceSub, Nat.zero_add, wdat_no, wdat_d, wdat_town, wdat_ol, wdat_od, wfrz_no, wfrz_d, wfrz_town, wfrz_ol, wfrz_od, wval_no, wval_d, wval_town, wval_ol, wval_od, warg_no, warg_d, warg_town, warg_ol, warg_od, vals, gLen, gAbs, gMax2, gMin2, gInt, gTup, gList, wipeW, if_true, if_false, Bool.false_eq_true, Bool.not_true, Bool.not_false, reduceCtorEq, q_Up_Up, q_Up_Down, q_Up_Part, q_Up_Rest, q_Up_Table, q_Up_Among, q_Up_Sum, q_Up_Gap, q_Down_Up, q_Down_Down, q_Down_Part, q_Down_Rest, q_Down_Table, q_Down_Among, q_Down_Sum, q_Down_Gap, q_Part_Up, q_Part_Down, q_Part_Part, q_Part_Rest, q_Part_Table, q_Part_Among, q_Part_Sum, q_Part_Gap, q_Rest_Up, q_Rest_Down, q_Rest_Part, q_Rest_Rest, q_Rest_Table, q_Rest_Among, q_Rest_Sum, q_Rest_Gap, q_Table_Up, q_Table_Down, q_Table_Part, q_Table_Rest, q_Table_Table, q_Table_Among, q_Table_Sum, q_Table_Gap, q_Among_Up, q_Among_Down, q_Among_Part, q_Among_Rest, q_Among_Table, q_Among_Among, q_Among_Sum, q_Among_Gap, q_Sum_Up, q_Sum_Down, q_Sum_Part, q_Sum_Rest, q_Sum_Table, q_Sum_Among, q_Sum_Sum, q_Sum_Gap, q_Gap_Up, q_Gap_Down, q_Gap_Part, q_Gap_Rest, q_Gap_Table, q_Gap_Among, q_Gap_Sum, q_Gap_Gap, q_Most_Up, q_Most_Down, q_Most_Part, q_Most_Rest, q_Most_Table, q_Most_Among, q_Most_Sum, q_Most_Gap, i0, i1, i2, dAdd_int, dSub_int, rLt, rLe, rGt, rGe, dEq_int, dNe_int, dIn_ints, dNotIn_ints, isTupD, isLstD, PK.d, ixTh (t := t) (show pl3 a from h.1), hd]; rfl
  | table a l =>
    by_cases hm : t.at a ∈ l
    · simp -implicitDefEqProofs only [eVar_ap, dVar_ap, eC_ap, dOf_ap, eFrz_ap, eBin_ap, bTest_ap, bTru_ap, bAnd_ap, bOr_ap, bNot_ap, eIf_ap, eB_ap, eAnd_ap, eOr_ap, aNil_ap, aCons_ap, sNil_ap, sCons_ap, eTup_ap, eLst_ap, eCall_ap, eApp_ap, oNone_ap, oSome_ap, eSl_ap, sNil'_ap, sSeq_ap, sBrk_ap, sRet_ap, sRetN_ap, sRetO_ap, sDrop_ap, sIf_ap, sSet_ap, sApp_ap, sTown_ap, sExt_ap, sIns_ap, sSetIx_ap, sAsg_ap, sPar_ap, iOf_ap, iVal_ap, iRng1_ap, iRng2_ap, sFor_ap, eComp_ap, bYes_ap, frzAt_ap, eUn_ap, eNotD_ap, eOrD_ap, eChain_ap, eListRg1_ap, eIsa_ap, eMt_ap, iEnumV_ap, iEnumF_ap, iZipV_ap, iZipF_ap, eTLen_ap, iRng3D_ap, sEnd_ap, eSs_ap, sPar3_ap, xPop_ap, xTup1_ap, xCat_ap, sSetX_ap, sAppX_ap, sParO_ap, sForEI_ap, sForK_ap, runB_ap, gOne_ap, gMany_ap, dI_ap, yesC_ap, dCmp_int, setD, kill_nx, kill_rt, kill_bk, Option.bind_some, Option.map_some, Option.bind_none, Option.map_none, List.getElem?_cons_zero, List.getElem?_cons_succ, List.set_cons_zero, List.set_cons_succ, List.cons_append, List.nil_append, List.append_nil, List.replicate, List.length_cons, List.length_nil, Nat.reduceAdd, Nat.reduceSub, Nat.zero_add, wdat_no, wdat_d, wdat_town, wdat_ol, wdat_od, wfrz_no, wfrz_d, wfrz_town, wfrz_ol, wfrz_od, wval_no, wval_d, wval_town, wval_ol, wval_od, warg_no, warg_d, warg_town, warg_ol, warg_od, vals, gLen, gAbs, gMax2, gMin2, gInt, gTup, gList, wipeW, if_true, if_false, Bool.false_eq_true, Bool.not_true, Bool.not_false, reduceCtorEq, q_Up_Up, q_Up_Down, q_Up_Part, q_Up_Rest, q_Up_Table, q_Up_Among, q_Up_Sum, q_Up_Gap, q_Down_Up, q_Down_Down, q_Down_Part, q_Down_Rest, q_Down_Table, q_Down_Among, q_Down_Sum, q_Down_Gap, q_Part_Up, q_Part_Down, q_Part_Part, q_Part_Rest, q_Part_Table, q_Part_Among, q_Part_Sum, q_Part_Gap, q_Rest_Up, q_Rest_Down, q_Rest_Part, q_Rest_Rest, q_Rest_Table, q_Rest_Among, q_Rest_Sum, q_Rest_Gap, q_Table_Up, q_Table_Down, q_Table_Part, q_Table_Rest, q_Table_Table, q_Table_Among, q_Table_Sum, q_Table_Gap, q_Among_Up, q_Among_Down, q_Among_Part, q_Among_Rest, q_Among_Table, q_Among_Among, q_Among_Sum, q_Among_Gap, q_Sum_Up, q_Sum_Down, q_Sum_Part, q_Sum_Rest, q_Sum_Table, q_Sum_Among, q_Sum_Sum, q_Sum_Gap, q_Gap_Up, q_Gap_Down, q_Gap_Part, q_Gap_Rest, q_Gap_Table, q_Gap_Among, q_Gap_Sum, q_Gap_Gap, q_Most_Up, q_Most_Down, q_Most_Part, q_Most_Rest, q_Most_Table, q_Most_Among, q_Most_Sum, q_Most_Gap, i0, i1, i2, dAdd_int, dSub_int, rLt, rLe, rGt, rGe, dEq_int, dNe_int, dIn_ints, dNotIn_ints, isTupD, isLstD, PK.d, ixTh (t := t) (show pl3 a from h.1), hm, decide_true, gIndexT_ints hm, PK.worth]
    · simp -implicitDefEqProofs only [eVar_ap, dVar_ap, eC_ap, dOf_ap, eFrz_ap, eBin_ap, bTest_ap, bTru_ap, bAnd_ap, bOr_ap, bNot_ap, eIf_ap, eB_ap, eAnd_ap, eOr_ap, aNil_ap, aCons_ap, sNil_ap, sCons_ap, eTup_ap, eLst_ap, eCall_ap, eApp_ap, oNone_ap, oSome_ap, eSl_ap, sNil'_ap, sSeq_ap, sBrk_ap, sRet_ap, sRetN_ap, sRetO_ap, sDrop_ap, sIf_ap, sSet_ap, sApp_ap, sTown_ap, sExt_ap, sIns_ap, sSetIx_ap, sAsg_ap, sPar_ap, iOf_ap, iVal_ap, iRng1_ap, iRng2_ap, sFor_ap, eComp_ap, bYes_ap, frzAt_ap, eUn_ap, eNotD_ap, eOrD_ap, eChain_ap, eListRg1_ap, eIsa_ap, eMt_ap, iEnumV_ap, iEnumF_ap, iZipV_ap, iZipF_ap, eTLen_ap, iRng3D_ap, sEnd_ap, eSs_ap, sPar3_ap, xPop_ap, xTup1_ap, xCat_ap, sSetX_ap, sAppX_ap, sParO_ap, sForEI_ap, sForK_ap, runB_ap, gOne_ap, gMany_ap, dI_ap, yesC_ap, dCmp_int, setD, kill_nx, kill_rt, kill_bk, Option.bind_some, Option.map_some, Option.bind_none, Option.map_none, List.getElem?_cons_zero, List.getElem?_cons_succ, List.set_cons_zero, List.set_cons_succ, List.cons_append, List.nil_append, List.append_nil, List.replicate, List.length_cons, List.length_nil, Nat.reduceAdd, Nat.reduceSub, Nat.zero_add, wdat_no, wdat_d, wdat_town, wdat_ol, wdat_od, wfrz_no, wfrz_d, wfrz_town, wfrz_ol, wfrz_od, wval_no, wval_d, wval_town, wval_ol, wval_od, warg_no, warg_d, warg_town, warg_ol, warg_od, vals, gLen, gAbs, gMax2, gMin2, gInt, gTup, gList, wipeW, if_true, if_false, Bool.false_eq_true, Bool.not_true, Bool.not_false, reduceCtorEq, q_Up_Up, q_Up_Down, q_Up_Part, q_Up_Rest, q_Up_Table, q_Up_Among, q_Up_Sum, q_Up_Gap, q_Down_Up, q_Down_Down, q_Down_Part, q_Down_Rest, q_Down_Table, q_Down_Among, q_Down_Sum, q_Down_Gap, q_Part_Up, q_Part_Down, q_Part_Part, q_Part_Rest, q_Part_Table, q_Part_Among, q_Part_Sum, q_Part_Gap, q_Rest_Up, q_Rest_Down, q_Rest_Part, q_Rest_Rest, q_Rest_Table, q_Rest_Among, q_Rest_Sum, q_Rest_Gap, q_Table_Up, q_Table_Down, q_Table_Part, q_Table_Rest, q_Table_Table, q_Table_Among, q_Table_Sum, q_Table_Gap, q_Among_Up, q_Among_Down, q_Among_Part, q_Among_Rest, q_Among_Table, q_Among_Among, q_Among_Sum, q_Among_Gap, q_Sum_Up, q_Sum_Down, q_Sum_Part, q_Sum_Rest, q_Sum_Table, q_Sum_Among, q_Sum_Sum, q_Sum_Gap, q_Gap_Up, q_Gap_Down, q_Gap_Part, q_Gap_Rest, q_Gap_Table, q_Gap_Among, q_Gap_Sum, q_Gap_Gap, q_Most_Up, q_Most_Down, q_Most_Part, q_Most_Rest, q_Most_Table, q_Most_Among, q_Most_Sum, q_Most_Gap, i0, i1, i2, dAdd_int, dSub_int, rLt, rLe, rGt, rGe, dEq_int, dNe_int, dIn_ints, dNotIn_ints, isTupD, isLstD, PK.d, ixTh (t := t) (show pl3 a from h.1), hm, decide_false, PK.worth, List.length_map]
  | among a l =>
    by_cases hm : t.at a ∈ l
    · simp -implicitDefEqProofs only [eVar_ap, dVar_ap, eC_ap, dOf_ap, eFrz_ap, eBin_ap, bTest_ap, bTru_ap, bAnd_ap, bOr_ap, bNot_ap, eIf_ap, eB_ap, eAnd_ap, eOr_ap, aNil_ap, aCons_ap, sNil_ap, sCons_ap, eTup_ap, eLst_ap, eCall_ap, eApp_ap, oNone_ap, oSome_ap, eSl_ap, sNil'_ap, sSeq_ap, sBrk_ap, sRet_ap, sRetN_ap, sRetO_ap, sDrop_ap, sIf_ap, sSet_ap, sApp_ap, sTown_ap, sExt_ap, sIns_ap, sSetIx_ap, sAsg_ap, sPar_ap, iOf_ap, iVal_ap, iRng1_ap, iRng2_ap, sFor_ap, eComp_ap, bYes_ap, frzAt_ap, eUn_ap, eNotD_ap, eOrD_ap, eChain_ap, eListRg1_ap, eIsa_ap, eMt_ap, iEnumV_ap, iEnumF_ap, iZipV_ap, iZipF_ap, eTLen_ap, iRng3D_ap, sEnd_ap, eSs_ap, sPar3_ap, xPop_ap, xTup1_ap, xCat_ap, sSetX_ap, sAppX_ap, sParO_ap, sForEI_ap, sForK_ap, runB_ap, gOne_ap, gMany_ap, dI_ap, yesC_ap, dCmp_int, setD, kill_nx, kill_rt, kill_bk, Option.bind_some, Option.map_some, Option.bind_none, Option.map_none, List.getElem?_cons_zero, List.getElem?_cons_succ, List.set_cons_zero, List.set_cons_succ, List.cons_append, List.nil_append, List.append_nil, List.replicate, List.length_cons, List.length_nil, Nat.reduceAdd, Nat.reduceSub, Nat.zero_add, wdat_no, wdat_d, wdat_town, wdat_ol, wdat_od, wfrz_no, wfrz_d, wfrz_town, wfrz_ol, wfrz_od, wval_no, wval_d, wval_town, wval_ol, wval_od, warg_no, warg_d, warg_town, warg_ol, warg_od, vals, gLen, gAbs, gMax2, gMin2, gInt, gTup, gList, wipeW, if_true, if_false, Bool.false_eq_true, Bool.not_true, Bool.not_false, reduceCtorEq, q_Up_Up, q_Up_Down, q_Up_Part, q_Up_Rest, q_Up_Table, q_Up_Among, q_Up_Sum, q_Up_Gap, q_Down_Up, q_Down_Down, q_Down_Part, q_Down_Rest, q_Down_Table, q_Down_Among, q_Down_Sum, q_Down_Gap, q_Part_Up, q_Part_Down, q_Part_Part, q_Part_Rest, q_Part_Table, q_Part_Among, q_Part_Sum, q_Part_Gap, q_Rest_Up, q_Rest_Down, q_Rest_Part, q_Rest_Rest, q_Rest_Table, q_Rest_Among, q_Rest_Sum, q_Rest_Gap, q_Table_Up, q_Table_Down, q_Table_Part, q_Table_Rest, q_Table_Table, q_Table_Among, q_Table_Sum, q_Table_Gap, q_Among_Up, q_Among_Down, q_Among_Part, q_Among_Rest, q_Among_Table, q_Among_Among, q_Among_Sum, q_Among_Gap, q_Sum_Up, q_Sum_Down, q_Sum_Part, q_Sum_Rest, q_Sum_Table, q_Sum_Among, q_Sum_Sum, q_Sum_Gap, q_Gap_Up, q_Gap_Down, q_Gap_Part, q_Gap_Rest, q_Gap_Table, q_Gap_Among, q_Gap_Sum, q_Gap_Gap, q_Most_Up, q_Most_Down, q_Most_Part, q_Most_Rest, q_Most_Table, q_Most_Among, q_Most_Sum, q_Most_Gap, i0, i1, i2, dAdd_int, dSub_int, rLt, rLe, rGt, rGe, dEq_int, dNe_int, dIn_ints, dNotIn_ints, isTupD, isLstD, PK.d, ixTh (t := t) (show pl3 a from h.1), hm, decide_true, PK.worth]
    · simp -implicitDefEqProofs only [eVar_ap, dVar_ap, eC_ap, dOf_ap, eFrz_ap, eBin_ap, bTest_ap, bTru_ap, bAnd_ap, bOr_ap, bNot_ap, eIf_ap, eB_ap, eAnd_ap, eOr_ap, aNil_ap, aCons_ap, sNil_ap, sCons_ap, eTup_ap, eLst_ap, eCall_ap, eApp_ap, oNone_ap, oSome_ap, eSl_ap, sNil'_ap, sSeq_ap, sBrk_ap, sRet_ap, sRetN_ap, sRetO_ap, sDrop_ap, sIf_ap, sSet_ap, sApp_ap, sTown_ap, sExt_ap, sIns_ap, sSetIx_ap, sAsg_ap, sPar_ap, iOf_ap, iVal_ap, iRng1_ap, iRng2_ap, sFor_ap, eComp_ap, bYes_ap, frzAt_ap, eUn_ap, eNotD_ap, eOrD_ap, eChain_ap, eListRg1_ap, eIsa_ap, eMt_ap, iEnumV_ap, iEnumF_ap, iZipV_ap, iZipF_ap, eTLen_ap, iRng3D_ap, sEnd_ap, eSs_ap, sPar3_ap, xPop_ap, xTup1_ap, xCat_ap, sSetX_ap, sAppX_ap, sParO_ap, sForEI_ap, sForK_ap, runB_ap, gOne_ap, gMany_ap, dI_ap, yesC_ap, dCmp_int, setD, kill_nx, kill_rt, kill_bk, Option.bind_some, Option.map_some, Option.bind_none, Option.map_none, List.getElem?_cons_zero, List.getElem?_cons_succ, List.set_cons_zero, List.set_cons_succ, List.cons_append, List.nil_append, List.append_nil, List.replicate, List.length_cons, List.length_nil, Nat.reduceAdd, Nat.reduceSub, Nat.zero_add, wdat_no, wdat_d, wdat_town, wdat_ol, wdat_od, wfrz_no, wfrz_d, wfrz_town, wfrz_ol, wfrz_od, wval_no, wval_d, wval_town, wval_ol, wval_od, warg_no, warg_d, warg_town, warg_ol, warg_od, vals, gLen, gAbs, gMax2, gMin2, gInt, gTup, gList, wipeW, if_true, if_false, Bool.false_eq_true, Bool.not_true, Bool.not_false, reduceCtorEq, q_Up_Up, q_Up_Down, q_Up_Part, q_Up_Rest, q_Up_Table, q_Up_Among, q_Up_Sum, q_Up_Gap, q_Down_Up, q_Down_Down, q_Down_Part, q_Down_Rest, q_Down_Table, q_Down_Among, q_Down_Sum, q_Down_Gap, q_Part_Up, q_Part_Down, q_Part_Part, q_Part_Rest, q_Part_Table, q_Part_Among, q_Part_Sum, q_Part_Gap, q_Rest_Up, q_Rest_Down, q_Rest_Part, q_Rest_Rest, q_Rest_Table, q_Rest_Among, q_Rest_Sum, q_Rest_Gap, q_Table_Up, q_Table_Down, q_Table_Part, q_Table_Rest, q_Table_Table, q_Table_Among, q_Table_Sum, q_Table_Gap, q_Among_Up, q_Among_Down, q_Among_Part, q_Among_Rest, q_Among_Table, q_Among_Among, q_Among_Sum, q_Among_Gap, q_Sum_Up, q_Sum_Down, q_Sum_Part, q_Sum_Rest, q_Sum_Table, q_Sum_Among, q_Sum_Sum, q_Sum_Gap, q_Gap_Up, q_Gap_Down, q_Gap_Part, q_Gap_Rest, q_Gap_Table, q_Gap_Among, q_Gap_Sum, q_Gap_Gap, q_Most_Up, q_Most_Down, q_Most_Part, q_Most_Rest, q_Most_Table, q_Most_Among, q_Most_Sum, q_Most_Gap, i0, i1, i2, dAdd_int, dSub_int, rLt, rLe, rGt, rGe, dEq_int, dNe_int, dIn_ints, dNotIn_ints, isTupD, isLstD, PK.d, ixTh (t := t) (show pl3 a from h.1), hm, decide_false, PK.worth]
  | sum a b => simp -implicitDefEqProofs only [eVar_ap, dVar_ap, eC_ap, dOf_ap, eFrz_ap, eBin_ap, bTest_ap, bTru_ap, bAnd_ap, bOr_ap, bNot_ap, eIf_ap, eB_ap, eAnd_ap, eOr_ap, aNil_ap, aCons_ap, sNil_ap, sCons_ap, eTup_ap, eLst_ap, eCall_ap, eApp_ap, oNone_ap, oSome_ap, eSl_ap, sNil'_ap, sSeq_ap, sBrk_ap, sRet_ap, sRetN_ap, sRetO_ap, sDrop_ap, sIf_ap, sSet_ap, sApp_ap, sTown_ap, sExt_ap, sIns_ap, sSetIx_ap, sAsg_ap, sPar_ap, iOf_ap, iVal_ap, iRng1_ap, iRng2_ap, sFor_ap, eComp_ap, bYes_ap, frzAt_ap, eUn_ap, eNotD_ap, eOrD_ap, eChain_ap, eListRg1_ap, eIsa_ap, eMt_ap, iEnumV_ap, iEnumF_ap, iZipV_ap, iZipF_ap, eTLen_ap, iRng3D_ap, sEnd_ap, eSs_ap, sPar3_ap, xPop_ap, xTup1_ap, xCat_ap, sSetX_ap, sAppX_ap, sParO_ap, sForEI_ap, sForK_ap, runB_ap, gOne_ap, gMany_ap, dI_ap, yesC_ap, dCmp_int, setD, kill_nx, kill_rt, kill_bk, Option.bind_some, Option.map_some, Option.bind_none, Option.map_none, List.getElem?_cons_zero, List.getElem?_cons_succ, List.set_cons_zero, List.set_cons_succ, List.cons_append, List.nil_append, List.append_nil, List.replicate, List.length_cons, List.length_nil, Nat.reduceAdd, Nat.reduceSub, Nat.zero_add, wdat_no, wdat_d, wdat_town, wdat_ol, wdat_od, wfrz_no, wfrz_d, wfrz_town, wfrz_ol, wfrz_od, wval_no, wval_d, wval_town, wval_ol, wval_od, warg_no, warg_d, warg_town, warg_ol, warg_od, vals, gLen, gAbs, gMax2, gMin2, gInt, gTup, gList, wipeW, if_true, if_false, Bool.false_eq_true, Bool.not_true, Bool.not_false, reduceCtorEq, q_Up_Up, q_Up_Down, q_Up_Part, q_Up_Rest, q_Up_Table, q_Up_Among, q_Up_Sum, q_Up_Gap, q_Down_Up, q_Down_Down, q_Down_Part, q_Down_Rest, q_Down_Table, q_Down_Among, q_Down_Sum, q_Down_Gap, q_Part_Up, q_Part_Down, q_Part_Part, q_Part_Rest, q_Part_Table, q_Part_Among, q_Part_Sum, q_Part_Gap, q_Rest_Up, q_Rest_Down, q_Rest_Part, q_Rest_Rest, q_Rest_Table, q_Rest_Among, q_Rest_Sum, q_Rest_Gap, q_Table_Up, q_Table_Down, q_Table_Part, q_Table_Rest, q_Table_Table, q_Table_Among, q_Table_Sum, q_Table_Gap, q_Among_Up, q_Among_Down, q_Among_Part, q_Among_Rest, q_Among_Table, q_Among_Among, q_Among_Sum, q_Among_Gap, q_Sum_Up, q_Sum_Down, q_Sum_Part, q_Sum_Rest, q_Sum_Table, q_Sum_Among, q_Sum_Sum, q_Sum_Gap, q_Gap_Up, q_Gap_Down, q_Gap_Part, q_Gap_Rest, q_Gap_Table, q_Gap_Among, q_Gap_Sum, q_Gap_Gap, q_Most_Up, q_Most_Down, q_Most_Part, q_Most_Rest, q_Most_Table, q_Most_Among, q_Most_Sum, q_Most_Gap, i0, i1, i2, dAdd_int, dSub_int, rLt, rLe, rGt, rGe, dEq_int, dNe_int, dIn_ints, dNotIn_ints, isTupD, isLstD, PK.d, ixTh (t := t) (show pl3 a from (prOk.l h).1), ixTh (t := t) (show pl3 b from (prOk.l h).2)]; rfl
  | gap a b => simp -implicitDefEqProofs only [eVar_ap, dVar_ap, eC_ap, dOf_ap, eFrz_ap, eBin_ap, bTest_ap, bTru_ap, bAnd_ap, bOr_ap, bNot_ap, eIf_ap, eB_ap, eAnd_ap, eOr_ap, aNil_ap, aCons_ap, sNil_ap, sCons_ap, eTup_ap, eLst_ap, eCall_ap, eApp_ap, oNone_ap, oSome_ap, eSl_ap, sNil'_ap, sSeq_ap, sBrk_ap, sRet_ap, sRetN_ap, sRetO_ap, sDrop_ap, sIf_ap, sSet_ap, sApp_ap, sTown_ap, sExt_ap, sIns_ap, sSetIx_ap, sAsg_ap, sPar_ap, iOf_ap, iVal_ap, iRng1_ap, iRng2_ap, sFor_ap, eComp_ap, bYes_ap, frzAt_ap, eUn_ap, eNotD_ap, eOrD_ap, eChain_ap, eListRg1_ap, eIsa_ap, eMt_ap, iEnumV_ap, iEnumF_ap, iZipV_ap, iZipF_ap, eTLen_ap, iRng3D_ap, sEnd_ap, eSs_ap, sPar3_ap, xPop_ap, xTup1_ap, xCat_ap, sSetX_ap, sAppX_ap, sParO_ap, sForEI_ap, sForK_ap, runB_ap, gOne_ap, gMany_ap, dI_ap, yesC_ap, dCmp_int, setD, kill_nx, kill_rt, kill_bk, Option.bind_some, Option.map_some, Option.bind_none, Option.map_none, List.getElem?_cons_zero, List.getElem?_cons_succ, List.set_cons_zero, List.set_cons_succ, List.cons_append, List.nil_append, List.append_nil, List.replicate, List.length_cons, List.length_nil, Nat.reduceAdd, Nat.reduceSub, Nat.zero_add, wdat_no, wdat_d, wdat_town, wdat_ol, wdat_od, wfrz_no, wfrz_d, wfrz_town, wfrz_ol, wfrz_od, wval_no, wval_d, wval_town, wval_ol, wval_od, warg_no, warg_d, warg_town, warg_ol, warg_od, vals, gLen, gAbs, gMax2, gMin2, gInt, gTup, gList, wipeW, if_true, if_false, Bool.false_eq_true, Bool.not_true, Bool.not_false, reduceCtorEq, q_Up_Up, q_Up_Down, q_Up_Part, q_Up_Rest, q_Up_Table, q_Up_Among, q_Up_Sum, q_Up_Gap, q_Down_Up, q_Down_Down, q_Down_Part, q_Down_Rest, q_Down_Table, q_Down_Among, q_Down_Sum, q_Down_Gap, q_Part_Up, q_Part_Down, q_Part_Part, q_Part_Rest, q_Part_Table, q_Part_Among, q_Part_Sum, q_Part_Gap, q_Rest_Up, q_Rest_Down, q_Rest_Part, q_Rest_Rest, q_Rest_Table, q_Rest_Among, q_Rest_Sum, q_Rest_Gap, q_Table_Up, q_Table_Down, q_Table_Part, q_Table_Rest, q_Table_Table, q_Table_Among, q_Table_Sum, q_Table_Gap, q_Among_Up, q_Among_Down, q_Among_Part, q_Among_Rest, q_Among_Table, q_Among_Among, q_Among_Sum, q_Among_Gap, q_Sum_Up, q_Sum_Down, q_Sum_Part, q_Sum_Rest, q_Sum_Table, q_Sum_Among, q_Sum_Sum, q_Sum_Gap, q_Gap_Up, q_Gap_Down, q_Gap_Part, q_Gap_Rest, q_Gap_Table, q_Gap_Among, q_Gap_Sum, q_Gap_Gap, q_Most_Up, q_Most_Down, q_Most_Part, q_Most_Rest, q_Most_Table, q_Most_Among, q_Most_Sum, q_Most_Gap, i0, i1, i2, dAdd_int, dSub_int, rLt, rLe, rGt, rGe, dEq_int, dNe_int, dIn_ints, dNotIn_ints, isTupD, isLstD, PK.d, ixTh (t := t) (show pl3 a from (prOk.l h).1), ixTh (t := t) (show pl3 b from (prOk.l h).2)]; rfl
  | most a b => simp -implicitDefEqProofs only [eVar_ap, dVar_ap, eC_ap, dOf_ap, eFrz_ap, eBin_ap, bTest_ap, bTru_ap, bAnd_ap, bOr_ap, bNot_ap, eIf_ap, eB_ap, eAnd_ap, eOr_ap, aNil_ap, aCons_ap, sNil_ap, sCons_ap, eTup_ap, eLst_ap, eCall_ap, eApp_ap, oNone_ap, oSome_ap, eSl_ap, sNil'_ap, sSeq_ap, sBrk_ap, sRet_ap, sRetN_ap, sRetO_ap, sDrop_ap, sIf_ap, sSet_ap, sApp_ap, sTown_ap, sExt_ap, sIns_ap, sSetIx_ap, sAsg_ap, sPar_ap, iOf_ap, iVal_ap, iRng1_ap, iRng2_ap, sFor_ap, eComp_ap, bYes_ap, frzAt_ap, eUn_ap, eNotD_ap, eOrD_ap, eChain_ap, eListRg1_ap, eIsa_ap, eMt_ap, iEnumV_ap, iEnumF_ap, iZipV_ap, iZipF_ap, eTLen_ap, iRng3D_ap, sEnd_ap, eSs_ap, sPar3_ap, xPop_ap, xTup1_ap, xCat_ap, sSetX_ap, sAppX_ap, sParO_ap, sForEI_ap, sForK_ap, runB_ap, gOne_ap, gMany_ap, dI_ap, yesC_ap, dCmp_int, setD, kill_nx, kill_rt, kill_bk, Option.bind_some, Option.map_some, Option.bind_none, Option.map_none, List.getElem?_cons_zero, List.getElem?_cons_succ, List.set_cons_zero, List.set_cons_succ, List.cons_append, List.nil_append, List.append_nil, List.replicate, List.length_cons, List.length_nil, Nat.reduceAdd, Nat.reduceSub, Nat.zero_add, wdat_no, wdat_d, wdat_town, wdat_ol, wdat_od, wfrz_no, wfrz_d, wfrz_town, wfrz_ol, wfrz_od, wval_no, wval_d, wval_town, wval_ol, wval_od, warg_no, warg_d, warg_town, warg_ol, warg_od, vals, gLen, gAbs, gMax2, gMin2, gInt, gTup, gList, wipeW, if_true, if_false, Bool.false_eq_true, Bool.not_true, Bool.not_false, reduceCtorEq, q_Up_Up, q_Up_Down, q_Up_Part, q_Up_Rest, q_Up_Table, q_Up_Among, q_Up_Sum, q_Up_Gap, q_Down_Up, q_Down_Down, q_Down_Part, q_Down_Rest, q_Down_Table, q_Down_Among, q_Down_Sum, q_Down_Gap, q_Part_Up, q_Part_Down, q_Part_Part, q_Part_Rest, q_Part_Table, q_Part_Among, q_Part_Sum, q_Part_Gap, q_Rest_Up, q_Rest_Down, q_Rest_Part, q_Rest_Rest, q_Rest_Table, q_Rest_Among, q_Rest_Sum, q_Rest_Gap, q_Table_Up, q_Table_Down, q_Table_Part, q_Table_Rest, q_Table_Table, q_Table_Among, q_Table_Sum, q_Table_Gap, q_Among_Up, q_Among_Down, q_Among_Part, q_Among_Rest, q_Among_Table, q_Among_Among, q_Among_Sum, q_Among_Gap, q_Sum_Up, q_Sum_Down, q_Sum_Part, q_Sum_Rest, q_Sum_Table, q_Sum_Among, q_Sum_Sum, q_Sum_Gap, q_Gap_Up, q_Gap_Down, q_Gap_Part, q_Gap_Rest, q_Gap_Table, q_Gap_Among, q_Gap_Sum, q_Gap_Gap, q_Most_Up, q_Most_Down, q_Most_Part, q_Most_Rest, q_Most_Table, q_Most_Among, q_Most_Sum, q_Most_Gap, i0, i1, i2, dAdd_int, dSub_int, rLt, rLe, rGt, rGe, dEq_int, dNe_int, dIn_ints, dNotIn_ints, isTupD, isLstD, PK.d, ixTh (t := t) (show pl3 a from (prOk.l h).1), ixTh (t := t) (show pl3 b from (prOk.l h).2)]; rfl
theorem PK.d_tup (p : PK) : ∃ s xs, p.d = .tuple (.str s :: xs) ∧ dEq (.str s) (.str sDown) = some (.d (.bool false)) := by
  cases p
  · exact ⟨_, _, rfl, q_Up_Down⟩
  · exact ⟨_, _, rfl, q_Part_Down⟩
  · exact ⟨_, _, rfl, q_Rest_Down⟩
  · exact ⟨_, _, rfl, q_Table_Down⟩
  · exact ⟨_, _, rfl, q_Among_Down⟩
  · exact ⟨_, _, rfl, q_Sum_Down⟩
  · exact ⟨_, _, rfl, q_Gap_Down⟩
  · exact ⟨_, _, rfl, q_Most_Down⟩
theorem worth_ok (k : Ky) (h : k.ok) (t : Th) (n : Nat) : m_worth [.d k.d, .d t.d] n = some (I' (k.worth t), n) := by
  cases k with
  | pl p => exact worth_pl 3 p h t n
  | dn p =>
    show m_worth_ 4 _ _ = _
    unfold m_worth_ b_worth
    simp -implicitDefEqProofs only [eVar_ap, dVar_ap, eC_ap, dOf_ap, eFrz_ap, eBin_ap, bTest_ap, bTru_ap, bAnd_ap, bOr_ap, bNot_ap, eIf_ap, eB_ap, eAnd_ap, eOr_ap, aNil_ap, aCons_ap, sNil_ap, sCons_ap, eTup_ap, eLst_ap, eCall_ap, eApp_ap, oNone_ap, oSome_ap, eSl_ap, sNil'_ap, sSeq_ap, sBrk_ap, sRet_ap, sRetN_ap, sRetO_ap, sDrop_ap, sIf_ap, sSet_ap, sApp_ap, sTown_ap, sExt_ap, sIns_ap, sSetIx_ap, sAsg_ap, sPar_ap, iOf_ap, iVal_ap, iRng1_ap, iRng2_ap, sFor_ap, eComp_ap, bYes_ap, frzAt_ap, eUn_ap, eNotD_ap, eOrD_ap, eChain_ap, eListRg1_ap, eIsa_ap, eMt_ap, iEnumV_ap, iEnumF_ap, iZipV_ap, iZipF_ap, eTLen_ap, iRng3D_ap, sEnd_ap, eSs_ap, sPar3_ap, xPop_ap, xTup1_ap, xCat_ap, sSetX_ap, sAppX_ap, sParO_ap, sForEI_ap, sForK_ap, runB_ap, gOne_ap, gMany_ap, dI_ap, yesC_ap, dCmp_int, setD, kill_nx, kill_rt, kill_bk, Option.bind_some, Option.map_some, Option.bind_none, Option.map_none, List.getElem?_cons_zero, List.getElem?_cons_succ, List.set_cons_zero, List.set_cons_succ, List.cons_append, List.nil_append, List.append_nil, List.replicate, List.length_cons, List.length_nil, Nat.reduceAdd, Nat.reduceSub, Nat.zero_add, wdat_no, wdat_d, wdat_town, wdat_ol, wdat_od, wfrz_no, wfrz_d, wfrz_town, wfrz_ol, wfrz_od, wval_no, wval_d, wval_town, wval_ol, wval_od, warg_no, warg_d, warg_town, warg_ol, warg_od, vals, gLen, gAbs, gMax2, gMin2, gInt, gTup, gList, wipeW, if_true, if_false, Bool.false_eq_true, Bool.not_true, Bool.not_false, reduceCtorEq, q_Up_Up, q_Up_Down, q_Up_Part, q_Up_Rest, q_Up_Table, q_Up_Among, q_Up_Sum, q_Up_Gap, q_Down_Up, q_Down_Down, q_Down_Part, q_Down_Rest, q_Down_Table, q_Down_Among, q_Down_Sum, q_Down_Gap, q_Part_Up, q_Part_Down, q_Part_Part, q_Part_Rest, q_Part_Table, q_Part_Among, q_Part_Sum, q_Part_Gap, q_Rest_Up, q_Rest_Down, q_Rest_Part, q_Rest_Rest, q_Rest_Table, q_Rest_Among, q_Rest_Sum, q_Rest_Gap, q_Table_Up, q_Table_Down, q_Table_Part, q_Table_Rest, q_Table_Table, q_Table_Among, q_Table_Sum, q_Table_Gap, q_Among_Up, q_Among_Down, q_Among_Part, q_Among_Rest, q_Among_Table, q_Among_Among, q_Among_Sum, q_Among_Gap, q_Sum_Up, q_Sum_Down, q_Sum_Part, q_Sum_Rest, q_Sum_Table, q_Sum_Among, q_Sum_Sum, q_Sum_Gap, q_Gap_Up, q_Gap_Down, q_Gap_Part, q_Gap_Rest, q_Gap_Table, q_Gap_Among, q_Gap_Sum, q_Gap_Gap, q_Most_Up, q_Most_Down, q_Most_Part, q_Most_Rest, q_Most_Table, q_Most_Among, q_Most_Sum, q_Most_Gap, i0, i1, i2, dAdd_int, dSub_int, rLt, rLe, rGt, rGe, dEq_int, dNe_int, dIn_ints, dNotIn_ints, isTupD, isLstD, Ky.d, worth_pl 2 p h t n]
    rfl
/-! rows -/
abbrev Rw := List Ky
def Rw.ok (r : Rw) : Prop := ∀ k ∈ r, k.ok
def wts (r : Rw) (t : Th) : List Int := r.map fun k => k.worth t
theorem worths_ok (r : Rw) (h : Rw.ok r) (hl : r.length ≤ 1000000) (t : Th) (n : Nat) : m_worths [.d (rowD r), .d t.d] n = some (.d (ti (wts r t)), n) := by
  have e : loopC (gOne 2) [2] bYes (eCall m_worth (aCons (eVar 2) (aCons (eVar 1) aNil))) [.d (rowD r), .d t.d, .no] (r.map Ky.d) n = some ((wts r t).map .int, n) := by
    unfold wts
    clear hl
    suffices ∀ (ρ0 : W), loopC (gOne 2) [2] bYes (eCall m_worth (aCons (eVar 2) (aCons (eVar 1) aNil))) [ρ0, .d t.d, .no] (r.map Ky.d) n = some ((r.map fun k => k.worth t).map .int, n) from this _
    intro ρ0
    induction r with
    | nil => rfl
    | cons k r ih =>
      rw [List.map_cons, loopC_cons]
      simp -implicitDefEqProofs only [eVar_ap, dVar_ap, eC_ap, dOf_ap, eFrz_ap, eBin_ap, bTest_ap, bTru_ap, bAnd_ap, bOr_ap, bNot_ap, eIf_ap, eB_ap, eAnd_ap, eOr_ap, aNil_ap, aCons_ap, sNil_ap, sCons_ap, eTup_ap, eLst_ap, eCall_ap, eApp_ap, oNone_ap, oSome_ap, eSl_ap, sNil'_ap, sSeq_ap, sBrk_ap, sRet_ap, sRetN_ap, sRetO_ap, sDrop_ap, sIf_ap, sSet_ap, sApp_ap, sTown_ap, sExt_ap, sIns_ap, sSetIx_ap, sAsg_ap, sPar_ap, iOf_ap, iVal_ap, iRng1_ap, iRng2_ap, sFor_ap, eComp_ap, bYes_ap, frzAt_ap, eUn_ap, eNotD_ap, eOrD_ap, eChain_ap, eListRg1_ap, eIsa_ap, eMt_ap, iEnumV_ap, iEnumF_ap, iZipV_ap, iZipF_ap, eTLen_ap, iRng3D_ap, sEnd_ap, eSs_ap, sPar3_ap, xPop_ap, xTup1_ap, xCat_ap, sSetX_ap, sAppX_ap, sParO_ap, sForEI_ap, sForK_ap, runB_ap, gOne_ap, gMany_ap, dI_ap, yesC_ap, dCmp_int, setD, kill_nx, kill_rt, kill_bk, Option.bind_some, Option.map_some, Option.bind_none, Option.map_none, List.getElem?_cons_zero, List.getElem?_cons_succ, List.set_cons_zero, List.set_cons_succ, List.cons_append, List.nil_append, List.append_nil, List.replicate, List.length_cons, List.length_nil, Nat.reduceAdd, Nat.reduceSub, Nat.zero_add, wdat_no, wdat_d, wdat_town, wdat_ol, wdat_od, wfrz_no, wfrz_d, wfrz_town, wfrz_ol, wfrz_od, wval_no, wval_d, wval_town, wval_ol, wval_od, warg_no, warg_d, warg_town, warg_ol, warg_od, vals, gLen, gAbs, gMax2, gMin2, gInt, gTup, gList, wipeW, if_true, if_false, Bool.false_eq_true, Bool.not_true, Bool.not_false, reduceCtorEq, worth_ok k (h k (List.mem_cons_self ..)) t n, ih fun z hz => h z (List.mem_cons_of_mem _ hz), List.map_cons]
  have hb : (r.map Ky.d).length ≤ big := by rw [List.length_map]; exact le_big hl
  unfold m_worths b_worths
  simp -implicitDefEqProofs only [eVar_ap, dVar_ap, eC_ap, dOf_ap, eFrz_ap, eBin_ap, bTest_ap, bTru_ap, bAnd_ap, bOr_ap, bNot_ap, eIf_ap, eB_ap, eAnd_ap, eOr_ap, aNil_ap, aCons_ap, sNil_ap, sCons_ap, eTup_ap, eLst_ap, eCall_ap, eApp_ap, oNone_ap, oSome_ap, eSl_ap, sNil'_ap, sSeq_ap, sBrk_ap, sRet_ap, sRetN_ap, sRetO_ap, sDrop_ap, sIf_ap, sSet_ap, sApp_ap, sTown_ap, sExt_ap, sIns_ap, sSetIx_ap, sAsg_ap, sPar_ap, iOf_ap, iVal_ap, iRng1_ap, iRng2_ap, sFor_ap, eComp_ap, bYes_ap, frzAt_ap, eUn_ap, eNotD_ap, eOrD_ap, eChain_ap, eListRg1_ap, eIsa_ap, eMt_ap, iEnumV_ap, iEnumF_ap, iZipV_ap, iZipF_ap, eTLen_ap, iRng3D_ap, sEnd_ap, eSs_ap, sPar3_ap, xPop_ap, xTup1_ap, xCat_ap, sSetX_ap, sAppX_ap, sParO_ap, sForEI_ap, sForK_ap, runB_ap, gOne_ap, gMany_ap, dI_ap, yesC_ap, dCmp_int, setD, kill_nx, kill_rt, kill_bk, Option.bind_some, Option.map_some, Option.bind_none, Option.map_none, List.getElem?_cons_zero, List.getElem?_cons_succ, List.set_cons_zero, List.set_cons_succ, List.cons_append, List.nil_append, List.append_nil, List.replicate, List.length_cons, List.length_nil, Nat.reduceAdd, Nat.reduceSub, Nat.zero_add, wdat_no, wdat_d, wdat_town, wdat_ol, wdat_od, wfrz_no, wfrz_d, wfrz_town, wfrz_ol, wfrz_od, wval_no, wval_d, wval_town, wval_ol, wval_od, warg_no, warg_d, warg_town, warg_ol, warg_od, vals, gLen, gAbs, gMax2, gMin2, gInt, gTup, gList, wipeW, if_true, if_false, Bool.false_eq_true, Bool.not_true, Bool.not_false, reduceCtorEq, iSeq, hb, e]
/-- 1, 0, -1 -/
def tld (r : Rw) (s t : Th) : Int := (if lexB rGt zGt (wts r s) (wts r t) then 1 else 0) - (if lexB rLt zLt (wts r s) (wts r t) then 1 else 0)
theorem told_ok (r : Rw) (h : Rw.ok r) (hl : r.length ≤ 1000000) (s t : Th) (n : Nat) : m_told [.d (rowD r), .d s.d, .d t.d] n = some (I' (tld r s t), n) := by
  unfold m_told b_told
  simp -implicitDefEqProofs only [eVar_ap, dVar_ap, eC_ap, dOf_ap, eFrz_ap, eBin_ap, bTest_ap, bTru_ap, bAnd_ap, bOr_ap, bNot_ap, eIf_ap, eB_ap, eAnd_ap, eOr_ap, aNil_ap, aCons_ap, sNil_ap, sCons_ap, eTup_ap, eLst_ap, eCall_ap, eApp_ap, oNone_ap, oSome_ap, eSl_ap, sNil'_ap, sSeq_ap, sBrk_ap, sRet_ap, sRetN_ap, sRetO_ap, sDrop_ap, sIf_ap, sSet_ap, sApp_ap, sTown_ap, sExt_ap, sIns_ap, sSetIx_ap, sAsg_ap, sPar_ap, iOf_ap, iVal_ap, iRng1_ap, iRng2_ap, sFor_ap, eComp_ap, bYes_ap, frzAt_ap, eUn_ap, eNotD_ap, eOrD_ap, eChain_ap, eListRg1_ap, eIsa_ap, eMt_ap, iEnumV_ap, iEnumF_ap, iZipV_ap, iZipF_ap, eTLen_ap, iRng3D_ap, sEnd_ap, eSs_ap, sPar3_ap, xPop_ap, xTup1_ap, xCat_ap, sSetX_ap, sAppX_ap, sParO_ap, sForEI_ap, sForK_ap, runB_ap, gOne_ap, gMany_ap, dI_ap, yesC_ap, dCmp_int, setD, kill_nx, kill_rt, kill_bk, Option.bind_some, Option.map_some, Option.bind_none, Option.map_none, List.getElem?_cons_zero, List.getElem?_cons_succ, List.set_cons_zero, List.set_cons_succ, List.cons_append, List.nil_append, List.append_nil, List.replicate, List.length_cons, List.length_nil, Nat.reduceAdd, Nat.reduceSub, Nat.zero_add, wdat_no, wdat_d, wdat_town, wdat_ol, wdat_od, wfrz_no, wfrz_d, wfrz_town, wfrz_ol, wfrz_od, wval_no, wval_d, wval_town, wval_ol, wval_od, warg_no, warg_d, warg_town, warg_ol, warg_od, vals, gLen, gAbs, gMax2, gMin2, gInt, gTup, gList, wipeW, if_true, if_false, Bool.false_eq_true, Bool.not_true, Bool.not_false, reduceCtorEq, worths_ok r h hl s n, worths_ok r h hl t n, dCmp_tup, dSub_int]
  rfl
end L2.Lv.Sh
namespace L2.Lv.Sh
open PySem PySem.Spec PyProof.Rows L2 L2.Lv
theorem Th.at_ok {t : Th} (h : t.ok) (a : Int) : 0 ≤ t.at a ∧ t.at a < 6 := by
  obtain ⟨h1, h2, h3⟩ := h
  unfold Th.at
  split
  · exact h1
  split
  · exact h2
  · exact h3
theorem rng2_ok {i j : Int} (h : 0 ≤ i) (h1 : i ≤ j) (h2 : j < 1000000) : rng2 (.int i) (.int j) = some (rangeD i (j - i).toNat) := by
  show (if _ then _ else _) = _
  rw [if_pos (by omega)]
theorem rng2_16 : rng2 (.int 1) (.int 6) = some [.int 1, .int 2, .int 3, .int 4, .int 5] := by
  rw [rng2_ok (by decide) (by decide) (by decide)]; rfl
theorem part_count (x d : Int) (h : 0 ≤ x) (h2 : x < 6) (hd : d = 2 ∨ d = 3) : ((([1, 2, 3, 4, 5] : List Int).filter fun k => decide (k ≤ x) && (k % d == 0)).length : Int) = x / d := by
  have : x = 0 ∨ x = 1 ∨ x = 2 ∨ x = 3 ∨ x = 4 ∨ x = 5 := by omega
  rcases hd with rfl | rfl <;> rcases this with rfl | rfl | rfl | rfl | rfl | rfl <;> decide

theorem lpart (ρ0 ρ1 : W) (x d : Int) (hx : 0 ≤ x) (hx2 : x < 6) (hd : d = 2 ∨ d = 3) (a : Int) (n : Nat) :
    (loopC (gOne 3) [3] (bAnd (bTest (eBin (dCmp rLe zLe) (dVar 3) (dVar 2))) (bTest (eBin dEq (dOf (eBin dMod (dVar 3) (dOf (eBin dIx (dVar 0) (dOf (eC (.int 2))))))) (dOf (eC (.int 0)))))) (eVar 3)
      [.d (.tuple [.str sPart, .int a, .int d]), ρ1, I' x, .no, .no] [.int 1, .int 2, .int 3, .int 4, .int 5] n) = some (((([1, 2, 3, 4, 5] : List Int).filter fun k => decide (k ≤ x) && (k % d == 0))).map .int, n) := by
  have hm : ∀ k : Int, modC k d = true := fun k => modC_ok (by rcases hd with rfl | rfl <;> decide)
  have key : ∀ l : List Int, loopC (gOne 3) [3] (bAnd (bTest (eBin (dCmp rLe zLe) (dVar 3) (dVar 2))) (bTest (eBin dEq (dOf (eBin dMod (dVar 3) (dOf (eBin dIx (dVar 0) (dOf (eC (.int 2))))))) (dOf (eC (.int 0)))))) (eVar 3)
      [.d (.tuple [.str sPart, .int a, .int d]), ρ1, I' x, .no, .no] (l.map .int) n = some ((l.filter fun k => decide (k ≤ x) && (k % d == 0)).map .int, n) := by
    intro l
    induction l with
    | nil => rfl
    | cons k l ih =>
      rw [List.map_cons, loopC_cons]
      by_cases h1 : k ≤ x
      · by_cases h2 : k % d = 0
        · have h2' : (k % d == 0) = true := by simpa using h2
          simp -implicitDefEqProofs only [eVar_ap, dVar_ap, eC_ap, dOf_ap, eFrz_ap, eBin_ap, bTest_ap, bTru_ap, bAnd_ap, bOr_ap, bNot_ap, eIf_ap, eB_ap, eAnd_ap, eOr_ap, aNil_ap, aCons_ap, sNil_ap, sCons_ap, eTup_ap, eLst_ap, eCall_ap, eApp_ap, oNone_ap, oSome_ap, eSl_ap, sNil'_ap, sSeq_ap, sBrk_ap, sRet_ap, sRetN_ap, sRetO_ap, sDrop_ap, sIf_ap, sSet_ap, sApp_ap, sTown_ap, sExt_ap, sIns_ap, sSetIx_ap, sAsg_ap, sPar_ap, iOf_ap, iVal_ap, iRng1_ap, iRng2_ap, sFor_ap, eComp_ap, bYes_ap, frzAt_ap, eUn_ap, eNotD_ap, eOrD_ap, eChain_ap, eListRg1_ap, eIsa_ap, eMt_ap, iEnumV_ap, iEnumF_ap, iZipV_ap, iZipF_ap, eTLen_ap, iRng3D_ap, sEnd_ap, eSs_ap, sPar3_ap, xPop_ap, xTup1_ap, xCat_ap, sSetX_ap, sAppX_ap, sParO_ap, sForEI_ap, sForK_ap, runB_ap, gOne_ap, gMany_ap, dI_ap, yesC_ap, dCmp_int, setD, kill_nx, kill_rt, kill_bk, Option.bind_some, Option.map_some, Option.bind_none, Option.map_none, List.getElem?_cons_zero, List.getElem?_cons_succ, List.set_cons_zero, List.set_cons_succ, List.cons_append, List.nil_append, List.append_nil, List.replicate, List.length_cons, List.length_nil, Nat.reduceAdd, Nat.reduceSub, Nat.zero_add, wdat_no, wdat_d, wdat_town, wdat_ol, wdat_od, wfrz_no, wfrz_d, wfrz_town, wfrz_ol, wfrz_od, wval_no, wval_d, wval_town, wval_ol, wval_od, warg_no, warg_d, warg_town, warg_ol, warg_od, vals, gLen, gAbs, gMax2, gMin2, gInt, gTup, gList, wipeW, if_true, if_false, Bool.false_eq_true, Bool.not_true, Bool.not_false, reduceCtorEq, q_Up_Up, q_Up_Down, q_Up_Part, q_Up_Rest, q_Up_Table, q_Up_Among, q_Up_Sum, q_Up_Gap, q_Down_Up, q_Down_Down, q_Down_Part, q_Down_Rest, q_Down_Table, q_Down_Among, q_Down_Sum, q_Down_Gap, q_Part_Up, q_Part_Down, q_Part_Part, q_Part_Rest, q_Part_Table, q_Part_Among, q_Part_Sum, q_Part_Gap, q_Rest_Up, q_Rest_Down, q_Rest_Part, q_Rest_Rest, q_Rest_Table, q_Rest_Among, q_Rest_Sum, q_Rest_Gap, q_Table_Up, q_Table_Down, q_Table_Part, q_Table_Rest, q_Table_Table, q_Table_Among, q_Table_Sum, q_Table_Gap, q_Among_Up, q_Among_Down, q_Among_Part, q_Among_Rest, q_Among_Table, q_Among_Among, q_Among_Sum, q_Among_Gap, q_Sum_Up, q_Sum_Down, q_Sum_Part, q_Sum_Rest, q_Sum_Table, q_Sum_Among, q_Sum_Sum, q_Sum_Gap, q_Gap_Up, q_Gap_Down, q_Gap_Part, q_Gap_Rest, q_Gap_Table, q_Gap_Among, q_Gap_Sum, q_Gap_Gap, q_Most_Up, q_Most_Down, q_Most_Part, q_Most_Rest, q_Most_Table, q_Most_Among, q_Most_Sum, q_Most_Gap, i0, i1, i2, dAdd_int, dSub_int, rLt, rLe, rGt, rGe, dEq_int, dNe_int, dIn_ints, dNotIn_ints, isTupD, isLstD, PK.d, h1, decide_true, hm, h2', ih, List.filter_cons, Bool.and_self, List.map_cons]
        · have h2' : (k % d == 0) = false := by simpa using h2
          simp -implicitDefEqProofs only [eVar_ap, dVar_ap, eC_ap, dOf_ap, eFrz_ap, eBin_ap, bTest_ap, bTru_ap, bAnd_ap, bOr_ap, bNot_ap, eIf_ap, eB_ap, eAnd_ap, eOr_ap, aNil_ap, aCons_ap, sNil_ap, sCons_ap, eTup_ap, eLst_ap, eCall_ap, eApp_ap, oNone_ap, oSome_ap, eSl_ap, sNil'_ap, sSeq_ap, sBrk_ap, sRet_ap, sRetN_ap, sRetO_ap, sDrop_ap, sIf_ap, sSet_ap, sApp_ap, sTown_ap, sExt_ap, sIns_ap, sSetIx_ap, sAsg_ap, sPar_ap, iOf_ap, iVal_ap, iRng1_ap, iRng2_ap, sFor_ap, eComp_ap, bYes_ap, frzAt_ap, eUn_ap, eNotD_ap, eOrD_ap, eChain_ap, eListRg1_ap, eIsa_ap, eMt_ap, iEnumV_ap, iEnumF_ap, iZipV_ap, iZipF_ap, eTLen_ap, iRng3D_ap, sEnd_ap, eSs_ap, sPar3_ap, xPop_ap, xTup1_ap, xCat_ap, sSetX_ap, sAppX_ap, sParO_ap, sForEI_ap, sForK_ap, runB_ap, gOne_ap, gMany_ap, dI_ap, yesC_ap, dCmp_int, setD, kill_nx, kill_rt, kill_bk, Option.bind_some, Option.map_some, Option.bind_none, Option.map_none, List.getElem?_cons_zero, List.getElem?_cons_succ, List.set_cons_zero, List.set_cons_succ, List.cons_append, List.nil_append, List.append_nil, List.replicate, List.length_cons, List.length_nil, Nat.reduceAdd, Nat.reduceSub, Nat.zero_add, wdat_no, wdat_d, wdat_town, wdat_ol, wdat_od, wfrz_no, wfrz_d, wfrz_town, wfrz_ol, wfrz_od, wval_no, wval_d, wval_town, wval_ol, wval_od, warg_no, warg_d, warg_town, warg_ol, warg_od, vals, gLen, gAbs, gMax2, gMin2, gInt, gTup, gList, wipeW, if_true, if_false, Bool.false_eq_true, Bool.not_true, Bool.not_false, reduceCtorEq, q_Up_Up, q_Up_Down, q_Up_Part, q_Up_Rest, q_Up_Table, q_Up_Among, q_Up_Sum, q_Up_Gap, q_Down_Up, q_Down_Down, q_Down_Part, q_Down_Rest, q_Down_Table, q_Down_Among, q_Down_Sum, q_Down_Gap, q_Part_Up, q_Part_Down, q_Part_Part, q_Part_Rest, q_Part_Table, q_Part_Among, q_Part_Sum, q_Part_Gap, q_Rest_Up, q_Rest_Down, q_Rest_Part, q_Rest_Rest, q_Rest_Table, q_Rest_Among, q_Rest_Sum, q_Rest_Gap, q_Table_Up, q_Table_Down, q_Table_Part, q_Table_Rest, q_Table_Table, q_Table_Among, q_Table_Sum, q_Table_Gap, q_Among_Up, q_Among_Down, q_Among_Part, q_Among_Rest, q_Among_Table, q_Among_Among, q_Among_Sum, q_Among_Gap, q_Sum_Up, q_Sum_Down, q_Sum_Part, q_Sum_Rest, q_Sum_Table, q_Sum_Among, q_Sum_Sum, q_Sum_Gap, q_Gap_Up, q_Gap_Down, q_Gap_Part, q_Gap_Rest, q_Gap_Table, q_Gap_Among, q_Gap_Sum, q_Gap_Gap, q_Most_Up, q_Most_Down, q_Most_Part, q_Most_Rest, q_Most_Table, q_Most_Among, q_Most_Sum, q_Most_Gap, i0, i1, i2, dAdd_int, dSub_int, rLt, rLe, rGt, rGe, dEq_int, dNe_int, dIn_ints, dNotIn_ints, isTupD, isLstD, PK.d, h1, decide_true, hm, h2', ih, List.filter_cons, Bool.and_false, List.map_cons]
      · simp -implicitDefEqProofs only [eVar_ap, dVar_ap, eC_ap, dOf_ap, eFrz_ap, eBin_ap, bTest_ap, bTru_ap, bAnd_ap, bOr_ap, bNot_ap, eIf_ap, eB_ap, eAnd_ap, eOr_ap, aNil_ap, aCons_ap, sNil_ap, sCons_ap, eTup_ap, eLst_ap, eCall_ap, eApp_ap, oNone_ap, oSome_ap, eSl_ap, sNil'_ap, sSeq_ap, sBrk_ap, sRet_ap, sRetN_ap, sRetO_ap, sDrop_ap, sIf_ap, sSet_ap, sApp_ap, sTown_ap, sExt_ap, sIns_ap, sSetIx_ap, sAsg_ap, sPar_ap, iOf_ap, iVal_ap, iRng1_ap, iRng2_ap, sFor_ap, eComp_ap, bYes_ap, frzAt_ap, eUn_ap, eNotD_ap, eOrD_ap, eChain_ap, eListRg1_ap, eIsa_ap, eMt_ap, iEnumV_ap, iEnumF_ap, iZipV_ap, iZipF_ap, eTLen_ap, iRng3D_ap, sEnd_ap, eSs_ap, sPar3_ap, xPop_ap, xTup1_ap, xCat_ap, sSetX_ap, sAppX_ap, sParO_ap, sForEI_ap, sForK_ap, runB_ap, gOne_ap, gMany_ap, dI_ap, yesC_ap, dCmp_int, setD, kill_nx, kill_rt, kill_bk, Option.bind_some, Option.map_some, Option.bind_none, Option.map_none, List.getElem?_cons_zero, List.getElem?_cons_succ, List.set_cons_zero, List.set_cons_succ, List.cons_append, List.nil_append, List.append_nil, List.replicate, List.length_cons, List.length_nil, Nat.reduceAdd, Nat.reduceSub, Nat.zero_add, wdat_no, wdat_d, wdat_town, wdat_ol, wdat_od, wfrz_no, wfrz_d, wfrz_town, wfrz_ol, wfrz_od, wval_no, wval_d, wval_town, wval_ol, wval_od, warg_no, warg_d, warg_town, warg_ol, warg_od, vals, gLen, gAbs, gMax2, gMin2, gInt, gTup, gList, wipeW, if_true, if_false, Bool.false_eq_true, Bool.not_true, Bool.not_false, reduceCtorEq, q_Up_Up, q_Up_Down, q_Up_Part, q_Up_Rest, q_Up_Table, q_Up_Among, q_Up_Sum, q_Up_Gap, q_Down_Up, q_Down_Down, q_Down_Part, q_Down_Rest, q_Down_Table, q_Down_Among, q_Down_Sum, q_Down_Gap, q_Part_Up, q_Part_Down, q_Part_Part, q_Part_Rest, q_Part_Table, q_Part_Among, q_Part_Sum, q_Part_Gap, q_Rest_Up, q_Rest_Down, q_Rest_Part, q_Rest_Rest, q_Rest_Table, q_Rest_Among, q_Rest_Sum, q_Rest_Gap, q_Table_Up, q_Table_Down, q_Table_Part, q_Table_Rest, q_Table_Table, q_Table_Among, q_Table_Sum, q_Table_Gap, q_Among_Up, q_Among_Down, q_Among_Part, q_Among_Rest, q_Among_Table, q_Among_Among, q_Among_Sum, q_Among_Gap, q_Sum_Up, q_Sum_Down, q_Sum_Part, q_Sum_Rest, q_Sum_Table, q_Sum_Among, q_Sum_Sum, q_Sum_Gap, q_Gap_Up, q_Gap_Down, q_Gap_Part, q_Gap_Rest, q_Gap_Table, q_Gap_Among, q_Gap_Sum, q_Gap_Gap, q_Most_Up, q_Most_Down, q_Most_Part, q_Most_Rest, q_Most_Table, q_Most_Among, q_Most_Sum, q_Most_Gap, i0, i1, i2, dAdd_int, dSub_int, rLt, rLe, rGt, rGe, dEq_int, dNe_int, dIn_ints, dNotIn_ints, isTupD, isLstD, PK.d, h1, decide_false, ih, List.filter_cons, Bool.false_and, List.map_cons]
  exact key [1, 2, 3, 4, 5]
theorem lworth_pl (k : Nat) (p : PK) (h : p.ok) (t : Th) (ht : t.ok) (n : Nat) : m__law_worth_ (k + 1) [.d p.d, .d t.d] n = some (I' (p.worth t), n) := by
  unfold m__law_worth_ b__law_worth
  have ha := Th.at_ok ht
  cases p with
  | up a => simp -implicitDefEqProofs only [eVar_ap, dVar_ap, eC_ap, dOf_ap, eFrz_ap, eBin_ap, bTest_ap, bTru_ap, bAnd_ap, bOr_ap, bNot_ap, eIf_ap, eB_ap, eAnd_ap, eOr_ap, aNil_ap, aCons_ap, sNil_ap, sCons_ap, eTup_ap, eLst_ap, eCall_ap, eApp_ap, oNone_ap, oSome_ap, eSl_ap, sNil'_ap, sSeq_ap, sBrk_ap, sRet_ap, sRetN_ap, sRetO_ap, sDrop_ap, sIf_ap, sSet_ap, sApp_ap, sTown_ap, sExt_ap, sIns_ap, sSetIx_ap, sAsg_ap, sPar_ap, iOf_ap, iVal_ap, iRng1_ap, iRng2_ap, sFor_ap, eComp_ap, bYes_ap, frzAt_ap, eUn_ap, eNotD_ap, eOrD_ap, eChain_ap, eListRg1_ap, eIsa_ap, eMt_ap, iEnumV_ap, iEnumF_ap, iZipV_ap, iZipF_ap, eTLen_ap, iRng3D_ap, sEnd_ap, eSs_ap, sPar3_ap, xPop_ap, xTup1_ap, xCat_ap, sSetX_ap, sAppX_ap, sParO_ap, sForEI_ap, sForK_ap, runB_ap, gOne_ap, gMany_ap, dI_ap, yesC_ap, dCmp_int, setD, kill_nx, kill_rt, kill_bk, Option.bind_some, Option.map_some, Option.bind_none, Option.map_none, List.getElem?_cons_zero, List.getElem?_cons_succ, List.set_cons_zero, List.set_cons_succ, List.cons_append, List.nil_append, List.append_nil, List.replicate, List.length_cons, List.length_nil, Nat.reduceAdd, Nat.reduceSub, Nat.zero_add, wdat_no, wdat_d, wdat_town, wdat_ol, wdat_od, wfrz_no, wfrz_d, wfrz_town, wfrz_ol, wfrz_od, wval_no, wval_d, wval_town, wval_ol, wval_od, warg_no, warg_d, warg_town, warg_ol, warg_od, vals, gLen, gAbs, gMax2, gMin2, gInt, gTup, gList, wipeW, if_true, if_false, Bool.false_eq_true, Bool.not_true, Bool.not_false, reduceCtorEq, q_Up_Up, q_Up_Down, q_Up_Part, q_Up_Rest, q_Up_Table, q_Up_Among, q_Up_Sum, q_Up_Gap, q_Down_Up, q_Down_Down, q_Down_Part, q_Down_Rest, q_Down_Table, q_Down_Among, q_Down_Sum, q_Down_Gap, q_Part_Up, q_Part_Down, q_Part_Part, q_Part_Rest, q_Part_Table, q_Part_Among, q_Part_Sum, q_Part_Gap, q_Rest_Up, q_Rest_Down, q_Rest_Part, q_Rest_Rest, q_Rest_Table, q_Rest_Among, q_Rest_Sum, q_Rest_Gap, q_Table_Up, q_Table_Down, q_Table_Part, q_Table_Rest, q_Table_Table, q_Table_Among, q_Table_Sum, q_Table_Gap, q_Among_Up, q_Among_Down, q_Among_Part, q_Among_Rest, q_Among_Table, q_Among_Among, q_Among_Sum, q_Among_Gap, q_Sum_Up, q_Sum_Down, q_Sum_Part, q_Sum_Rest, q_Sum_Table, q_Sum_Among, q_Sum_Sum, q_Sum_Gap, q_Gap_Up, q_Gap_Down, q_Gap_Part, q_Gap_Rest, q_Gap_Table, q_Gap_Among, q_Gap_Sum, q_Gap_Gap, q_Most_Up, q_Most_Down, q_Most_Part, q_Most_Rest, q_Most_Table, q_Most_Among, q_Most_Sum, q_Most_Gap, i0, i1, i2, dAdd_int, dSub_int, rLt, rLe, rGt, rGe, dEq_int, dNe_int, dIn_ints, dNotIn_ints, isTupD, isLstD, PK.d, ixTh (t := t) (show pl3 a from h)]; rfl
  | part a d =>
    have hb : ([1, 2, 3, 4, 5] : List Int).length ≤ big := le_big (by decide)
    have lp := lpart (I' 0) (.d t.d) (t.at a) d (ha a).1 (ha a).2 h.2 a n
    have hb5 : 5 ≤ big := le_big (by decide)
    simp -implicitDefEqProofs only [eVar_ap, dVar_ap, eC_ap, dOf_ap, eFrz_ap, eBin_ap, bTest_ap, bTru_ap, bAnd_ap, bOr_ap, bNot_ap, eIf_ap, eB_ap, eAnd_ap, eOr_ap, aNil_ap, aCons_ap, sNil_ap, sCons_ap, eTup_ap, eLst_ap, eCall_ap, eApp_ap, oNone_ap, oSome_ap, eSl_ap, sNil'_ap, sSeq_ap, sBrk_ap, sRet_ap, sRetN_ap, sRetO_ap, sDrop_ap, sIf_ap, sSet_ap, sApp_ap, sTown_ap, sExt_ap, sIns_ap, sSetIx_ap, sAsg_ap, sPar_ap, iOf_ap, iVal_ap, iRng1_ap, iRng2_ap, sFor_ap, eComp_ap, bYes_ap, frzAt_ap, eUn_ap, eNotD_ap, eOrD_ap, eChain_ap, eListRg1_ap, eIsa_ap, eMt_ap, iEnumV_ap, iEnumF_ap, iZipV_ap, iZipF_ap, eTLen_ap, iRng3D_ap, sEnd_ap, eSs_ap, sPar3_ap, xPop_ap, xTup1_ap, xCat_ap, sSetX_ap, sAppX_ap, sParO_ap, sForEI_ap, sForK_ap, runB_ap, gOne_ap, gMany_ap, dI_ap, yesC_ap, dCmp_int, setD, kill_nx, kill_rt, kill_bk, Option.bind_some, Option.map_some, Option.bind_none, Option.map_none, List.getElem?_cons_zero, List.getElem?_cons_succ, List.set_cons_zero, List.set_cons_succ, List.cons_append, List.nil_append, List.append_nil, List.replicate, List.length_cons, List.length_nil, Nat.reduceAdd, Nat.reduceSub, Nat.zero_add, wdat_no, wdat_d, wdat_town, wdat_ol, wdat_od, wfrz_no, wfrz_d, wfrz_town, wfrz_ol, wfrz_od, wval_no, wval_d, wval_town, wval_ol, wval_od, warg_no, warg_d, warg_town, warg_ol, warg_od, vals, gLen, gAbs, gMax2, gMin2, gInt, gTup, gList, wipeW, if_true, if_false, Bool.false_eq_true, Bool.not_true, Bool.not_false, reduceCtorEq, q_Up_Up, q_Up_Down, q_Up_Part, q_Up_Rest, q_Up_Table, q_Up_Among, q_Up_Sum, q_Up_Gap, q_Down_Up, q_Down_Down, q_Down_Part, q_Down_Rest, q_Down_Table, q_Down_Among, q_Down_Sum, q_Down_Gap, q_Part_Up, q_Part_Down, q_Part_Part, q_Part_Rest, q_Part_Table, q_Part_Among, q_Part_Sum, q_Part_Gap, q_Rest_Up, q_Rest_Down, q_Rest_Part, q_Rest_Rest, q_Rest_Table, q_Rest_Among, q_Rest_Sum, q_Rest_Gap, q_Table_Up, q_Table_Down, q_Table_Part, q_Table_Rest, q_Table_Table, q_Table_Among, q_Table_Sum, q_Table_Gap, q_Among_Up, q_Among_Down, q_Among_Part, q_Among_Rest, q_Among_Table, q_Among_Among, q_Among_Sum, q_Among_Gap, q_Sum_Up, q_Sum_Down, q_Sum_Part, q_Sum_Rest, q_Sum_Table, q_Sum_Among, q_Sum_Sum, q_Sum_Gap, q_Gap_Up, q_Gap_Down, q_Gap_Part, q_Gap_Rest, q_Gap_Table, q_Gap_Among, q_Gap_Sum, q_Gap_Gap, q_Most_Up, q_Most_Down, q_Most_Part, q_Most_Rest, q_Most_Table, q_Most_Among, q_Most_Sum, q_Most_Gap, i0, i1, i2, dAdd_int, dSub_int, rLt, rLe, rGt, rGe, dEq_int, dNe_int, dIn_ints, dNotIn_ints, isTupD, isLstD, PK.d, ixTh (t := t) (show pl3 a from h.1), rng2_16, hb5, lp, List.length_map, part_count _ _ (ha a).1 (ha a).2 h.2]
    rfl
  | rest a d =>
    have hd : divC (t.at a) d = true := divC_ok (by rcases h.2 with rfl | rfl <;> decide) (by rcases h.2 with rfl | rfl <;> decide)
    have hm : mulC (t.at a / d) d = true := decide_eq_true (.inr (by rcases h.2 with rfl | rfl <;> decide))
    have e : t.at a - t.at a / d * d = t.at a % d := by
      have := Int.emod_add_mul_ediv (t.at a) d
      rw [Int.mul_comm] at this
      omega
    simp -implicitDefEqProofs only [eVar_ap, dVar_ap, eC_ap, dOf_ap, eFrz_ap, eBin_ap, bTest_ap, bTru_ap, bAnd_ap, bOr_ap, bNot_ap, eIf_ap, eB_ap, eAnd_ap, eOr_ap, aNil_ap, aCons_ap, sNil_ap, sCons_ap, eTup_ap, eLst_ap, eCall_ap, eApp_ap, oNone_ap, oSome_ap, eSl_ap, sNil'_ap, sSeq_ap, sBrk_ap, sRet_ap, sRetN_ap, sRetO_ap, sDrop_ap, sIf_ap, sSet_ap, sApp_ap, sTown_ap, sExt_ap, sIns_ap, sSetIx_ap, sAsg_ap, sPar_ap, iOf_ap, iVal_ap, iRng1_ap, iRng2_ap, sFor_ap, eComp_ap, bYes_ap, frzAt_ap, eUn_ap, eNotD_ap, eOrD_ap, eChain_ap, eListRg1_ap, eIsa_ap, eMt_ap, iEnumV_ap, iEnumF_ap, iZipV_ap, iZipF_ap, eTLen_ap, iRng3D_ap, sEnd_ap, eSs_ap, sPar3_ap, xPop_ap, xTup1_ap, xCat_ap, sSetX_ap, sAppX_ap, sParO_ap, sForEI_ap, sForK_ap, runB_ap, gOne_ap, gMany_ap, dI_ap, yesC_ap, dCmp_int, setD, kill_nx, kill_rt, kill_bk, Option.bind_some, Option.map_some, Option.bind_none, Option.map_none, List.getElem?_cons_zero, List.getElem?_cons_succ, List.set_cons_zero, List.set_cons_succ, List.cons_append, List.nil_append, List.append_nil, List.replicate, List.length_cons, List.length_nil, Nat.reduceAdd, Nat.reduceSub, Nat.zero_add, wdat_no, wdat_d, wdat_town, wdat_ol, wdat_od, wfrz_no, wfrz_d, wfrz_town, wfrz_ol, wfrz_od, wval_no, wval_d, wval_town, wval_ol, wval_od, warg_no, warg_d, warg_town, warg_ol, warg_od, vals, gLen, gAbs, gMax2, gMin2, gInt, gTup, gList, wipeW, if_true, if_false, Bool.false_eq_true, Bool.not_true, Bool.not_false, reduceCtorEq, q_Up_Up, q_Up_Down, q_Up_Part, q_Up_Rest, q_Up_Table, q_Up_Among, q_Up_Sum, q_Up_Gap, q_Down_Up, q_Down_Down, q_Down_Part, q_Down_Rest, q_Down_Table, q_Down_Among, q_Down_Sum, q_Down_Gap, q_Part_Up, q_Part_Down, q_Part_Part, q_Part_Rest, q_Part_Table, q_Part_Among, q_Part_Sum, q_Part_Gap, q_Rest_Up, q_Rest_Down, q_Rest_Part, q_Rest_Rest, q_Rest_Table, q_Rest_Among, q_Rest_Sum, q_Rest_Gap, q_Table_Up, q_Table_Down, q_Table_Part, q_Table_Rest, q_Table_Table, q_Table_Among, q_Table_Sum, q_Table_Gap, q_Among_Up, q_Among_Down, q_Among_Part, q_Among_Rest, q_Among_Table, q_Among_Among, q_Among_Sum, q_Among_Gap, q_Sum_Up, q_Sum_Down, q_Sum_Part, q_Sum_Rest, q_Sum_Table, q_Sum_Among, q_Sum_Sum, q_Sum_Gap, q_Gap_Up, q_Gap_Down, q_Gap_Part, q_Gap_Rest, q_Gap_Table, q_Gap_Among, q_Gap_Sum, q_Gap_Gap, q_Most_Up, q_Most_Down, q_Most_Part, q_Most_Rest, q_Most_Table, q_Most_Among, q_Most_Sum, q_Most_Gap, i0, i1, i2, dAdd_int, dSub_int, rLt, rLe, rGt, rGe, dEq_int, dNe_int, dIn_ints, dNotIn_ints, isTupD, isLstD, PK.d, ixTh (t := t) (show pl3 a from h.1), hd, hm, e]; rfl
  | table a l =>
    have hl : (l.map PyData.int).length + 1 ≤ big := le_big (by have := h.2.2.1; simp; omega)
    have ea : dAdd (.list (l.map .int)) (.list [.int (t.at a)]) = some (.ol ((l ++ [t.at a]).map .int)) := by
      rw [dAdd_lst _ _ hl]; simp
    have hm : t.at a ∈ l ++ [t.at a] := by simp
    have ei : (((l ++ [t.at a]).idxOf (t.at a) : Nat) : Int) = (PK.table a l).worth t := by
      show _ = if _ then _ else _
      by_cases hm2 : t.at a ∈ l
      · rw [if_pos hm2, List.idxOf_append, if_pos hm2]
      · rw [if_neg hm2, List.idxOf_append, if_neg hm2]
        simp
    simp -implicitDefEqProofs only [eVar_ap, dVar_ap, eC_ap, dOf_ap, eFrz_ap, eBin_ap, bTest_ap, bTru_ap, bAnd_ap, bOr_ap, bNot_ap, eIf_ap, eB_ap, eAnd_ap, eOr_ap, aNil_ap, aCons_ap, sNil_ap, sCons_ap, eTup_ap, eLst_ap, eCall_ap, eApp_ap, oNone_ap, oSome_ap, eSl_ap, sNil'_ap, sSeq_ap, sBrk_ap, sRet_ap, sRetN_ap, sRetO_ap, sDrop_ap, sIf_ap, sSet_ap, sApp_ap, sTown_ap, sExt_ap, sIns_ap, sSetIx_ap, sAsg_ap, sPar_ap, iOf_ap, iVal_ap, iRng1_ap, iRng2_ap, sFor_ap, eComp_ap, bYes_ap, frzAt_ap, eUn_ap, eNotD_ap, eOrD_ap, eChain_ap, eListRg1_ap, eIsa_ap, eMt_ap, iEnumV_ap, iEnumF_ap, iZipV_ap, iZipF_ap, eTLen_ap, iRng3D_ap, sEnd_ap, eSs_ap, sPar3_ap, xPop_ap, xTup1_ap, xCat_ap, sSetX_ap, sAppX_ap, sParO_ap, sForEI_ap, sForK_ap, runB_ap, gOne_ap, gMany_ap, dI_ap, yesC_ap, dCmp_int, setD, kill_nx, kill_rt, kill_bk, Option.bind_some, Option.map_some, Option.bind_none, Option.map_none, List.getElem?_cons_zero, List.getElem?_cons_succ, List.set_cons_zero, List.set_cons_succ, List.cons_append, List.nil_append, List.append_nil, List.replicate, List.length_cons, List.length_nil, Nat.reduceAdd, Nat.reduceSub, Nat.zero_add, wdat_no, wdat_d, wdat_town, wdat_ol, wdat_od, wfrz_no, wfrz_d, wfrz_town, wfrz_ol, wfrz_od, wval_no, wval_d, wval_town, wval_ol, wval_od, warg_no, warg_d, warg_town, warg_ol, warg_od, vals, gLen, gAbs, gMax2, gMin2, gInt, gTup, gList, wipeW, if_true, if_false, Bool.false_eq_true, Bool.not_true, Bool.not_false, reduceCtorEq, q_Up_Up, q_Up_Down, q_Up_Part, q_Up_Rest, q_Up_Table, q_Up_Among, q_Up_Sum, q_Up_Gap, q_Down_Up, q_Down_Down, q_Down_Part, q_Down_Rest, q_Down_Table, q_Down_Among, q_Down_Sum, q_Down_Gap, q_Part_Up, q_Part_Down, q_Part_Part, q_Part_Rest, q_Part_Table, q_Part_Among, q_Part_Sum, q_Part_Gap, q_Rest_Up, q_Rest_Down, q_Rest_Part, q_Rest_Rest, q_Rest_Table, q_Rest_Among, q_Rest_Sum, q_Rest_Gap, q_Table_Up, q_Table_Down, q_Table_Part, q_Table_Rest, q_Table_Table, q_Table_Among, q_Table_Sum, q_Table_Gap, q_Among_Up, q_Among_Down, q_Among_Part, q_Among_Rest, q_Among_Table, q_Among_Among, q_Among_Sum, q_Among_Gap, q_Sum_Up, q_Sum_Down, q_Sum_Part, q_Sum_Rest, q_Sum_Table, q_Sum_Among, q_Sum_Sum, q_Sum_Gap, q_Gap_Up, q_Gap_Down, q_Gap_Part, q_Gap_Rest, q_Gap_Table, q_Gap_Among, q_Gap_Sum, q_Gap_Gap, q_Most_Up, q_Most_Down, q_Most_Part, q_Most_Rest, q_Most_Table, q_Most_Among, q_Most_Sum, q_Most_Gap, i0, i1, i2, dAdd_int, dSub_int, rLt, rLe, rGt, rGe, dEq_int, dNe_int, dIn_ints, dNotIn_ints, isTupD, isLstD, PK.d, ixTh (t := t) (show pl3 a from h.1), ea, gIndexL_ints hm, ei]
  | among a l =>
    by_cases hm : t.at a ∈ l
    · simp -implicitDefEqProofs only [eVar_ap, dVar_ap, eC_ap, dOf_ap, eFrz_ap, eBin_ap, bTest_ap, bTru_ap, bAnd_ap, bOr_ap, bNot_ap, eIf_ap, eB_ap, eAnd_ap, eOr_ap, aNil_ap, aCons_ap, sNil_ap, sCons_ap, eTup_ap, eLst_ap, eCall_ap, eApp_ap, oNone_ap, oSome_ap, eSl_ap, sNil'_ap, sSeq_ap, sBrk_ap, sRet_ap, sRetN_ap, sRetO_ap, sDrop_ap, sIf_ap, sSet_ap, sApp_ap, sTown_ap, sExt_ap, sIns_ap, sSetIx_ap, sAsg_ap, sPar_ap, iOf_ap, iVal_ap, iRng1_ap, iRng2_ap, sFor_ap, eComp_ap, bYes_ap, frzAt_ap, eUn_ap, eNotD_ap, eOrD_ap, eChain_ap, eListRg1_ap, eIsa_ap, eMt_ap, iEnumV_ap, iEnumF_ap, iZipV_ap, iZipF_ap, eTLen_ap, iRng3D_ap, sEnd_ap, eSs_ap, sPar3_ap, xPop_ap, xTup1_ap, xCat_ap, sSetX_ap, sAppX_ap, sParO_ap, sForEI_ap, sForK_ap, runB_ap, gOne_ap, gMany_ap, dI_ap, yesC_ap, dCmp_int, setD, kill_nx, kill_rt, kill_bk, Option.bind_some, Option.map_some, Option.bind_none, Option.map_none, List.getElem?_cons_zero, List.getElem?_cons_succ, List.set_cons_zero, List.set_cons_succ, List.cons_append, List.nil_append, List.append_nil, List.replicate, List.length_cons, List.length_nil, Nat.reduceAdd, Nat.reduceSub, Nat.zero_add, wdat_no, wdat_d, wdat_town, wdat_ol, wdat_od, wfrz_no, wfrz_d, wfrz_town, wfrz_ol, wfrz_od, wval_no, wval_d, wval_town, wval_ol, wval_od, warg_no, warg_d, warg_town, warg_ol, warg_od, vals, gLen, gAbs, gMax2, gMin2, gInt, gTup, gList, wipeW, if_true, if_false, Bool.false_eq_true, Bool.not_true, Bool.not_false, reduceCtorEq, q_Up_Up, q_Up_Down, q_Up_Part, q_Up_Rest, q_Up_Table, q_Up_Among, q_Up_Sum, q_Up_Gap, q_Down_Up, q_Down_Down, q_Down_Part, q_Down_Rest, q_Down_Table, q_Down_Among, q_Down_Sum, q_Down_Gap, q_Part_Up, q_Part_Down, q_Part_Part, q_Part_Rest, q_Part_Table, q_Part_Among, q_Part_Sum, q_Part_Gap, q_Rest_Up, q_Rest_Down, q_Rest_Part, q_Rest_Rest, q_Rest_Table, q_Rest_Among, q_Rest_Sum, q_Rest_Gap, q_Table_Up, q_Table_Down, q_Table_Part, q_Table_Rest, q_Table_Table, q_Table_Among, q_Table_Sum, q_Table_Gap, q_Among_Up, q_Among_Down, q_Among_Part, q_Among_Rest, q_Among_Table, q_Among_Among, q_Among_Sum, q_Among_Gap, q_Sum_Up, q_Sum_Down, q_Sum_Part, q_Sum_Rest, q_Sum_Table, q_Sum_Among, q_Sum_Sum, q_Sum_Gap, q_Gap_Up, q_Gap_Down, q_Gap_Part, q_Gap_Rest, q_Gap_Table, q_Gap_Among, q_Gap_Sum, q_Gap_Gap, q_Most_Up, q_Most_Down, q_Most_Part, q_Most_Rest, q_Most_Table, q_Most_Among, q_Most_Sum, q_Most_Gap, i0, i1, i2, dAdd_int, dSub_int, rLt, rLe, rGt, rGe, dEq_int, dNe_int, dIn_ints, dNotIn_ints, isTupD, isLstD, PK.d, ixTh (t := t) (show pl3 a from h.1), hm, decide_true, PK.worth]
    · simp -implicitDefEqProofs only [eVar_ap, dVar_ap, eC_ap, dOf_ap, eFrz_ap, eBin_ap, bTest_ap, bTru_ap, bAnd_ap, bOr_ap, bNot_ap, eIf_ap, eB_ap, eAnd_ap, eOr_ap, aNil_ap, aCons_ap, sNil_ap, sCons_ap, eTup_ap, eLst_ap, eCall_ap, eApp_ap, oNone_ap, oSome_ap, eSl_ap, sNil'_ap, sSeq_ap, sBrk_ap, sRet_ap, sRetN_ap, sRetO_ap, sDrop_ap, sIf_ap, sSet_ap, sApp_ap, sTown_ap, sExt_ap, sIns_ap, sSetIx_ap, sAsg_ap, sPar_ap, iOf_ap, iVal_ap, iRng1_ap, iRng2_ap, sFor_ap, eComp_ap, bYes_ap, frzAt_ap, eUn_ap, eNotD_ap, eOrD_ap, eChain_ap, eListRg1_ap, eIsa_ap, eMt_ap, iEnumV_ap, iEnumF_ap, iZipV_ap, iZipF_ap, eTLen_ap, iRng3D_ap, sEnd_ap, eSs_ap, sPar3_ap, xPop_ap, xTup1_ap, xCat_ap, sSetX_ap, sAppX_ap, sParO_ap, sForEI_ap, sForK_ap, runB_ap, gOne_ap, gMany_ap, dI_ap, yesC_ap, dCmp_int, setD, kill_nx, kill_rt, kill_bk, Option.bind_some, Option.map_some, Option.bind_none, Option.map_none, List.getElem?_cons_zero, List.getElem?_cons_succ, List.set_cons_zero, List.set_cons_succ, List.cons_append, List.nil_append, List.append_nil, List.replicate, List.length_cons, List.length_nil, Nat.reduceAdd, Nat.reduceSub, Nat.zero_add, wdat_no, wdat_d, wdat_town, wdat_ol, wdat_od, wfrz_no, wfrz_d, wfrz_town, wfrz_ol, wfrz_od, wval_no, wval_d, wval_town, wval_ol, wval_od, warg_no, warg_d, warg_town, warg_ol, warg_od, vals, gLen, gAbs, gMax2, gMin2, gInt, gTup, gList, wipeW, if_true, if_false, Bool.false_eq_true, Bool.not_true, Bool.not_false, reduceCtorEq, q_Up_Up, q_Up_Down, q_Up_Part, q_Up_Rest, q_Up_Table, q_Up_Among, q_Up_Sum, q_Up_Gap, q_Down_Up, q_Down_Down, q_Down_Part, q_Down_Rest, q_Down_Table, q_Down_Among, q_Down_Sum, q_Down_Gap, q_Part_Up, q_Part_Down, q_Part_Part, q_Part_Rest, q_Part_Table, q_Part_Among, q_Part_Sum, q_Part_Gap, q_Rest_Up, q_Rest_Down, q_Rest_Part, q_Rest_Rest, q_Rest_Table, q_Rest_Among, q_Rest_Sum, q_Rest_Gap, q_Table_Up, q_Table_Down, q_Table_Part, q_Table_Rest, q_Table_Table, q_Table_Among, q_Table_Sum, q_Table_Gap, q_Among_Up, q_Among_Down, q_Among_Part, q_Among_Rest, q_Among_Table, q_Among_Among, q_Among_Sum, q_Among_Gap, q_Sum_Up, q_Sum_Down, q_Sum_Part, q_Sum_Rest, q_Sum_Table, q_Sum_Among, q_Sum_Sum, q_Sum_Gap, q_Gap_Up, q_Gap_Down, q_Gap_Part, q_Gap_Rest, q_Gap_Table, q_Gap_Among, q_Gap_Sum, q_Gap_Gap, q_Most_Up, q_Most_Down, q_Most_Part, q_Most_Rest, q_Most_Table, q_Most_Among, q_Most_Sum, q_Most_Gap, i0, i1, i2, dAdd_int, dSub_int, rLt, rLe, rGt, rGe, dEq_int, dNe_int, dIn_ints, dNotIn_ints, isTupD, isLstD, PK.d, ixTh (t := t) (show pl3 a from h.1), hm, decide_false, PK.worth]
  | sum a b => simp -implicitDefEqProofs only [eVar_ap, dVar_ap, eC_ap, dOf_ap, eFrz_ap, eBin_ap, bTest_ap, bTru_ap, bAnd_ap, bOr_ap, bNot_ap, eIf_ap, eB_ap, eAnd_ap, eOr_ap, aNil_ap, aCons_ap, sNil_ap, sCons_ap, eTup_ap, eLst_ap, eCall_ap, eApp_ap, oNone_ap, oSome_ap, eSl_ap, sNil'_ap, sSeq_ap, sBrk_ap, sRet_ap, sRetN_ap, sRetO_ap, sDrop_ap, sIf_ap, sSet_ap, sApp_ap, sTown_ap, sExt_ap, sIns_ap, sSetIx_ap, sAsg_ap, sPar_ap, iOf_ap, iVal_ap, iRng1_ap, iRng2_ap, sFor_ap, eComp_ap, bYes_ap, frzAt_ap, eUn_ap, eNotD_ap, eOrD_ap, eChain_ap, eListRg1_ap, eIsa_ap, eMt_ap, iEnumV_ap, iEnumF_ap, iZipV_ap, iZipF_ap, eTLen_ap, iRng3D_ap, sEnd_ap, eSs_ap, sPar3_ap, xPop_ap, xTup1_ap, xCat_ap, sSetX_ap, sAppX_ap, sParO_ap, sForEI_ap, sForK_ap, runB_ap, gOne_ap, gMany_ap, dI_ap, yesC_ap, dCmp_int, setD, kill_nx, kill_rt, kill_bk, Option.bind_some, Option.map_some, Option.bind_none, Option.map_none, List.getElem?_cons_zero, List.getElem?_cons_succ, List.set_cons_zero, List.set_cons_succ, List.cons_append, List.nil_append, List.append_nil, List.replicate, List.length_cons, List.length_nil, Nat.reduceAdd, Nat.reduceSub, Nat.zero_add, wdat_no, wdat_d, wdat_town, wdat_ol, wdat_od, wfrz_no, wfrz_d, wfrz_town, wfrz_ol, wfrz_od, wval_no, wval_d, wval_town, wval_ol, wval_od, warg_no, warg_d, warg_town, warg_ol, warg_od, vals, gLen, gAbs, gMax2, gMin2, gInt, gTup, gList, wipeW, if_true, if_false, Bool.false_eq_true, Bool.not_true, Bool.not_false, reduceCtorEq, q_Up_Up, q_Up_Down, q_Up_Part, q_Up_Rest, q_Up_Table, q_Up_Among, q_Up_Sum, q_Up_Gap, q_Down_Up, q_Down_Down, q_Down_Part, q_Down_Rest, q_Down_Table, q_Down_Among, q_Down_Sum, q_Down_Gap, q_Part_Up, q_Part_Down, q_Part_Part, q_Part_Rest, q_Part_Table, q_Part_Among, q_Part_Sum, q_Part_Gap, q_Rest_Up, q_Rest_Down, q_Rest_Part, q_Rest_Rest, q_Rest_Table, q_Rest_Among, q_Rest_Sum, q_Rest_Gap, q_Table_Up, q_Table_Down, q_Table_Part, q_Table_Rest, q_Table_Table, q_Table_Among, q_Table_Sum, q_Table_Gap, q_Among_Up, q_Among_Down, q_Among_Part, q_Among_Rest, q_Among_Table, q_Among_Among, q_Among_Sum, q_Among_Gap, q_Sum_Up, q_Sum_Down, q_Sum_Part, q_Sum_Rest, q_Sum_Table, q_Sum_Among, q_Sum_Sum, q_Sum_Gap, q_Gap_Up, q_Gap_Down, q_Gap_Part, q_Gap_Rest, q_Gap_Table, q_Gap_Among, q_Gap_Sum, q_Gap_Gap, q_Most_Up, q_Most_Down, q_Most_Part, q_Most_Rest, q_Most_Table, q_Most_Among, q_Most_Sum, q_Most_Gap, i0, i1, i2, dAdd_int, dSub_int, rLt, rLe, rGt, rGe, dEq_int, dNe_int, dIn_ints, dNotIn_ints, isTupD, isLstD, PK.d, ixTh (t := t) (show pl3 a from (prOk.l h).1), ixTh (t := t) (show pl3 b from (prOk.l h).2)]; rfl
  | gap a b =>
    by_cases hm : t.at b < t.at a
    · have e : (PK.gap a b).worth t = t.at a - t.at b := if_neg (by omega)
      simp -implicitDefEqProofs only [eVar_ap, dVar_ap, eC_ap, dOf_ap, eFrz_ap, eBin_ap, bTest_ap, bTru_ap, bAnd_ap, bOr_ap, bNot_ap, eIf_ap, eB_ap, eAnd_ap, eOr_ap, aNil_ap, aCons_ap, sNil_ap, sCons_ap, eTup_ap, eLst_ap, eCall_ap, eApp_ap, oNone_ap, oSome_ap, eSl_ap, sNil'_ap, sSeq_ap, sBrk_ap, sRet_ap, sRetN_ap, sRetO_ap, sDrop_ap, sIf_ap, sSet_ap, sApp_ap, sTown_ap, sExt_ap, sIns_ap, sSetIx_ap, sAsg_ap, sPar_ap, iOf_ap, iVal_ap, iRng1_ap, iRng2_ap, sFor_ap, eComp_ap, bYes_ap, frzAt_ap, eUn_ap, eNotD_ap, eOrD_ap, eChain_ap, eListRg1_ap, eIsa_ap, eMt_ap, iEnumV_ap, iEnumF_ap, iZipV_ap, iZipF_ap, eTLen_ap, iRng3D_ap, sEnd_ap, eSs_ap, sPar3_ap, xPop_ap, xTup1_ap, xCat_ap, sSetX_ap, sAppX_ap, sParO_ap, sForEI_ap, sForK_ap, runB_ap, gOne_ap, gMany_ap, dI_ap, yesC_ap, dCmp_int, setD, kill_nx, kill_rt, kill_bk, Option.bind_some, Option.map_some, Option.bind_none, Option.map_none, List.getElem?_cons_zero, List.getElem?_cons_succ, List.set_cons_zero, List.set_cons_succ, List.cons_append, List.nil_append, List.append_nil, List.replicate, List.length_cons, List.length_nil, Nat.reduceAdd, Nat.reduceSub, Nat.zero_add, wdat_no, wdat_d, wdat_town, wdat_ol, wdat_od, wfrz_no, wfrz_d, wfrz_town, wfrz_ol, wfrz_od, wval_no, wval_d, wval_town, wval_ol, wval_od, warg_no, warg_d, warg_town, warg_ol, warg_od, vals, gLen, gAbs, gMax2, gMin2, gInt, gTup, gList, wipeW, if_true, if_false, Bool.false_eq_true, Bool.not_true, Bool.not_false, reduceCtorEq, q_Up_Up, q_Up_Down, q_Up_Part, q_Up_Rest, q_Up_Table, q_Up_Among, q_Up_Sum, q_Up_Gap, q_Down_Up, q_Down_Down, q_Down_Part, q_Down_Rest, q_Down_Table, q_Down_Among, q_Down_Sum, q_Down_Gap, q_Part_Up, q_Part_Down, q_Part_Part, q_Part_Rest, q_Part_Table, q_Part_Among, q_Part_Sum, q_Part_Gap, q_Rest_Up, q_Rest_Down, q_Rest_Part, q_Rest_Rest, q_Rest_Table, q_Rest_Among, q_Rest_Sum, q_Rest_Gap, q_Table_Up, q_Table_Down, q_Table_Part, q_Table_Rest, q_Table_Table, q_Table_Among, q_Table_Sum, q_Table_Gap, q_Among_Up, q_Among_Down, q_Among_Part, q_Among_Rest, q_Among_Table, q_Among_Among, q_Among_Sum, q_Among_Gap, q_Sum_Up, q_Sum_Down, q_Sum_Part, q_Sum_Rest, q_Sum_Table, q_Sum_Among, q_Sum_Sum, q_Sum_Gap, q_Gap_Up, q_Gap_Down, q_Gap_Part, q_Gap_Rest, q_Gap_Table, q_Gap_Among, q_Gap_Sum, q_Gap_Gap, q_Most_Up, q_Most_Down, q_Most_Part, q_Most_Rest, q_Most_Table, q_Most_Among, q_Most_Sum, q_Most_Gap, i0, i1, i2, dAdd_int, dSub_int, rLt, rLe, rGt, rGe, dEq_int, dNe_int, dIn_ints, dNotIn_ints, isTupD, isLstD, PK.d, ixTh (t := t) (show pl3 a from (prOk.l h).1), ixTh (t := t) (show pl3 b from (prOk.l h).2), hm, decide_true, e]
    · have e : (PK.gap a b).worth t = t.at b - t.at a := by
        simp only [PK.worth]
        split <;> omega
      simp -implicitDefEqProofs only [eVar_ap, dVar_ap, eC_ap, dOf_ap, eFrz_ap, eBin_ap, bTest_ap, bTru_ap, bAnd_ap, bOr_ap, bNot_ap, eIf_ap, eB_ap, eAnd_ap, eOr_ap, aNil_ap, aCons_ap, sNil_ap, sCons_ap, eTup_ap, eLst_ap, eCall_ap, eApp_ap, oNone_ap, oSome_ap, eSl_ap, sNil'_ap, sSeq_ap, sBrk_ap, sRet_ap, sRetN_ap, sRetO_ap, sDrop_ap, sIf_ap, sSet_ap, sApp_ap, sTown_ap, sExt_ap, sIns_ap, sSetIx_ap, sAsg_ap, sPar_ap, iOf_ap, iVal_ap, iRng1_ap, iRng2_ap, sFor_ap, eComp_ap, bYes_ap, frzAt_ap, eUn_ap, eNotD_ap, eOrD_ap, eChain_ap, eListRg1_ap, eIsa_ap, eMt_ap, iEnumV_ap, iEnumF_ap, iZipV_ap, iZipF_ap, eTLen_ap, iRng3D_ap, sEnd_ap, eSs_ap, sPar3_ap, xPop_ap, xTup1_ap, xCat_ap, sSetX_ap, sAppX_ap, sParO_ap, sForEI_ap, sForK_ap, runB_ap, gOne_ap, gMany_ap, dI_ap, yesC_ap, dCmp_int, setD, kill_nx, kill_rt, kill_bk, Option.bind_some, Option.map_some, Option.bind_none, Option.map_none, List.getElem?_cons_zero, List.getElem?_cons_succ, List.set_cons_zero, List.set_cons_succ, List.cons_append, List.nil_append, List.append_nil, List.replicate, List.length_cons, List.length_nil, Nat.reduceAdd, Nat.reduceSub, Nat.zero_add, wdat_no, wdat_d, wdat_town, wdat_ol, wdat_od, wfrz_no, wfrz_d, wfrz_town, wfrz_ol, wfrz_od, wval_no, wval_d, wval_town, wval_ol, wval_od, warg_no, warg_d, warg_town, warg_ol, warg_od, vals, gLen, gAbs, gMax2, gMin2, gInt, gTup, gList, wipeW, if_true, if_false, Bool.false_eq_true, Bool.not_true, Bool.not_false, reduceCtorEq, q_Up_Up, q_Up_Down, q_Up_Part, q_Up_Rest, q_Up_Table, q_Up_Among, q_Up_Sum, q_Up_Gap, q_Down_Up, q_Down_Down, q_Down_Part, q_Down_Rest, q_Down_Table, q_Down_Among, q_Down_Sum, q_Down_Gap, q_Part_Up, q_Part_Down, q_Part_Part, q_Part_Rest, q_Part_Table, q_Part_Among, q_Part_Sum, q_Part_Gap, q_Rest_Up, q_Rest_Down, q_Rest_Part, q_Rest_Rest, q_Rest_Table, q_Rest_Among, q_Rest_Sum, q_Rest_Gap, q_Table_Up, q_Table_Down, q_Table_Part, q_Table_Rest, q_Table_Table, q_Table_Among, q_Table_Sum, q_Table_Gap, q_Among_Up, q_Among_Down, q_Among_Part, q_Among_Rest, q_Among_Table, q_Among_Among, q_Among_Sum, q_Among_Gap, q_Sum_Up, q_Sum_Down, q_Sum_Part, q_Sum_Rest, q_Sum_Table, q_Sum_Among, q_Sum_Sum, q_Sum_Gap, q_Gap_Up, q_Gap_Down, q_Gap_Part, q_Gap_Rest, q_Gap_Table, q_Gap_Among, q_Gap_Sum, q_Gap_Gap, q_Most_Up, q_Most_Down, q_Most_Part, q_Most_Rest, q_Most_Table, q_Most_Among, q_Most_Sum, q_Most_Gap, i0, i1, i2, dAdd_int, dSub_int, rLt, rLe, rGt, rGe, dEq_int, dNe_int, dIn_ints, dNotIn_ints, isTupD, isLstD, PK.d, ixTh (t := t) (show pl3 a from (prOk.l h).1), ixTh (t := t) (show pl3 b from (prOk.l h).2), hm, decide_false, e]
  | most a b =>
    by_cases hm : t.at b < t.at a
    · have e : (PK.most a b).worth t = t.at a := if_neg (by omega)
      simp -implicitDefEqProofs only [eVar_ap, dVar_ap, eC_ap, dOf_ap, eFrz_ap, eBin_ap, bTest_ap, bTru_ap, bAnd_ap, bOr_ap, bNot_ap, eIf_ap, eB_ap, eAnd_ap, eOr_ap, aNil_ap, aCons_ap, sNil_ap, sCons_ap, eTup_ap, eLst_ap, eCall_ap, eApp_ap, oNone_ap, oSome_ap, eSl_ap, sNil'_ap, sSeq_ap, sBrk_ap, sRet_ap, sRetN_ap, sRetO_ap, sDrop_ap, sIf_ap, sSet_ap, sApp_ap, sTown_ap, sExt_ap, sIns_ap, sSetIx_ap, sAsg_ap, sPar_ap, iOf_ap, iVal_ap, iRng1_ap, iRng2_ap, sFor_ap, eComp_ap, bYes_ap, frzAt_ap, eUn_ap, eNotD_ap, eOrD_ap, eChain_ap, eListRg1_ap, eIsa_ap, eMt_ap, iEnumV_ap, iEnumF_ap, iZipV_ap, iZipF_ap, eTLen_ap, iRng3D_ap, sEnd_ap, eSs_ap, sPar3_ap, xPop_ap, xTup1_ap, xCat_ap, sSetX_ap, sAppX_ap, sParO_ap, sForEI_ap, sForK_ap, runB_ap, gOne_ap, gMany_ap, dI_ap, yesC_ap, dCmp_int, setD, kill_nx, kill_rt, kill_bk, Option.bind_some, Option.map_some, Option.bind_none, Option.map_none, List.getElem?_cons_zero, List.getElem?_cons_succ, List.set_cons_zero, List.set_cons_succ, List.cons_append, List.nil_append, List.append_nil, List.replicate, List.length_cons, List.length_nil, Nat.reduceAdd, Nat.reduceSub, Nat.zero_add, wdat_no, wdat_d, wdat_town, wdat_ol, wdat_od, wfrz_no, wfrz_d, wfrz_town, wfrz_ol, wfrz_od, wval_no, wval_d, wval_town, wval_ol, wval_od, warg_no, warg_d, warg_town, warg_ol, warg_od, vals, gLen, gAbs, gMax2, gMin2, gInt, gTup, gList, wipeW, if_true, if_false, Bool.false_eq_true, Bool.not_true, Bool.not_false, reduceCtorEq, q_Up_Up, q_Up_Down, q_Up_Part, q_Up_Rest, q_Up_Table, q_Up_Among, q_Up_Sum, q_Up_Gap, q_Down_Up, q_Down_Down, q_Down_Part, q_Down_Rest, q_Down_Table, q_Down_Among, q_Down_Sum, q_Down_Gap, q_Part_Up, q_Part_Down, q_Part_Part, q_Part_Rest, q_Part_Table, q_Part_Among, q_Part_Sum, q_Part_Gap, q_Rest_Up, q_Rest_Down, q_Rest_Part, q_Rest_Rest, q_Rest_Table, q_Rest_Among, q_Rest_Sum, q_Rest_Gap, q_Table_Up, q_Table_Down, q_Table_Part, q_Table_Rest, q_Table_Table, q_Table_Among, q_Table_Sum, q_Table_Gap, q_Among_Up, q_Among_Down, q_Among_Part, q_Among_Rest, q_Among_Table, q_Among_Among, q_Among_Sum, q_Among_Gap, q_Sum_Up, q_Sum_Down, q_Sum_Part, q_Sum_Rest, q_Sum_Table, q_Sum_Among, q_Sum_Sum, q_Sum_Gap, q_Gap_Up, q_Gap_Down, q_Gap_Part, q_Gap_Rest, q_Gap_Table, q_Gap_Among, q_Gap_Sum, q_Gap_Gap, q_Most_Up, q_Most_Down, q_Most_Part, q_Most_Rest, q_Most_Table, q_Most_Among, q_Most_Sum, q_Most_Gap, i0, i1, i2, dAdd_int, dSub_int, rLt, rLe, rGt, rGe, dEq_int, dNe_int, dIn_ints, dNotIn_ints, isTupD, isLstD, PK.d, ixTh (t := t) (show pl3 a from (prOk.l h).1), ixTh (t := t) (show pl3 b from (prOk.l h).2), hm, decide_true, e]
    · have e : (PK.most a b).worth t = t.at b := by
        simp only [PK.worth]
        split <;> omega
      simp -implicitDefEqProofs only [eVar_ap, dVar_ap, eC_ap, dOf_ap, eFrz_ap, eBin_ap, bTest_ap, bTru_ap, bAnd_ap, bOr_ap, bNot_ap, eIf_ap, eB_ap, eAnd_ap, eOr_ap, aNil_ap, aCons_ap, sNil_ap, sCons_ap, eTup_ap, eLst_ap, eCall_ap, eApp_ap, oNone_ap, oSome_ap, eSl_ap, sNil'_ap, sSeq_ap, sBrk_ap, sRet_ap, sRetN_ap, sRetO_ap, sDrop_ap, sIf_ap, sSet_ap, sApp_ap, sTown_ap, sExt_ap, sIns_ap, sSetIx_ap, sAsg_ap, sPar_ap, iOf_ap, iVal_ap, iRng1_ap, iRng2_ap, sFor_ap, eComp_ap, bYes_ap, frzAt_ap, eUn_ap, eNotD_ap, eOrD_ap, eChain_ap, eListRg1_ap, eIsa_ap, eMt_ap, iEnumV_ap, iEnumF_ap, iZipV_ap, iZipF_ap, eTLen_ap, iRng3D_ap, sEnd_ap, eSs_ap, sPar3_ap, xPop_ap, xTup1_ap, xCat_ap, sSetX_ap, sAppX_ap, sParO_ap, sForEI_ap, sForK_ap, runB_ap, gOne_ap, gMany_ap, dI_ap, yesC_ap, dCmp_int, setD, kill_nx, kill_rt, kill_bk, Option.bind_some, Option.map_some, Option.bind_none, Option.map_none, List.getElem?_cons_zero, List.getElem?_cons_succ, List.set_cons_zero, List.set_cons_succ, List.cons_append, List.nil_append, List.append_nil, List.replicate, List.length_cons, List.length_nil, Nat.reduceAdd, Nat.reduceSub, Nat.zero_add, wdat_no, wdat_d, wdat_town, wdat_ol, wdat_od, wfrz_no, wfrz_d, wfrz_town, wfrz_ol, wfrz_od, wval_no, wval_d, wval_town, wval_ol, wval_od, warg_no, warg_d, warg_town, warg_ol, warg_od, vals, gLen, gAbs, gMax2, gMin2, gInt, gTup, gList, wipeW, if_true, if_false, Bool.false_eq_true, Bool.not_true, Bool.not_false, reduceCtorEq, q_Up_Up, q_Up_Down, q_Up_Part, q_Up_Rest, q_Up_Table, q_Up_Among, q_Up_Sum, q_Up_Gap, q_Down_Up, q_Down_Down, q_Down_Part, q_Down_Rest, q_Down_Table, q_Down_Among, q_Down_Sum, q_Down_Gap, q_Part_Up, q_Part_Down, q_Part_Part, q_Part_Rest, q_Part_Table, q_Part_Among, q_Part_Sum, q_Part_Gap, q_Rest_Up, q_Rest_Down, q_Rest_Part, q_Rest_Rest, q_Rest_Table, q_Rest_Among, q_Rest_Sum, q_Rest_Gap, q_Table_Up, q_Table_Down, q_Table_Part, q_Table_Rest, q_Table_Table, q_Table_Among, q_Table_Sum, q_Table_Gap, q_Among_Up, q_Among_Down, q_Among_Part, q_Among_Rest, q_Among_Table, q_Among_Among, q_Among_Sum, q_Among_Gap, q_Sum_Up, q_Sum_Down, q_Sum_Part, q_Sum_Rest, q_Sum_Table, q_Sum_Among, q_Sum_Sum, q_Sum_Gap, q_Gap_Up, q_Gap_Down, q_Gap_Part, q_Gap_Rest, q_Gap_Table, q_Gap_Among, q_Gap_Sum, q_Gap_Gap, q_Most_Up, q_Most_Down, q_Most_Part, q_Most_Rest, q_Most_Table, q_Most_Among, q_Most_Sum, q_Most_Gap, i0, i1, i2, dAdd_int, dSub_int, rLt, rLe, rGt, rGe, dEq_int, dNe_int, dIn_ints, dNotIn_ints, isTupD, isLstD, PK.d, ixTh (t := t) (show pl3 a from (prOk.l h).1), ixTh (t := t) (show pl3 b from (prOk.l h).2), hm, decide_false, e]
theorem lworth_ok (k : Ky) (h : k.ok) (t : Th) (ht : t.ok) (n : Nat) : m__law_worth [.d k.d, .d t.d] n = some (I' (k.worth t), n) := by
  cases k with
  | pl p => exact lworth_pl 3 p h t ht n
  | dn p =>
    show m__law_worth_ 4 _ _ = _
    unfold m__law_worth_ b__law_worth
    simp -implicitDefEqProofs only [eVar_ap, dVar_ap, eC_ap, dOf_ap, eFrz_ap, eBin_ap, bTest_ap, bTru_ap, bAnd_ap, bOr_ap, bNot_ap, eIf_ap, eB_ap, eAnd_ap, eOr_ap, aNil_ap, aCons_ap, sNil_ap, sCons_ap, eTup_ap, eLst_ap, eCall_ap, eApp_ap, oNone_ap, oSome_ap, eSl_ap, sNil'_ap, sSeq_ap, sBrk_ap, sRet_ap, sRetN_ap, sRetO_ap, sDrop_ap, sIf_ap, sSet_ap, sApp_ap, sTown_ap, sExt_ap, sIns_ap, sSetIx_ap, sAsg_ap, sPar_ap, iOf_ap, iVal_ap, iRng1_ap, iRng2_ap, sFor_ap, eComp_ap, bYes_ap, frzAt_ap, eUn_ap, eNotD_ap, eOrD_ap, eChain_ap, eListRg1_ap, eIsa_ap, eMt_ap, iEnumV_ap, iEnumF_ap, iZipV_ap, iZipF_ap, eTLen_ap, iRng3D_ap, sEnd_ap, eSs_ap, sPar3_ap, xPop_ap, xTup1_ap, xCat_ap, sSetX_ap, sAppX_ap, sParO_ap, sForEI_ap, sForK_ap, runB_ap, gOne_ap, gMany_ap, dI_ap, yesC_ap, dCmp_int, setD, kill_nx, kill_rt, kill_bk, Option.bind_some, Option.map_some, Option.bind_none, Option.map_none, List.getElem?_cons_zero, List.getElem?_cons_succ, List.set_cons_zero, List.set_cons_succ, List.cons_append, List.nil_append, List.append_nil, List.replicate, List.length_cons, List.length_nil, Nat.reduceAdd, Nat.reduceSub, Nat.zero_add, wdat_no, wdat_d, wdat_town, wdat_ol, wdat_od, wfrz_no, wfrz_d, wfrz_town, wfrz_ol, wfrz_od, wval_no, wval_d, wval_town, wval_ol, wval_od, warg_no, warg_d, warg_town, warg_ol, warg_od, vals, gLen, gAbs, gMax2, gMin2, gInt, gTup, gList, wipeW, if_true, if_false, Bool.false_eq_true, Bool.not_true, Bool.not_false, reduceCtorEq, q_Up_Up, q_Up_Down, q_Up_Part, q_Up_Rest, q_Up_Table, q_Up_Among, q_Up_Sum, q_Up_Gap, q_Down_Up, q_Down_Down, q_Down_Part, q_Down_Rest, q_Down_Table, q_Down_Among, q_Down_Sum, q_Down_Gap, q_Part_Up, q_Part_Down, q_Part_Part, q_Part_Rest, q_Part_Table, q_Part_Among, q_Part_Sum, q_Part_Gap, q_Rest_Up, q_Rest_Down, q_Rest_Part, q_Rest_Rest, q_Rest_Table, q_Rest_Among, q_Rest_Sum, q_Rest_Gap, q_Table_Up, q_Table_Down, q_Table_Part, q_Table_Rest, q_Table_Table, q_Table_Among, q_Table_Sum, q_Table_Gap, q_Among_Up, q_Among_Down, q_Among_Part, q_Among_Rest, q_Among_Table, q_Among_Among, q_Among_Sum, q_Among_Gap, q_Sum_Up, q_Sum_Down, q_Sum_Part, q_Sum_Rest, q_Sum_Table, q_Sum_Among, q_Sum_Sum, q_Sum_Gap, q_Gap_Up, q_Gap_Down, q_Gap_Part, q_Gap_Rest, q_Gap_Table, q_Gap_Among, q_Gap_Sum, q_Gap_Gap, q_Most_Up, q_Most_Down, q_Most_Part, q_Most_Rest, q_Most_Table, q_Most_Among, q_Most_Sum, q_Most_Gap, i0, i1, i2, dAdd_int, dSub_int, rLt, rLe, rGt, rGe, dEq_int, dNe_int, dIn_ints, dNotIn_ints, isTupD, isLstD, Ky.d, lworth_pl 2 p h t ht n, dNeg, Ky.worth, Int.zero_sub]
theorem lworths_ok (r : Rw) (h : Rw.ok r) (hl : r.length ≤ 1000000) (t : Th) (ht : t.ok) (n : Nat) : m__law_worths [.d (rowD r), .d t.d] n = some (.d (ti (wts r t)), n) := by
  have e : ∀ (ρ0 : W), loopC (gOne 2) [2] bYes (eCall m__law_worth (aCons (eVar 2) (aCons (eVar 1) aNil))) [ρ0, .d t.d, .no] (r.map Ky.d) n = some ((wts r t).map .int, n) := by
    intro ρ0
    unfold wts
    clear hl
    induction r with
    | nil => rfl
    | cons k r ih =>
      rw [List.map_cons, loopC_cons]
      simp -implicitDefEqProofs only [eVar_ap, dVar_ap, eC_ap, dOf_ap, eFrz_ap, eBin_ap, bTest_ap, bTru_ap, bAnd_ap, bOr_ap, bNot_ap, eIf_ap, eB_ap, eAnd_ap, eOr_ap, aNil_ap, aCons_ap, sNil_ap, sCons_ap, eTup_ap, eLst_ap, eCall_ap, eApp_ap, oNone_ap, oSome_ap, eSl_ap, sNil'_ap, sSeq_ap, sBrk_ap, sRet_ap, sRetN_ap, sRetO_ap, sDrop_ap, sIf_ap, sSet_ap, sApp_ap, sTown_ap, sExt_ap, sIns_ap, sSetIx_ap, sAsg_ap, sPar_ap, iOf_ap, iVal_ap, iRng1_ap, iRng2_ap, sFor_ap, eComp_ap, bYes_ap, frzAt_ap, eUn_ap, eNotD_ap, eOrD_ap, eChain_ap, eListRg1_ap, eIsa_ap, eMt_ap, iEnumV_ap, iEnumF_ap, iZipV_ap, iZipF_ap, eTLen_ap, iRng3D_ap, sEnd_ap, eSs_ap, sPar3_ap, xPop_ap, xTup1_ap, xCat_ap, sSetX_ap, sAppX_ap, sParO_ap, sForEI_ap, sForK_ap, runB_ap, gOne_ap, gMany_ap, dI_ap, yesC_ap, dCmp_int, setD, kill_nx, kill_rt, kill_bk, Option.bind_some, Option.map_some, Option.bind_none, Option.map_none, List.getElem?_cons_zero, List.getElem?_cons_succ, List.set_cons_zero, List.set_cons_succ, List.cons_append, List.nil_append, List.append_nil, List.replicate, List.length_cons, List.length_nil, Nat.reduceAdd, Nat.reduceSub, Nat.zero_add, wdat_no, wdat_d, wdat_town, wdat_ol, wdat_od, wfrz_no, wfrz_d, wfrz_town, wfrz_ol, wfrz_od, wval_no, wval_d, wval_town, wval_ol, wval_od, warg_no, warg_d, warg_town, warg_ol, warg_od, vals, gLen, gAbs, gMax2, gMin2, gInt, gTup, gList, wipeW, if_true, if_false, Bool.false_eq_true, Bool.not_true, Bool.not_false, reduceCtorEq, lworth_ok k (h k (List.mem_cons_self ..)) t ht n, ih fun z hz => h z (List.mem_cons_of_mem _ hz), List.map_cons]
  have hb : (r.map Ky.d).length ≤ big := by rw [List.length_map]; exact le_big hl
  unfold m__law_worths b__law_worths
  simp -implicitDefEqProofs only [eVar_ap, dVar_ap, eC_ap, dOf_ap, eFrz_ap, eBin_ap, bTest_ap, bTru_ap, bAnd_ap, bOr_ap, bNot_ap, eIf_ap, eB_ap, eAnd_ap, eOr_ap, aNil_ap, aCons_ap, sNil_ap, sCons_ap, eTup_ap, eLst_ap, eCall_ap, eApp_ap, oNone_ap, oSome_ap, eSl_ap, sNil'_ap, sSeq_ap, sBrk_ap, sRet_ap, sRetN_ap, sRetO_ap, sDrop_ap, sIf_ap, sSet_ap, sApp_ap, sTown_ap, sExt_ap, sIns_ap, sSetIx_ap, sAsg_ap, sPar_ap, iOf_ap, iVal_ap, iRng1_ap, iRng2_ap, sFor_ap, eComp_ap, bYes_ap, frzAt_ap, eUn_ap, eNotD_ap, eOrD_ap, eChain_ap, eListRg1_ap, eIsa_ap, eMt_ap, iEnumV_ap, iEnumF_ap, iZipV_ap, iZipF_ap, eTLen_ap, iRng3D_ap, sEnd_ap, eSs_ap, sPar3_ap, xPop_ap, xTup1_ap, xCat_ap, sSetX_ap, sAppX_ap, sParO_ap, sForEI_ap, sForK_ap, runB_ap, gOne_ap, gMany_ap, dI_ap, yesC_ap, dCmp_int, setD, kill_nx, kill_rt, kill_bk, Option.bind_some, Option.map_some, Option.bind_none, Option.map_none, List.getElem?_cons_zero, List.getElem?_cons_succ, List.set_cons_zero, List.set_cons_succ, List.cons_append, List.nil_append, List.append_nil, List.replicate, List.length_cons, List.length_nil, Nat.reduceAdd, Nat.reduceSub, Nat.zero_add, wdat_no, wdat_d, wdat_town, wdat_ol, wdat_od, wfrz_no, wfrz_d, wfrz_town, wfrz_ol, wfrz_od, wval_no, wval_d, wval_town, wval_ol, wval_od, warg_no, warg_d, warg_town, warg_ol, warg_od, vals, gLen, gAbs, gMax2, gMin2, gInt, gTup, gList, wipeW, if_true, if_false, Bool.false_eq_true, Bool.not_true, Bool.not_false, reduceCtorEq, iSeq, hb, e]
/-- the first key that tells -/
def wrd : Rw → Th → Th → Int
  | [], _, _ => 0
  | k :: r, s, t => if k.worth s = k.worth t then wrd r s t else if k.worth s < k.worth t then -1 else 1
theorem word_ok (r : Rw) (h : Rw.ok r) (s t : Th) (hs : s.ok) (ht : t.ok) (n : Nat) : m__law_word [.d (rowD r), .d s.d, .d t.d] n = some (I' (wrd r s t), n) := by
  have key : ∀ (ρ0 w3 w4 w5 : W), (∃ ρ', loopF (gOne 3) (sSeq (sPar 4 5 (aCons (eCall m__law_worth (aCons (eVar 3) (aCons (eVar 1) aNil))) (aCons (eCall m__law_worth (aCons (eVar 3) (aCons (eVar 2) aNil))) aNil)))
      (sIf (bTest (eBin dNe (dVar 4) (dVar 5)))
      (sRet (eIf (bTest (eBin (dCmp rLt zLt) (dVar 4) (dVar 5))) (eUn dNeg (dOf (eC (.int 1)))) (eC (.int 1))))
      sNil')) (r.map Ky.d) [ρ0, .d s.d, .d t.d, w3, w4, w5] n = some (.nx ρ' n) ∧ wrd r s t = 0) ∨ loopF (gOne 3) (sSeq (sPar 4 5 (aCons (eCall m__law_worth (aCons (eVar 3) (aCons (eVar 1) aNil))) (aCons (eCall m__law_worth (aCons (eVar 3) (aCons (eVar 2) aNil))) aNil)))
      (sIf (bTest (eBin dNe (dVar 4) (dVar 5)))
      (sRet (eIf (bTest (eBin (dCmp rLt zLt) (dVar 4) (dVar 5))) (eUn dNeg (dOf (eC (.int 1)))) (eC (.int 1))))
      sNil')) (r.map Ky.d) [ρ0, .d s.d, .d t.d, w3, w4, w5] n = some (.rt (I' (wrd r s t)) n) := by
    induction r with
    | nil => intro ρ0 w3 w4 w5; exact .inl ⟨_, rfl, rfl⟩
    | cons k r ih =>
      intro ρ0 w3 w4 w5
      have h1 := lworth_ok k (h k (List.mem_cons_self ..)) s hs n
      have h2 := lworth_ok k (h k (List.mem_cons_self ..)) t ht n
      rw [List.map_cons, loopF_cons]
      by_cases e : k.worth s = k.worth t
      · have e2 : (k.worth t == k.worth t) = true := by simp
        have ew : wrd (k :: r) s t = wrd r s t := if_pos e
        rw [ew]
        rcases ih (fun z hz => h z (List.mem_cons_of_mem _ hz)) ρ0 (.d k.d) (I' (k.worth s)) (I' (k.worth t)) with ⟨ρ', q1, q2⟩ | q
        · refine .inl ⟨ρ', ?_, q2⟩
          rw [e] at q1
          simp -implicitDefEqProofs only [eVar_ap, dVar_ap, eC_ap, dOf_ap, eFrz_ap, eBin_ap, bTest_ap, bTru_ap, bAnd_ap, bOr_ap, bNot_ap, eIf_ap, eB_ap, eAnd_ap, eOr_ap, aNil_ap, aCons_ap, sNil_ap, sCons_ap, eTup_ap, eLst_ap, eCall_ap, eApp_ap, oNone_ap, oSome_ap, eSl_ap, sNil'_ap, sSeq_ap, sBrk_ap, sRet_ap, sRetN_ap, sRetO_ap, sDrop_ap, sIf_ap, sSet_ap, sApp_ap, sTown_ap, sExt_ap, sIns_ap, sSetIx_ap, sAsg_ap, sPar_ap, iOf_ap, iVal_ap, iRng1_ap, iRng2_ap, sFor_ap, eComp_ap, bYes_ap, frzAt_ap, eUn_ap, eNotD_ap, eOrD_ap, eChain_ap, eListRg1_ap, eIsa_ap, eMt_ap, iEnumV_ap, iEnumF_ap, iZipV_ap, iZipF_ap, eTLen_ap, iRng3D_ap, sEnd_ap, eSs_ap, sPar3_ap, xPop_ap, xTup1_ap, xCat_ap, sSetX_ap, sAppX_ap, sParO_ap, sForEI_ap, sForK_ap, runB_ap, gOne_ap, gMany_ap, dI_ap, yesC_ap, dCmp_int, setD, kill_nx, kill_rt, kill_bk, Option.bind_some, Option.map_some, Option.bind_none, Option.map_none, List.getElem?_cons_zero, List.getElem?_cons_succ, List.set_cons_zero, List.set_cons_succ, List.cons_append, List.nil_append, List.append_nil, List.replicate, List.length_cons, List.length_nil, Nat.reduceAdd, Nat.reduceSub, Nat.zero_add, wdat_no, wdat_d, wdat_town, wdat_ol, wdat_od, wfrz_no, wfrz_d, wfrz_town, wfrz_ol, wfrz_od, wval_no, wval_d, wval_town, wval_ol, wval_od, warg_no, warg_d, warg_town, warg_ol, warg_od, vals, gLen, gAbs, gMax2, gMin2, gInt, gTup, gList, wipeW, if_true, if_false, Bool.false_eq_true, Bool.not_true, Bool.not_false, reduceCtorEq, q_Up_Up, q_Up_Down, q_Up_Part, q_Up_Rest, q_Up_Table, q_Up_Among, q_Up_Sum, q_Up_Gap, q_Down_Up, q_Down_Down, q_Down_Part, q_Down_Rest, q_Down_Table, q_Down_Among, q_Down_Sum, q_Down_Gap, q_Part_Up, q_Part_Down, q_Part_Part, q_Part_Rest, q_Part_Table, q_Part_Among, q_Part_Sum, q_Part_Gap, q_Rest_Up, q_Rest_Down, q_Rest_Part, q_Rest_Rest, q_Rest_Table, q_Rest_Among, q_Rest_Sum, q_Rest_Gap, q_Table_Up, q_Table_Down, q_Table_Part, q_Table_Rest, q_Table_Table, q_Table_Among, q_Table_Sum, q_Table_Gap, q_Among_Up, q_Among_Down, q_Among_Part, q_Among_Rest, q_Among_Table, q_Among_Among, q_Among_Sum, q_Among_Gap, q_Sum_Up, q_Sum_Down, q_Sum_Part, q_Sum_Rest, q_Sum_Table, q_Sum_Among, q_Sum_Sum, q_Sum_Gap, q_Gap_Up, q_Gap_Down, q_Gap_Part, q_Gap_Rest, q_Gap_Table, q_Gap_Among, q_Gap_Sum, q_Gap_Gap, q_Most_Up, q_Most_Down, q_Most_Part, q_Most_Rest, q_Most_Table, q_Most_Among, q_Most_Sum, q_Most_Gap, i0, i1, i2, dAdd_int, dSub_int, rLt, rLe, rGt, rGe, dEq_int, dNe_int, dIn_ints, dNotIn_ints, isTupD, isLstD, PK.d, h1, h2, e, e2, q1]
        · refine .inr ?_
          rw [e] at q
          simp -implicitDefEqProofs only [eVar_ap, dVar_ap, eC_ap, dOf_ap, eFrz_ap, eBin_ap, bTest_ap, bTru_ap, bAnd_ap, bOr_ap, bNot_ap, eIf_ap, eB_ap, eAnd_ap, eOr_ap, aNil_ap, aCons_ap, sNil_ap, sCons_ap, eTup_ap, eLst_ap, eCall_ap, eApp_ap, oNone_ap, oSome_ap, eSl_ap, sNil'_ap, sSeq_ap, sBrk_ap, sRet_ap, sRetN_ap, sRetO_ap, sDrop_ap, sIf_ap, sSet_ap, sApp_ap, sTown_ap, sExt_ap, sIns_ap, sSetIx_ap, sAsg_ap, sPar_ap, iOf_ap, iVal_ap, iRng1_ap, iRng2_ap, sFor_ap, eComp_ap, bYes_ap, frzAt_ap, eUn_ap, eNotD_ap, eOrD_ap, eChain_ap, eListRg1_ap, eIsa_ap, eMt_ap, iEnumV_ap, iEnumF_ap, iZipV_ap, iZipF_ap, eTLen_ap, iRng3D_ap, sEnd_ap, eSs_ap, sPar3_ap, xPop_ap, xTup1_ap, xCat_ap, sSetX_ap, sAppX_ap, sParO_ap, sForEI_ap, sForK_ap, runB_ap, gOne_ap, gMany_ap, dI_ap, yesC_ap, dCmp_int, setD, kill_nx, kill_rt, kill_bk, Option.bind_some, Option.map_some, Option.bind_none, Option.map_none, List.getElem?_cons_zero, List.getElem?_cons_succ, List.set_cons_zero, List.set_cons_succ, List.cons_append, List.nil_append, List.append_nil, List.replicate, List.length_cons, List.length_nil, Nat.reduceAdd, Nat.reduceSub, Nat.zero_add, wdat_no, wdat_d, wdat_town, wdat_ol, wdat_od, wfrz_no, wfrz_d, wfrz_town, wfrz_ol, wfrz_od, wval_no, wval_d, wval_town, wval_ol, wval_od, warg_no, warg_d, warg_town, warg_ol, warg_od, vals, gLen, gAbs, gMax2, gMin2, gInt, gTup, gList, wipeW, if_true, if_false, Bool.false_eq_true, Bool.not_true, Bool.not_false, reduceCtorEq, q_Up_Up, q_Up_Down, q_Up_Part, q_Up_Rest, q_Up_Table, q_Up_Among, q_Up_Sum, q_Up_Gap, q_Down_Up, q_Down_Down, q_Down_Part, q_Down_Rest, q_Down_Table, q_Down_Among, q_Down_Sum, q_Down_Gap, q_Part_Up, q_Part_Down, q_Part_Part, q_Part_Rest, q_Part_Table, q_Part_Among, q_Part_Sum, q_Part_Gap, q_Rest_Up, q_Rest_Down, q_Rest_Part, q_Rest_Rest, q_Rest_Table, q_Rest_Among, q_Rest_Sum, q_Rest_Gap, q_Table_Up, q_Table_Down, q_Table_Part, q_Table_Rest, q_Table_Table, q_Table_Among, q_Table_Sum, q_Table_Gap, q_Among_Up, q_Among_Down, q_Among_Part, q_Among_Rest, q_Among_Table, q_Among_Among, q_Among_Sum, q_Among_Gap, q_Sum_Up, q_Sum_Down, q_Sum_Part, q_Sum_Rest, q_Sum_Table, q_Sum_Among, q_Sum_Sum, q_Sum_Gap, q_Gap_Up, q_Gap_Down, q_Gap_Part, q_Gap_Rest, q_Gap_Table, q_Gap_Among, q_Gap_Sum, q_Gap_Gap, q_Most_Up, q_Most_Down, q_Most_Part, q_Most_Rest, q_Most_Table, q_Most_Among, q_Most_Sum, q_Most_Gap, i0, i1, i2, dAdd_int, dSub_int, rLt, rLe, rGt, rGe, dEq_int, dNe_int, dIn_ints, dNotIn_ints, isTupD, isLstD, PK.d, h1, h2, e, e2, q]
      · have e2 : (k.worth s == k.worth t) = false := by simpa using e
        right
        by_cases l : k.worth s < k.worth t
        · have ew : wrd (k :: r) s t = -1 := by show (if _ then _ else _) = _; rw [if_neg e, if_pos l]
          simp -implicitDefEqProofs only [eVar_ap, dVar_ap, eC_ap, dOf_ap, eFrz_ap, eBin_ap, bTest_ap, bTru_ap, bAnd_ap, bOr_ap, bNot_ap, eIf_ap, eB_ap, eAnd_ap, eOr_ap, aNil_ap, aCons_ap, sNil_ap, sCons_ap, eTup_ap, eLst_ap, eCall_ap, eApp_ap, oNone_ap, oSome_ap, eSl_ap, sNil'_ap, sSeq_ap, sBrk_ap, sRet_ap, sRetN_ap, sRetO_ap, sDrop_ap, sIf_ap, sSet_ap, sApp_ap, sTown_ap, sExt_ap, sIns_ap, sSetIx_ap, sAsg_ap, sPar_ap, iOf_ap, iVal_ap, iRng1_ap, iRng2_ap, sFor_ap, eComp_ap, bYes_ap, frzAt_ap, eUn_ap, eNotD_ap, eOrD_ap, eChain_ap, eListRg1_ap, eIsa_ap, eMt_ap, iEnumV_ap, iEnumF_ap, iZipV_ap, iZipF_ap, eTLen_ap, iRng3D_ap, sEnd_ap, eSs_ap, sPar3_ap, xPop_ap, xTup1_ap, xCat_ap, sSetX_ap, sAppX_ap, sParO_ap, sForEI_ap, sForK_ap, runB_ap, gOne_ap, gMany_ap, dI_ap, yesC_ap, dCmp_int, setD, kill_nx, kill_rt, kill_bk, Option.bind_some, Option.map_some, Option.bind_none, Option.map_none, List.getElem?_cons_zero, List.getElem?_cons_succ, List.set_cons_zero, List.set_cons_succ, List.cons_append, List.nil_append, List.append_nil, List.replicate, List.length_cons, List.length_nil, Nat.reduceAdd, Nat.reduceSub, Nat.zero_add, wdat_no, wdat_d, wdat_town, wdat_ol, wdat_od, wfrz_no, wfrz_d, wfrz_town, wfrz_ol, wfrz_od, wval_no, wval_d, wval_town, wval_ol, wval_od, warg_no, warg_d, warg_town, warg_ol, warg_od, vals, gLen, gAbs, gMax2, gMin2, gInt, gTup, gList, wipeW, if_true, if_false, Bool.false_eq_true, Bool.not_true, Bool.not_false, reduceCtorEq, q_Up_Up, q_Up_Down, q_Up_Part, q_Up_Rest, q_Up_Table, q_Up_Among, q_Up_Sum, q_Up_Gap, q_Down_Up, q_Down_Down, q_Down_Part, q_Down_Rest, q_Down_Table, q_Down_Among, q_Down_Sum, q_Down_Gap, q_Part_Up, q_Part_Down, q_Part_Part, q_Part_Rest, q_Part_Table, q_Part_Among, q_Part_Sum, q_Part_Gap, q_Rest_Up, q_Rest_Down, q_Rest_Part, q_Rest_Rest, q_Rest_Table, q_Rest_Among, q_Rest_Sum, q_Rest_Gap, q_Table_Up, q_Table_Down, q_Table_Part, q_Table_Rest, q_Table_Table, q_Table_Among, q_Table_Sum, q_Table_Gap, q_Among_Up, q_Among_Down, q_Among_Part, q_Among_Rest, q_Among_Table, q_Among_Among, q_Among_Sum, q_Among_Gap, q_Sum_Up, q_Sum_Down, q_Sum_Part, q_Sum_Rest, q_Sum_Table, q_Sum_Among, q_Sum_Sum, q_Sum_Gap, q_Gap_Up, q_Gap_Down, q_Gap_Part, q_Gap_Rest, q_Gap_Table, q_Gap_Among, q_Gap_Sum, q_Gap_Gap, q_Most_Up, q_Most_Down, q_Most_Part, q_Most_Rest, q_Most_Table, q_Most_Among, q_Most_Sum, q_Most_Gap, i0, i1, i2, dAdd_int, dSub_int, rLt, rLe, rGt, rGe, dEq_int, dNe_int, dIn_ints, dNotIn_ints, isTupD, isLstD, PK.d, h1, h2, e2, l, decide_true, dNeg, ew]
        · have ew : wrd (k :: r) s t = 1 := by show (if _ then _ else _) = _; rw [if_neg e, if_neg l]
          simp -implicitDefEqProofs only [eVar_ap, dVar_ap, eC_ap, dOf_ap, eFrz_ap, eBin_ap, bTest_ap, bTru_ap, bAnd_ap, bOr_ap, bNot_ap, eIf_ap, eB_ap, eAnd_ap, eOr_ap, aNil_ap, aCons_ap, sNil_ap, sCons_ap, eTup_ap, eLst_ap, eCall_ap, eApp_ap, oNone_ap, oSome_ap, eSl_ap, sNil'_ap, sSeq_ap, sBrk_ap, sRet_ap, sRetN_ap, sRetO_ap, sDrop_ap, sIf_ap, sSet_ap, sApp_ap, sTown_ap, sExt_ap, sIns_ap, sSetIx_ap, sAsg_ap, sPar_ap, iOf_ap, iVal_ap, iRng1_ap, iRng2_ap, sFor_ap, eComp_ap, bYes_ap, frzAt_ap, eUn_ap, eNotD_ap, eOrD_ap, eChain_ap, eListRg1_ap, eIsa_ap, eMt_ap, iEnumV_ap, iEnumF_ap, iZipV_ap, iZipF_ap, eTLen_ap, iRng3D_ap, sEnd_ap, eSs_ap, sPar3_ap, xPop_ap, xTup1_ap, xCat_ap, sSetX_ap, sAppX_ap, sParO_ap, sForEI_ap, sForK_ap, runB_ap, gOne_ap, gMany_ap, dI_ap, yesC_ap, dCmp_int, setD, kill_nx, kill_rt, kill_bk, Option.bind_some, Option.map_some, Option.bind_none, Option.map_none, List.getElem?_cons_zero, List.getElem?_cons_succ, List.set_cons_zero, List.set_cons_succ, List.cons_append, List.nil_append, List.append_nil, List.replicate, List.length_cons, List.length_nil, Nat.reduceAdd, Nat.reduceSub, Nat.zero_add, wdat_no, wdat_d, wdat_town, wdat_ol, wdat_od, wfrz_no, wfrz_d, wfrz_town, wfrz_ol, wfrz_od, wval_no, wval_d, wval_town, wval_ol, wval_od, warg_no, warg_d, warg_town, warg_ol, warg_od, vals, gLen, gAbs, gMax2, gMin2, gInt, gTup, gList, wipeW, if_true, if_false, Bool.false_eq_true, Bool.not_true, Bool.not_false, reduceCtorEq, q_Up_Up, q_Up_Down, q_Up_Part, q_Up_Rest, q_Up_Table, q_Up_Among, q_Up_Sum, q_Up_Gap, q_Down_Up, q_Down_Down, q_Down_Part, q_Down_Rest, q_Down_Table, q_Down_Among, q_Down_Sum, q_Down_Gap, q_Part_Up, q_Part_Down, q_Part_Part, q_Part_Rest, q_Part_Table, q_Part_Among, q_Part_Sum, q_Part_Gap, q_Rest_Up, q_Rest_Down, q_Rest_Part, q_Rest_Rest, q_Rest_Table, q_Rest_Among, q_Rest_Sum, q_Rest_Gap, q_Table_Up, q_Table_Down, q_Table_Part, q_Table_Rest, q_Table_Table, q_Table_Among, q_Table_Sum, q_Table_Gap, q_Among_Up, q_Among_Down, q_Among_Part, q_Among_Rest, q_Among_Table, q_Among_Among, q_Among_Sum, q_Among_Gap, q_Sum_Up, q_Sum_Down, q_Sum_Part, q_Sum_Rest, q_Sum_Table, q_Sum_Among, q_Sum_Sum, q_Sum_Gap, q_Gap_Up, q_Gap_Down, q_Gap_Part, q_Gap_Rest, q_Gap_Table, q_Gap_Among, q_Gap_Sum, q_Gap_Gap, q_Most_Up, q_Most_Down, q_Most_Part, q_Most_Rest, q_Most_Table, q_Most_Among, q_Most_Sum, q_Most_Gap, i0, i1, i2, dAdd_int, dSub_int, rLt, rLe, rGt, rGe, dEq_int, dNe_int, dIn_ints, dNotIn_ints, isTupD, isLstD, PK.d, h1, h2, e2, l, decide_false, dNeg, ew]
  unfold m__law_word b__law_word l__law_word_1
  rcases key (.d (rowD r)) .no .no .no with ⟨ρ', q1, q2⟩ | q
  · simp -implicitDefEqProofs only [eVar_ap, dVar_ap, eC_ap, dOf_ap, eFrz_ap, eBin_ap, bTest_ap, bTru_ap, bAnd_ap, bOr_ap, bNot_ap, eIf_ap, eB_ap, eAnd_ap, eOr_ap, aNil_ap, aCons_ap, sNil_ap, sCons_ap, eTup_ap, eLst_ap, eCall_ap, eApp_ap, oNone_ap, oSome_ap, eSl_ap, sNil'_ap, sSeq_ap, sBrk_ap, sRet_ap, sRetN_ap, sRetO_ap, sDrop_ap, sIf_ap, sSet_ap, sApp_ap, sTown_ap, sExt_ap, sIns_ap, sSetIx_ap, sAsg_ap, sPar_ap, iOf_ap, iVal_ap, iRng1_ap, iRng2_ap, sFor_ap, eComp_ap, bYes_ap, frzAt_ap, eUn_ap, eNotD_ap, eOrD_ap, eChain_ap, eListRg1_ap, eIsa_ap, eMt_ap, iEnumV_ap, iEnumF_ap, iZipV_ap, iZipF_ap, eTLen_ap, iRng3D_ap, sEnd_ap, eSs_ap, sPar3_ap, xPop_ap, xTup1_ap, xCat_ap, sSetX_ap, sAppX_ap, sParO_ap, sForEI_ap, sForK_ap, runB_ap, gOne_ap, gMany_ap, dI_ap, yesC_ap, dCmp_int, setD, kill_nx, kill_rt, kill_bk, Option.bind_some, Option.map_some, Option.bind_none, Option.map_none, List.getElem?_cons_zero, List.getElem?_cons_succ, List.set_cons_zero, List.set_cons_succ, List.cons_append, List.nil_append, List.append_nil, List.replicate, List.length_cons, List.length_nil, Nat.reduceAdd, Nat.reduceSub, Nat.zero_add, wdat_no, wdat_d, wdat_town, wdat_ol, wdat_od, wfrz_no, wfrz_d, wfrz_town, wfrz_ol, wfrz_od, wval_no, wval_d, wval_town, wval_ol, wval_od, warg_no, warg_d, warg_town, warg_ol, warg_od, vals, gLen, gAbs, gMax2, gMin2, gInt, gTup, gList, wipeW, if_true, if_false, Bool.false_eq_true, Bool.not_true, Bool.not_false, reduceCtorEq, q_Up_Up, q_Up_Down, q_Up_Part, q_Up_Rest, q_Up_Table, q_Up_Among, q_Up_Sum, q_Up_Gap, q_Down_Up, q_Down_Down, q_Down_Part, q_Down_Rest, q_Down_Table, q_Down_Among, q_Down_Sum, q_Down_Gap, q_Part_Up, q_Part_Down, q_Part_Part, q_Part_Rest, q_Part_Table, q_Part_Among, q_Part_Sum, q_Part_Gap, q_Rest_Up, q_Rest_Down, q_Rest_Part, q_Rest_Rest, q_Rest_Table, q_Rest_Among, q_Rest_Sum, q_Rest_Gap, q_Table_Up, q_Table_Down, q_Table_Part, q_Table_Rest, q_Table_Table, q_Table_Among, q_Table_Sum, q_Table_Gap, q_Among_Up, q_Among_Down, q_Among_Part, q_Among_Rest, q_Among_Table, q_Among_Among, q_Among_Sum, q_Among_Gap, q_Sum_Up, q_Sum_Down, q_Sum_Part, q_Sum_Rest, q_Sum_Table, q_Sum_Among, q_Sum_Sum, q_Sum_Gap, q_Gap_Up, q_Gap_Down, q_Gap_Part, q_Gap_Rest, q_Gap_Table, q_Gap_Among, q_Gap_Sum, q_Gap_Gap, q_Most_Up, q_Most_Down, q_Most_Part, q_Most_Rest, q_Most_Table, q_Most_Among, q_Most_Sum, q_Most_Gap, i0, i1, i2, dAdd_int, dSub_int, rLt, rLe, rGt, rGe, dEq_int, dNe_int, dIn_ints, dNotIn_ints, isTupD, isLstD, PK.d, iSeq, q1, q2]
  · simp -implicitDefEqProofs only [eVar_ap, dVar_ap, eC_ap, dOf_ap, eFrz_ap, eBin_ap, bTest_ap, bTru_ap, bAnd_ap, bOr_ap, bNot_ap, eIf_ap, eB_ap, eAnd_ap, eOr_ap, aNil_ap, aCons_ap, sNil_ap, sCons_ap, eTup_ap, eLst_ap, eCall_ap, eApp_ap, oNone_ap, oSome_ap, eSl_ap, sNil'_ap, sSeq_ap, sBrk_ap, sRet_ap, sRetN_ap, sRetO_ap, sDrop_ap, sIf_ap, sSet_ap, sApp_ap, sTown_ap, sExt_ap, sIns_ap, sSetIx_ap, sAsg_ap, sPar_ap, iOf_ap, iVal_ap, iRng1_ap, iRng2_ap, sFor_ap, eComp_ap, bYes_ap, frzAt_ap, eUn_ap, eNotD_ap, eOrD_ap, eChain_ap, eListRg1_ap, eIsa_ap, eMt_ap, iEnumV_ap, iEnumF_ap, iZipV_ap, iZipF_ap, eTLen_ap, iRng3D_ap, sEnd_ap, eSs_ap, sPar3_ap, xPop_ap, xTup1_ap, xCat_ap, sSetX_ap, sAppX_ap, sParO_ap, sForEI_ap, sForK_ap, runB_ap, gOne_ap, gMany_ap, dI_ap, yesC_ap, dCmp_int, setD, kill_nx, kill_rt, kill_bk, Option.bind_some, Option.map_some, Option.bind_none, Option.map_none, List.getElem?_cons_zero, List.getElem?_cons_succ, List.set_cons_zero, List.set_cons_succ, List.cons_append, List.nil_append, List.append_nil, List.replicate, List.length_cons, List.length_nil, Nat.reduceAdd, Nat.reduceSub, Nat.zero_add, wdat_no, wdat_d, wdat_town, wdat_ol, wdat_od, wfrz_no, wfrz_d, wfrz_town, wfrz_ol, wfrz_od, wval_no, wval_d, wval_town, wval_ol, wval_od, warg_no, warg_d, warg_town, warg_ol, warg_od, vals, gLen, gAbs, gMax2, gMin2, gInt, gTup, gList, wipeW, if_true, if_false, Bool.false_eq_true, Bool.not_true, Bool.not_false, reduceCtorEq, q_Up_Up, q_Up_Down, q_Up_Part, q_Up_Rest, q_Up_Table, q_Up_Among, q_Up_Sum, q_Up_Gap, q_Down_Up, q_Down_Down, q_Down_Part, q_Down_Rest, q_Down_Table, q_Down_Among, q_Down_Sum, q_Down_Gap, q_Part_Up, q_Part_Down, q_Part_Part, q_Part_Rest, q_Part_Table, q_Part_Among, q_Part_Sum, q_Part_Gap, q_Rest_Up, q_Rest_Down, q_Rest_Part, q_Rest_Rest, q_Rest_Table, q_Rest_Among, q_Rest_Sum, q_Rest_Gap, q_Table_Up, q_Table_Down, q_Table_Part, q_Table_Rest, q_Table_Table, q_Table_Among, q_Table_Sum, q_Table_Gap, q_Among_Up, q_Among_Down, q_Among_Part, q_Among_Rest, q_Among_Table, q_Among_Among, q_Among_Sum, q_Among_Gap, q_Sum_Up, q_Sum_Down, q_Sum_Part, q_Sum_Rest, q_Sum_Table, q_Sum_Among, q_Sum_Sum, q_Sum_Gap, q_Gap_Up, q_Gap_Down, q_Gap_Part, q_Gap_Rest, q_Gap_Table, q_Gap_Among, q_Gap_Sum, q_Gap_Gap, q_Most_Up, q_Most_Down, q_Most_Part, q_Most_Rest, q_Most_Table, q_Most_Among, q_Most_Sum, q_Most_Gap, i0, i1, i2, dAdd_int, dSub_int, rLt, rLe, rGt, rGe, dEq_int, dNe_int, dIn_ints, dNotIn_ints, isTupD, isLstD, PK.d, iSeq, q]
theorem tld_wrd (r : Rw) (s t : Th) : tld r s t = wrd r s t := by
  unfold tld wts
  induction r with
  | nil => rfl
  | cons k r ih =>
    simp only [List.map_cons, lexB]
    by_cases e : k.worth s = k.worth t
    · rw [if_pos e, if_pos e, ih]
      exact (if_pos e).symm
    · rw [if_neg e, if_neg e]
      show _ = if _ then _ else _
      rw [if_neg e]
      by_cases l : k.worth s < k.worth t
      · simp [rLt, rGt, l]; omega
      · simp [rLt, rGt, l]; omega
theorem told_ok' (r : Rw) (h : Rw.ok r) (hl : r.length ≤ 1000000) (s t : Th) (n : Nat) : m_told [.d (rowD r), .d s.d, .d t.d] n = some (I' (wrd r s t), n) := by rw [told_ok r h hl, tld_wrd]
theorem wrd_anti (r : Rw) (s t : Th) : wrd r t s = 0 - wrd r s t := by
  induction r with
  | nil => rfl
  | cons k r ih =>
    simp only [wrd]
    by_cases e : k.worth s = k.worth t
    · rw [if_pos e.symm, if_pos e, ih]
    · rw [if_neg e, if_neg (Ne.symm e)]
      split <;> split <;> omega
theorem wrd_refl (r : Rw) (s : Th) : wrd r s s = 0 := by have := wrd_anti r s s; omega
/-- the order is one -/
theorem wrd_trans (r : Rw) (s t u : Th) (h1 : wrd r s t < 1) (h2 : wrd r t u < 1) : wrd r s u < 1 := by
  induction r with
  | nil => exact Int.one_pos
  | cons k r ih =>
    simp only [wrd] at h1 h2 ⊢
    by_cases e1 : k.worth s = k.worth t
    · by_cases e2 : k.worth t = k.worth u
      · rw [if_pos e1] at h1; rw [if_pos e2] at h2; rw [if_pos (e1.trans e2)]; exact ih h1 h2
      · rw [if_neg e2] at h2
        rw [e1, if_neg e2]
        exact h2
    · rw [if_neg e1] at h1
      split at h1
      · by_cases e2 : k.worth t = k.worth u
        · rw [← e2, if_neg e1, if_pos (by assumption)]; decide
        · rw [if_neg e2] at h2
          split at h2
          · rw [if_neg (by omega), if_pos (by omega)]; decide
          · omega
      · omega
/-! turned -/
def Ky.turn : Ky → Ky
  | pl p => dn p
  | dn p => pl p
theorem Ky.turn_ok {k : Ky} (h : k.ok) : k.turn.ok := by cases k <;> exact h
theorem Ky.turn_turn (k : Ky) : k.turn.turn = k := by cases k <;> rfl
theorem Ky.turn_worth (k : Ky) (t : Th) : k.turn.worth t = 0 - k.worth t := by
  cases k with
  | pl p => rfl
  | dn p => show p.worth t = 0 - (0 - p.worth t); omega
theorem turned_key_ok (k : Ky) (n : Nat) : m_turned_key [.d k.d] n = some (.d k.turn.d, n) := by
  unfold m_turned_key b_turned_key
  cases k with
  | pl p =>
    obtain ⟨s, xs, e1, e2⟩ := p.d_tup
    show _ = some (W.d (.tuple [.str sDown, p.d]), n)
    rw [show (Ky.pl p).d = p.d from rfl, e1]
    simp -implicitDefEqProofs only [eVar_ap, dVar_ap, eC_ap, dOf_ap, eFrz_ap, eBin_ap, bTest_ap, bTru_ap, bAnd_ap, bOr_ap, bNot_ap, eIf_ap, eB_ap, eAnd_ap, eOr_ap, aNil_ap, aCons_ap, sNil_ap, sCons_ap, eTup_ap, eLst_ap, eCall_ap, eApp_ap, oNone_ap, oSome_ap, eSl_ap, sNil'_ap, sSeq_ap, sBrk_ap, sRet_ap, sRetN_ap, sRetO_ap, sDrop_ap, sIf_ap, sSet_ap, sApp_ap, sTown_ap, sExt_ap, sIns_ap, sSetIx_ap, sAsg_ap, sPar_ap, iOf_ap, iVal_ap, iRng1_ap, iRng2_ap, sFor_ap, eComp_ap, bYes_ap, frzAt_ap, eUn_ap, eNotD_ap, eOrD_ap, eChain_ap, eListRg1_ap, eIsa_ap, eMt_ap, iEnumV_ap, iEnumF_ap, iZipV_ap, iZipF_ap, eTLen_ap, iRng3D_ap, sEnd_ap, eSs_ap, sPar3_ap, xPop_ap, xTup1_ap, xCat_ap, sSetX_ap, sAppX_ap, sParO_ap, sForEI_ap, sForK_ap, runB_ap, gOne_ap, gMany_ap, dI_ap, yesC_ap, dCmp_int, setD, kill_nx, kill_rt, kill_bk, Option.bind_some, Option.map_some, Option.bind_none, Option.map_none, List.getElem?_cons_zero, List.getElem?_cons_succ, List.set_cons_zero, List.set_cons_succ, List.cons_append, List.nil_append, List.append_nil, List.replicate, List.length_cons, List.length_nil, Nat.reduceAdd, Nat.reduceSub, Nat.zero_add, wdat_no, wdat_d, wdat_town, wdat_ol, wdat_od, wfrz_no, wfrz_d, wfrz_town, wfrz_ol, wfrz_od, wval_no, wval_d, wval_town, wval_ol, wval_od, warg_no, warg_d, warg_town, warg_ol, warg_od, vals, gLen, gAbs, gMax2, gMin2, gInt, gTup, gList, wipeW, if_true, if_false, Bool.false_eq_true, Bool.not_true, Bool.not_false, reduceCtorEq, q_Up_Up, q_Up_Down, q_Up_Part, q_Up_Rest, q_Up_Table, q_Up_Among, q_Up_Sum, q_Up_Gap, q_Down_Up, q_Down_Down, q_Down_Part, q_Down_Rest, q_Down_Table, q_Down_Among, q_Down_Sum, q_Down_Gap, q_Part_Up, q_Part_Down, q_Part_Part, q_Part_Rest, q_Part_Table, q_Part_Among, q_Part_Sum, q_Part_Gap, q_Rest_Up, q_Rest_Down, q_Rest_Part, q_Rest_Rest, q_Rest_Table, q_Rest_Among, q_Rest_Sum, q_Rest_Gap, q_Table_Up, q_Table_Down, q_Table_Part, q_Table_Rest, q_Table_Table, q_Table_Among, q_Table_Sum, q_Table_Gap, q_Among_Up, q_Among_Down, q_Among_Part, q_Among_Rest, q_Among_Table, q_Among_Among, q_Among_Sum, q_Among_Gap, q_Sum_Up, q_Sum_Down, q_Sum_Part, q_Sum_Rest, q_Sum_Table, q_Sum_Among, q_Sum_Sum, q_Sum_Gap, q_Gap_Up, q_Gap_Down, q_Gap_Part, q_Gap_Rest, q_Gap_Table, q_Gap_Among, q_Gap_Sum, q_Gap_Gap, q_Most_Up, q_Most_Down, q_Most_Part, q_Most_Rest, q_Most_Table, q_Most_Among, q_Most_Sum, q_Most_Gap, i0, i1, i2, dAdd_int, dSub_int, rLt, rLe, rGt, rGe, dEq_int, dNe_int, dIn_ints, dNotIn_ints, isTupD, isLstD, e2]
  | dn p => simp -implicitDefEqProofs only [eVar_ap, dVar_ap, eC_ap, dOf_ap, eFrz_ap, eBin_ap, bTest_ap, bTru_ap, bAnd_ap, bOr_ap, bNot_ap, eIf_ap, eB_ap, eAnd_ap, eOr_ap, aNil_ap, aCons_ap, sNil_ap, sCons_ap, eTup_ap, eLst_ap, eCall_ap, eApp_ap, oNone_ap, oSome_ap, eSl_ap, sNil'_ap, sSeq_ap, sBrk_ap, sRet_ap, sRetN_ap, sRetO_ap, sDrop_ap, sIf_ap, sSet_ap, sApp_ap, sTown_ap, sExt_ap, sIns_ap, sSetIx_ap, sAsg_ap, sPar_ap, iOf_ap, iVal_ap, iRng1_ap, iRng2_ap, sFor_ap, eComp_ap, bYes_ap, frzAt_ap, eUn_ap, eNotD_ap, eOrD_ap, eChain_ap, eListRg1_ap, eIsa_ap, eMt_ap, iEnumV_ap, iEnumF_ap, iZipV_ap, iZipF_ap, eTLen_ap, iRng3D_ap, sEnd_ap, eSs_ap, sPar3_ap, xPop_ap, xTup1_ap, xCat_ap, sSetX_ap, sAppX_ap, sParO_ap, sForEI_ap, sForK_ap, runB_ap, gOne_ap, gMany_ap, dI_ap, yesC_ap, dCmp_int, setD, kill_nx, kill_rt, kill_bk, Option.bind_some, Option.map_some, Option.bind_none, Option.map_none, List.getElem?_cons_zero, List.getElem?_cons_succ, List.set_cons_zero, List.set_cons_succ, List.cons_append, List.nil_append, List.append_nil, List.replicate, List.length_cons, List.length_nil, Nat.reduceAdd, Nat.reduceSub, Nat.zero_add, wdat_no, wdat_d, wdat_town, wdat_ol, wdat_od, wfrz_no, wfrz_d, wfrz_town, wfrz_ol, wfrz_od, wval_no, wval_d, wval_town, wval_ol, wval_od, warg_no, warg_d, warg_town, warg_ol, warg_od, vals, gLen, gAbs, gMax2, gMin2, gInt, gTup, gList, wipeW, if_true, if_false, Bool.false_eq_true, Bool.not_true, Bool.not_false, reduceCtorEq, q_Up_Up, q_Up_Down, q_Up_Part, q_Up_Rest, q_Up_Table, q_Up_Among, q_Up_Sum, q_Up_Gap, q_Down_Up, q_Down_Down, q_Down_Part, q_Down_Rest, q_Down_Table, q_Down_Among, q_Down_Sum, q_Down_Gap, q_Part_Up, q_Part_Down, q_Part_Part, q_Part_Rest, q_Part_Table, q_Part_Among, q_Part_Sum, q_Part_Gap, q_Rest_Up, q_Rest_Down, q_Rest_Part, q_Rest_Rest, q_Rest_Table, q_Rest_Among, q_Rest_Sum, q_Rest_Gap, q_Table_Up, q_Table_Down, q_Table_Part, q_Table_Rest, q_Table_Table, q_Table_Among, q_Table_Sum, q_Table_Gap, q_Among_Up, q_Among_Down, q_Among_Part, q_Among_Rest, q_Among_Table, q_Among_Among, q_Among_Sum, q_Among_Gap, q_Sum_Up, q_Sum_Down, q_Sum_Part, q_Sum_Rest, q_Sum_Table, q_Sum_Among, q_Sum_Sum, q_Sum_Gap, q_Gap_Up, q_Gap_Down, q_Gap_Part, q_Gap_Rest, q_Gap_Table, q_Gap_Among, q_Gap_Sum, q_Gap_Gap, q_Most_Up, q_Most_Down, q_Most_Part, q_Most_Rest, q_Most_Table, q_Most_Among, q_Most_Sum, q_Most_Gap, i0, i1, i2, dAdd_int, dSub_int, rLt, rLe, rGt, rGe, dEq_int, dNe_int, dIn_ints, dNotIn_ints, isTupD, isLstD, Ky.d]; rfl
theorem turned_ok (r : Rw) (hl : r.length ≤ 1000000) (n : Nat) : m_turned [.d (rowD r)] n = some (.d (rowD (r.map Ky.turn)), n) := by
  have e : ∀ (ρ0 : W), loopC (gOne 1) [1] bYes (eCall m_turned_key (aCons (eVar 1) aNil)) [ρ0, .no] (r.map Ky.d) n = some ((r.map Ky.turn).map Ky.d, n) := by
    intro ρ0
    clear hl
    induction r with
    | nil => rfl
    | cons k r ih =>
      rw [List.map_cons, loopC_cons]
      simp -implicitDefEqProofs only [eVar_ap, dVar_ap, eC_ap, dOf_ap, eFrz_ap, eBin_ap, bTest_ap, bTru_ap, bAnd_ap, bOr_ap, bNot_ap, eIf_ap, eB_ap, eAnd_ap, eOr_ap, aNil_ap, aCons_ap, sNil_ap, sCons_ap, eTup_ap, eLst_ap, eCall_ap, eApp_ap, oNone_ap, oSome_ap, eSl_ap, sNil'_ap, sSeq_ap, sBrk_ap, sRet_ap, sRetN_ap, sRetO_ap, sDrop_ap, sIf_ap, sSet_ap, sApp_ap, sTown_ap, sExt_ap, sIns_ap, sSetIx_ap, sAsg_ap, sPar_ap, iOf_ap, iVal_ap, iRng1_ap, iRng2_ap, sFor_ap, eComp_ap, bYes_ap, frzAt_ap, eUn_ap, eNotD_ap, eOrD_ap, eChain_ap, eListRg1_ap, eIsa_ap, eMt_ap, iEnumV_ap, iEnumF_ap, iZipV_ap, iZipF_ap, eTLen_ap, iRng3D_ap, sEnd_ap, eSs_ap, sPar3_ap, xPop_ap, xTup1_ap, xCat_ap, sSetX_ap, sAppX_ap, sParO_ap, sForEI_ap, sForK_ap, runB_ap, gOne_ap, gMany_ap, dI_ap, yesC_ap, dCmp_int, setD, kill_nx, kill_rt, kill_bk, Option.bind_some, Option.map_some, Option.bind_none, Option.map_none, List.getElem?_cons_zero, List.getElem?_cons_succ, List.set_cons_zero, List.set_cons_succ, List.cons_append, List.nil_append, List.append_nil, List.replicate, List.length_cons, List.length_nil, Nat.reduceAdd, Nat.reduceSub, Nat.zero_add, wdat_no, wdat_d, wdat_town, wdat_ol, wdat_od, wfrz_no, wfrz_d, wfrz_town, wfrz_ol, wfrz_od, wval_no, wval_d, wval_town, wval_ol, wval_od, warg_no, warg_d, warg_town, warg_ol, warg_od, vals, gLen, gAbs, gMax2, gMin2, gInt, gTup, gList, wipeW, if_true, if_false, Bool.false_eq_true, Bool.not_true, Bool.not_false, reduceCtorEq, turned_key_ok k n, ih, List.map_cons]
  have hb : (r.map Ky.d).length ≤ big := by rw [List.length_map]; exact le_big hl
  unfold m_turned b_turned
  simp -implicitDefEqProofs only [eVar_ap, dVar_ap, eC_ap, dOf_ap, eFrz_ap, eBin_ap, bTest_ap, bTru_ap, bAnd_ap, bOr_ap, bNot_ap, eIf_ap, eB_ap, eAnd_ap, eOr_ap, aNil_ap, aCons_ap, sNil_ap, sCons_ap, eTup_ap, eLst_ap, eCall_ap, eApp_ap, oNone_ap, oSome_ap, eSl_ap, sNil'_ap, sSeq_ap, sBrk_ap, sRet_ap, sRetN_ap, sRetO_ap, sDrop_ap, sIf_ap, sSet_ap, sApp_ap, sTown_ap, sExt_ap, sIns_ap, sSetIx_ap, sAsg_ap, sPar_ap, iOf_ap, iVal_ap, iRng1_ap, iRng2_ap, sFor_ap, eComp_ap, bYes_ap, frzAt_ap, eUn_ap, eNotD_ap, eOrD_ap, eChain_ap, eListRg1_ap, eIsa_ap, eMt_ap, iEnumV_ap, iEnumF_ap, iZipV_ap, iZipF_ap, eTLen_ap, iRng3D_ap, sEnd_ap, eSs_ap, sPar3_ap, xPop_ap, xTup1_ap, xCat_ap, sSetX_ap, sAppX_ap, sParO_ap, sForEI_ap, sForK_ap, runB_ap, gOne_ap, gMany_ap, dI_ap, yesC_ap, dCmp_int, setD, kill_nx, kill_rt, kill_bk, Option.bind_some, Option.map_some, Option.bind_none, Option.map_none, List.getElem?_cons_zero, List.getElem?_cons_succ, List.set_cons_zero, List.set_cons_succ, List.cons_append, List.nil_append, List.append_nil, List.replicate, List.length_cons, List.length_nil, Nat.reduceAdd, Nat.reduceSub, Nat.zero_add, wdat_no, wdat_d, wdat_town, wdat_ol, wdat_od, wfrz_no, wfrz_d, wfrz_town, wfrz_ol, wfrz_od, wval_no, wval_d, wval_town, wval_ol, wval_od, warg_no, warg_d, warg_town, warg_ol, warg_od, vals, gLen, gAbs, gMax2, gMin2, gInt, gTup, gList, wipeW, if_true, if_false, Bool.false_eq_true, Bool.not_true, Bool.not_false, reduceCtorEq, iSeq, hb, e]
theorem wrd_turn (r : Rw) (s t : Th) : wrd (r.map Ky.turn) s t = 0 - wrd r s t := by
  induction r with
  | nil => rfl
  | cons k r ih =>
    simp only [List.map_cons, wrd, Ky.turn_worth, ih]
    by_cases e : k.worth s = k.worth t
    · rw [if_pos (by omega), if_pos e]
    · rw [if_neg (by omega), if_neg e]
      split <;> split <;> omega
theorem wts_turn (r : Rw) (t : Th) : wts (r.map Ky.turn) t = (wts r t).map (0 - ·) := by
  simp [wts, Ky.turn_worth]
end L2.Lv.Sh
namespace L2.Lv.Sh
open PySem PySem.Spec PyProof.Rows L2 L2.Lv
/-- plain data, of depth at most k, its tuples not too long -/
def nc : Nat → PyData → Bool
  | 0, _ => false
  | _ + 1, .none => true
  | _ + 1, .bool _ => true
  | _ + 1, .int _ => true
  | _ + 1, .str s => shp (.str s)
  | k + 1, .tuple xs => decide (xs.length ≤ 1000000) && xs.all (nc k)
  | _ + 1, _ => false
theorem nc_sm : ∀ (k : Nat) (x : PyData), nc k x = true → sm k x = true ∧ short k x = true
  | 0, _, h => by simp [nc] at h
  | k + 1, .none, _ => ⟨rfl, rfl⟩
  | k + 1, .bool _, _ => ⟨rfl, rfl⟩
  | k + 1, .int _, _ => ⟨rfl, rfl⟩
  | k + 1, .str _, h => ⟨h, rfl⟩
  | k + 1, .tuple xs, h => by
    simp [nc] at h
    constructor
    · simp [sm]; exact fun x hx => (nc_sm k x (h.2 x hx)).1
    · simp [short]; exact ⟨h.1, fun x hx => (nc_sm k x (h.2 x hx)).2⟩
  | k + 1, .list _, h => by simp [nc] at h
  | k + 1, .dict _, h => by simp [nc] at h
theorem nc_mono : ∀ (k : Nat) (x : PyData), nc k x = true → nc (k + 1) x = true
  | 0, _, h => by simp [nc] at h
  | k + 1, .none, _ => rfl
  | k + 1, .bool _, _ => rfl
  | k + 1, .int _, _ => rfl
  | k + 1, .str _, h => h
  | k + 1, .tuple xs, h => by
    simp [nc] at h
    show (decide _ && xs.all (nc (k + 1))) = true
    simp
    exact ⟨h.1, fun x hx => nc_mono k x (h.2 x hx)⟩
  | k + 1, .list _, h => by simp [nc] at h
  | k + 1, .dict _, h => by simp [nc] at h
theorem nc_le {j k : Nat} {x : PyData} (h : nc j x = true) (l : j ≤ k) : nc k x = true := by
  induction k with
  | zero => obtain rfl : j = 0 := by omega
            exact h
  | succ k ih =>
    by_cases e : j = k + 1
    · subst e; exact h
    · exact nc_mono k x (ih (by omega))
theorem same_ok {x : PyData} (h : nc 12 x = true) (n : Nat) : m__law_same [.d x, .d x] n = some (.d (.bool true), n) := same_refl 12 x n (nc_sm 12 x h).1 (nc_sm 12 x h).2
theorem nc_tup {k : Nat} {xs : List PyData} (hl : xs.length ≤ 1000000) (h : ∀ x ∈ xs, nc k x = true) : nc (k + 1) (.tuple xs) = true := by
  simp [nc]; exact ⟨hl, h⟩
theorem nc_int (k : Nat) (i : Int) : nc (k + 1) (.int i) = true := rfl
theorem nc_ti {l : List Int} (hl : l.length ≤ 1000000) : nc 2 (ti l) = true := nc_tup (by simpa using hl) fun x hx => by
  obtain ⟨i, _, rfl⟩ := List.mem_map.mp hx; rfl
theorem nc_str {s : Str} (h : shp (.str s) = true) (k : Nat) : nc (k + 1) (.str s) = true := h
theorem nc_pk {p : PK} (h : p.ok) : nc 3 p.d = true := by
  have tt : ∀ l, tOk l → nc 2 (ti l) = true := fun l hl => nc_ti (by have := hl.2.1; omega)
  cases p with
  | table a l => exact nc_tup (by simp) (by simp [nc_str shp_Table, nc_int, tt l h.2])
  | among a l => exact nc_tup (by simp) (by simp [nc_str shp_Among, nc_int, tt l h.2.1])
  | up a => exact nc_tup (by simp) (by simp [nc_str shp_Up, nc_int])
  | part a d => exact nc_tup (by simp) (by simp [nc_str shp_Part, nc_int])
  | rest a d => exact nc_tup (by simp) (by simp [nc_str shp_Rest, nc_int])
  | sum a d => exact nc_tup (by simp) (by simp [nc_str shp_Sum, nc_int])
  | gap a d => exact nc_tup (by simp) (by simp [nc_str shp_Gap, nc_int])
  | most a d => exact nc_tup (by simp) (by simp [nc_str shp_Most, nc_int])
theorem nc_ky {k : Ky} (h : k.ok) : nc 4 k.d = true := by
  cases k with
  | pl p => exact nc_mono _ _ (nc_pk h)
  | dn p => exact nc_tup (by simp) (by simp [nc_str shp_Down, nc_pk (p := p) h])
theorem nc_row {r : Rw} (h : Rw.ok r) (hl : r.length ≤ 1000000) : nc 5 (rowD r) = true := nc_tup (by simpa using hl) fun x hx => by
  obtain ⟨k, hk, rfl⟩ := List.mem_map.mp hx; exact nc_ky (h k hk)
/-! all things -/
def six : List Int := [0, 1, 2, 3, 4, 5]
def allT : List Th := six.flatMap fun x => six.flatMap fun y => six.map fun z => (x, y, z)
theorem allT_len : allT.length = 216 := by decide
theorem allT_eq : allT = (List.range 216).map fun (k : Nat) => ((k : Int) / 36, (k : Int) / 6 % 6, (k : Int) % 6) := by decide +kernel
theorem rangeD_six : rangeD 0 6 = six.map .int := rfl
theorem all_in (E : W) (x : Int) (n : Nat) : ∀ (ys : List Int) (acc : List PyData) (w : W), acc.length + 6 * ys.length ≤ 1000000 → ∃ w',
    loopF (gOne 3) (sExt 1 (eComp (iOf (dVar 0)) (gOne 4) [4] bYes (eTup (aCons (eVar 2) (aCons (eVar 3) (aCons (eVar 4) aNil)))))) (ys.map .int) [.d (.list (six.map .int)), .ol acc, I' x, w, .no] n =
      some (.nx [.d (.list (six.map .int)), .ol (acc ++ ys.flatMap fun y => six.map fun z => ti [x, y, z]), I' x, w', .no] n)
  | [], acc, w, _ => ⟨w, by simp [loopF]⟩
  | y :: ys, acc, w, h => by
    rw [List.length_cons] at h
    obtain ⟨w', e⟩ := all_in E x n ys (acc ++ six.map fun z => ti [x, y, z]) (I' y) (by simp [six]; omega)
    refine ⟨w', ?_⟩
    have hc : loopC (gOne 4) [4] bYes (eTup (aCons (eVar 2) (aCons (eVar 3) (aCons (eVar 4) aNil)))) [.d (.list (six.map .int)), .ol acc, I' x, I' y, .no] (six.map .int) n = some (six.map fun z => ti [x, y, z], n) := rfl
    have h6 : (six.map PyData.int).length ≤ big := le_big (by decide)
    have h7 : acc.length + 6 ≤ big := le_big (by omega)
    have h8 : (six.map fun z => ti [x, y, z]).length = 6 := rfl
    rw [List.map_cons, loopF_cons]
    simp -implicitDefEqProofs only [eVar_ap, dVar_ap, eC_ap, dOf_ap, eFrz_ap, eBin_ap, bTest_ap, bTru_ap, bAnd_ap, bOr_ap, bNot_ap, eIf_ap, eB_ap, eAnd_ap, eOr_ap, aNil_ap, aCons_ap, sNil_ap, sCons_ap, eTup_ap, eLst_ap, eCall_ap, eApp_ap, oNone_ap, oSome_ap, eSl_ap, sNil'_ap, sSeq_ap, sBrk_ap, sRet_ap, sRetN_ap, sRetO_ap, sDrop_ap, sIf_ap, sSet_ap, sApp_ap, sTown_ap, sExt_ap, sIns_ap, sSetIx_ap, sAsg_ap, sPar_ap, iOf_ap, iVal_ap, iRng1_ap, iRng2_ap, sFor_ap, eComp_ap, bYes_ap, frzAt_ap, eUn_ap, eNotD_ap, eOrD_ap, eChain_ap, eListRg1_ap, eIsa_ap, eMt_ap, iEnumV_ap, iEnumF_ap, iZipV_ap, iZipF_ap, eTLen_ap, iRng3D_ap, sEnd_ap, eSs_ap, sPar3_ap, xPop_ap, xTup1_ap, xCat_ap, sSetX_ap, sAppX_ap, sParO_ap, sForEI_ap, sForK_ap, runB_ap, gOne_ap, gMany_ap, dI_ap, yesC_ap, dCmp_int, setD, kill_nx, kill_rt, kill_bk, Option.bind_some, Option.map_some, Option.bind_none, Option.map_none, List.getElem?_cons_zero, List.getElem?_cons_succ, List.set_cons_zero, List.set_cons_succ, List.cons_append, List.nil_append, List.append_nil, List.replicate, List.length_cons, List.length_nil, Nat.reduceAdd, Nat.reduceSub, Nat.zero_add, wdat_no, wdat_d, wdat_town, wdat_ol, wdat_od, wfrz_no, wfrz_d, wfrz_town, wfrz_ol, wfrz_od, wval_no, wval_d, wval_town, wval_ol, wval_od, warg_no, warg_d, warg_town, warg_ol, warg_od, vals, gLen, gAbs, gMax2, gMin2, gInt, gTup, gList, wipeW, if_true, if_false, Bool.false_eq_true, Bool.not_true, Bool.not_false, reduceCtorEq, iSeq, h6, hc, h8, h7, e, List.flatMap_cons, List.append_assoc]
theorem all_out (n : Nat) : ∀ (xs : List Int) (acc : List PyData) (w2 w3 : W), acc.length + 36 * xs.length ≤ 1000000 → ∃ w2' w3',
    loopF (gOne 2) (sFor (iVal (eVar 0)) (gOne 3) (sExt 1 (eComp (iOf (dVar 0)) (gOne 4) [4] bYes (eTup (aCons (eVar 2) (aCons (eVar 3) (aCons (eVar 4) aNil))))))) (xs.map .int) [.d (.list (six.map .int)), .ol acc, w2, w3, .no] n =
      some (.nx [.d (.list (six.map .int)), .ol (acc ++ xs.flatMap fun x => six.flatMap fun y => six.map fun z => ti [x, y, z]), w2', w3', .no] n)
  | [], acc, w2, w3, _ => ⟨w2, w3, by simp [loopF]⟩
  | x :: xs, acc, w2, w3, h => by
    rw [List.length_cons] at h
    obtain ⟨w', e1⟩ := all_in .no x n six acc w3 (by simp [six]; omega)
    obtain ⟨v2, v3, e2⟩ := all_out n xs (acc ++ six.flatMap fun y => six.map fun z => ti [x, y, z]) (I' x) w' (by simp [six]; omega)
    refine ⟨v2, v3, ?_⟩
    rw [List.map_cons, loopF_cons]
    simp -implicitDefEqProofs only [eVar_ap, dVar_ap, eC_ap, dOf_ap, eFrz_ap, eBin_ap, bTest_ap, bTru_ap, bAnd_ap, bOr_ap, bNot_ap, eIf_ap, eB_ap, eAnd_ap, eOr_ap, aNil_ap, aCons_ap, sNil_ap, sCons_ap, eTup_ap, eLst_ap, eCall_ap, eApp_ap, oNone_ap, oSome_ap, eSl_ap, sNil'_ap, sSeq_ap, sBrk_ap, sRet_ap, sRetN_ap, sRetO_ap, sDrop_ap, sIf_ap, sSet_ap, sApp_ap, sTown_ap, sExt_ap, sIns_ap, sSetIx_ap, sAsg_ap, sPar_ap, iOf_ap, iVal_ap, iRng1_ap, iRng2_ap, sFor_ap, eComp_ap, bYes_ap, frzAt_ap, eUn_ap, eNotD_ap, eOrD_ap, eChain_ap, eListRg1_ap, eIsa_ap, eMt_ap, iEnumV_ap, iEnumF_ap, iZipV_ap, iZipF_ap, eTLen_ap, iRng3D_ap, sEnd_ap, eSs_ap, sPar3_ap, xPop_ap, xTup1_ap, xCat_ap, sSetX_ap, sAppX_ap, sParO_ap, sForEI_ap, sForK_ap, runB_ap, gOne_ap, gMany_ap, dI_ap, yesC_ap, dCmp_int, setD, kill_nx, kill_rt, kill_bk, Option.bind_some, Option.map_some, Option.bind_none, Option.map_none, List.getElem?_cons_zero, List.getElem?_cons_succ, List.set_cons_zero, List.set_cons_succ, List.cons_append, List.nil_append, List.append_nil, List.replicate, List.length_cons, List.length_nil, Nat.reduceAdd, Nat.reduceSub, Nat.zero_add, wdat_no, wdat_d, wdat_town, wdat_ol, wdat_od, wfrz_no, wfrz_d, wfrz_town, wfrz_ol, wfrz_od, wval_no, wval_d, wval_town, wval_ol, wval_od, warg_no, warg_d, warg_town, warg_ol, warg_od, vals, gLen, gAbs, gMax2, gMin2, gInt, gTup, gList, wipeW, if_true, if_false, Bool.false_eq_true, Bool.not_true, Bool.not_false, reduceCtorEq, iSeq, e1, e2, List.flatMap_cons, List.append_assoc]
theorem all_things_ok (n : Nat) : m_all_things [] n = some (.d (.tuple (allT.map Th.d)), n) := by
  obtain ⟨v2, v3, e⟩ := all_out n six [] .no .no (by decide)
  have h6 : (0 : Int) ≤ 5 + 1 ∧ (5 : Int) + 1 ≤ big := ⟨by decide, by unfold big; decide⟩
  have h7 : rangeD 0 (5 + 1 : Int).toNat = six.map .int := rfl
  have hA : (six.flatMap fun x => six.flatMap fun y => six.map fun z => ti [x, y, z]) = allT.map Th.d := rfl
  rw [List.nil_append, hA] at e
  unfold m_all_things b_all_things l_all_things_1 l_all_things_2
  simp -implicitDefEqProofs only [eVar_ap, dVar_ap, eC_ap, dOf_ap, eFrz_ap, eBin_ap, bTest_ap, bTru_ap, bAnd_ap, bOr_ap, bNot_ap, eIf_ap, eB_ap, eAnd_ap, eOr_ap, aNil_ap, aCons_ap, sNil_ap, sCons_ap, eTup_ap, eLst_ap, eCall_ap, eApp_ap, oNone_ap, oSome_ap, eSl_ap, sNil'_ap, sSeq_ap, sBrk_ap, sRet_ap, sRetN_ap, sRetO_ap, sDrop_ap, sIf_ap, sSet_ap, sApp_ap, sTown_ap, sExt_ap, sIns_ap, sSetIx_ap, sAsg_ap, sPar_ap, iOf_ap, iVal_ap, iRng1_ap, iRng2_ap, sFor_ap, eComp_ap, bYes_ap, frzAt_ap, eUn_ap, eNotD_ap, eOrD_ap, eChain_ap, eListRg1_ap, eIsa_ap, eMt_ap, iEnumV_ap, iEnumF_ap, iZipV_ap, iZipF_ap, eTLen_ap, iRng3D_ap, sEnd_ap, eSs_ap, sPar3_ap, xPop_ap, xTup1_ap, xCat_ap, sSetX_ap, sAppX_ap, sParO_ap, sForEI_ap, sForK_ap, runB_ap, gOne_ap, gMany_ap, dI_ap, yesC_ap, dCmp_int, setD, kill_nx, kill_rt, kill_bk, Option.bind_some, Option.map_some, Option.bind_none, Option.map_none, List.getElem?_cons_zero, List.getElem?_cons_succ, List.set_cons_zero, List.set_cons_succ, List.cons_append, List.nil_append, List.append_nil, List.replicate, List.length_cons, List.length_nil, Nat.reduceAdd, Nat.reduceSub, Nat.zero_add, wdat_no, wdat_d, wdat_town, wdat_ol, wdat_od, wfrz_no, wfrz_d, wfrz_town, wfrz_ol, wfrz_od, wval_no, wval_d, wval_town, wval_ol, wval_od, warg_no, warg_d, warg_town, warg_ol, warg_od, vals, gLen, gAbs, gMax2, gMin2, gInt, gTup, gList, wipeW, if_true, if_false, Bool.false_eq_true, Bool.not_true, Bool.not_false, reduceCtorEq, dAdd_int, h6, h7, and_self, iSeq, e]
theorem nc_all : nc 3 (.tuple (allT.map Th.d)) = true := nc_tup (by simp [allT_len]) fun x hx => by
  obtain ⟨t, _, rfl⟩ := List.mem_map.mp hx
  exact nc_ti (by simp)
end L2.Lv.Sh
namespace L2.Lv.Sh
open PySem PySem.Spec PyProof.Rows L2 L2.Lv
/-- a loop that goes on to its end -/
theorem loop_nx {g : Fg} {body : Fs} (J : Nat → List W → Nat → Prop) : ∀ (xs : List PyData) (i : Nat) (ρ : List W) (n : Nat), J i ρ n →
    (∀ (j : Nat) (x : PyData) (ρ : List W) (n : Nat), x ∈ xs → j < i + xs.length → J j ρ n → ∃ ρ1 ρ2 n2, g x ρ = some ρ1 ∧ body ρ1 n = some (.nx ρ2 n2) ∧ J (j + 1) ρ2 n2) →
    ∃ ρ' n', loopF g body xs ρ n = some (.nx ρ' n') ∧ J (i + xs.length) ρ' n'
  | [], i, ρ, n, h, _ => ⟨ρ, n, rfl, h⟩
  | x :: xs, i, ρ, n, h, st => by
    obtain ⟨ρ1, ρ2, n2, e1, e2, h2⟩ := st i x ρ n (List.mem_cons_self ..) (by simp) h
    obtain ⟨ρ', n', e3, h3⟩ := loop_nx J xs (i + 1) ρ2 n2 h2 fun j y ρ n hy hj hJ => st j y ρ n (List.mem_cons_of_mem _ hy) (by simp; omega) hJ
    refine ⟨ρ', n', ?_, ?_⟩
    · rw [loopF_cons]
      simp -implicitDefEqProofs only [eVar_ap, dVar_ap, eC_ap, dOf_ap, eFrz_ap, eBin_ap, bTest_ap, bTru_ap, bAnd_ap, bOr_ap, bNot_ap, eIf_ap, eB_ap, eAnd_ap, eOr_ap, aNil_ap, aCons_ap, sNil_ap, sCons_ap, eTup_ap, eLst_ap, eCall_ap, eApp_ap, oNone_ap, oSome_ap, eSl_ap, sNil'_ap, sSeq_ap, sBrk_ap, sRet_ap, sRetN_ap, sRetO_ap, sDrop_ap, sIf_ap, sSet_ap, sApp_ap, sTown_ap, sExt_ap, sIns_ap, sSetIx_ap, sAsg_ap, sPar_ap, iOf_ap, iVal_ap, iRng1_ap, iRng2_ap, sFor_ap, eComp_ap, bYes_ap, frzAt_ap, eUn_ap, eNotD_ap, eOrD_ap, eChain_ap, eListRg1_ap, eIsa_ap, eMt_ap, iEnumV_ap, iEnumF_ap, iZipV_ap, iZipF_ap, eTLen_ap, iRng3D_ap, sEnd_ap, eSs_ap, sPar3_ap, xPop_ap, xTup1_ap, xCat_ap, sSetX_ap, sAppX_ap, sParO_ap, sForEI_ap, sForK_ap, runB_ap, gOne_ap, gMany_ap, dI_ap, yesC_ap, dCmp_int, setD, kill_nx, kill_rt, kill_bk, Option.bind_some, Option.map_some, Option.bind_none, Option.map_none, List.getElem?_cons_zero, List.getElem?_cons_succ, List.set_cons_zero, List.set_cons_succ, List.cons_append, List.nil_append, List.append_nil, List.replicate, List.length_cons, List.length_nil, Nat.reduceAdd, Nat.reduceSub, Nat.zero_add, wdat_no, wdat_d, wdat_town, wdat_ol, wdat_od, wfrz_no, wfrz_d, wfrz_town, wfrz_ol, wfrz_od, wval_no, wval_d, wval_town, wval_ol, wval_od, warg_no, warg_d, warg_town, warg_ol, warg_od, vals, gLen, gAbs, gMax2, gMin2, gInt, gTup, gList, wipeW, if_true, if_false, Bool.false_eq_true, Bool.not_true, Bool.not_false, reduceCtorEq, e1, e2, e3]
    · have : i + (x :: xs).length = i + 1 + xs.length := by simp; omega
      rw [this]; exact h3
end L2.Lv.Sh
namespace L2.Lv.Sh
open PySem PySem.Spec PyProof.Rows L2 L2.Lv
/-! comprehensions over typed lists -/
theorem comp_mapA {α : Type} {g : Fg} {own : List Nat} {elt : Fe} {ρ : List W} {n : Nat} (enc f : α → PyData) : ∀ (xs : List α), (∀ x ∈ xs, ∃ ρ1, g (enc x) (wipeW ρ own) = some ρ1 ∧ elt ρ1 n = some (.d (f x), n)) →
    loopC g own bYes elt ρ (xs.map enc) n = some (xs.map f, n)
  | [], _ => rfl
  | x :: xs, h => by
    obtain ⟨ρ1, e1, e2⟩ := h x (List.mem_cons_self ..)
    rw [List.map_cons, loopC_cons]
    simp -implicitDefEqProofs only [eVar_ap, dVar_ap, eC_ap, dOf_ap, eFrz_ap, eBin_ap, bTest_ap, bTru_ap, bAnd_ap, bOr_ap, bNot_ap, eIf_ap, eB_ap, eAnd_ap, eOr_ap, aNil_ap, aCons_ap, sNil_ap, sCons_ap, eTup_ap, eLst_ap, eCall_ap, eApp_ap, oNone_ap, oSome_ap, eSl_ap, sNil'_ap, sSeq_ap, sBrk_ap, sRet_ap, sRetN_ap, sRetO_ap, sDrop_ap, sIf_ap, sSet_ap, sApp_ap, sTown_ap, sExt_ap, sIns_ap, sSetIx_ap, sAsg_ap, sPar_ap, iOf_ap, iVal_ap, iRng1_ap, iRng2_ap, sFor_ap, eComp_ap, bYes_ap, frzAt_ap, eUn_ap, eNotD_ap, eOrD_ap, eChain_ap, eListRg1_ap, eIsa_ap, eMt_ap, iEnumV_ap, iEnumF_ap, iZipV_ap, iZipF_ap, eTLen_ap, iRng3D_ap, sEnd_ap, eSs_ap, sPar3_ap, xPop_ap, xTup1_ap, xCat_ap, sSetX_ap, sAppX_ap, sParO_ap, sForEI_ap, sForK_ap, runB_ap, gOne_ap, gMany_ap, dI_ap, yesC_ap, dCmp_int, setD, kill_nx, kill_rt, kill_bk, Option.bind_some, Option.map_some, Option.bind_none, Option.map_none, List.getElem?_cons_zero, List.getElem?_cons_succ, List.set_cons_zero, List.set_cons_succ, List.cons_append, List.nil_append, List.append_nil, List.replicate, List.length_cons, List.length_nil, Nat.reduceAdd, Nat.reduceSub, Nat.zero_add, wdat_no, wdat_d, wdat_town, wdat_ol, wdat_od, wfrz_no, wfrz_d, wfrz_town, wfrz_ol, wfrz_od, wval_no, wval_d, wval_town, wval_ol, wval_od, warg_no, warg_d, warg_town, warg_ol, warg_od, vals, gLen, gAbs, gMax2, gMin2, gInt, gTup, gList, wipeW, if_true, if_false, Bool.false_eq_true, Bool.not_true, Bool.not_false, reduceCtorEq, e1, e2, comp_mapA enc f xs fun z hz => h z (List.mem_cons_of_mem _ hz), List.map_cons]
theorem comp_filA {α : Type} {g : Fg} {own : List Nat} {tst : Ft} {elt : Fe} {ρ : List W} {n : Nat} (enc f : α → PyData) (p : α → Bool) : ∀ (xs : List α), (∀ x ∈ xs, ∃ ρ1, g (enc x) (wipeW ρ own) = some ρ1 ∧ tst ρ1 n = some (p x, n) ∧ (p x = true → elt ρ1 n = some (.d (f x), n))) →
    loopC g own tst elt ρ (xs.map enc) n = some ((xs.filter p).map f, n)
  | [], _ => rfl
  | x :: xs, h => by
    obtain ⟨ρ1, e1, e2, e3⟩ := h x (List.mem_cons_self ..)
    have ih := comp_filA enc f p xs fun z hz => h z (List.mem_cons_of_mem _ hz)
    rw [List.map_cons, loopC_cons]
    cases hp : p x with
    | true => simp -implicitDefEqProofs only [eVar_ap, dVar_ap, eC_ap, dOf_ap, eFrz_ap, eBin_ap, bTest_ap, bTru_ap, bAnd_ap, bOr_ap, bNot_ap, eIf_ap, eB_ap, eAnd_ap, eOr_ap, aNil_ap, aCons_ap, sNil_ap, sCons_ap, eTup_ap, eLst_ap, eCall_ap, eApp_ap, oNone_ap, oSome_ap, eSl_ap, sNil'_ap, sSeq_ap, sBrk_ap, sRet_ap, sRetN_ap, sRetO_ap, sDrop_ap, sIf_ap, sSet_ap, sApp_ap, sTown_ap, sExt_ap, sIns_ap, sSetIx_ap, sAsg_ap, sPar_ap, iOf_ap, iVal_ap, iRng1_ap, iRng2_ap, sFor_ap, eComp_ap, bYes_ap, frzAt_ap, eUn_ap, eNotD_ap, eOrD_ap, eChain_ap, eListRg1_ap, eIsa_ap, eMt_ap, iEnumV_ap, iEnumF_ap, iZipV_ap, iZipF_ap, eTLen_ap, iRng3D_ap, sEnd_ap, eSs_ap, sPar3_ap, xPop_ap, xTup1_ap, xCat_ap, sSetX_ap, sAppX_ap, sParO_ap, sForEI_ap, sForK_ap, runB_ap, gOne_ap, gMany_ap, dI_ap, yesC_ap, dCmp_int, setD, kill_nx, kill_rt, kill_bk, Option.bind_some, Option.map_some, Option.bind_none, Option.map_none, List.getElem?_cons_zero, List.getElem?_cons_succ, List.set_cons_zero, List.set_cons_succ, List.cons_append, List.nil_append, List.append_nil, List.replicate, List.length_cons, List.length_nil, Nat.reduceAdd, Nat.reduceSub, Nat.zero_add, wdat_no, wdat_d, wdat_town, wdat_ol, wdat_od, wfrz_no, wfrz_d, wfrz_town, wfrz_ol, wfrz_od, wval_no, wval_d, wval_town, wval_ol, wval_od, warg_no, warg_d, warg_town, warg_ol, warg_od, vals, gLen, gAbs, gMax2, gMin2, gInt, gTup, gList, wipeW, if_true, if_false, Bool.false_eq_true, Bool.not_true, Bool.not_false, reduceCtorEq, e1, e2, e3 hp, hp, ih, List.map_cons, List.filter_cons]
    | false => simp -implicitDefEqProofs only [eVar_ap, dVar_ap, eC_ap, dOf_ap, eFrz_ap, eBin_ap, bTest_ap, bTru_ap, bAnd_ap, bOr_ap, bNot_ap, eIf_ap, eB_ap, eAnd_ap, eOr_ap, aNil_ap, aCons_ap, sNil_ap, sCons_ap, eTup_ap, eLst_ap, eCall_ap, eApp_ap, oNone_ap, oSome_ap, eSl_ap, sNil'_ap, sSeq_ap, sBrk_ap, sRet_ap, sRetN_ap, sRetO_ap, sDrop_ap, sIf_ap, sSet_ap, sApp_ap, sTown_ap, sExt_ap, sIns_ap, sSetIx_ap, sAsg_ap, sPar_ap, iOf_ap, iVal_ap, iRng1_ap, iRng2_ap, sFor_ap, eComp_ap, bYes_ap, frzAt_ap, eUn_ap, eNotD_ap, eOrD_ap, eChain_ap, eListRg1_ap, eIsa_ap, eMt_ap, iEnumV_ap, iEnumF_ap, iZipV_ap, iZipF_ap, eTLen_ap, iRng3D_ap, sEnd_ap, eSs_ap, sPar3_ap, xPop_ap, xTup1_ap, xCat_ap, sSetX_ap, sAppX_ap, sParO_ap, sForEI_ap, sForK_ap, runB_ap, gOne_ap, gMany_ap, dI_ap, yesC_ap, dCmp_int, setD, kill_nx, kill_rt, kill_bk, Option.bind_some, Option.map_some, Option.bind_none, Option.map_none, List.getElem?_cons_zero, List.getElem?_cons_succ, List.set_cons_zero, List.set_cons_succ, List.cons_append, List.nil_append, List.append_nil, List.replicate, List.length_cons, List.length_nil, Nat.reduceAdd, Nat.reduceSub, Nat.zero_add, wdat_no, wdat_d, wdat_town, wdat_ol, wdat_od, wfrz_no, wfrz_d, wfrz_town, wfrz_ol, wfrz_od, wval_no, wval_d, wval_town, wval_ol, wval_od, warg_no, warg_d, warg_town, warg_ol, warg_od, vals, gLen, gAbs, gMax2, gMin2, gInt, gTup, gList, wipeW, if_true, if_false, Bool.false_eq_true, Bool.not_true, Bool.not_false, reduceCtorEq, e1, e2, hp, ih, List.filter_cons]
/-! lists of things -/
abbrev tsD (ts : List Th) : PyData := .tuple (ts.map Th.d)
theorem nc_th (t : Th) : nc 2 t.d = true := nc_ti (by simp)
theorem nc_ts {ts : List Th} (h : ts.length ≤ 1000000) : nc 3 (tsD ts) = true := nc_tup (by simpa using h) fun x hx => by
  obtain ⟨t, _, rfl⟩ := List.mem_map.mp hx; exact nc_th t
theorem list_loop (ns : List Int) (m : Int) (some : List Th) (hs : ∀ t ∈ some, t.ok) (hsl : some.length = 4) : ∀ (is : List PyData) (ts : List Th) (w4 : W) (n : Nat), (∀ t ∈ ts, t.ok) → ts.length + is.length ≤ 1000 → n + 4 * is.length ≤ big → ∃ (ts' : List Th) (w4' : W) (n' : Nat),
    loopF (gOne 4) l__law_list_1 is [Sc ns, .town, I' m, .d (.list (some.map Th.d)), w4, .d (tsD ts)] n = Option.some (.nx [Sc ns, .town, I' m, .d (.list (some.map Th.d)), w4', .d (tsD ts')] n') ∧ (∀ t ∈ ts', t.ok) ∧ ts'.length = ts.length + is.length ∧ n ≤ n' ∧ n' ≤ n + 4 * is.length
  | [], ts, w4, n, h, _, _ => ⟨ts, w4, n, rfl, h, rfl, Nat.le_refl _, Nat.le_add_right _ _⟩
  | i :: is, ts, w4, n, h, hl, hn => by
    rw [List.length_cons] at hl hn
    obtain ⟨_, n1, e1, l1, l2, t, ht, rfl⟩ := thing_ok ns n (by omega)
    have hx : some.map Th.d ++ [t.d] ≠ [] := by simp
    obtain ⟨x, hx, e2⟩ := pick_ok ns n1 (by omega) (some.map Th.d ++ [t.d]) hx
    obtain ⟨u, hu, rfl⟩ : ∃ u : Th, u.ok ∧ x = u.d := by
      rcases List.mem_append.mp hx with hx | hx
      · obtain ⟨u, hu, rfl⟩ := List.mem_map.mp hx; exact ⟨u, hs u hu, rfl⟩
      · simp at hx; exact ⟨t, ht, hx⟩
    obtain ⟨ts', w4', n', e3, q1, q2, q3, q4⟩ := list_loop ns m some hs hsl is (ts ++ [u]) (.d i) (n1 + 1) (fun t ht => by
      rcases List.mem_append.mp ht with ht | ht
      · exact h t ht
      · simp at ht; subst ht; exact hu) (by simp; omega) (by omega)
    refine ⟨ts', w4', n', ?_, q1, by simp at q2; simp; omega, by omega, by simp; omega⟩
    have ea : dAdd (.list (some.map Th.d)) (.list [t.d]) = Option.some (.ol (some.map Th.d ++ [t.d])) := dAdd_lst _ _ (le_big (by simp; omega))
    have eb : dAdd (tsD ts) (.tuple [u.d]) = Option.some (.d (tsD (ts ++ [u]))) := by
      rw [dAdd_tup _ _ (le_big (by simp; omega))]; simp [tsD]
    rw [loopF_cons]
    have e3 : loopF (gOne 4) l__law_list_1 is [Sc ns, .town, I' m, .d (.list (some.map Th.d)), .d i, .d (tsD (ts ++ [u]))] (n1 + 1) = _ := e3
    unfold l__law_list_1 at e3 ⊢
    simp -implicitDefEqProofs only [eVar_ap, dVar_ap, eC_ap, dOf_ap, eFrz_ap, eBin_ap, bTest_ap, bTru_ap, bAnd_ap, bOr_ap, bNot_ap, eIf_ap, eB_ap, eAnd_ap, eOr_ap, aNil_ap, aCons_ap, sNil_ap, sCons_ap, eTup_ap, eLst_ap, eCall_ap, eApp_ap, oNone_ap, oSome_ap, eSl_ap, sNil'_ap, sSeq_ap, sBrk_ap, sRet_ap, sRetN_ap, sRetO_ap, sDrop_ap, sIf_ap, sSet_ap, sApp_ap, sTown_ap, sExt_ap, sIns_ap, sSetIx_ap, sAsg_ap, sPar_ap, iOf_ap, iVal_ap, iRng1_ap, iRng2_ap, sFor_ap, eComp_ap, bYes_ap, frzAt_ap, eUn_ap, eNotD_ap, eOrD_ap, eChain_ap, eListRg1_ap, eIsa_ap, eMt_ap, iEnumV_ap, iEnumF_ap, iZipV_ap, iZipF_ap, eTLen_ap, iRng3D_ap, sEnd_ap, eSs_ap, sPar3_ap, xPop_ap, xTup1_ap, xCat_ap, sSetX_ap, sAppX_ap, sParO_ap, sForEI_ap, sForK_ap, runB_ap, gOne_ap, gMany_ap, dI_ap, yesC_ap, dCmp_int, setD, kill_nx, kill_rt, kill_bk, Option.bind_some, Option.map_some, Option.bind_none, Option.map_none, List.getElem?_cons_zero, List.getElem?_cons_succ, List.set_cons_zero, List.set_cons_succ, List.cons_append, List.nil_append, List.append_nil, List.replicate, List.length_cons, List.length_nil, Nat.reduceAdd, Nat.reduceSub, Nat.zero_add, wdat_no, wdat_d, wdat_town, wdat_ol, wdat_od, wfrz_no, wfrz_d, wfrz_town, wfrz_ol, wfrz_od, wval_no, wval_d, wval_town, wval_ol, wval_od, warg_no, warg_d, warg_town, warg_ol, warg_od, vals, gLen, gAbs, gMax2, gMin2, gInt, gTup, gList, wipeW, if_true, if_false, Bool.false_eq_true, Bool.not_true, Bool.not_false, reduceCtorEq, e1, ea, e2, eb, e3]
theorem list_ok (ns : List Int) (n : Nat) (k : Nat) (hk : k ≤ 100) (hn : n + 13 + 4 * k ≤ big) : Ran (m__law_list [Sc ns, .town, I' k] n) n (13 + 4 * k) fun w => ∃ ts : List Th, (∀ t ∈ ts, t.ok) ∧ ts.length ≤ k ∧ w = .d (tsD ts) := by
  obtain ⟨ys, n1, e1, l1, hq, l2, l3⟩ := comp_ran (i := 4) (own := [4]) (elt := eCall m__law_thing (aCons (eVar 0) (aCons (eVar 1) aNil))) (ρ := [Sc ns, .town, I' k, .no, .no, .no]) (c := 3) (P := fun y => ∃ t : Th, t.ok ∧ y = t.d) (rangeD 0 4) n
    (by rw [rangeD_len]; omega) (fun y _ q hq => by
      obtain ⟨w, q', h1, h2, h3, t, h4, rfl⟩ := thing_ok ns q hq
      exact ⟨_, q', by simp -implicitDefEqProofs only [eVar_ap, dVar_ap, eC_ap, dOf_ap, eFrz_ap, eBin_ap, bTest_ap, bTru_ap, bAnd_ap, bOr_ap, bNot_ap, eIf_ap, eB_ap, eAnd_ap, eOr_ap, aNil_ap, aCons_ap, sNil_ap, sCons_ap, eTup_ap, eLst_ap, eCall_ap, eApp_ap, oNone_ap, oSome_ap, eSl_ap, sNil'_ap, sSeq_ap, sBrk_ap, sRet_ap, sRetN_ap, sRetO_ap, sDrop_ap, sIf_ap, sSet_ap, sApp_ap, sTown_ap, sExt_ap, sIns_ap, sSetIx_ap, sAsg_ap, sPar_ap, iOf_ap, iVal_ap, iRng1_ap, iRng2_ap, sFor_ap, eComp_ap, bYes_ap, frzAt_ap, eUn_ap, eNotD_ap, eOrD_ap, eChain_ap, eListRg1_ap, eIsa_ap, eMt_ap, iEnumV_ap, iEnumF_ap, iZipV_ap, iZipF_ap, eTLen_ap, iRng3D_ap, sEnd_ap, eSs_ap, sPar3_ap, xPop_ap, xTup1_ap, xCat_ap, sSetX_ap, sAppX_ap, sParO_ap, sForEI_ap, sForK_ap, runB_ap, gOne_ap, gMany_ap, dI_ap, yesC_ap, dCmp_int, setD, kill_nx, kill_rt, kill_bk, Option.bind_some, Option.map_some, Option.bind_none, Option.map_none, List.getElem?_cons_zero, List.getElem?_cons_succ, List.set_cons_zero, List.set_cons_succ, List.cons_append, List.nil_append, List.append_nil, List.replicate, List.length_cons, List.length_nil, Nat.reduceAdd, Nat.reduceSub, Nat.zero_add, wdat_no, wdat_d, wdat_town, wdat_ol, wdat_od, wfrz_no, wfrz_d, wfrz_town, wfrz_ol, wfrz_od, wval_no, wval_d, wval_town, wval_ol, wval_od, warg_no, warg_d, warg_town, warg_ol, warg_od, vals, gLen, gAbs, gMax2, gMin2, gInt, gTup, gList, wipeW, if_true, if_false, Bool.false_eq_true, Bool.not_true, Bool.not_false, reduceCtorEq, h1], h3, h2, t, h4, rfl⟩)
  obtain ⟨some, rfl, hs⟩ := ex_map ys hq
  rw [rangeD_len] at l1 l3
  rw [List.length_map] at l1
  obtain ⟨m, m0, m1, e2⟩ := draw_ok ns n1 (by omega) (k + 1 : Int) (by omega)
  have hm : m.toNat ≤ k := by omega
  obtain ⟨ts, w4, n2, e3, q1, q2, q3, q4⟩ := list_loop ns k some hs l1 (rangeD 0 m.toNat) [] .no (n1 + 1) (by simp) (by simp [rangeD_len]; omega) (by rw [rangeD_len]; omega)
  rw [rangeD_len] at q2 q4
  refine ⟨_, n2, ?_, by omega, by omega, ts, q1, by simp at q2; omega, rfl⟩
  have hr4 : rng1 (.int 4) = Option.some (rangeD 0 4) := rng1_ok (by decide) (by decide)
  have hb4 : (rangeD 0 4).length ≤ big := le_big (by decide)
  have e3 : loopF (gOne 4) l__law_list_1 (rangeD 0 m.toNat) [Sc ns, .town, I' k, .d (.list (some.map Th.d)), .no, .d (.tuple [])] (n1 + 1) = _ := e3
  unfold m__law_list b__law_list
  simp -implicitDefEqProofs only [eVar_ap, dVar_ap, eC_ap, dOf_ap, eFrz_ap, eBin_ap, bTest_ap, bTru_ap, bAnd_ap, bOr_ap, bNot_ap, eIf_ap, eB_ap, eAnd_ap, eOr_ap, aNil_ap, aCons_ap, sNil_ap, sCons_ap, eTup_ap, eLst_ap, eCall_ap, eApp_ap, oNone_ap, oSome_ap, eSl_ap, sNil'_ap, sSeq_ap, sBrk_ap, sRet_ap, sRetN_ap, sRetO_ap, sDrop_ap, sIf_ap, sSet_ap, sApp_ap, sTown_ap, sExt_ap, sIns_ap, sSetIx_ap, sAsg_ap, sPar_ap, iOf_ap, iVal_ap, iRng1_ap, iRng2_ap, sFor_ap, eComp_ap, bYes_ap, frzAt_ap, eUn_ap, eNotD_ap, eOrD_ap, eChain_ap, eListRg1_ap, eIsa_ap, eMt_ap, iEnumV_ap, iEnumF_ap, iZipV_ap, iZipF_ap, eTLen_ap, iRng3D_ap, sEnd_ap, eSs_ap, sPar3_ap, xPop_ap, xTup1_ap, xCat_ap, sSetX_ap, sAppX_ap, sParO_ap, sForEI_ap, sForK_ap, runB_ap, gOne_ap, gMany_ap, dI_ap, yesC_ap, dCmp_int, setD, kill_nx, kill_rt, kill_bk, Option.bind_some, Option.map_some, Option.bind_none, Option.map_none, List.getElem?_cons_zero, List.getElem?_cons_succ, List.set_cons_zero, List.set_cons_succ, List.cons_append, List.nil_append, List.append_nil, List.replicate, List.length_cons, List.length_nil, Nat.reduceAdd, Nat.reduceSub, Nat.zero_add, wdat_no, wdat_d, wdat_town, wdat_ol, wdat_od, wfrz_no, wfrz_d, wfrz_town, wfrz_ol, wfrz_od, wval_no, wval_d, wval_town, wval_ol, wval_od, warg_no, warg_d, warg_town, warg_ol, warg_od, vals, gLen, gAbs, gMax2, gMin2, gInt, gTup, gList, wipeW, if_true, if_false, Bool.false_eq_true, Bool.not_true, Bool.not_false, reduceCtorEq, q_Up_Up, q_Up_Down, q_Up_Part, q_Up_Rest, q_Up_Table, q_Up_Among, q_Up_Sum, q_Up_Gap, q_Down_Up, q_Down_Down, q_Down_Part, q_Down_Rest, q_Down_Table, q_Down_Among, q_Down_Sum, q_Down_Gap, q_Part_Up, q_Part_Down, q_Part_Part, q_Part_Rest, q_Part_Table, q_Part_Among, q_Part_Sum, q_Part_Gap, q_Rest_Up, q_Rest_Down, q_Rest_Part, q_Rest_Rest, q_Rest_Table, q_Rest_Among, q_Rest_Sum, q_Rest_Gap, q_Table_Up, q_Table_Down, q_Table_Part, q_Table_Rest, q_Table_Table, q_Table_Among, q_Table_Sum, q_Table_Gap, q_Among_Up, q_Among_Down, q_Among_Part, q_Among_Rest, q_Among_Table, q_Among_Among, q_Among_Sum, q_Among_Gap, q_Sum_Up, q_Sum_Down, q_Sum_Part, q_Sum_Rest, q_Sum_Table, q_Sum_Among, q_Sum_Sum, q_Sum_Gap, q_Gap_Up, q_Gap_Down, q_Gap_Part, q_Gap_Rest, q_Gap_Table, q_Gap_Among, q_Gap_Sum, q_Gap_Gap, q_Most_Up, q_Most_Down, q_Most_Part, q_Most_Rest, q_Most_Table, q_Most_Among, q_Most_Sum, q_Most_Gap, dIx, dAdd_int, dSub_int, rLt, rLe, rGt, rGe, dEq_int, dNe_int, dIn_ints, dNotIn_ints, hr4, hb4, e1, e2, rng1_ok m0 (by omega), e3]
/-! orders of things -/
/-- p stands ahead of q, or is q -/
def rle (r : Rw) (p q : Nat × Th) : Prop := wrd r p.2 q.2 < 0 ∨ (wrd r p.2 q.2 = 0 ∧ p.1 ≤ q.1)
instance (r : Rw) (p q : Nat × Th) : Decidable (rle r p q) := inferInstanceAs (Decidable (_ ∨ _))
theorem wrd_cases (r : Rw) (s t : Th) : wrd r s t = -1 ∨ wrd r s t = 0 ∨ wrd r s t = 1 := by
  induction r with
  | nil => exact .inr (.inl rfl)
  | cons k r ih =>
    simp only [wrd]
    split
    · exact ih
    split
    · exact .inl rfl
    · exact .inr (.inr rfl)
theorem rle_total (r : Rw) (p q : Nat × Th) : rle r p q ∨ rle r q p := by
  have h := wrd_anti r p.2 q.2
  unfold rle
  rcases wrd_cases r p.2 q.2 with e | e | e <;> rw [h, e] <;> omega
theorem rle_trans (r : Rw) (p q s : Nat × Th) (h1 : rle r p q) (h2 : rle r q s) : rle r p s := by
  unfold rle at *
  have a1 := wrd_anti r p.2 q.2
  have a2 := wrd_anti r q.2 s.2
  have a3 := wrd_anti r p.2 s.2
  have t1 := wrd_trans r p.2 q.2 s.2
  have t2 := wrd_trans r s.2 q.2 p.2
  have t3 := wrd_trans r q.2 s.2 p.2
  have t4 := wrd_trans r s.2 p.2 q.2
  rcases wrd_cases r p.2 q.2 with e1 | e1 | e1 <;> rcases wrd_cases r q.2 s.2 with e2 | e2 | e2 <;> rcases wrd_cases r p.2 s.2 with e3 | e3 | e3 <;> rw [e1] at h1 a1 t1 t4 <;> rw [e2] at h2 a2 t1 t3 <;> rw [e3] at a3 t1 ⊢ <;> rw [a3] at t2 t3 t4 <;> rw [a1] at t2 t3 <;> rw [a2] at t2 t4 <;> omega
theorem rle_anti (r : Rw) (p q : Nat × Th) (h1 : rle r p q) (h2 : rle r q p) : p.1 = q.1 := by
  unfold rle at *
  have a := wrd_anti r p.2 q.2
  omega
def enumT (ts : List Th) : List (Nat × Th) := ts.mapIdx fun i t => (i, t)
def sE (r : Rw) (ts : List Th) : List (Nat × Th) := (enumT ts).mergeSort fun p q => decide (rle r p q)
theorem enumT_get {ts : List Th} {p : Nat × Th} (h : p ∈ enumT ts) : ts[p.1]? = Option.some p.2 := by
  unfold enumT at h
  rw [List.mem_mapIdx] at h
  obtain ⟨i, hi, rfl⟩ := h
  exact List.getElem?_eq_getElem hi
theorem sE_perm (r : Rw) (ts : List Th) : (sE r ts).Perm (enumT ts) := List.mergeSort_perm _ _
theorem sE_pw (r : Rw) (ts : List Th) : (sE r ts).Pairwise (rle r) := by
  have h := List.pairwise_mergeSort (le := fun p q => decide (rle r p q)) (fun a b c h1 h2 => by simp at h1 h2 ⊢; exact rle_trans r a b c h1 h2) (fun a b => by simp; exact rle_total r a b) (enumT ts)
  exact h.imp fun h => by simpa using h
/-- there is but one list in order -/
theorem sE_uniq {r : Rw} {ts : List Th} {l : List (Nat × Th)} (hp : l.Perm (enumT ts)) (hs : l.Pairwise (rle r)) : l = sE r ts := by
  refine List.Perm.eq_of_pairwise (le := rle r) (fun a b ha hb h1 h2 => ?_) hs (sE_pw r ts) (hp.trans (sE_perm r ts).symm)
  have e := rle_anti r a b h1 h2
  have g1 := enumT_get (hp.mem_iff.mp ha)
  have g2 := enumT_get ((sE_perm r ts).mem_iff.mp hb)
  rw [e, g2] at g1
  exact Prod.ext e (Option.some.inj g1).symm
end L2.Lv.Sh
namespace L2.Lv.Sh
open PySem PySem.Spec PyProof.Rows L2 L2.Lv
/-! sorted by worths and place -/
def kD (r : Rw) (p : Nat × Th) : PyData := .tuple [ti (wts r p.2), .int p.1]
def lx (X Y : List (Int ⊕ List Nat)) : Bool := lexLt itemOrd X Y
theorem lx_tok (a b : Int) (X Y : List (Int ⊕ List Nat)) : lx (.inl a :: X) (.inl b :: Y) = (decide (a < b) || (!decide (b < a) && lx X Y)) := lex_cons (O := itemOrd) (.inl a) (.inl b) X Y
theorem lx_row (r : Rw) (s t : Th) (X Y : List (Int ⊕ List Nat)) : lx (PySem.W.keyToksAll ((wts r s).map .int) ++ X) (PySem.W.keyToksAll ((wts r t).map .int) ++ Y) = bif wrd r s t == 0 then lx X Y else decide (wrd r s t < 0) := by
  induction r with
  | nil =>
    show lx (PySem.W.keyToksAll [] ++ X) (PySem.W.keyToksAll [] ++ Y) = _
    simp only [PySem.W.keyToksAll, List.cons_append, List.nil_append, lx_tok]
    simp [wrd]
  | cons k r ih =>
    have hw : wrd (k :: r) s t = if k.worth s = k.worth t then wrd r s t else if k.worth s < k.worth t then -1 else 1 := rfl
    rw [hw]
    simp only [wts, List.map_cons, PySem.W.keyToksAll, PySem.W.keyToks, List.cons_append, List.nil_append, lx_tok] at ih ⊢
    rw [ih]
    by_cases e : k.worth s = k.worth t
    · rw [if_pos e]; simp [e]
    · rw [if_neg e]
      by_cases l : k.worth s < k.worth t
      · rw [if_pos l]; simp [l]
      · have : k.worth t < k.worth s := by omega
        rw [if_neg l]; simp [l, this]
theorem dataLe_kD (r : Rw) (p q : Nat × Th) : PySem.W.dataLe false (fun x => x) (kD r p) (kD r q) = decide (rle r p q) := by
  have h : lx (PySem.W.keyToks (kD r q)) (PySem.W.keyToks (kD r p)) = !decide (rle r p q) := by
    simp only [kD, ti, PySem.W.keyToks, PySem.W.keyToksAll, List.cons_append, List.append_assoc, lx_tok, lx_row, List.nil_append]
    have a := wrd_anti r p.2 q.2
    rcases wrd_cases r p.2 q.2 with e | e | e
    · have hr : rle r p q := .inl (by rw [e]; decide)
      rw [a, e]; simp [hr]
    · rw [a, e]
      by_cases hl : p.1 ≤ q.1
      · have hr : rle r p q := .inr ⟨e, hl⟩
        have h2 : ¬ ((q.1 : Int) < p.1) := by omega
        have h3 : lx [] [] = false := rfl
        simp [hr, h2, h3]
      · have hr : ¬ rle r p q := fun h => by unfold rle at h; omega
        have h2 : (q.1 : Int) < p.1 := by omega
        simp [hr, h2]
    · have hr : ¬ rle r p q := fun h => by unfold rle at h; omega
      rw [a, e]; simp [hr]
  show (!lx (PySem.W.keyToks (kD r q)) (PySem.W.keyToks (kD r p))) = _
  rw [h, Bool.not_not]
theorem srt_kD (r : Rw) (ts : List Th) : srt ((enumT ts).map (kD r)) = (sE r ts).map (kD r) := by
  unfold srt sE
  exact (List.map_mergeSort fun a _ b _ => (dataLe_kD r a b).symm).symm
theorem alike_ints : ∀ (xs ys : List Int), xs.length = ys.length → PySem.W.alikeAll (xs.map .int) (ys.map .int) = true
  | [], [], _ => rfl
  | x :: xs, y :: ys, h => by
    simp only [List.map_cons, PySem.W.alikeAll]
    rw [alike_ints xs ys (by simpa using h)]
    rfl
  | [], _ :: _, h => by simp at h
  | _ :: _, [], h => by simp at h
theorem srtOk_kD (r : Rw) (l : List (Nat × Th)) : srtOk (l.map (kD r)) = true := by
  have h1 : ∀ p q : Nat × Th, PySem.W.alike (kD r p) (kD r q) = true := fun p q => by
    have := alike_ints (wts r p.2) (wts r q.2) (by simp [wts])
    simp [kD, ti, PySem.W.alike, PySem.W.alikeAll, this]
  have h2 : ∀ p : Nat × Th, (kD r p).depth ≤ 64 := fun p => by
    have := depthAll_ints (wts r p.2)
    simp [kD, ti, PyData.depth, PyData.depthAll]
    omega
  unfold srtOk
  simp only [Bool.and_eq_true, List.all_eq_true, Bool.or_eq_true]
  refine ⟨⟨fun x hx y hy => ?_, .inl fun x hx => ?_⟩, fun x hx => ?_⟩
  · obtain ⟨p, _, rfl⟩ := List.mem_map.mp hx
    obtain ⟨q, _, rfl⟩ := List.mem_map.mp hy
    exact h1 p q
  · obtain ⟨p, _, rfl⟩ := List.mem_map.mp hx
    rfl
  · obtain ⟨p, _, rfl⟩ := List.mem_map.mp hx
    simpa using h2 p
theorem enumD_ts (ts : List Th) : enumD (ts.map Th.d) = (enumT ts).map fun p => .tuple [.int p.1, p.2.d] := by
  unfold enumD enumT
  apply List.ext_getElem?
  intro i
  simp only [List.getElem?_mapIdx, List.getElem?_map]
  cases ts[i]? <;> rfl
theorem enumT_len (ts : List Th) : (enumT ts).length = ts.length := by simp [enumT]
theorem sE_len (r : Rw) (ts : List Th) : (sE r ts).length = ts.length := by rw [(sE_perm r ts).length_eq, enumT_len]
theorem places_ok (r : Rw) (h : Rw.ok r) (hl : r.length ≤ 1000000) (ts : List Th) (ht : ts.length ≤ 1000000) (n : Nat) : m_places [.d (rowD r), .d (tsD ts)] n = some (.d (ti ((sE r ts).map fun p => (p.1 : Int))), n) := by
  have e1 := comp_mapA (g := gMany [3, 4]) (own := [3, 4]) (elt := eTup (aCons (eCall m_worths (aCons (eVar 0) (aCons (eVar 4) aNil))) (aCons (eVar 3) aNil))) (ρ := [.d (rowD r), .d (tsD ts), .no, .no, .no, .no]) (n := n)
    (fun p : Nat × Th => .tuple [.int p.1, p.2.d]) (kD r) (enumT ts) fun p _ => ⟨_, rfl, by simp -implicitDefEqProofs only [eVar_ap, dVar_ap, eC_ap, dOf_ap, eFrz_ap, eBin_ap, bTest_ap, bTru_ap, bAnd_ap, bOr_ap, bNot_ap, eIf_ap, eB_ap, eAnd_ap, eOr_ap, aNil_ap, aCons_ap, sNil_ap, sCons_ap, eTup_ap, eLst_ap, eCall_ap, eApp_ap, oNone_ap, oSome_ap, eSl_ap, sNil'_ap, sSeq_ap, sBrk_ap, sRet_ap, sRetN_ap, sRetO_ap, sDrop_ap, sIf_ap, sSet_ap, sApp_ap, sTown_ap, sExt_ap, sIns_ap, sSetIx_ap, sAsg_ap, sPar_ap, iOf_ap, iVal_ap, iRng1_ap, iRng2_ap, sFor_ap, eComp_ap, bYes_ap, frzAt_ap, eUn_ap, eNotD_ap, eOrD_ap, eChain_ap, eListRg1_ap, eIsa_ap, eMt_ap, iEnumV_ap, iEnumF_ap, iZipV_ap, iZipF_ap, eTLen_ap, iRng3D_ap, sEnd_ap, eSs_ap, sPar3_ap, xPop_ap, xTup1_ap, xCat_ap, sSetX_ap, sAppX_ap, sParO_ap, sForEI_ap, sForK_ap, runB_ap, gOne_ap, gMany_ap, dI_ap, yesC_ap, dCmp_int, setD, kill_nx, kill_rt, kill_bk, Option.bind_some, Option.map_some, Option.bind_none, Option.map_none, List.getElem?_cons_zero, List.getElem?_cons_succ, List.set_cons_zero, List.set_cons_succ, List.cons_append, List.nil_append, List.append_nil, List.replicate, List.length_cons, List.length_nil, Nat.reduceAdd, Nat.reduceSub, Nat.zero_add, wdat_no, wdat_d, wdat_town, wdat_ol, wdat_od, wfrz_no, wfrz_d, wfrz_town, wfrz_ol, wfrz_od, wval_no, wval_d, wval_town, wval_ol, wval_od, warg_no, warg_d, warg_town, warg_ol, warg_od, vals, gLen, gAbs, gMax2, gMin2, gInt, gTup, gList, wipeW, if_true, if_false, Bool.false_eq_true, Bool.not_true, Bool.not_false, reduceCtorEq, worths_ok r h hl p.2 n]; rfl⟩
  have e2 := comp_mapA (g := gMany [5, 3]) (own := [5, 3]) (elt := eVar 3) (ρ := [.d (rowD r), .d (tsD ts), .d (.list ((sE r ts).map (kD r))), .no, .no, .no]) (n := n)
    (kD r) (fun p => .int (p.1 : Int)) (sE r ts) fun p _ => ⟨_, rfl, rfl⟩
  have h3 : ((enumT ts).map fun p => PyData.tuple [.int p.1, p.2.d]).length ≤ big := by rw [List.length_map, enumT_len]; exact le_big ht
  have h4 : ((sE r ts).map (kD r)).length ≤ big := by rw [List.length_map, sE_len]; exact le_big ht
  have h5 : gSorted [.list ((enumT ts).map (kD r))] = some (.ol ((sE r ts).map (kD r))) := by
    simp only [gSorted, seqOf, Option.bind_some, srtOk_kD, srt_kD, if_true]
  have h6 : (List.map (fun p : Nat × Th => PyData.int (p.1 : Int)) (sE r ts)) = ((sE r ts).map fun p => (p.1 : Int)).map .int := by rw [List.map_map]; rfl
  unfold m_places b_places
  simp -implicitDefEqProofs only [eVar_ap, dVar_ap, eC_ap, dOf_ap, eFrz_ap, eBin_ap, bTest_ap, bTru_ap, bAnd_ap, bOr_ap, bNot_ap, eIf_ap, eB_ap, eAnd_ap, eOr_ap, aNil_ap, aCons_ap, sNil_ap, sCons_ap, eTup_ap, eLst_ap, eCall_ap, eApp_ap, oNone_ap, oSome_ap, eSl_ap, sNil'_ap, sSeq_ap, sBrk_ap, sRet_ap, sRetN_ap, sRetO_ap, sDrop_ap, sIf_ap, sSet_ap, sApp_ap, sTown_ap, sExt_ap, sIns_ap, sSetIx_ap, sAsg_ap, sPar_ap, iOf_ap, iVal_ap, iRng1_ap, iRng2_ap, sFor_ap, eComp_ap, bYes_ap, frzAt_ap, eUn_ap, eNotD_ap, eOrD_ap, eChain_ap, eListRg1_ap, eIsa_ap, eMt_ap, iEnumV_ap, iEnumF_ap, iZipV_ap, iZipF_ap, eTLen_ap, iRng3D_ap, sEnd_ap, eSs_ap, sPar3_ap, xPop_ap, xTup1_ap, xCat_ap, sSetX_ap, sAppX_ap, sParO_ap, sForEI_ap, sForK_ap, runB_ap, gOne_ap, gMany_ap, dI_ap, yesC_ap, dCmp_int, setD, kill_nx, kill_rt, kill_bk, Option.bind_some, Option.map_some, Option.bind_none, Option.map_none, List.getElem?_cons_zero, List.getElem?_cons_succ, List.set_cons_zero, List.set_cons_succ, List.cons_append, List.nil_append, List.append_nil, List.replicate, List.length_cons, List.length_nil, Nat.reduceAdd, Nat.reduceSub, Nat.zero_add, wdat_no, wdat_d, wdat_town, wdat_ol, wdat_od, wfrz_no, wfrz_d, wfrz_town, wfrz_ol, wfrz_od, wval_no, wval_d, wval_town, wval_ol, wval_od, warg_no, warg_d, warg_town, warg_ol, warg_od, vals, gLen, gAbs, gMax2, gMin2, gInt, gTup, gList, wipeW, if_true, if_false, Bool.false_eq_true, Bool.not_true, Bool.not_false, reduceCtorEq, seqOf, enumD_ts, h3, e1, h5, iSeq, h4, e2]
  rw [h6]
/-- the list in order -/
def ordT (r : Rw) (ts : List Th) : List Th := (sE r ts).map (·.2)
theorem ordT_len (r : Rw) (ts : List Th) : (ordT r ts).length = ts.length := by simp [ordT, sE_len]
theorem dIx_ts {ts : List Th} {p : Nat × Th} (h : p ∈ enumT ts) : dIx (tsD ts) (.int (p.1 : Int)) = some (.d p.2.d) := by
  have g := enumT_get h
  obtain ⟨hi, e⟩ := List.getElem?_eq_some_iff.mp g
  rw [ixT _ _ (by omega) (by simpa using hi)]
  simp [e]
theorem ordered_ok (r : Rw) (h : Rw.ok r) (hl : r.length ≤ 1000000) (ts : List Th) (ht : ts.length ≤ 1000000) (n : Nat) : m_ordered [.d (rowD r), .d (tsD ts)] n = some (.d (tsD (ordT r ts)), n) := by
  have e2 := comp_mapA (g := gOne 2) (own := [2]) (elt := eBin dIx (dVar 1) (dVar 2)) (ρ := [.d (rowD r), .d (tsD ts), .no]) (n := n)
    (fun p : Nat × Th => .int (p.1 : Int)) (fun p => p.2.d) (sE r ts) fun p hp => ⟨_, rfl, by simp -implicitDefEqProofs only [eVar_ap, dVar_ap, eC_ap, dOf_ap, eFrz_ap, eBin_ap, bTest_ap, bTru_ap, bAnd_ap, bOr_ap, bNot_ap, eIf_ap, eB_ap, eAnd_ap, eOr_ap, aNil_ap, aCons_ap, sNil_ap, sCons_ap, eTup_ap, eLst_ap, eCall_ap, eApp_ap, oNone_ap, oSome_ap, eSl_ap, sNil'_ap, sSeq_ap, sBrk_ap, sRet_ap, sRetN_ap, sRetO_ap, sDrop_ap, sIf_ap, sSet_ap, sApp_ap, sTown_ap, sExt_ap, sIns_ap, sSetIx_ap, sAsg_ap, sPar_ap, iOf_ap, iVal_ap, iRng1_ap, iRng2_ap, sFor_ap, eComp_ap, bYes_ap, frzAt_ap, eUn_ap, eNotD_ap, eOrD_ap, eChain_ap, eListRg1_ap, eIsa_ap, eMt_ap, iEnumV_ap, iEnumF_ap, iZipV_ap, iZipF_ap, eTLen_ap, iRng3D_ap, sEnd_ap, eSs_ap, sPar3_ap, xPop_ap, xTup1_ap, xCat_ap, sSetX_ap, sAppX_ap, sParO_ap, sForEI_ap, sForK_ap, runB_ap, gOne_ap, gMany_ap, dI_ap, yesC_ap, dCmp_int, setD, kill_nx, kill_rt, kill_bk, Option.bind_some, Option.map_some, Option.bind_none, Option.map_none, List.getElem?_cons_zero, List.getElem?_cons_succ, List.set_cons_zero, List.set_cons_succ, List.cons_append, List.nil_append, List.append_nil, List.replicate, List.length_cons, List.length_nil, Nat.reduceAdd, Nat.reduceSub, Nat.zero_add, wdat_no, wdat_d, wdat_town, wdat_ol, wdat_od, wfrz_no, wfrz_d, wfrz_town, wfrz_ol, wfrz_od, wval_no, wval_d, wval_town, wval_ol, wval_od, warg_no, warg_d, warg_town, warg_ol, warg_od, vals, gLen, gAbs, gMax2, gMin2, gInt, gTup, gList, wipeW, if_true, if_false, Bool.false_eq_true, Bool.not_true, Bool.not_false, reduceCtorEq, dIx_ts ((sE_perm r ts).mem_iff.mp hp)]⟩
  have h6 : ((sE r ts).map fun p => (p.1 : Int)).map PyData.int = (sE r ts).map fun p : Nat × Th => PyData.int (p.1 : Int) := by rw [List.map_map]; rfl
  have h4 : ((sE r ts).map fun p : Nat × Th => PyData.int (p.1 : Int)).length ≤ big := by rw [List.length_map, sE_len]; exact le_big ht
  have h7 : (sE r ts).map (fun p => p.2.d) = (ordT r ts).map Th.d := by unfold ordT; rw [List.map_map]; rfl
  unfold m_ordered b_ordered
  simp -implicitDefEqProofs only [eVar_ap, dVar_ap, eC_ap, dOf_ap, eFrz_ap, eBin_ap, bTest_ap, bTru_ap, bAnd_ap, bOr_ap, bNot_ap, eIf_ap, eB_ap, eAnd_ap, eOr_ap, aNil_ap, aCons_ap, sNil_ap, sCons_ap, eTup_ap, eLst_ap, eCall_ap, eApp_ap, oNone_ap, oSome_ap, eSl_ap, sNil'_ap, sSeq_ap, sBrk_ap, sRet_ap, sRetN_ap, sRetO_ap, sDrop_ap, sIf_ap, sSet_ap, sApp_ap, sTown_ap, sExt_ap, sIns_ap, sSetIx_ap, sAsg_ap, sPar_ap, iOf_ap, iVal_ap, iRng1_ap, iRng2_ap, sFor_ap, eComp_ap, bYes_ap, frzAt_ap, eUn_ap, eNotD_ap, eOrD_ap, eChain_ap, eListRg1_ap, eIsa_ap, eMt_ap, iEnumV_ap, iEnumF_ap, iZipV_ap, iZipF_ap, eTLen_ap, iRng3D_ap, sEnd_ap, eSs_ap, sPar3_ap, xPop_ap, xTup1_ap, xCat_ap, sSetX_ap, sAppX_ap, sParO_ap, sForEI_ap, sForK_ap, runB_ap, gOne_ap, gMany_ap, dI_ap, yesC_ap, dCmp_int, setD, kill_nx, kill_rt, kill_bk, Option.bind_some, Option.map_some, Option.bind_none, Option.map_none, List.getElem?_cons_zero, List.getElem?_cons_succ, List.set_cons_zero, List.set_cons_succ, List.cons_append, List.nil_append, List.append_nil, List.replicate, List.length_cons, List.length_nil, Nat.reduceAdd, Nat.reduceSub, Nat.zero_add, wdat_no, wdat_d, wdat_town, wdat_ol, wdat_od, wfrz_no, wfrz_d, wfrz_town, wfrz_ol, wfrz_od, wval_no, wval_d, wval_town, wval_ol, wval_od, warg_no, warg_d, warg_town, warg_ol, warg_od, vals, gLen, gAbs, gMax2, gMin2, gInt, gTup, gList, wipeW, if_true, if_false, Bool.false_eq_true, Bool.not_true, Bool.not_false, reduceCtorEq, places_ok r h hl ts ht n, iSeq, h6, h4, e2, h7]
end L2.Lv.Sh
namespace L2.Lv.Sh
open PySem PySem.Spec PyProof.Rows L2 L2.Lv
/-! slices -/
theorem cutD_take (xs : List PyData) (k : Nat) (h : k ≤ xs.length) : cutD xs none (some (k : Int)) = xs.take k := by
  unfold cutD
  rw [HT.sIx_none, HT.sIx_nat, Nat.min_eq_left h]
  simp
theorem cutD_drop (xs : List PyData) (k : Nat) (h : k ≤ xs.length) : cutD xs (some (k : Int)) none = xs.drop k := by
  unfold cutD
  rw [HT.sIx_none, HT.sIx_nat, Nat.min_eq_left h, ← List.length_drop, List.take_length]
theorem oSomeV (i : Nat) (ρ : List W) (n : Nat) (k : Int) (h : dVar i ρ n = some (.int k, n)) : oSome (dVar i) ρ n = some (some k, n) := by
  rw [oSome_ap, h]; rfl
theorem tw_take {α : Type} (p : α → Bool) : ∀ L : List α, L.takeWhile p = L.take (L.takeWhile p).length ∧ L.dropWhile p = L.drop (L.takeWhile p).length
  | [] => ⟨rfl, rfl⟩
  | x :: L => by
    obtain ⟨h1, h2⟩ := tw_take p L
    rw [List.takeWhile_cons, List.dropWhile_cons]
    cases p x with
    | false => exact ⟨rfl, rfl⟩
    | true => exact ⟨congrArg (x :: ·) h1, h2⟩
/-! the list by hand -/
abbrev pxD (L : List (Nat × Th)) : PyData := .list (L.map fun p => .int (p.1 : Int))
def ins (r : Rw) (p : Nat × Th) (L : List (Nat × Th)) : List (Nat × Th) := L.takeWhile (fun q => decide (wrd r q.2 p.2 < 1)) ++ p :: L.dropWhile (fun q => decide (wrd r q.2 p.2 < 1))
theorem ins_perm (r : Rw) (p : Nat × Th) (L : List (Nat × Th)) : (ins r p L).Perm (L ++ [p]) := by
  unfold ins
  refine List.perm_middle.trans ?_
  rw [List.takeWhile_append_dropWhile]
  exact (List.perm_append_singleton p L).symm
theorem ins_pw (r : Rw) (p : Nat × Th) : ∀ (L : List (Nat × Th)), L.Pairwise (rle r) → (∀ q ∈ L, q.1 ≤ p.1) → (ins r p L).Pairwise (rle r)
  | [], _, _ => List.pairwise_singleton _ _
  | q :: L, h, hi => by
    obtain ⟨h1, h2⟩ := List.pairwise_cons.mp h
    unfold ins
    rw [List.takeWhile_cons, List.dropWhile_cons]
    by_cases c : wrd r q.2 p.2 < 1
    · rw [if_pos (by simpa using c), if_pos (by simpa using c)]
      have ih := ins_pw r p L h2 fun z hz => hi z (List.mem_cons_of_mem _ hz)
      rw [List.cons_append]
      refine List.pairwise_cons.mpr ⟨fun z hz => ?_, ih⟩
      have hz' : z ∈ L ++ [p] := (ins_perm r p L).mem_iff.mp hz
      rcases List.mem_append.mp hz' with hz' | hz'
      · exact h1 z hz'
      · simp at hz'
        subst hz'
        have := hi q (List.mem_cons_self ..)
        unfold rle
        omega
    · rw [if_neg (by simpa using c), if_neg (by simpa using c), List.nil_append]
      have pq : rle r p q := by
        have := wrd_anti r q.2 p.2
        unfold rle
        omega
      refine List.pairwise_cons.mpr ⟨fun z hz => ?_, h⟩
      rcases List.mem_cons.mp hz with rfl | hz
      · exact pq
      · exact rle_trans r p q z pq (h1 z hz)
theorem enumT_pw (ts : List Th) : (enumT ts).Pairwise fun p q => p.1 < q.1 := by
  rw [List.pairwise_iff_getElem]
  intro i j hi hj hij
  simpa [enumT] using hij
/-- the place -/
theorem lplace (r : Rw) (hr : Rw.ok r) (ts : List Th) (ht : ∀ t ∈ ts, t.ok) (p : Nat × Th) (hp : p.2.ok) (L : List (Nat × Th)) (hL : ∀ q ∈ L, q ∈ enumT ts) (n : Nat) : ∀ (rest pre : List (Nat × Th)) (k : Nat), L = pre ++ rest → rest.length < k →
    loopW (bAnd (bTest (eBin (dCmp rLt zLt) (dVar 5) (dOf (eApp gLen (sCons (dVar 2) sNil))))) (bTest (eBin (dCmp rLt zLt) (dOf (eCall m__law_word (aCons (eVar 0) (aCons (eBin dIx (dVar 1) (dOf (eBin dIx (dVar 2) (dVar 5)))) (aCons (eVar 4) aNil))))) (dOf (eC (.int 1)))))) l__law_sorted_2 k
      [.d (rowD r), .d (tsD ts), .d (pxD L), I' p.1, .d p.2.d, I' pre.length] n = some (.nx [.d (rowD r), .d (tsD ts), .d (pxD L), I' p.1, .d p.2.d, I' (pre.length + (rest.takeWhile fun q => decide (wrd r q.2 p.2 < 1)).length : Nat)] n)
  | [], pre, k + 1, hE, hk => by
    rw [List.append_nil] at hE
    subst hE
    rw [loopW_succ]
    have h0 : rLt (L.length : Int) (L.length : Int) = false := rLt_f (by omega)
    simp -implicitDefEqProofs only [eVar_ap, dVar_ap, eC_ap, dOf_ap, eFrz_ap, eBin_ap, bTest_ap, bTru_ap, bAnd_ap, bOr_ap, bNot_ap, eIf_ap, eB_ap, eAnd_ap, eOr_ap, aNil_ap, aCons_ap, sNil_ap, sCons_ap, eTup_ap, eLst_ap, eCall_ap, eApp_ap, oNone_ap, oSome_ap, eSl_ap, sNil'_ap, sSeq_ap, sBrk_ap, sRet_ap, sRetN_ap, sRetO_ap, sDrop_ap, sIf_ap, sSet_ap, sApp_ap, sTown_ap, sExt_ap, sIns_ap, sSetIx_ap, sAsg_ap, sPar_ap, iOf_ap, iVal_ap, iRng1_ap, iRng2_ap, sFor_ap, eComp_ap, bYes_ap, frzAt_ap, eUn_ap, eNotD_ap, eOrD_ap, eChain_ap, eListRg1_ap, eIsa_ap, eMt_ap, iEnumV_ap, iEnumF_ap, iZipV_ap, iZipF_ap, eTLen_ap, iRng3D_ap, sEnd_ap, eSs_ap, sPar3_ap, xPop_ap, xTup1_ap, xCat_ap, sSetX_ap, sAppX_ap, sParO_ap, sForEI_ap, sForK_ap, runB_ap, gOne_ap, gMany_ap, dI_ap, yesC_ap, dCmp_int, setD, kill_nx, kill_rt, kill_bk, Option.bind_some, Option.map_some, Option.bind_none, Option.map_none, List.getElem?_cons_zero, List.getElem?_cons_succ, List.set_cons_zero, List.set_cons_succ, List.cons_append, List.nil_append, List.append_nil, List.replicate, List.length_cons, List.length_nil, Nat.reduceAdd, Nat.reduceSub, Nat.zero_add, wdat_no, wdat_d, wdat_town, wdat_ol, wdat_od, wfrz_no, wfrz_d, wfrz_town, wfrz_ol, wfrz_od, wval_no, wval_d, wval_town, wval_ol, wval_od, warg_no, warg_d, warg_town, warg_ol, warg_od, vals, gLen, gAbs, gMax2, gMin2, gInt, gTup, gList, wipeW, if_true, if_false, Bool.false_eq_true, Bool.not_true, Bool.not_false, reduceCtorEq, List.length_map, h0, List.takeWhile_nil, Nat.add_zero]
  | q :: rest, pre, k + 1, hE, hk => by
    have hq : q ∈ L := by rw [hE]; simp
    have h0 : rLt (pre.length : Int) (L.length : Int) = true := rLt_t (by rw [hE]; simp; omega)
    have h1 : dIx (.list (L.map fun p => PyData.int (p.1 : Int))) (.int (pre.length : Int)) = some (.d (.int (q.1 : Int))) := by
      rw [ixL _ _ (by omega) (by rw [hE]; simp)]
      simp [hE]
    have h2 := dIx_ts (hL q hq)
    have hqo : q.2.ok := ht _ (List.mem_of_getElem? (enumT_get (hL q hq)))
    have h3 := word_ok r hr q.2 p.2 hqo hp n
    rw [loopW_succ]
    by_cases c : wrd r q.2 p.2 < 1
    · have ih := lplace r hr ts ht p hp L hL n rest (pre ++ [q]) k (by rw [hE]; simp) (by simp at hk; omega)
      have e1 : ((pre ++ [q]).length : Int) = (pre.length : Int) + 1 := by simp
      have e2 : (pre ++ [q]).length + (rest.takeWhile fun q => decide (wrd r q.2 p.2 < 1)).length = pre.length + ((q :: rest).takeWhile fun q => decide (wrd r q.2 p.2 < 1)).length := by
        rw [List.takeWhile_cons, if_pos (by simpa using c)]; simp; omega
      rw [e2, e1] at ih
      unfold l__law_sorted_2 at ih ⊢
      simp -implicitDefEqProofs only [eVar_ap, dVar_ap, eC_ap, dOf_ap, eFrz_ap, eBin_ap, bTest_ap, bTru_ap, bAnd_ap, bOr_ap, bNot_ap, eIf_ap, eB_ap, eAnd_ap, eOr_ap, aNil_ap, aCons_ap, sNil_ap, sCons_ap, eTup_ap, eLst_ap, eCall_ap, eApp_ap, oNone_ap, oSome_ap, eSl_ap, sNil'_ap, sSeq_ap, sBrk_ap, sRet_ap, sRetN_ap, sRetO_ap, sDrop_ap, sIf_ap, sSet_ap, sApp_ap, sTown_ap, sExt_ap, sIns_ap, sSetIx_ap, sAsg_ap, sPar_ap, iOf_ap, iVal_ap, iRng1_ap, iRng2_ap, sFor_ap, eComp_ap, bYes_ap, frzAt_ap, eUn_ap, eNotD_ap, eOrD_ap, eChain_ap, eListRg1_ap, eIsa_ap, eMt_ap, iEnumV_ap, iEnumF_ap, iZipV_ap, iZipF_ap, eTLen_ap, iRng3D_ap, sEnd_ap, eSs_ap, sPar3_ap, xPop_ap, xTup1_ap, xCat_ap, sSetX_ap, sAppX_ap, sParO_ap, sForEI_ap, sForK_ap, runB_ap, gOne_ap, gMany_ap, dI_ap, yesC_ap, dCmp_int, setD, kill_nx, kill_rt, kill_bk, Option.bind_some, Option.map_some, Option.bind_none, Option.map_none, List.getElem?_cons_zero, List.getElem?_cons_succ, List.set_cons_zero, List.set_cons_succ, List.cons_append, List.nil_append, List.append_nil, List.replicate, List.length_cons, List.length_nil, Nat.reduceAdd, Nat.reduceSub, Nat.zero_add, wdat_no, wdat_d, wdat_town, wdat_ol, wdat_od, wfrz_no, wfrz_d, wfrz_town, wfrz_ol, wfrz_od, wval_no, wval_d, wval_town, wval_ol, wval_od, warg_no, warg_d, warg_town, warg_ol, warg_od, vals, gLen, gAbs, gMax2, gMin2, gInt, gTup, gList, wipeW, if_true, if_false, Bool.false_eq_true, Bool.not_true, Bool.not_false, reduceCtorEq, List.length_map, h0, h1, h2, h3, rLt_t c, dAdd_int, ih]
    · have e2 : ((q :: rest).takeWhile fun q => decide (wrd r q.2 p.2 < 1)) = [] := by rw [List.takeWhile_cons, if_neg (by simpa using c)]
      simp -implicitDefEqProofs only [eVar_ap, dVar_ap, eC_ap, dOf_ap, eFrz_ap, eBin_ap, bTest_ap, bTru_ap, bAnd_ap, bOr_ap, bNot_ap, eIf_ap, eB_ap, eAnd_ap, eOr_ap, aNil_ap, aCons_ap, sNil_ap, sCons_ap, eTup_ap, eLst_ap, eCall_ap, eApp_ap, oNone_ap, oSome_ap, eSl_ap, sNil'_ap, sSeq_ap, sBrk_ap, sRet_ap, sRetN_ap, sRetO_ap, sDrop_ap, sIf_ap, sSet_ap, sApp_ap, sTown_ap, sExt_ap, sIns_ap, sSetIx_ap, sAsg_ap, sPar_ap, iOf_ap, iVal_ap, iRng1_ap, iRng2_ap, sFor_ap, eComp_ap, bYes_ap, frzAt_ap, eUn_ap, eNotD_ap, eOrD_ap, eChain_ap, eListRg1_ap, eIsa_ap, eMt_ap, iEnumV_ap, iEnumF_ap, iZipV_ap, iZipF_ap, eTLen_ap, iRng3D_ap, sEnd_ap, eSs_ap, sPar3_ap, xPop_ap, xTup1_ap, xCat_ap, sSetX_ap, sAppX_ap, sParO_ap, sForEI_ap, sForK_ap, runB_ap, gOne_ap, gMany_ap, dI_ap, yesC_ap, dCmp_int, setD, kill_nx, kill_rt, kill_bk, Option.bind_some, Option.map_some, Option.bind_none, Option.map_none, List.getElem?_cons_zero, List.getElem?_cons_succ, List.set_cons_zero, List.set_cons_succ, List.cons_append, List.nil_append, List.append_nil, List.replicate, List.length_cons, List.length_nil, Nat.reduceAdd, Nat.reduceSub, Nat.zero_add, wdat_no, wdat_d, wdat_town, wdat_ol, wdat_od, wfrz_no, wfrz_d, wfrz_town, wfrz_ol, wfrz_od, wval_no, wval_d, wval_town, wval_ol, wval_od, warg_no, warg_d, warg_town, warg_ol, warg_od, vals, gLen, gAbs, gMax2, gMin2, gInt, gTup, gList, wipeW, if_true, if_false, Bool.false_eq_true, Bool.not_true, Bool.not_false, reduceCtorEq, List.length_map, h0, h1, h2, h3, rLt_f c, e2, Nat.add_zero]
theorem lsorted_loop (r : Rw) (hr : Rw.ok r) (ts : List Th) (ht : ∀ t ∈ ts, t.ok) (htl : ts.length ≤ 1000) (n : Nat) : ∀ (es done L : List (Nat × Th)) (w3 w4 w5 : W), enumT ts = done ++ es → L.Perm done → L.Pairwise (rle r) → ∃ (w3' w4' w5' : W),
    loopF (gMany [3, 4]) l__law_sorted_1 (es.map fun p => .tuple [.int p.1, p.2.d]) [.d (rowD r), .d (tsD ts), .d (.list (L.map fun p => .int (p.1 : Int))), w3, w4, w5] n = some (.nx [.d (rowD r), .d (tsD ts), .d (.list ((sE r ts).map fun p => .int (p.1 : Int))), w3', w4', w5'] n)
  | [], done, L, w3, w4, w5, hE, hp, hs => by
    rw [List.append_nil] at hE
    subst hE
    rw [sE_uniq hp hs]
    exact ⟨w3, w4, w5, rfl⟩
  | p :: es, done, L, w3, w4, w5, hE, hp, hs => by
    have hm : p ∈ enumT ts := by rw [hE]; simp
    have hpo : p.2.ok := ht _ (List.mem_of_getElem? (enumT_get hm))
    have hL : ∀ q ∈ L, q ∈ enumT ts := fun q hq => by rw [hE]; exact List.mem_append_left _ (hp.mem_iff.mp hq)
    have hlt : ∀ q ∈ L, q.1 ≤ p.1 := fun q hq => by
      have pw := enumT_pw ts
      rw [hE, List.pairwise_append] at pw
      exact Nat.le_of_lt (pw.2.2 q (hp.mem_iff.mp hq) p (List.mem_cons_self ..))
    have hLl : L.length ≤ 1000 := by
      have h1 := hp.length_eq
      have h2 := congrArg List.length hE
      rw [enumT_len] at h2
      simp at h2
      omega
    have e1 := lplace r hr ts ht p hpo L hL n L [] 100000 rfl (by omega)
    obtain ⟨v3, v4, v5, e2⟩ := lsorted_loop r hr ts ht htl n es (done ++ [p]) (ins r p L) (I' p.1) (.d p.2.d) (I' ((L.takeWhile fun q => decide (wrd r q.2 p.2 < 1)).length : Nat)) (by rw [hE]; simp) ((ins_perm r p L).trans (hp.append_right _)) (ins_pw r p L hs hlt)
    refine ⟨v3, v4, v5, ?_⟩
    have hk : (L.takeWhile fun q => decide (wrd r q.2 p.2 < 1)).length ≤ L.length := (List.takeWhile_prefix _).length_le
    generalize hkk : (L.takeWhile fun q => decide (wrd r q.2 p.2 < 1)).length = kk at *
    have hi : ins r p L = L.take kk ++ [p] ++ L.drop kk := by
      obtain ⟨h1, h2⟩ := tw_take (fun q : Nat × Th => decide (wrd r q.2 p.2 < 1)) L
      rw [hkk] at h1 h2
      unfold ins
      rw [h1, h2]
      simp
    have h1 : cutD (L.map fun p => PyData.int (p.1 : Int)) none (some (kk : Int)) = (L.take kk).map fun p => PyData.int (p.1 : Int) := by
      rw [cutD_take _ _ (by simpa using hk), List.map_take]
    have h2 : cutD (L.map fun p => PyData.int (p.1 : Int)) (some (kk : Int)) none = (L.drop kk).map fun p => PyData.int (p.1 : Int) := by
      rw [cutD_drop _ _ (by simpa using hk), List.map_drop]
    have h3 : dAdd (.list ((L.take kk).map fun p => PyData.int (p.1 : Int))) (.list [.int (p.1 : Int)]) = some (.ol ((L.take kk).map (fun p => PyData.int (p.1 : Int)) ++ [.int (p.1 : Int)])) := dAdd_lst _ _ (le_big (by simp; omega))
    have h4 : dAdd (.list ((L.take kk).map (fun p => PyData.int (p.1 : Int)) ++ [.int (p.1 : Int)])) (.list ((L.drop kk).map fun p => PyData.int (p.1 : Int))) = some (.ol ((ins r p L).map fun p => PyData.int (p.1 : Int))) := by
      rw [dAdd_lst _ _ (le_big (by simp; omega)), hi]; simp
    rw [List.map_cons, loopF_cons]
    have e1 : loopW _ l__law_sorted_2 100000 [.d (rowD r), .d (tsD ts), .d (.list (L.map fun p => .int (p.1 : Int))), .d (.int p.1), .d p.2.d, .d (.int 0)] n = _ := e1
    unfold l__law_sorted_1 at e2 ⊢
    simp -implicitDefEqProofs only [eVar_ap, dVar_ap, eC_ap, dOf_ap, eFrz_ap, eBin_ap, bTest_ap, bTru_ap, bAnd_ap, bOr_ap, bNot_ap, eIf_ap, eB_ap, eAnd_ap, eOr_ap, aNil_ap, aCons_ap, sNil_ap, sCons_ap, eTup_ap, eLst_ap, eCall_ap, eApp_ap, oNone_ap, oSome_ap, eSl_ap, sNil'_ap, sSeq_ap, sBrk_ap, sRet_ap, sRetN_ap, sRetO_ap, sDrop_ap, sIf_ap, sSet_ap, sApp_ap, sTown_ap, sExt_ap, sIns_ap, sSetIx_ap, sAsg_ap, sPar_ap, iOf_ap, iVal_ap, iRng1_ap, iRng2_ap, sFor_ap, eComp_ap, bYes_ap, frzAt_ap, eUn_ap, eNotD_ap, eOrD_ap, eChain_ap, eListRg1_ap, eIsa_ap, eMt_ap, iEnumV_ap, iEnumF_ap, iZipV_ap, iZipF_ap, eTLen_ap, iRng3D_ap, sEnd_ap, eSs_ap, sPar3_ap, xPop_ap, xTup1_ap, xCat_ap, sSetX_ap, sAppX_ap, sParO_ap, sForEI_ap, sForK_ap, runB_ap, gOne_ap, gMany_ap, dI_ap, yesC_ap, dCmp_int, setD, kill_nx, kill_rt, kill_bk, Option.bind_some, Option.map_some, Option.bind_none, Option.map_none, List.getElem?_cons_zero, List.getElem?_cons_succ, List.set_cons_zero, List.set_cons_succ, List.cons_append, List.nil_append, List.append_nil, List.replicate, List.length_cons, List.length_nil, Nat.reduceAdd, Nat.reduceSub, Nat.zero_add, wdat_no, wdat_d, wdat_town, wdat_ol, wdat_od, wfrz_no, wfrz_d, wfrz_town, wfrz_ol, wfrz_od, wval_no, wval_d, wval_town, wval_ol, wval_od, warg_no, warg_d, warg_town, warg_ol, warg_od, vals, gLen, gAbs, gMax2, gMin2, gInt, gTup, gList, wipeW, if_true, if_false, Bool.false_eq_true, Bool.not_true, Bool.not_false, reduceCtorEq, e1, dSl, h1, h2, h3, h4, e2]
theorem lsorted_ok (r : Rw) (hr : Rw.ok r) (ts : List Th) (ht : ∀ t ∈ ts, t.ok) (htl : ts.length ≤ 1000) (n : Nat) : m__law_sorted [.d (rowD r), .d (tsD ts)] n = some (.d (.list ((sE r ts).map fun p => .int (p.1 : Int))), n) := by
  obtain ⟨w3, w4, w5, e⟩ := lsorted_loop r hr ts ht htl n (enumT ts) [] [] .no .no .no rfl (List.Perm.refl _) List.Pairwise.nil
  rw [List.map_nil] at e
  unfold m__law_sorted b__law_sorted
  simp -implicitDefEqProofs only [eVar_ap, dVar_ap, eC_ap, dOf_ap, eFrz_ap, eBin_ap, bTest_ap, bTru_ap, bAnd_ap, bOr_ap, bNot_ap, eIf_ap, eB_ap, eAnd_ap, eOr_ap, aNil_ap, aCons_ap, sNil_ap, sCons_ap, eTup_ap, eLst_ap, eCall_ap, eApp_ap, oNone_ap, oSome_ap, eSl_ap, sNil'_ap, sSeq_ap, sBrk_ap, sRet_ap, sRetN_ap, sRetO_ap, sDrop_ap, sIf_ap, sSet_ap, sApp_ap, sTown_ap, sExt_ap, sIns_ap, sSetIx_ap, sAsg_ap, sPar_ap, iOf_ap, iVal_ap, iRng1_ap, iRng2_ap, sFor_ap, eComp_ap, bYes_ap, frzAt_ap, eUn_ap, eNotD_ap, eOrD_ap, eChain_ap, eListRg1_ap, eIsa_ap, eMt_ap, iEnumV_ap, iEnumF_ap, iZipV_ap, iZipF_ap, eTLen_ap, iRng3D_ap, sEnd_ap, eSs_ap, sPar3_ap, xPop_ap, xTup1_ap, xCat_ap, sSetX_ap, sAppX_ap, sParO_ap, sForEI_ap, sForK_ap, runB_ap, gOne_ap, gMany_ap, dI_ap, yesC_ap, dCmp_int, setD, kill_nx, kill_rt, kill_bk, Option.bind_some, Option.map_some, Option.bind_none, Option.map_none, List.getElem?_cons_zero, List.getElem?_cons_succ, List.set_cons_zero, List.set_cons_succ, List.cons_append, List.nil_append, List.append_nil, List.replicate, List.length_cons, List.length_nil, Nat.reduceAdd, Nat.reduceSub, Nat.zero_add, wdat_no, wdat_d, wdat_town, wdat_ol, wdat_od, wfrz_no, wfrz_d, wfrz_town, wfrz_ol, wfrz_od, wval_no, wval_d, wval_town, wval_ol, wval_od, warg_no, warg_d, warg_town, warg_ol, warg_od, vals, gLen, gAbs, gMax2, gMin2, gInt, gTup, gList, wipeW, if_true, if_false, Bool.false_eq_true, Bool.not_true, Bool.not_false, reduceCtorEq, seqOf, enumD_ts, e]
end L2.Lv.Sh
namespace L2.Lv.Sh
open PySem PySem.Spec PyProof.Rows L2 L2.Lv
/-! runs -/
def rStep (r : Rw) (acc : List (List Th)) (t : Th) : List (List Th) := match acc.getLast? with
  | none => acc ++ [[t]]
  | some l => match l.getLast? with
    | none => acc ++ [[t]]
    | some u => if wrd r u t < 1 then acc.dropLast ++ [l ++ [t]] else acc ++ [[t]]
def runsT (r : Rw) (ts : List Th) : List (List Th) := ts.foldl (rStep r) []
theorem rStep_nil (r : Rw) (t : Th) : rStep r [] t = [[t]] := rfl
theorem rStep_app (r : Rw) (A : List (List Th)) (B : List Th) (u t : Th) : rStep r (A ++ [B ++ [u]]) t = if wrd r u t < 1 then A ++ [B ++ [u] ++ [t]] else A ++ [B ++ [u]] ++ [[t]] := by
  unfold rStep
  simp
theorem ixN_last (k : Nat) : ixN (k + 1) (-1) = some k := by
  unfold ixN
  simp
  try omega
/-- what holds of the list so far -/
def rInv (acc : List (List Th)) (k : Nat) : Prop := acc.length + k ≤ 1000 ∧ ∀ l ∈ acc, l ≠ [] ∧ l.length + k ≤ 1000
theorem rInv.step {r : Rw} {acc : List (List Th)} {k : Nat} {t : Th} (h : rInv acc (k + 1)) : rInv (rStep r acc t) k := by
  obtain ⟨h1, h2⟩ := h
  rcases List.eq_nil_or_concat acc with rfl | ⟨A, l, rfl⟩
  · rw [rStep_nil]; exact ⟨by simp at h1 ⊢; omega, fun l hl => by simp at hl; subst hl; exact ⟨by simp, by simp at h1 ⊢; omega⟩⟩
  · obtain ⟨n1, n2⟩ := h2 l (by simp)
    rcases List.eq_nil_or_concat l with rfl | ⟨B, u, rfl⟩
    · exact absurd rfl n1
    · simp only [List.concat_eq_append] at *
      rw [rStep_app]
      split
      · refine ⟨by simp at h1 ⊢; omega, fun l hl => ?_⟩
        rcases List.mem_append.mp hl with hl | hl
        · obtain ⟨m1, m2⟩ := h2 l (List.mem_append_left _ hl); exact ⟨m1, by omega⟩
        · simp at hl; subst hl; exact ⟨by simp, by simp at n2 ⊢; omega⟩
      · refine ⟨by simp at h1 ⊢; omega, fun l hl => ?_⟩
        rcases List.mem_append.mp hl with hl | hl
        · obtain ⟨m1, m2⟩ := h2 l hl; exact ⟨m1, by omega⟩
        · simp at hl; subst hl; exact ⟨by simp, by simp at h1 ⊢; omega⟩
theorem rLast (A : List (List Th)) (l : List Th) : dIx (.list ((A ++ [l]).map tsD)) (.int (-1)) = some (.d (tsD l)) := by
  show (atI _ _).map W.d = _
  rw [List.map_append, List.map_singleton, atI_last]; rfl
theorem tLast (B : List Th) (u : Th) : dIx (tsD (B ++ [u])) (.int (-1)) = some (.d u.d) := by
  show (atI _ _).map W.d = _
  rw [List.map_append, List.map_singleton, atI_last]; rfl
theorem rSet (A : List (List Th)) (l m : List Th) : ((A ++ [l]).map tsD).set A.length (tsD m) = (A ++ [m]).map tsD := by
  simp
theorem runs_loop (r : Rw) (hr : Rw.ok r) (hrl : r.length ≤ 1000000) (w1 : W) (n : Nat) : ∀ (ts : List Th) (acc : List (List Th)) (w3 : W), rInv acc ts.length → ∃ w3',
    loopF (gOne 3) l_runs_1 (ts.map Th.d) [.d (rowD r), w1, .ol (acc.map tsD), w3] n = some (.nx [.d (rowD r), w1, .ol ((ts.foldl (rStep r) acc).map tsD), w3'] n)
  | [], acc, w3, _ => ⟨w3, rfl⟩
  | t :: ts, acc, w3, h => by
    obtain ⟨w3', e⟩ := runs_loop r hr hrl w1 n ts (rStep r acc t) (.d t.d) (rInv.step h)
    refine ⟨w3', ?_⟩
    obtain ⟨h1, h2⟩ := h
    have hb : (acc.map tsD).length < big := by rw [List.length_map]; unfold big; simp at h1; omega
    rw [List.map_cons, loopF_cons, List.foldl_cons]
    unfold l_runs_1 at e ⊢
    rcases List.eq_nil_or_concat acc with rfl | ⟨A, l, rfl⟩
    · have hb0 : 0 < big := by decide
      rw [rStep_nil] at e
      rw [rStep_nil]
      have e' : loopF (gOne 3) _ (ts.map Th.d) [.d (rowD r), w1, .ol [.tuple [t.d]], .d t.d] n = _ := e
      simp -implicitDefEqProofs only [eVar_ap, dVar_ap, eC_ap, dOf_ap, eFrz_ap, eBin_ap, bTest_ap, bTru_ap, bAnd_ap, bOr_ap, bNot_ap, eIf_ap, eB_ap, eAnd_ap, eOr_ap, aNil_ap, aCons_ap, sNil_ap, sCons_ap, eTup_ap, eLst_ap, eCall_ap, eApp_ap, oNone_ap, oSome_ap, eSl_ap, sNil'_ap, sSeq_ap, sBrk_ap, sRet_ap, sRetN_ap, sRetO_ap, sDrop_ap, sIf_ap, sSet_ap, sApp_ap, sTown_ap, sExt_ap, sIns_ap, sSetIx_ap, sAsg_ap, sPar_ap, iOf_ap, iVal_ap, iRng1_ap, iRng2_ap, sFor_ap, eComp_ap, bYes_ap, frzAt_ap, eUn_ap, eNotD_ap, eOrD_ap, eChain_ap, eListRg1_ap, eIsa_ap, eMt_ap, iEnumV_ap, iEnumF_ap, iZipV_ap, iZipF_ap, eTLen_ap, iRng3D_ap, sEnd_ap, eSs_ap, sPar3_ap, xPop_ap, xTup1_ap, xCat_ap, sSetX_ap, sAppX_ap, sParO_ap, sForEI_ap, sForK_ap, runB_ap, gOne_ap, gMany_ap, dI_ap, yesC_ap, dCmp_int, setD, kill_nx, kill_rt, kill_bk, Option.bind_some, Option.map_some, Option.bind_none, Option.map_none, List.getElem?_cons_zero, List.getElem?_cons_succ, List.set_cons_zero, List.set_cons_succ, List.cons_append, List.nil_append, List.append_nil, List.replicate, List.length_cons, List.length_nil, Nat.reduceAdd, Nat.reduceSub, Nat.zero_add, wdat_no, wdat_d, wdat_town, wdat_ol, wdat_od, wfrz_no, wfrz_d, wfrz_town, wfrz_ol, wfrz_od, wval_no, wval_d, wval_town, wval_ol, wval_od, warg_no, warg_d, warg_town, warg_ol, warg_od, vals, gLen, gAbs, gMax2, gMin2, gInt, gTup, gList, wipeW, if_true, if_false, Bool.false_eq_true, Bool.not_true, Bool.not_false, reduceCtorEq, dTru, List.map_nil, List.isEmpty_nil, hb0, e']
    · obtain ⟨n1, n2⟩ := h2 l (by simp)
      rcases List.eq_nil_or_concat l with rfl | ⟨B, u, rfl⟩
      · exact absurd rfl n1
      · simp only [List.concat_eq_append] at *
        rw [rStep_app] at e
        rw [rStep_app]
        have ht := told_ok' r hr hrl u t n
        have he : ((A ++ [B ++ [u]]).map tsD).isEmpty = false := by simp
        by_cases c : wrd r u t < 1
        · rw [if_pos c] at e
          rw [if_pos c]
          have ea : dAdd (tsD (B ++ [u])) (.tuple [t.d]) = some (.d (tsD (B ++ [u] ++ [t]))) := by
            rw [dAdd_tup _ _ (le_big (by simp at n2 ⊢; omega))]; simp
          have ix : ixN ((A ++ [B ++ [u]]).map tsD).length (-1) = some A.length := by
            have : ((A ++ [B ++ [u]]).map tsD).length = A.length + 1 := by simp
            rw [this, ixN_last]
          simp -implicitDefEqProofs only [eVar_ap, dVar_ap, eC_ap, dOf_ap, eFrz_ap, eBin_ap, bTest_ap, bTru_ap, bAnd_ap, bOr_ap, bNot_ap, eIf_ap, eB_ap, eAnd_ap, eOr_ap, aNil_ap, aCons_ap, sNil_ap, sCons_ap, eTup_ap, eLst_ap, eCall_ap, eApp_ap, oNone_ap, oSome_ap, eSl_ap, sNil'_ap, sSeq_ap, sBrk_ap, sRet_ap, sRetN_ap, sRetO_ap, sDrop_ap, sIf_ap, sSet_ap, sApp_ap, sTown_ap, sExt_ap, sIns_ap, sSetIx_ap, sAsg_ap, sPar_ap, iOf_ap, iVal_ap, iRng1_ap, iRng2_ap, sFor_ap, eComp_ap, bYes_ap, frzAt_ap, eUn_ap, eNotD_ap, eOrD_ap, eChain_ap, eListRg1_ap, eIsa_ap, eMt_ap, iEnumV_ap, iEnumF_ap, iZipV_ap, iZipF_ap, eTLen_ap, iRng3D_ap, sEnd_ap, eSs_ap, sPar3_ap, xPop_ap, xTup1_ap, xCat_ap, sSetX_ap, sAppX_ap, sParO_ap, sForEI_ap, sForK_ap, runB_ap, gOne_ap, gMany_ap, dI_ap, yesC_ap, dCmp_int, setD, kill_nx, kill_rt, kill_bk, Option.bind_some, Option.map_some, Option.bind_none, Option.map_none, List.getElem?_cons_zero, List.getElem?_cons_succ, List.set_cons_zero, List.set_cons_succ, List.cons_append, List.nil_append, List.append_nil, List.replicate, List.length_cons, List.length_nil, Nat.reduceAdd, Nat.reduceSub, Nat.zero_add, wdat_no, wdat_d, wdat_town, wdat_ol, wdat_od, wfrz_no, wfrz_d, wfrz_town, wfrz_ol, wfrz_od, wval_no, wval_d, wval_town, wval_ol, wval_od, warg_no, warg_d, warg_town, warg_ol, warg_od, vals, gLen, gAbs, gMax2, gMin2, gInt, gTup, gList, wipeW, if_true, if_false, Bool.false_eq_true, Bool.not_true, Bool.not_false, reduceCtorEq, dTru, he, dNeg, rLast, tLast, ht, rLt_t c, ea, ix, rSet, e]
        · rw [if_neg c] at e
          rw [if_neg c]
          have em : (A ++ [B ++ [u]]).map tsD ++ [.tuple [t.d]] = (A ++ [B ++ [u]] ++ [[t]]).map tsD := by simp
          simp -implicitDefEqProofs only [eVar_ap, dVar_ap, eC_ap, dOf_ap, eFrz_ap, eBin_ap, bTest_ap, bTru_ap, bAnd_ap, bOr_ap, bNot_ap, eIf_ap, eB_ap, eAnd_ap, eOr_ap, aNil_ap, aCons_ap, sNil_ap, sCons_ap, eTup_ap, eLst_ap, eCall_ap, eApp_ap, oNone_ap, oSome_ap, eSl_ap, sNil'_ap, sSeq_ap, sBrk_ap, sRet_ap, sRetN_ap, sRetO_ap, sDrop_ap, sIf_ap, sSet_ap, sApp_ap, sTown_ap, sExt_ap, sIns_ap, sSetIx_ap, sAsg_ap, sPar_ap, iOf_ap, iVal_ap, iRng1_ap, iRng2_ap, sFor_ap, eComp_ap, bYes_ap, frzAt_ap, eUn_ap, eNotD_ap, eOrD_ap, eChain_ap, eListRg1_ap, eIsa_ap, eMt_ap, iEnumV_ap, iEnumF_ap, iZipV_ap, iZipF_ap, eTLen_ap, iRng3D_ap, sEnd_ap, eSs_ap, sPar3_ap, xPop_ap, xTup1_ap, xCat_ap, sSetX_ap, sAppX_ap, sParO_ap, sForEI_ap, sForK_ap, runB_ap, gOne_ap, gMany_ap, dI_ap, yesC_ap, dCmp_int, setD, kill_nx, kill_rt, kill_bk, Option.bind_some, Option.map_some, Option.bind_none, Option.map_none, List.getElem?_cons_zero, List.getElem?_cons_succ, List.set_cons_zero, List.set_cons_succ, List.cons_append, List.nil_append, List.append_nil, List.replicate, List.length_cons, List.length_nil, Nat.reduceAdd, Nat.reduceSub, Nat.zero_add, wdat_no, wdat_d, wdat_town, wdat_ol, wdat_od, wfrz_no, wfrz_d, wfrz_town, wfrz_ol, wfrz_od, wval_no, wval_d, wval_town, wval_ol, wval_od, warg_no, warg_d, warg_town, warg_ol, warg_od, vals, gLen, gAbs, gMax2, gMin2, gInt, gTup, gList, wipeW, if_true, if_false, Bool.false_eq_true, Bool.not_true, Bool.not_false, reduceCtorEq, dTru, he, dNeg, rLast, tLast, ht, rLt_f c, hb, em, e]
theorem rInv0 {k : Nat} (h : k ≤ 1000) : rInv [] k := ⟨by simpa using h, by simp⟩
abbrev tssD (l : List (List Th)) : PyData := .tuple (l.map tsD)
theorem runs_ok (r : Rw) (hr : Rw.ok r) (hrl : r.length ≤ 1000000) (ts : List Th) (ht : ts.length ≤ 1000) (n : Nat) : m_runs [.d (rowD r), .d (tsD ts)] n = some (.d (tssD (runsT r ts)), n) := by
  obtain ⟨w3, e⟩ := runs_loop r hr hrl (.d (tsD ts)) n ts [] .no (rInv0 ht)
  rw [List.map_nil] at e
  unfold m_runs b_runs
  simp -implicitDefEqProofs only [eVar_ap, dVar_ap, eC_ap, dOf_ap, eFrz_ap, eBin_ap, bTest_ap, bTru_ap, bAnd_ap, bOr_ap, bNot_ap, eIf_ap, eB_ap, eAnd_ap, eOr_ap, aNil_ap, aCons_ap, sNil_ap, sCons_ap, eTup_ap, eLst_ap, eCall_ap, eApp_ap, oNone_ap, oSome_ap, eSl_ap, sNil'_ap, sSeq_ap, sBrk_ap, sRet_ap, sRetN_ap, sRetO_ap, sDrop_ap, sIf_ap, sSet_ap, sApp_ap, sTown_ap, sExt_ap, sIns_ap, sSetIx_ap, sAsg_ap, sPar_ap, iOf_ap, iVal_ap, iRng1_ap, iRng2_ap, sFor_ap, eComp_ap, bYes_ap, frzAt_ap, eUn_ap, eNotD_ap, eOrD_ap, eChain_ap, eListRg1_ap, eIsa_ap, eMt_ap, iEnumV_ap, iEnumF_ap, iZipV_ap, iZipF_ap, eTLen_ap, iRng3D_ap, sEnd_ap, eSs_ap, sPar3_ap, xPop_ap, xTup1_ap, xCat_ap, sSetX_ap, sAppX_ap, sParO_ap, sForEI_ap, sForK_ap, runB_ap, gOne_ap, gMany_ap, dI_ap, yesC_ap, dCmp_int, setD, kill_nx, kill_rt, kill_bk, Option.bind_some, Option.map_some, Option.bind_none, Option.map_none, List.getElem?_cons_zero, List.getElem?_cons_succ, List.set_cons_zero, List.set_cons_succ, List.cons_append, List.nil_append, List.append_nil, List.replicate, List.length_cons, List.length_nil, Nat.reduceAdd, Nat.reduceSub, Nat.zero_add, wdat_no, wdat_d, wdat_town, wdat_ol, wdat_od, wfrz_no, wfrz_d, wfrz_town, wfrz_ol, wfrz_od, wval_no, wval_d, wval_town, wval_ol, wval_od, warg_no, warg_d, warg_town, warg_ol, warg_od, vals, gLen, gAbs, gMax2, gMin2, gInt, gTup, gList, wipeW, if_true, if_false, Bool.false_eq_true, Bool.not_true, Bool.not_false, reduceCtorEq, iSeq, e]
  rfl
/-! crossings -/
def crossT (r : Rw) : List Th → Nat
  | [] => 0
  | t :: ts => (ts.filter fun u => wrd r t u == 1).length + crossT r ts
theorem crossT_le (r : Rw) : ∀ ts : List Th, crossT r ts ≤ ts.length * ts.length
  | [] => Nat.le_refl _
  | t :: ts => by
    have h1 := crossT_le r ts
    have h2 := List.length_filter_le (fun u => wrd r t u == 1) ts
    unfold crossT
    simp only [List.length_cons, Nat.add_mul, Nat.mul_add]
    omega
theorem enum_cons_drop (ts : List Th) (i : Nat) (hi : i < ts.length) : cutD (ts.map Th.d) (some ((i : Int) + 1)) none = (ts.drop (i + 1)).map Th.d := by
  have := cutD_drop (ts.map Th.d) (i + 1) (by simp; omega)
  rw [List.map_drop, ← this]
  rfl
theorem cross_loop (r : Rw) (hr : Rw.ok r) (hrl : r.length ≤ 1000000) (ts : List Th) (hts : ts.length ≤ 1000) (n : Nat) : ∀ (es : List Th) (k : Nat) (c : Nat) (w3 w4 w5 : W), es = ts.drop k → ∃ w3' w4' w5',
    loopF (gMany [3, 4]) l_crossings_1 ((es.mapIdx fun i t => (k + i, t)).map fun p => .tuple [.int (p.1 : Int), p.2.d]) [.d (rowD r), .d (tsD ts), I' c, w3, w4, w5] n = some (.nx [.d (rowD r), .d (tsD ts), I' (c + crossT r es : Nat), w3', w4', w5'] n)
  | [], k, c, w3, w4, w5, _ => ⟨w3, w4, w5, rfl⟩
  | t :: es, k, c, w3, w4, w5, hE => by
    have hk : k < ts.length := by
      have := congrArg List.length hE
      simp at this; omega
    have hd : es = ts.drop (k + 1) := by
      have := congrArg List.tail hE
      simpa [List.tail_drop] using this
    obtain ⟨v3, v4, v5, e⟩ := cross_loop r hr hrl ts hts n es (k + 1) (c + (es.filter fun u => wrd r t u == 1).length) (I' k) (.d t.d) w5 hd
    refine ⟨v3, v4, v5, ?_⟩
    have hm : ((t :: es).mapIdx fun i t => (k + i, t)) = (k, t) :: (es.mapIdx fun i t => (k + 1 + i, t)) := by
      rw [List.mapIdx_cons]
      congr 1
      apply List.ext_getElem?
      intro i
      simp only [List.getElem?_mapIdx]
      cases es[i]? with
      | none => rfl
      | some x => show some (k + (i + 1), x) = some (k + 1 + i, x); rw [show k + (i + 1) = k + 1 + i by omega]
    have hl : es.length ≤ 1000 := by rw [hd]; simp; omega
    have hc := comp_filA (g := gOne 5) (own := [5]) (tst := bTest (eBin dEq (dOf (eCall m_told (aCons (eVar 0) (aCons (eVar 4) (aCons (eVar 5) aNil))))) (dOf (eC (.int 1))))) (elt := eVar 5) (ρ := [.d (rowD r), .d (tsD ts), I' c, I' k, .d t.d, w5]) (n := n)
      Th.d Th.d (fun u => wrd r t u == 1) es fun u _ => ⟨_, rfl, by simp -implicitDefEqProofs only [eVar_ap, dVar_ap, eC_ap, dOf_ap, eFrz_ap, eBin_ap, bTest_ap, bTru_ap, bAnd_ap, bOr_ap, bNot_ap, eIf_ap, eB_ap, eAnd_ap, eOr_ap, aNil_ap, aCons_ap, sNil_ap, sCons_ap, eTup_ap, eLst_ap, eCall_ap, eApp_ap, oNone_ap, oSome_ap, eSl_ap, sNil'_ap, sSeq_ap, sBrk_ap, sRet_ap, sRetN_ap, sRetO_ap, sDrop_ap, sIf_ap, sSet_ap, sApp_ap, sTown_ap, sExt_ap, sIns_ap, sSetIx_ap, sAsg_ap, sPar_ap, iOf_ap, iVal_ap, iRng1_ap, iRng2_ap, sFor_ap, eComp_ap, bYes_ap, frzAt_ap, eUn_ap, eNotD_ap, eOrD_ap, eChain_ap, eListRg1_ap, eIsa_ap, eMt_ap, iEnumV_ap, iEnumF_ap, iZipV_ap, iZipF_ap, eTLen_ap, iRng3D_ap, sEnd_ap, eSs_ap, sPar3_ap, xPop_ap, xTup1_ap, xCat_ap, sSetX_ap, sAppX_ap, sParO_ap, sForEI_ap, sForK_ap, runB_ap, gOne_ap, gMany_ap, dI_ap, yesC_ap, dCmp_int, setD, kill_nx, kill_rt, kill_bk, Option.bind_some, Option.map_some, Option.bind_none, Option.map_none, List.getElem?_cons_zero, List.getElem?_cons_succ, List.set_cons_zero, List.set_cons_succ, List.cons_append, List.nil_append, List.append_nil, List.replicate, List.length_cons, List.length_nil, Nat.reduceAdd, Nat.reduceSub, Nat.zero_add, wdat_no, wdat_d, wdat_town, wdat_ol, wdat_od, wfrz_no, wfrz_d, wfrz_town, wfrz_ol, wfrz_od, wval_no, wval_d, wval_town, wval_ol, wval_od, warg_no, warg_d, warg_town, warg_ol, warg_od, vals, gLen, gAbs, gMax2, gMin2, gInt, gTup, gList, wipeW, if_true, if_false, Bool.false_eq_true, Bool.not_true, Bool.not_false, reduceCtorEq, told_ok' r hr hrl t u n, dEq_int], fun _ => rfl⟩
    have hcut := enum_cons_drop ts k hk
    rw [← hd] at hcut
    have hb : es.length ≤ big := le_big (by omega)
    rw [hm, List.map_cons, loopF_cons]
    have hx : ((c + (es.filter fun u => wrd r t u == 1).length : Nat) : Int) = (c : Int) + ((es.filter fun u => wrd r t u == 1).length : Nat) := by omega
    rw [hx] at e
    have hy : c + (es.filter fun u => wrd r t u == 1).length + crossT r es = c + crossT r (t :: es) := by simp only [crossT]; omega
    rw [hy] at e
    unfold l_crossings_1 at e ⊢
    simp -implicitDefEqProofs only [eVar_ap, dVar_ap, eC_ap, dOf_ap, eFrz_ap, eBin_ap, bTest_ap, bTru_ap, bAnd_ap, bOr_ap, bNot_ap, eIf_ap, eB_ap, eAnd_ap, eOr_ap, aNil_ap, aCons_ap, sNil_ap, sCons_ap, eTup_ap, eLst_ap, eCall_ap, eApp_ap, oNone_ap, oSome_ap, eSl_ap, sNil'_ap, sSeq_ap, sBrk_ap, sRet_ap, sRetN_ap, sRetO_ap, sDrop_ap, sIf_ap, sSet_ap, sApp_ap, sTown_ap, sExt_ap, sIns_ap, sSetIx_ap, sAsg_ap, sPar_ap, iOf_ap, iVal_ap, iRng1_ap, iRng2_ap, sFor_ap, eComp_ap, bYes_ap, frzAt_ap, eUn_ap, eNotD_ap, eOrD_ap, eChain_ap, eListRg1_ap, eIsa_ap, eMt_ap, iEnumV_ap, iEnumF_ap, iZipV_ap, iZipF_ap, eTLen_ap, iRng3D_ap, sEnd_ap, eSs_ap, sPar3_ap, xPop_ap, xTup1_ap, xCat_ap, sSetX_ap, sAppX_ap, sParO_ap, sForEI_ap, sForK_ap, runB_ap, gOne_ap, gMany_ap, dI_ap, yesC_ap, dCmp_int, setD, kill_nx, kill_rt, kill_bk, Option.bind_some, Option.map_some, Option.bind_none, Option.map_none, List.getElem?_cons_zero, List.getElem?_cons_succ, List.set_cons_zero, List.set_cons_succ, List.cons_append, List.nil_append, List.append_nil, List.replicate, List.length_cons, List.length_nil, Nat.reduceAdd, Nat.reduceSub, Nat.zero_add, wdat_no, wdat_d, wdat_town, wdat_ol, wdat_od, wfrz_no, wfrz_d, wfrz_town, wfrz_ol, wfrz_od, wval_no, wval_d, wval_town, wval_ol, wval_od, warg_no, warg_d, warg_town, warg_ol, warg_od, vals, gLen, gAbs, gMax2, gMin2, gInt, gTup, gList, wipeW, if_true, if_false, Bool.false_eq_true, Bool.not_true, Bool.not_false, reduceCtorEq, dAdd_int, dSl, hcut, iSeq, hb, hc, List.length_map, e]
theorem crossings_ok (r : Rw) (hr : Rw.ok r) (hrl : r.length ≤ 1000000) (ts : List Th) (hts : ts.length ≤ 1000) (n : Nat) : m_crossings [.d (rowD r), .d (tsD ts)] n = some (I' (crossT r ts : Nat), n) := by
  obtain ⟨v3, v4, v5, e⟩ := cross_loop r hr hrl ts hts n ts 0 0 .no .no .no rfl
  have hm : (ts.mapIdx fun i t => (0 + i, t)) = enumT ts := by unfold enumT; congr 1; funext i t; rw [Nat.zero_add]
  rw [hm, Nat.zero_add] at e
  have e : loopF (gMany [3, 4]) l_crossings_1 ((enumT ts).map fun p => .tuple [.int (p.1 : Int), p.2.d]) [.d (rowD r), .d (tsD ts), .d (.int 0), .no, .no, .no] n = _ := e
  unfold m_crossings b_crossings
  simp -implicitDefEqProofs only [eVar_ap, dVar_ap, eC_ap, dOf_ap, eFrz_ap, eBin_ap, bTest_ap, bTru_ap, bAnd_ap, bOr_ap, bNot_ap, eIf_ap, eB_ap, eAnd_ap, eOr_ap, aNil_ap, aCons_ap, sNil_ap, sCons_ap, eTup_ap, eLst_ap, eCall_ap, eApp_ap, oNone_ap, oSome_ap, eSl_ap, sNil'_ap, sSeq_ap, sBrk_ap, sRet_ap, sRetN_ap, sRetO_ap, sDrop_ap, sIf_ap, sSet_ap, sApp_ap, sTown_ap, sExt_ap, sIns_ap, sSetIx_ap, sAsg_ap, sPar_ap, iOf_ap, iVal_ap, iRng1_ap, iRng2_ap, sFor_ap, eComp_ap, bYes_ap, frzAt_ap, eUn_ap, eNotD_ap, eOrD_ap, eChain_ap, eListRg1_ap, eIsa_ap, eMt_ap, iEnumV_ap, iEnumF_ap, iZipV_ap, iZipF_ap, eTLen_ap, iRng3D_ap, sEnd_ap, eSs_ap, sPar3_ap, xPop_ap, xTup1_ap, xCat_ap, sSetX_ap, sAppX_ap, sParO_ap, sForEI_ap, sForK_ap, runB_ap, gOne_ap, gMany_ap, dI_ap, yesC_ap, dCmp_int, setD, kill_nx, kill_rt, kill_bk, Option.bind_some, Option.map_some, Option.bind_none, Option.map_none, List.getElem?_cons_zero, List.getElem?_cons_succ, List.set_cons_zero, List.set_cons_succ, List.cons_append, List.nil_append, List.append_nil, List.replicate, List.length_cons, List.length_nil, Nat.reduceAdd, Nat.reduceSub, Nat.zero_add, wdat_no, wdat_d, wdat_town, wdat_ol, wdat_od, wfrz_no, wfrz_d, wfrz_town, wfrz_ol, wfrz_od, wval_no, wval_d, wval_town, wval_ol, wval_od, warg_no, warg_d, warg_town, warg_ol, warg_od, vals, gLen, gAbs, gMax2, gMin2, gInt, gTup, gList, wipeW, if_true, if_false, Bool.false_eq_true, Bool.not_true, Bool.not_false, reduceCtorEq, seqOf, enumD_ts, e]
end L2.Lv.Sh
namespace L2.Lv.Sh
open PySem PySem.Spec PyProof.Rows L2 L2.Lv
/-! in order -/
theorem sIx_m1 (k d : Nat) : HT.sIx k d (some (-1)) = k - 1 := by
  unfold HT.sIx
  simp
  try omega
theorem cutD_init (xs : List PyData) : cutD xs none (some (-1)) = xs.dropLast := by
  unfold cutD
  rw [HT.sIx_none, sIx_m1]
  simp [List.dropLast_eq_take]
theorem cutD_tail (xs : List PyData) : cutD xs (some 1) none = xs.tail := by
  cases xs with
  | nil => rfl
  | cons x xs =>
    have := cutD_drop (x :: xs) 1 (by simp)
    simpa using this
def prs : List Th → List (Th × Th)
  | t :: u :: ts => (t, u) :: prs (u :: ts)
  | _ => []
theorem zip_prs : ∀ ts : List Th, zipD (ts.map Th.d).dropLast (ts.map Th.d).tail = (prs ts).map fun p => .tuple [p.1.d, p.2.d]
  | [] => rfl
  | [_] => rfl
  | t :: u :: ts => by
    have ih := zip_prs (u :: ts)
    show PyData.tuple [t.d, u.d] :: zipD ((u :: ts).map Th.d).dropLast ((u :: ts).map Th.d).tail = _
    rw [ih]; rfl
theorem prs_len : ∀ ts : List Th, (prs ts).length ≤ ts.length
  | [] => Nat.le_refl _
  | [_] => Nat.zero_le _
  | t :: u :: ts => by
    have := prs_len (u :: ts)
    simp [prs] at this ⊢; omega
def ordB (r : Rw) (ts : List Th) : Bool := (prs ts).all fun p => decide (wrd r p.1 p.2 < 1)
theorem boolsOf_map {α : Type} (f : α → Bool) : ∀ l : List α, boolsOf (l.map fun x => .bool (f x)) = some (l.map f)
  | [] => rfl
  | x :: l => by
    show (boolsOf (l.map fun x => PyData.bool (f x))).map _ = _
    rw [boolsOf_map f l]; rfl
theorem gAll_map {α : Type} (f : α → Bool) (l : List α) : gAll [.list (l.map fun x => .bool (f x))] = some (.d (.bool (l.all f))) := by
  simp only [gAll, boolsOf_map, Option.map_some]
  congr 3
  rw [List.all_map]; rfl
theorem is_ordered_ok (r : Rw) (hr : Rw.ok r) (hrl : r.length ≤ 1000000) (ts : List Th) (hts : ts.length ≤ 1000000) (n : Nat) : m_is_ordered [.d (rowD r), .d (tsD ts)] n = some (.d (.bool (ordB r ts)), n) := by
  have e1 := comp_mapA (g := gMany [2, 3]) (own := [2, 3]) (elt := eBin (dCmp rLt zLt) (dOf (eCall m_told (aCons (eVar 0) (aCons (eVar 2) (aCons (eVar 3) aNil))))) (dOf (eC (.int 1)))) (ρ := [.d (rowD r), .d (tsD ts), .no, .no]) (n := n)
    (fun p : Th × Th => .tuple [p.1.d, p.2.d]) (fun p => .bool (decide (wrd r p.1 p.2 < 1))) (prs ts) fun p _ => ⟨_, rfl, by simp -implicitDefEqProofs only [eVar_ap, dVar_ap, eC_ap, dOf_ap, eFrz_ap, eBin_ap, bTest_ap, bTru_ap, bAnd_ap, bOr_ap, bNot_ap, eIf_ap, eB_ap, eAnd_ap, eOr_ap, aNil_ap, aCons_ap, sNil_ap, sCons_ap, eTup_ap, eLst_ap, eCall_ap, eApp_ap, oNone_ap, oSome_ap, eSl_ap, sNil'_ap, sSeq_ap, sBrk_ap, sRet_ap, sRetN_ap, sRetO_ap, sDrop_ap, sIf_ap, sSet_ap, sApp_ap, sTown_ap, sExt_ap, sIns_ap, sSetIx_ap, sAsg_ap, sPar_ap, iOf_ap, iVal_ap, iRng1_ap, iRng2_ap, sFor_ap, eComp_ap, bYes_ap, frzAt_ap, eUn_ap, eNotD_ap, eOrD_ap, eChain_ap, eListRg1_ap, eIsa_ap, eMt_ap, iEnumV_ap, iEnumF_ap, iZipV_ap, iZipF_ap, eTLen_ap, iRng3D_ap, sEnd_ap, eSs_ap, sPar3_ap, xPop_ap, xTup1_ap, xCat_ap, sSetX_ap, sAppX_ap, sParO_ap, sForEI_ap, sForK_ap, runB_ap, gOne_ap, gMany_ap, dI_ap, yesC_ap, dCmp_int, setD, kill_nx, kill_rt, kill_bk, Option.bind_some, Option.map_some, Option.bind_none, Option.map_none, List.getElem?_cons_zero, List.getElem?_cons_succ, List.set_cons_zero, List.set_cons_succ, List.cons_append, List.nil_append, List.append_nil, List.replicate, List.length_cons, List.length_nil, Nat.reduceAdd, Nat.reduceSub, Nat.zero_add, wdat_no, wdat_d, wdat_town, wdat_ol, wdat_od, wfrz_no, wfrz_d, wfrz_town, wfrz_ol, wfrz_od, wval_no, wval_d, wval_town, wval_ol, wval_od, warg_no, warg_d, warg_town, warg_ol, warg_od, vals, gLen, gAbs, gMax2, gMin2, gInt, gTup, gList, wipeW, if_true, if_false, Bool.false_eq_true, Bool.not_true, Bool.not_false, reduceCtorEq, told_ok' r hr hrl p.1 p.2 n]; rfl⟩
  have hb : ((prs ts).map fun p : Th × Th => PyData.tuple [p.1.d, p.2.d]).length ≤ big := by rw [List.length_map]; exact le_big (Nat.le_trans (prs_len ts) hts)
  have hn : ∀ i : Int, oSome (dOf (eUn dNeg (dOf (eC (.int 1))))) [.d (rowD r), .d (tsD ts), .no, .no] n = some (some (-1), n) := fun _ => rfl
  unfold m_is_ordered b_is_ordered
  simp -implicitDefEqProofs only [eVar_ap, dVar_ap, eC_ap, dOf_ap, eFrz_ap, eBin_ap, bTest_ap, bTru_ap, bAnd_ap, bOr_ap, bNot_ap, eIf_ap, eB_ap, eAnd_ap, eOr_ap, aNil_ap, aCons_ap, sNil_ap, sCons_ap, eTup_ap, eLst_ap, eCall_ap, eApp_ap, oNone_ap, oSome_ap, eSl_ap, sNil'_ap, sSeq_ap, sBrk_ap, sRet_ap, sRetN_ap, sRetO_ap, sDrop_ap, sIf_ap, sSet_ap, sApp_ap, sTown_ap, sExt_ap, sIns_ap, sSetIx_ap, sAsg_ap, sPar_ap, iOf_ap, iVal_ap, iRng1_ap, iRng2_ap, sFor_ap, eComp_ap, bYes_ap, frzAt_ap, eUn_ap, eNotD_ap, eOrD_ap, eChain_ap, eListRg1_ap, eIsa_ap, eMt_ap, iEnumV_ap, iEnumF_ap, iZipV_ap, iZipF_ap, eTLen_ap, iRng3D_ap, sEnd_ap, eSs_ap, sPar3_ap, xPop_ap, xTup1_ap, xCat_ap, sSetX_ap, sAppX_ap, sParO_ap, sForEI_ap, sForK_ap, runB_ap, gOne_ap, gMany_ap, dI_ap, yesC_ap, dCmp_int, setD, kill_nx, kill_rt, kill_bk, Option.bind_some, Option.map_some, Option.bind_none, Option.map_none, List.getElem?_cons_zero, List.getElem?_cons_succ, List.set_cons_zero, List.set_cons_succ, List.cons_append, List.nil_append, List.append_nil, List.replicate, List.length_cons, List.length_nil, Nat.reduceAdd, Nat.reduceSub, Nat.zero_add, wdat_no, wdat_d, wdat_town, wdat_ol, wdat_od, wfrz_no, wfrz_d, wfrz_town, wfrz_ol, wfrz_od, wval_no, wval_d, wval_town, wval_ol, wval_od, warg_no, warg_d, warg_town, warg_ol, warg_od, vals, gLen, gAbs, gMax2, gMin2, gInt, gTup, gList, wipeW, if_true, if_false, Bool.false_eq_true, Bool.not_true, Bool.not_false, reduceCtorEq, dNeg, dSl, cutD_init, cutD_tail, zipOk, zip_prs, hb, e1, gAll_map]
  rfl
theorem ordB_iff (r : Rw) : ∀ ts : List Th, ordB r ts = true ↔ ts.Pairwise fun s t => wrd r s t < 1
  | [] => by simp [ordB, prs]
  | [_] => by simp [ordB, prs]
  | t :: u :: ts => by
    have ih := ordB_iff r (u :: ts)
    have h : ordB r (t :: u :: ts) = (decide (wrd r t u < 1) && ordB r (u :: ts)) := rfl
    rw [h, Bool.and_eq_true, ih, decide_eq_true_eq, List.pairwise_cons (a := t)]
    constructor
    · rintro ⟨h1, h2⟩
      refine ⟨fun z hz => ?_, h2⟩
      rcases List.mem_cons.mp hz with rfl | hz
      · exact h1
      · exact wrd_trans r t u z h1 ((List.pairwise_cons.mp h2).1 z hz)
    · rintro ⟨h1, h2⟩
      exact ⟨h1 u (List.mem_cons_self ..), h2⟩
theorem cross_zero (r : Rw) : ∀ ts : List Th, crossT r ts = 0 ↔ ts.Pairwise fun s t => wrd r s t < 1
  | [] => by simp [crossT]
  | t :: ts => by
    have ih := cross_zero r ts
    rw [List.pairwise_cons, ← ih]
    show ((ts.filter fun u => wrd r t u == 1).length + crossT r ts = 0) ↔ _
    rw [Nat.add_eq_zero_iff, List.length_eq_zero_iff, List.filter_eq_nil_iff]
    have key : (∀ z ∈ ts, ¬ (wrd r t z == 1) = true) ↔ ∀ z ∈ ts, wrd r t z < 1 := by
      constructor
      · intro h z hz
        have := h z hz
        rcases wrd_cases r t z with e | e | e <;> rw [e] at this ⊢ <;> simp at this ⊢
      · intro h z hz
        have := h z hz
        rcases wrd_cases r t z with e | e | e <;> rw [e] at this ⊢ <;> simp at this ⊢
    rw [key]
theorem ordB_cross (r : Rw) (ts : List Th) : ordB r ts = (crossT r ts == 0) := by
  rw [Bool.eq_iff_iff, ordB_iff, beq_iff_eq, cross_zero]
theorem ordT_pw (r : Rw) (ts : List Th) : (ordT r ts).Pairwise fun s t => wrd r s t < 1 := by
  unfold ordT
  rw [List.pairwise_map]
  exact (sE_pw r ts).imp fun h => by unfold rle at h; omega
theorem ordT_of_pw {r : Rw} {ts : List Th} (h : ts.Pairwise fun s t => wrd r s t < 1) : sE r ts = enumT ts := by
  refine (sE_uniq (List.Perm.refl _) ?_).symm
  rw [List.pairwise_iff_getElem] at h ⊢
  intro i j hi hj hij
  have h1 := h i j (by simpa [enumT] using hi) (by simpa [enumT] using hj) hij
  simp only [enumT, List.getElem_mapIdx]
  unfold rle
  simp only
  omega
theorem enumT_snd (ts : List Th) : (enumT ts).map (·.2) = ts := by
  apply List.ext_getElem?
  intro i
  simp only [enumT, List.getElem?_map, List.getElem?_mapIdx]
  cases ts[i]? <;> rfl
theorem ordT_idem (r : Rw) (ts : List Th) : ordT r (ordT r ts) = ordT r ts := by
  have := ordT_of_pw (ordT_pw r ts)
  show (sE r (ordT r ts)).map (·.2) = _
  rw [this, enumT_snd]
theorem ordT_mem {r : Rw} {ts : List Th} {t : Th} (h : t ∈ ordT r ts) : t ∈ ts := by
  unfold ordT at h
  obtain ⟨p, hp, rfl⟩ := List.mem_map.mp h
  exact List.mem_of_getElem? (enumT_get ((sE_perm r ts).mem_iff.mp hp))
theorem runs_nc (r : Rw) (ts : List Th) (h : ts.length ≤ 1000) : nc 4 (tssD (runsT r ts)) = true := by
  have key : ∀ (ts : List Th) (acc : List (List Th)), rInv acc ts.length → rInv (ts.foldl (rStep r) acc) 0 := by
    intro ts
    induction ts with
    | nil => intro acc h; exact h
    | cons t ts ih => intro acc h; exact ih _ (rInv.step h)
  obtain ⟨h1, h2⟩ := key ts [] (rInv0 h)
  exact nc_tup (by simp; unfold runsT; omega) fun x hx => by
    obtain ⟨l, hl, rfl⟩ := List.mem_map.mp hx
    exact nc_ts (by have := (h2 l hl).2; omega)
end L2.Lv.Sh
namespace L2.Lv.Sh
open PySem PySem.Spec PyProof.Rows L2 L2.Lv
/-! places in a list in order -/
theorem cut_at {α : Type} {R : α → α → Prop} (p : α → Bool) : ∀ (l : List α), (∀ a b, R a b → p b = true → p a = true) → l.Pairwise R → (l.filter p).length ≤ l.length ∧ ∀ i x, l[i]? = some x → (p x = true ↔ i < (l.filter p).length)
  | [], _, _ => ⟨Nat.le_refl _, by simp⟩
  | a :: l, h, hp => by
    obtain ⟨h1, h2⟩ := List.pairwise_cons.mp hp
    obtain ⟨k1, k2⟩ := cut_at p l h h2
    refine ⟨List.length_filter_le _ _, fun i x hx => ?_⟩
    cases hq : p a with
    | true =>
      rw [List.filter_cons, if_pos hq, List.length_cons]
      cases i with
      | zero => simp at hx; subst hx; simp [hq]
      | succ i => simp at hx; rw [k2 i x hx]; omega
    | false =>
      have hn : ∀ z ∈ l, p z = false := fun z hz => by
        cases hz2 : p z with
        | false => rfl
        | true => rw [h a z (h1 z hz) hz2] at hq; cases hq
      have hf : l.filter p = [] := List.filter_eq_nil_iff.mpr fun z hz => by simp [hn z hz]
      rw [List.filter_cons, if_neg (by simp [hq]), hf]
      cases i with
      | zero => simp at hx; subst hx; simp [hq]
      | succ i => simp at hx; simp [hn x (List.mem_of_getElem? hx)]
theorem ixTsN (ts : List Th) (i : Nat) (h : i < ts.length) : dIx (tsD ts) (.int (i : Int)) = some (.d (ts[i]).d) := by
  rw [ixT _ _ (by omega) (by simpa using h)]
  simp
theorem wrd_lt0 {r : Rw} {a b t : Th} (h1 : wrd r a b < 1) (h2 : wrd r b t < 0) : wrd r a t < 0 := by
  have q := wrd_trans r t a b
  have a1 := wrd_anti r a t
  have a2 := wrd_anti r b t
  by_cases h : wrd r a t < 0
  · exact h
  · have := q (by omega) h1; omega
theorem first_place_loop (r : Rw) (hr : Rw.ok r) (hrl : r.length ≤ 1000000) (ts : List Th) (t : Th) (k : Nat) (hk : ∀ i x, ts[i]? = some x → (wrd r x t < 0 ↔ i < k)) (n : Nat) : ∀ (f lo hi : Nat) (w5 : W), lo ≤ k → k ≤ hi → hi ≤ ts.length → hi - lo < f → ∃ w5',
    loopW (bTest (eBin (dCmp rLt zLt) (dVar 3) (dVar 4))) l_first_place_1 f [.d (rowD r), .d (tsD ts), .d t.d, I' lo, I' hi, w5] n = some (.nx [.d (rowD r), .d (tsD ts), .d t.d, I' k, I' k, w5'] n)
  | 0, _, _, _, _, _, _, h => absurd h (Nat.not_lt_zero _)
  | f + 1, lo, hi, w5, h1, h2, h3, h4 => by
    rw [loopW_succ]
    by_cases c : lo < hi
    · have hc : rLt (lo : Int) (hi : Int) = true := rLt_t (by omega)
      have hd : ∀ i : Int, divC i 2 = true := fun i => divC_ok (by decide) (by decide)
      have hm : ((lo : Int) + (hi : Int)) / 2 = (((lo + hi) / 2 : Nat) : Int) := by omega
      have hl : (lo + hi) / 2 < ts.length := by omega
      have hx : dIx (tsD ts) (.int (((lo + hi) / 2 : Nat) : Int)) = some (.d (ts[(lo + hi) / 2]).d) := ixTsN ts _ hl
      have ht := told_ok' r hr hrl (ts[(lo + hi) / 2]) t n
      have hq := hk _ _ (List.getElem?_eq_getElem hl)
      by_cases d : wrd r (ts[(lo + hi) / 2]) t < 0
      · obtain ⟨w5', e⟩ := first_place_loop r hr hrl ts t k hk n f ((lo + hi) / 2 + 1) hi (I' ((lo + hi) / 2 : Nat)) (by have := hq.mp d; omega) h2 h3 (by omega)
        refine ⟨w5', ?_⟩
        have hz : (((lo + hi) / 2 + 1 : Nat) : Int) = (((lo + hi) / 2 : Nat) : Int) + 1 := by omega
        rw [hz] at e
        unfold l_first_place_1 at e ⊢
        simp -implicitDefEqProofs only [eVar_ap, dVar_ap, eC_ap, dOf_ap, eFrz_ap, eBin_ap, bTest_ap, bTru_ap, bAnd_ap, bOr_ap, bNot_ap, eIf_ap, eB_ap, eAnd_ap, eOr_ap, aNil_ap, aCons_ap, sNil_ap, sCons_ap, eTup_ap, eLst_ap, eCall_ap, eApp_ap, oNone_ap, oSome_ap, eSl_ap, sNil'_ap, sSeq_ap, sBrk_ap, sRet_ap, sRetN_ap, sRetO_ap, sDrop_ap, sIf_ap, sSet_ap, sApp_ap, sTown_ap, sExt_ap, sIns_ap, sSetIx_ap, sAsg_ap, sPar_ap, iOf_ap, iVal_ap, iRng1_ap, iRng2_ap, sFor_ap, eComp_ap, bYes_ap, frzAt_ap, eUn_ap, eNotD_ap, eOrD_ap, eChain_ap, eListRg1_ap, eIsa_ap, eMt_ap, iEnumV_ap, iEnumF_ap, iZipV_ap, iZipF_ap, eTLen_ap, iRng3D_ap, sEnd_ap, eSs_ap, sPar3_ap, xPop_ap, xTup1_ap, xCat_ap, sSetX_ap, sAppX_ap, sParO_ap, sForEI_ap, sForK_ap, runB_ap, gOne_ap, gMany_ap, dI_ap, yesC_ap, dCmp_int, setD, kill_nx, kill_rt, kill_bk, Option.bind_some, Option.map_some, Option.bind_none, Option.map_none, List.getElem?_cons_zero, List.getElem?_cons_succ, List.set_cons_zero, List.set_cons_succ, List.cons_append, List.nil_append, List.append_nil, List.replicate, List.length_cons, List.length_nil, Nat.reduceAdd, Nat.reduceSub, Nat.zero_add, wdat_no, wdat_d, wdat_town, wdat_ol, wdat_od, wfrz_no, wfrz_d, wfrz_town, wfrz_ol, wfrz_od, wval_no, wval_d, wval_town, wval_ol, wval_od, warg_no, warg_d, warg_town, warg_ol, warg_od, vals, gLen, gAbs, gMax2, gMin2, gInt, gTup, gList, wipeW, if_true, if_false, Bool.false_eq_true, Bool.not_true, Bool.not_false, reduceCtorEq, hc, dDiv, dAdd_int, hd, hm, hx, ht, rLt_t d, e]
      · obtain ⟨w5', e⟩ := first_place_loop r hr hrl ts t k hk n f lo ((lo + hi) / 2) (I' ((lo + hi) / 2 : Nat)) h1 (by have := mt hq.mpr d; omega) (by omega) (by omega)
        refine ⟨w5', ?_⟩
        unfold l_first_place_1 at e ⊢
        simp -implicitDefEqProofs only [eVar_ap, dVar_ap, eC_ap, dOf_ap, eFrz_ap, eBin_ap, bTest_ap, bTru_ap, bAnd_ap, bOr_ap, bNot_ap, eIf_ap, eB_ap, eAnd_ap, eOr_ap, aNil_ap, aCons_ap, sNil_ap, sCons_ap, eTup_ap, eLst_ap, eCall_ap, eApp_ap, oNone_ap, oSome_ap, eSl_ap, sNil'_ap, sSeq_ap, sBrk_ap, sRet_ap, sRetN_ap, sRetO_ap, sDrop_ap, sIf_ap, sSet_ap, sApp_ap, sTown_ap, sExt_ap, sIns_ap, sSetIx_ap, sAsg_ap, sPar_ap, iOf_ap, iVal_ap, iRng1_ap, iRng2_ap, sFor_ap, eComp_ap, bYes_ap, frzAt_ap, eUn_ap, eNotD_ap, eOrD_ap, eChain_ap, eListRg1_ap, eIsa_ap, eMt_ap, iEnumV_ap, iEnumF_ap, iZipV_ap, iZipF_ap, eTLen_ap, iRng3D_ap, sEnd_ap, eSs_ap, sPar3_ap, xPop_ap, xTup1_ap, xCat_ap, sSetX_ap, sAppX_ap, sParO_ap, sForEI_ap, sForK_ap, runB_ap, gOne_ap, gMany_ap, dI_ap, yesC_ap, dCmp_int, setD, kill_nx, kill_rt, kill_bk, Option.bind_some, Option.map_some, Option.bind_none, Option.map_none, List.getElem?_cons_zero, List.getElem?_cons_succ, List.set_cons_zero, List.set_cons_succ, List.cons_append, List.nil_append, List.append_nil, List.replicate, List.length_cons, List.length_nil, Nat.reduceAdd, Nat.reduceSub, Nat.zero_add, wdat_no, wdat_d, wdat_town, wdat_ol, wdat_od, wfrz_no, wfrz_d, wfrz_town, wfrz_ol, wfrz_od, wval_no, wval_d, wval_town, wval_ol, wval_od, warg_no, warg_d, warg_town, warg_ol, warg_od, vals, gLen, gAbs, gMax2, gMin2, gInt, gTup, gList, wipeW, if_true, if_false, Bool.false_eq_true, Bool.not_true, Bool.not_false, reduceCtorEq, hc, dDiv, dAdd_int, hd, hm, hx, ht, rLt_f d, e]
    · have hc : rLt (lo : Int) (hi : Int) = false := rLt_f (by omega)
      obtain rfl : lo = k := by omega
      obtain rfl : hi = lo := by omega
      exact ⟨w5, by simp -implicitDefEqProofs only [eVar_ap, dVar_ap, eC_ap, dOf_ap, eFrz_ap, eBin_ap, bTest_ap, bTru_ap, bAnd_ap, bOr_ap, bNot_ap, eIf_ap, eB_ap, eAnd_ap, eOr_ap, aNil_ap, aCons_ap, sNil_ap, sCons_ap, eTup_ap, eLst_ap, eCall_ap, eApp_ap, oNone_ap, oSome_ap, eSl_ap, sNil'_ap, sSeq_ap, sBrk_ap, sRet_ap, sRetN_ap, sRetO_ap, sDrop_ap, sIf_ap, sSet_ap, sApp_ap, sTown_ap, sExt_ap, sIns_ap, sSetIx_ap, sAsg_ap, sPar_ap, iOf_ap, iVal_ap, iRng1_ap, iRng2_ap, sFor_ap, eComp_ap, bYes_ap, frzAt_ap, eUn_ap, eNotD_ap, eOrD_ap, eChain_ap, eListRg1_ap, eIsa_ap, eMt_ap, iEnumV_ap, iEnumF_ap, iZipV_ap, iZipF_ap, eTLen_ap, iRng3D_ap, sEnd_ap, eSs_ap, sPar3_ap, xPop_ap, xTup1_ap, xCat_ap, sSetX_ap, sAppX_ap, sParO_ap, sForEI_ap, sForK_ap, runB_ap, gOne_ap, gMany_ap, dI_ap, yesC_ap, dCmp_int, setD, kill_nx, kill_rt, kill_bk, Option.bind_some, Option.map_some, Option.bind_none, Option.map_none, List.getElem?_cons_zero, List.getElem?_cons_succ, List.set_cons_zero, List.set_cons_succ, List.cons_append, List.nil_append, List.append_nil, List.replicate, List.length_cons, List.length_nil, Nat.reduceAdd, Nat.reduceSub, Nat.zero_add, wdat_no, wdat_d, wdat_town, wdat_ol, wdat_od, wfrz_no, wfrz_d, wfrz_town, wfrz_ol, wfrz_od, wval_no, wval_d, wval_town, wval_ol, wval_od, warg_no, warg_d, warg_town, warg_ol, warg_od, vals, gLen, gAbs, gMax2, gMin2, gInt, gTup, gList, wipeW, if_true, if_false, Bool.false_eq_true, Bool.not_true, Bool.not_false, reduceCtorEq, hc]⟩
theorem first_place_ok (r : Rw) (hr : Rw.ok r) (hrl : r.length ≤ 1000000) (ts : List Th) (hp : ts.Pairwise fun s t => wrd r s t < 1) (hl : ts.length ≤ 1000) (t : Th) (n : Nat) : m_first_place [.d (rowD r), .d (tsD ts), .d t.d] n = some (I' ((ts.filter fun x => decide (wrd r x t < 0)).length : Nat), n) := by
  obtain ⟨k1, k2⟩ := cut_at (fun x => decide (wrd r x t < 0)) ts (fun a b hab hb => by simp at hb ⊢; exact wrd_lt0 hab hb) hp
  obtain ⟨w5, e⟩ := first_place_loop r hr hrl ts t _ (fun i x hx => by have := k2 i x hx; simpa using this) n 100000 0 ts.length .no (Nat.zero_le _) k1 (Nat.le_refl _) (by omega)
  have e : loopW _ l_first_place_1 100000 [.d (rowD r), .d (tsD ts), .d t.d, .d (.int 0), .d (.int ts.length), .no] n = _ := e
  unfold m_first_place b_first_place
  simp -implicitDefEqProofs only [eVar_ap, dVar_ap, eC_ap, dOf_ap, eFrz_ap, eBin_ap, bTest_ap, bTru_ap, bAnd_ap, bOr_ap, bNot_ap, eIf_ap, eB_ap, eAnd_ap, eOr_ap, aNil_ap, aCons_ap, sNil_ap, sCons_ap, eTup_ap, eLst_ap, eCall_ap, eApp_ap, oNone_ap, oSome_ap, eSl_ap, sNil'_ap, sSeq_ap, sBrk_ap, sRet_ap, sRetN_ap, sRetO_ap, sDrop_ap, sIf_ap, sSet_ap, sApp_ap, sTown_ap, sExt_ap, sIns_ap, sSetIx_ap, sAsg_ap, sPar_ap, iOf_ap, iVal_ap, iRng1_ap, iRng2_ap, sFor_ap, eComp_ap, bYes_ap, frzAt_ap, eUn_ap, eNotD_ap, eOrD_ap, eChain_ap, eListRg1_ap, eIsa_ap, eMt_ap, iEnumV_ap, iEnumF_ap, iZipV_ap, iZipF_ap, eTLen_ap, iRng3D_ap, sEnd_ap, eSs_ap, sPar3_ap, xPop_ap, xTup1_ap, xCat_ap, sSetX_ap, sAppX_ap, sParO_ap, sForEI_ap, sForK_ap, runB_ap, gOne_ap, gMany_ap, dI_ap, yesC_ap, dCmp_int, setD, kill_nx, kill_rt, kill_bk, Option.bind_some, Option.map_some, Option.bind_none, Option.map_none, List.getElem?_cons_zero, List.getElem?_cons_succ, List.set_cons_zero, List.set_cons_succ, List.cons_append, List.nil_append, List.append_nil, List.replicate, List.length_cons, List.length_nil, Nat.reduceAdd, Nat.reduceSub, Nat.zero_add, wdat_no, wdat_d, wdat_town, wdat_ol, wdat_od, wfrz_no, wfrz_d, wfrz_town, wfrz_ol, wfrz_od, wval_no, wval_d, wval_town, wval_ol, wval_od, warg_no, warg_d, warg_town, warg_ol, warg_od, vals, gLen, gAbs, gMax2, gMin2, gInt, gTup, gList, wipeW, if_true, if_false, Bool.false_eq_true, Bool.not_true, Bool.not_false, reduceCtorEq, List.length_map, e]
theorem last_place_loop (r : Rw) (hr : Rw.ok r) (hrl : r.length ≤ 1000000) (ts : List Th) (t : Th) (k : Nat) (hk : ∀ i x, ts[i]? = some x → (wrd r x t < 1 ↔ i < k)) (n : Nat) : ∀ (f lo hi : Nat) (w5 : W), lo ≤ k → k ≤ hi → hi ≤ ts.length → hi - lo < f → ∃ w5',
    loopW (bTest (eBin (dCmp rLt zLt) (dVar 3) (dVar 4))) l_last_place_1 f [.d (rowD r), .d (tsD ts), .d t.d, I' lo, I' hi, w5] n = some (.nx [.d (rowD r), .d (tsD ts), .d t.d, I' k, I' k, w5'] n)
  | 0, _, _, _, _, _, _, h => absurd h (Nat.not_lt_zero _)
  | f + 1, lo, hi, w5, h1, h2, h3, h4 => by
    rw [loopW_succ]
    by_cases c : lo < hi
    · have hc : rLt (lo : Int) (hi : Int) = true := rLt_t (by omega)
      have hd : ∀ i : Int, divC i 2 = true := fun i => divC_ok (by decide) (by decide)
      have hm : ((lo : Int) + (hi : Int)) / 2 = (((lo + hi) / 2 : Nat) : Int) := by omega
      have hl : (lo + hi) / 2 < ts.length := by omega
      have hx : dIx (tsD ts) (.int (((lo + hi) / 2 : Nat) : Int)) = some (.d (ts[(lo + hi) / 2]).d) := ixTsN ts _ hl
      have ht := told_ok' r hr hrl (ts[(lo + hi) / 2]) t n
      have hq := hk _ _ (List.getElem?_eq_getElem hl)
      by_cases d : wrd r (ts[(lo + hi) / 2]) t < 1
      · obtain ⟨w5', e⟩ := last_place_loop r hr hrl ts t k hk n f ((lo + hi) / 2 + 1) hi (I' ((lo + hi) / 2 : Nat)) (by have := hq.mp d; omega) h2 h3 (by omega)
        refine ⟨w5', ?_⟩
        have hz : (((lo + hi) / 2 + 1 : Nat) : Int) = (((lo + hi) / 2 : Nat) : Int) + 1 := by omega
        rw [hz] at e
        unfold l_last_place_1 at e ⊢
        simp -implicitDefEqProofs only [eVar_ap, dVar_ap, eC_ap, dOf_ap, eFrz_ap, eBin_ap, bTest_ap, bTru_ap, bAnd_ap, bOr_ap, bNot_ap, eIf_ap, eB_ap, eAnd_ap, eOr_ap, aNil_ap, aCons_ap, sNil_ap, sCons_ap, eTup_ap, eLst_ap, eCall_ap, eApp_ap, oNone_ap, oSome_ap, eSl_ap, sNil'_ap, sSeq_ap, sBrk_ap, sRet_ap, sRetN_ap, sRetO_ap, sDrop_ap, sIf_ap, sSet_ap, sApp_ap, sTown_ap, sExt_ap, sIns_ap, sSetIx_ap, sAsg_ap, sPar_ap, iOf_ap, iVal_ap, iRng1_ap, iRng2_ap, sFor_ap, eComp_ap, bYes_ap, frzAt_ap, eUn_ap, eNotD_ap, eOrD_ap, eChain_ap, eListRg1_ap, eIsa_ap, eMt_ap, iEnumV_ap, iEnumF_ap, iZipV_ap, iZipF_ap, eTLen_ap, iRng3D_ap, sEnd_ap, eSs_ap, sPar3_ap, xPop_ap, xTup1_ap, xCat_ap, sSetX_ap, sAppX_ap, sParO_ap, sForEI_ap, sForK_ap, runB_ap, gOne_ap, gMany_ap, dI_ap, yesC_ap, dCmp_int, setD, kill_nx, kill_rt, kill_bk, Option.bind_some, Option.map_some, Option.bind_none, Option.map_none, List.getElem?_cons_zero, List.getElem?_cons_succ, List.set_cons_zero, List.set_cons_succ, List.cons_append, List.nil_append, List.append_nil, List.replicate, List.length_cons, List.length_nil, Nat.reduceAdd, Nat.reduceSub, Nat.zero_add, wdat_no, wdat_d, wdat_town, wdat_ol, wdat_od, wfrz_no, wfrz_d, wfrz_town, wfrz_ol, wfrz_od, wval_no, wval_d, wval_town, wval_ol, wval_od, warg_no, warg_d, warg_town, warg_ol, warg_od, vals, gLen, gAbs, gMax2, gMin2, gInt, gTup, gList, wipeW, if_true, if_false, Bool.false_eq_true, Bool.not_true, Bool.not_false, reduceCtorEq, hc, dDiv, dAdd_int, hd, hm, hx, ht, rLt_t d, e]
      · obtain ⟨w5', e⟩ := last_place_loop r hr hrl ts t k hk n f lo ((lo + hi) / 2) (I' ((lo + hi) / 2 : Nat)) h1 (by have := mt hq.mpr d; omega) (by omega) (by omega)
        refine ⟨w5', ?_⟩
        unfold l_last_place_1 at e ⊢
        simp -implicitDefEqProofs only [eVar_ap, dVar_ap, eC_ap, dOf_ap, eFrz_ap, eBin_ap, bTest_ap, bTru_ap, bAnd_ap, bOr_ap, bNot_ap, eIf_ap, eB_ap, eAnd_ap, eOr_ap, aNil_ap, aCons_ap, sNil_ap, sCons_ap, eTup_ap, eLst_ap, eCall_ap, eApp_ap, oNone_ap, oSome_ap, eSl_ap, sNil'_ap, sSeq_ap, sBrk_ap, sRet_ap, sRetN_ap, sRetO_ap, sDrop_ap, sIf_ap, sSet_ap, sApp_ap, sTown_ap, sExt_ap, sIns_ap, sSetIx_ap, sAsg_ap, sPar_ap, iOf_ap, iVal_ap, iRng1_ap, iRng2_ap, sFor_ap, eComp_ap, bYes_ap, frzAt_ap, eUn_ap, eNotD_ap, eOrD_ap, eChain_ap, eListRg1_ap, eIsa_ap, eMt_ap, iEnumV_ap, iEnumF_ap, iZipV_ap, iZipF_ap, eTLen_ap, iRng3D_ap, sEnd_ap, eSs_ap, sPar3_ap, xPop_ap, xTup1_ap, xCat_ap, sSetX_ap, sAppX_ap, sParO_ap, sForEI_ap, sForK_ap, runB_ap, gOne_ap, gMany_ap, dI_ap, yesC_ap, dCmp_int, setD, kill_nx, kill_rt, kill_bk, Option.bind_some, Option.map_some, Option.bind_none, Option.map_none, List.getElem?_cons_zero, List.getElem?_cons_succ, List.set_cons_zero, List.set_cons_succ, List.cons_append, List.nil_append, List.append_nil, List.replicate, List.length_cons, List.length_nil, Nat.reduceAdd, Nat.reduceSub, Nat.zero_add, wdat_no, wdat_d, wdat_town, wdat_ol, wdat_od, wfrz_no, wfrz_d, wfrz_town, wfrz_ol, wfrz_od, wval_no, wval_d, wval_town, wval_ol, wval_od, warg_no, warg_d, warg_town, warg_ol, warg_od, vals, gLen, gAbs, gMax2, gMin2, gInt, gTup, gList, wipeW, if_true, if_false, Bool.false_eq_true, Bool.not_true, Bool.not_false, reduceCtorEq, hc, dDiv, dAdd_int, hd, hm, hx, ht, rLt_f d, e]
    · have hc : rLt (lo : Int) (hi : Int) = false := rLt_f (by omega)
      obtain rfl : lo = k := by omega
      obtain rfl : hi = lo := by omega
      exact ⟨w5, by simp -implicitDefEqProofs only [eVar_ap, dVar_ap, eC_ap, dOf_ap, eFrz_ap, eBin_ap, bTest_ap, bTru_ap, bAnd_ap, bOr_ap, bNot_ap, eIf_ap, eB_ap, eAnd_ap, eOr_ap, aNil_ap, aCons_ap, sNil_ap, sCons_ap, eTup_ap, eLst_ap, eCall_ap, eApp_ap, oNone_ap, oSome_ap, eSl_ap, sNil'_ap, sSeq_ap, sBrk_ap, sRet_ap, sRetN_ap, sRetO_ap, sDrop_ap, sIf_ap, sSet_ap, sApp_ap, sTown_ap, sExt_ap, sIns_ap, sSetIx_ap, sAsg_ap, sPar_ap, iOf_ap, iVal_ap, iRng1_ap, iRng2_ap, sFor_ap, eComp_ap, bYes_ap, frzAt_ap, eUn_ap, eNotD_ap, eOrD_ap, eChain_ap, eListRg1_ap, eIsa_ap, eMt_ap, iEnumV_ap, iEnumF_ap, iZipV_ap, iZipF_ap, eTLen_ap, iRng3D_ap, sEnd_ap, eSs_ap, sPar3_ap, xPop_ap, xTup1_ap, xCat_ap, sSetX_ap, sAppX_ap, sParO_ap, sForEI_ap, sForK_ap, runB_ap, gOne_ap, gMany_ap, dI_ap, yesC_ap, dCmp_int, setD, kill_nx, kill_rt, kill_bk, Option.bind_some, Option.map_some, Option.bind_none, Option.map_none, List.getElem?_cons_zero, List.getElem?_cons_succ, List.set_cons_zero, List.set_cons_succ, List.cons_append, List.nil_append, List.append_nil, List.replicate, List.length_cons, List.length_nil, Nat.reduceAdd, Nat.reduceSub, Nat.zero_add, wdat_no, wdat_d, wdat_town, wdat_ol, wdat_od, wfrz_no, wfrz_d, wfrz_town, wfrz_ol, wfrz_od, wval_no, wval_d, wval_town, wval_ol, wval_od, warg_no, warg_d, warg_town, warg_ol, warg_od, vals, gLen, gAbs, gMax2, gMin2, gInt, gTup, gList, wipeW, if_true, if_false, Bool.false_eq_true, Bool.not_true, Bool.not_false, reduceCtorEq, hc]⟩
theorem last_place_ok (r : Rw) (hr : Rw.ok r) (hrl : r.length ≤ 1000000) (ts : List Th) (hp : ts.Pairwise fun s t => wrd r s t < 1) (hl : ts.length ≤ 1000) (t : Th) (n : Nat) : m_last_place [.d (rowD r), .d (tsD ts), .d t.d] n = some (I' ((ts.filter fun x => decide (wrd r x t < 1)).length : Nat), n) := by
  obtain ⟨k1, k2⟩ := cut_at (fun x => decide (wrd r x t < 1)) ts (fun a b hab hb => by simp at hb ⊢; exact wrd_trans r a b t hab hb) hp
  obtain ⟨w5, e⟩ := last_place_loop r hr hrl ts t _ (fun i x hx => by have := k2 i x hx; simpa using this) n 100000 0 ts.length .no (Nat.zero_le _) k1 (Nat.le_refl _) (by omega)
  have e : loopW _ l_last_place_1 100000 [.d (rowD r), .d (tsD ts), .d t.d, .d (.int 0), .d (.int ts.length), .no] n = _ := e
  unfold m_last_place b_last_place
  simp -implicitDefEqProofs only [eVar_ap, dVar_ap, eC_ap, dOf_ap, eFrz_ap, eBin_ap, bTest_ap, bTru_ap, bAnd_ap, bOr_ap, bNot_ap, eIf_ap, eB_ap, eAnd_ap, eOr_ap, aNil_ap, aCons_ap, sNil_ap, sCons_ap, eTup_ap, eLst_ap, eCall_ap, eApp_ap, oNone_ap, oSome_ap, eSl_ap, sNil'_ap, sSeq_ap, sBrk_ap, sRet_ap, sRetN_ap, sRetO_ap, sDrop_ap, sIf_ap, sSet_ap, sApp_ap, sTown_ap, sExt_ap, sIns_ap, sSetIx_ap, sAsg_ap, sPar_ap, iOf_ap, iVal_ap, iRng1_ap, iRng2_ap, sFor_ap, eComp_ap, bYes_ap, frzAt_ap, eUn_ap, eNotD_ap, eOrD_ap, eChain_ap, eListRg1_ap, eIsa_ap, eMt_ap, iEnumV_ap, iEnumF_ap, iZipV_ap, iZipF_ap, eTLen_ap, iRng3D_ap, sEnd_ap, eSs_ap, sPar3_ap, xPop_ap, xTup1_ap, xCat_ap, sSetX_ap, sAppX_ap, sParO_ap, sForEI_ap, sForK_ap, runB_ap, gOne_ap, gMany_ap, dI_ap, yesC_ap, dCmp_int, setD, kill_nx, kill_rt, kill_bk, Option.bind_some, Option.map_some, Option.bind_none, Option.map_none, List.getElem?_cons_zero, List.getElem?_cons_succ, List.set_cons_zero, List.set_cons_succ, List.cons_append, List.nil_append, List.append_nil, List.replicate, List.length_cons, List.length_nil, Nat.reduceAdd, Nat.reduceSub, Nat.zero_add, wdat_no, wdat_d, wdat_town, wdat_ol, wdat_od, wfrz_no, wfrz_d, wfrz_town, wfrz_ol, wfrz_od, wval_no, wval_d, wval_town, wval_ol, wval_od, warg_no, warg_d, warg_town, warg_ol, warg_od, vals, gLen, gAbs, gMax2, gMin2, gInt, gTup, gList, wipeW, if_true, if_false, Bool.false_eq_true, Bool.not_true, Bool.not_false, reduceCtorEq, List.length_map, e]
end L2.Lv.Sh
namespace L2.Lv.Sh
open PySem PySem.Spec PyProof.Rows L2 L2.Lv
/-! groups -/
def gStep (r : Rw) (acc : List (List Th)) (t : Th) : List (List Th) := match acc.getLast? with
  | none => acc ++ [[t]]
  | some l => match l.head? with
    | none => acc ++ [[t]]
    | some u => if wrd r u t = 0 then acc.dropLast ++ [l ++ [t]] else acc ++ [[t]]
def groupsT (r : Rw) (ts : List Th) : List (List Th) := (ordT r ts).foldl (gStep r) []
theorem gStep_nil (r : Rw) (t : Th) : gStep r [] t = [[t]] := rfl
theorem gStep_app (r : Rw) (A : List (List Th)) (u : Th) (B : List Th) (t : Th) : gStep r (A ++ [u :: B]) t = if wrd r u t = 0 then A ++ [u :: (B ++ [t])] else A ++ [u :: B] ++ [[t]] := by
  unfold gStep
  simp
/-- what holds of the list so far -/
def gInv (acc : List (List Th)) (k : Nat) : Prop := acc.flatten.length + k ≤ 1000 ∧ ∀ l ∈ acc, l ≠ []
theorem gInv.len {acc : List (List Th)} {k : Nat} (h : gInv acc k) : acc.length + k ≤ 1000 := by
  obtain ⟨h1, h2⟩ := h
  have key : acc.length ≤ acc.flatten.length := by
    clear h1
    induction acc with
    | nil => exact Nat.le_refl _
    | cons l acc ih =>
      have := ih fun z hz => h2 z (List.mem_cons_of_mem _ hz)
      have h3 := List.length_pos_iff.mpr (h2 l (List.mem_cons_self ..))
      simp at this ⊢; omega
  omega
theorem gInv.at {acc : List (List Th)} {k : Nat} (h : gInv acc k) {l : List Th} (hl : l ∈ acc) : l.length + k ≤ 1000 := by
  have h1 := h.1
  have : l.length ≤ acc.flatten.length := by
    obtain ⟨A, B, rfl⟩ := List.append_of_mem hl
    simp; omega
  omega
theorem gStep_flat (r : Rw) (acc : List (List Th)) (t : Th) (h : ∀ l ∈ acc, l ≠ []) : (gStep r acc t).flatten = acc.flatten ++ [t] ∧ ∀ l ∈ gStep r acc t, l ≠ [] := by
  rcases List.eq_nil_or_concat acc with rfl | ⟨A, l, rfl⟩
  · exact ⟨rfl, fun l hl => by rw [gStep_nil] at hl; simp at hl; subst hl; simp⟩
  · simp only [List.concat_eq_append] at *
    cases l with
    | nil => exact absurd rfl (h [] (by simp))
    | cons u B =>
      rw [gStep_app]
      split
      · refine ⟨by simp, fun l hl => ?_⟩
        rcases List.mem_append.mp hl with hl | hl
        · exact h l (List.mem_append_left _ hl)
        · simp at hl; subst hl; simp
      · refine ⟨by simp, fun l hl => ?_⟩
        rcases List.mem_append.mp hl with hl | hl
        · exact h l hl
        · simp at hl; subst hl; simp
theorem gInv.step {r : Rw} {acc : List (List Th)} {k : Nat} {t : Th} (h : gInv acc (k + 1)) : gInv (gStep r acc t) k := by
  obtain ⟨h1, h2⟩ := h
  obtain ⟨f1, f2⟩ := gStep_flat r acc t h2
  exact ⟨by rw [f1]; simp at h1 ⊢; omega, f2⟩
theorem gInv0 {k : Nat} (h : k ≤ 1000) : gInv [] k := ⟨by simpa using h, by simp⟩
theorem fold_flat (r : Rw) : ∀ (ts : List Th) (acc : List (List Th)), (∀ l ∈ acc, l ≠ []) → (ts.foldl (gStep r) acc).flatten = acc.flatten ++ ts ∧ ∀ l ∈ ts.foldl (gStep r) acc, l ≠ []
  | [], acc, h => ⟨by simp, h⟩
  | t :: ts, acc, h => by
    obtain ⟨f1, f2⟩ := gStep_flat r acc t h
    obtain ⟨g1, g2⟩ := fold_flat r ts (gStep r acc t) f2
    exact ⟨by rw [List.foldl_cons, g1, f1]; simp, g2⟩
theorem groupsT_flat (r : Rw) (ts : List Th) : (groupsT r ts).flatten = ordT r ts ∧ ∀ l ∈ groupsT r ts, l ≠ [] := by
  obtain ⟨h1, h2⟩ := fold_flat r (ordT r ts) [] (by simp)
  rw [List.flatten_nil, List.nil_append] at h1
  exact ⟨h1, h2⟩
theorem hd0 (u : Th) (B : List Th) : dIx (tsD (u :: B)) (.int 0) = some (.d u.d) := i0 _ _
theorem groups_loop (r : Rw) (hr : Rw.ok r) (hrl : r.length ≤ 1000000) (w1 : W) (n : Nat) : ∀ (ts : List Th) (acc : List (List Th)) (w3 : W), gInv acc ts.length → ∃ w3',
    loopF (gOne 3) l_groups_1 (ts.map Th.d) [.d (rowD r), w1, .ol (acc.map tsD), w3] n = some (.nx [.d (rowD r), w1, .ol ((ts.foldl (gStep r) acc).map tsD), w3'] n)
  | [], acc, w3, _ => ⟨w3, rfl⟩
  | t :: ts, acc, w3, h => by
    obtain ⟨w3', e⟩ := groups_loop r hr hrl w1 n ts (gStep r acc t) (.d t.d) (gInv.step h)
    refine ⟨w3', ?_⟩
    have hb : (acc.map tsD).length < big := by rw [List.length_map]; unfold big; have := h.len; simp at this; omega
    rw [List.map_cons, loopF_cons, List.foldl_cons]
    unfold l_groups_1 at e ⊢
    rcases List.eq_nil_or_concat acc with rfl | ⟨A, l, rfl⟩
    · have hb0 : 0 < big := by decide
      rw [gStep_nil] at e
      rw [gStep_nil]
      have e' : loopF (gOne 3) _ (ts.map Th.d) [.d (rowD r), w1, .ol [.tuple [t.d]], .d t.d] n = _ := e
      simp -implicitDefEqProofs only [eVar_ap, dVar_ap, eC_ap, dOf_ap, eFrz_ap, eBin_ap, bTest_ap, bTru_ap, bAnd_ap, bOr_ap, bNot_ap, eIf_ap, eB_ap, eAnd_ap, eOr_ap, aNil_ap, aCons_ap, sNil_ap, sCons_ap, eTup_ap, eLst_ap, eCall_ap, eApp_ap, oNone_ap, oSome_ap, eSl_ap, sNil'_ap, sSeq_ap, sBrk_ap, sRet_ap, sRetN_ap, sRetO_ap, sDrop_ap, sIf_ap, sSet_ap, sApp_ap, sTown_ap, sExt_ap, sIns_ap, sSetIx_ap, sAsg_ap, sPar_ap, iOf_ap, iVal_ap, iRng1_ap, iRng2_ap, sFor_ap, eComp_ap, bYes_ap, frzAt_ap, eUn_ap, eNotD_ap, eOrD_ap, eChain_ap, eListRg1_ap, eIsa_ap, eMt_ap, iEnumV_ap, iEnumF_ap, iZipV_ap, iZipF_ap, eTLen_ap, iRng3D_ap, sEnd_ap, eSs_ap, sPar3_ap, xPop_ap, xTup1_ap, xCat_ap, sSetX_ap, sAppX_ap, sParO_ap, sForEI_ap, sForK_ap, runB_ap, gOne_ap, gMany_ap, dI_ap, yesC_ap, dCmp_int, setD, kill_nx, kill_rt, kill_bk, Option.bind_some, Option.map_some, Option.bind_none, Option.map_none, List.getElem?_cons_zero, List.getElem?_cons_succ, List.set_cons_zero, List.set_cons_succ, List.cons_append, List.nil_append, List.append_nil, List.replicate, List.length_cons, List.length_nil, Nat.reduceAdd, Nat.reduceSub, Nat.zero_add, wdat_no, wdat_d, wdat_town, wdat_ol, wdat_od, wfrz_no, wfrz_d, wfrz_town, wfrz_ol, wfrz_od, wval_no, wval_d, wval_town, wval_ol, wval_od, warg_no, warg_d, warg_town, warg_ol, warg_od, vals, gLen, gAbs, gMax2, gMin2, gInt, gTup, gList, wipeW, if_true, if_false, Bool.false_eq_true, Bool.not_true, Bool.not_false, reduceCtorEq, dTru, List.map_nil, List.isEmpty_nil, hb0, e']
    · simp only [List.concat_eq_append] at *
      cases l with
      | nil => exact absurd rfl (h.2 [] (by simp))
      | cons u B =>
        have n2 := h.at (l := u :: B) (by simp)
        rw [gStep_app] at e
        rw [gStep_app]
        have ht := told_ok' r hr hrl u t n
        have he : ((A ++ [u :: B]).map tsD).isEmpty = false := by simp
        by_cases c : wrd r u t = 0
        · rw [if_pos c] at e
          rw [if_pos c]
          have ea : dAdd (tsD (u :: B)) (.tuple [t.d]) = some (.d (tsD (u :: (B ++ [t])))) := by
            rw [dAdd_tup _ _ (le_big (by simp at n2 ⊢; omega))]; simp
          have ix : ixN ((A ++ [u :: B]).map tsD).length (-1) = some A.length := by
            have : ((A ++ [u :: B]).map tsD).length = A.length + 1 := by simp
            rw [this, ixN_last]
          have c2 : (wrd r u t == 0) = true := by simpa using c
          simp -implicitDefEqProofs only [eVar_ap, dVar_ap, eC_ap, dOf_ap, eFrz_ap, eBin_ap, bTest_ap, bTru_ap, bAnd_ap, bOr_ap, bNot_ap, eIf_ap, eB_ap, eAnd_ap, eOr_ap, aNil_ap, aCons_ap, sNil_ap, sCons_ap, eTup_ap, eLst_ap, eCall_ap, eApp_ap, oNone_ap, oSome_ap, eSl_ap, sNil'_ap, sSeq_ap, sBrk_ap, sRet_ap, sRetN_ap, sRetO_ap, sDrop_ap, sIf_ap, sSet_ap, sApp_ap, sTown_ap, sExt_ap, sIns_ap, sSetIx_ap, sAsg_ap, sPar_ap, iOf_ap, iVal_ap, iRng1_ap, iRng2_ap, sFor_ap, eComp_ap, bYes_ap, frzAt_ap, eUn_ap, eNotD_ap, eOrD_ap, eChain_ap, eListRg1_ap, eIsa_ap, eMt_ap, iEnumV_ap, iEnumF_ap, iZipV_ap, iZipF_ap, eTLen_ap, iRng3D_ap, sEnd_ap, eSs_ap, sPar3_ap, xPop_ap, xTup1_ap, xCat_ap, sSetX_ap, sAppX_ap, sParO_ap, sForEI_ap, sForK_ap, runB_ap, gOne_ap, gMany_ap, dI_ap, yesC_ap, dCmp_int, setD, kill_nx, kill_rt, kill_bk, Option.bind_some, Option.map_some, Option.bind_none, Option.map_none, List.getElem?_cons_zero, List.getElem?_cons_succ, List.set_cons_zero, List.set_cons_succ, List.cons_append, List.nil_append, List.append_nil, List.replicate, List.length_cons, List.length_nil, Nat.reduceAdd, Nat.reduceSub, Nat.zero_add, wdat_no, wdat_d, wdat_town, wdat_ol, wdat_od, wfrz_no, wfrz_d, wfrz_town, wfrz_ol, wfrz_od, wval_no, wval_d, wval_town, wval_ol, wval_od, warg_no, warg_d, warg_town, warg_ol, warg_od, vals, gLen, gAbs, gMax2, gMin2, gInt, gTup, gList, wipeW, if_true, if_false, Bool.false_eq_true, Bool.not_true, Bool.not_false, reduceCtorEq, dTru, he, dNeg, rLast, hd0, ht, dEq_int, c2, ea, ix, rSet, e]
        · rw [if_neg c] at e
          rw [if_neg c]
          have em : (A ++ [u :: B]).map tsD ++ [.tuple [t.d]] = (A ++ [u :: B] ++ [[t]]).map tsD := by simp
          have c2 : (wrd r u t == 0) = false := by simpa using c
          simp -implicitDefEqProofs only [eVar_ap, dVar_ap, eC_ap, dOf_ap, eFrz_ap, eBin_ap, bTest_ap, bTru_ap, bAnd_ap, bOr_ap, bNot_ap, eIf_ap, eB_ap, eAnd_ap, eOr_ap, aNil_ap, aCons_ap, sNil_ap, sCons_ap, eTup_ap, eLst_ap, eCall_ap, eApp_ap, oNone_ap, oSome_ap, eSl_ap, sNil'_ap, sSeq_ap, sBrk_ap, sRet_ap, sRetN_ap, sRetO_ap, sDrop_ap, sIf_ap, sSet_ap, sApp_ap, sTown_ap, sExt_ap, sIns_ap, sSetIx_ap, sAsg_ap, sPar_ap, iOf_ap, iVal_ap, iRng1_ap, iRng2_ap, sFor_ap, eComp_ap, bYes_ap, frzAt_ap, eUn_ap, eNotD_ap, eOrD_ap, eChain_ap, eListRg1_ap, eIsa_ap, eMt_ap, iEnumV_ap, iEnumF_ap, iZipV_ap, iZipF_ap, eTLen_ap, iRng3D_ap, sEnd_ap, eSs_ap, sPar3_ap, xPop_ap, xTup1_ap, xCat_ap, sSetX_ap, sAppX_ap, sParO_ap, sForEI_ap, sForK_ap, runB_ap, gOne_ap, gMany_ap, dI_ap, yesC_ap, dCmp_int, setD, kill_nx, kill_rt, kill_bk, Option.bind_some, Option.map_some, Option.bind_none, Option.map_none, List.getElem?_cons_zero, List.getElem?_cons_succ, List.set_cons_zero, List.set_cons_succ, List.cons_append, List.nil_append, List.append_nil, List.replicate, List.length_cons, List.length_nil, Nat.reduceAdd, Nat.reduceSub, Nat.zero_add, wdat_no, wdat_d, wdat_town, wdat_ol, wdat_od, wfrz_no, wfrz_d, wfrz_town, wfrz_ol, wfrz_od, wval_no, wval_d, wval_town, wval_ol, wval_od, warg_no, warg_d, warg_town, warg_ol, warg_od, vals, gLen, gAbs, gMax2, gMin2, gInt, gTup, gList, wipeW, if_true, if_false, Bool.false_eq_true, Bool.not_true, Bool.not_false, reduceCtorEq, dTru, he, dNeg, rLast, hd0, ht, dEq_int, c2, hb, em, e]
theorem groups_ok (r : Rw) (hr : Rw.ok r) (hrl : r.length ≤ 1000000) (ts : List Th) (ht : ts.length ≤ 1000) (n : Nat) : m_groups [.d (rowD r), .d (tsD ts)] n = some (.d (tssD (groupsT r ts)), n) := by
  obtain ⟨w3, e⟩ := groups_loop r hr hrl (.d (tsD ts)) n (ordT r ts) [] .no (gInv0 (by rw [ordT_len]; exact ht))
  rw [List.map_nil] at e
  unfold m_groups b_groups
  simp -implicitDefEqProofs only [eVar_ap, dVar_ap, eC_ap, dOf_ap, eFrz_ap, eBin_ap, bTest_ap, bTru_ap, bAnd_ap, bOr_ap, bNot_ap, eIf_ap, eB_ap, eAnd_ap, eOr_ap, aNil_ap, aCons_ap, sNil_ap, sCons_ap, eTup_ap, eLst_ap, eCall_ap, eApp_ap, oNone_ap, oSome_ap, eSl_ap, sNil'_ap, sSeq_ap, sBrk_ap, sRet_ap, sRetN_ap, sRetO_ap, sDrop_ap, sIf_ap, sSet_ap, sApp_ap, sTown_ap, sExt_ap, sIns_ap, sSetIx_ap, sAsg_ap, sPar_ap, iOf_ap, iVal_ap, iRng1_ap, iRng2_ap, sFor_ap, eComp_ap, bYes_ap, frzAt_ap, eUn_ap, eNotD_ap, eOrD_ap, eChain_ap, eListRg1_ap, eIsa_ap, eMt_ap, iEnumV_ap, iEnumF_ap, iZipV_ap, iZipF_ap, eTLen_ap, iRng3D_ap, sEnd_ap, eSs_ap, sPar3_ap, xPop_ap, xTup1_ap, xCat_ap, sSetX_ap, sAppX_ap, sParO_ap, sForEI_ap, sForK_ap, runB_ap, gOne_ap, gMany_ap, dI_ap, yesC_ap, dCmp_int, setD, kill_nx, kill_rt, kill_bk, Option.bind_some, Option.map_some, Option.bind_none, Option.map_none, List.getElem?_cons_zero, List.getElem?_cons_succ, List.set_cons_zero, List.set_cons_succ, List.cons_append, List.nil_append, List.append_nil, List.replicate, List.length_cons, List.length_nil, Nat.reduceAdd, Nat.reduceSub, Nat.zero_add, wdat_no, wdat_d, wdat_town, wdat_ol, wdat_od, wfrz_no, wfrz_d, wfrz_town, wfrz_ol, wfrz_od, wval_no, wval_d, wval_town, wval_ol, wval_od, warg_no, warg_d, warg_town, warg_ol, warg_od, vals, gLen, gAbs, gMax2, gMin2, gInt, gTup, gList, wipeW, if_true, if_false, Bool.false_eq_true, Bool.not_true, Bool.not_false, reduceCtorEq, ordered_ok r hr hrl ts (by omega) n, iSeq, e]
  rfl
theorem groups_nc (r : Rw) (ts : List Th) (h : ts.length ≤ 1000) : nc 4 (tssD (groupsT r ts)) = true := by
  obtain ⟨h1, h2⟩ := groupsT_flat r ts
  have hi : gInv (groupsT r ts) 0 := ⟨by rw [h1, ordT_len]; omega, h2⟩
  exact nc_tup (by have := hi.len; simp; omega) fun x hx => by
    obtain ⟨l, hl, rfl⟩ := List.mem_map.mp hx
    exact nc_ts (by have := hi.at hl; omega)
/-! the best -/
def bestT (m : Int) (gs : List (List Th)) : List Th := gs.foldl (fun acc g => if (acc.length : Int) < m then acc ++ g else acc) []
theorem best_loop (m : Int) (w0 w1 : W) (n : Nat) : ∀ (gs : List (List Th)) (acc : List Th) (w4 : W), acc.length + gs.flatten.length ≤ 1000 → ∃ w4',
    loopF (gOne 4) l_best_1 (gs.map tsD) [w0, w1, I' m, .d (tsD acc), w4] n = some (.nx [w0, w1, I' m, .d (tsD (gs.foldl (fun acc g => if (acc.length : Int) < m then acc ++ g else acc) acc)), w4'] n)
  | [], acc, w4, _ => ⟨w4, rfl⟩
  | g :: gs, acc, w4, h => by
    rw [List.flatten_cons, List.length_append] at h
    rw [List.map_cons, List.foldl_cons]
    by_cases c : (acc.length : Int) < m
    · obtain ⟨w4', e⟩ := best_loop m w0 w1 n gs (acc ++ g) (.d (tsD g)) (by rw [List.length_append]; omega)
      refine ⟨w4', ?_⟩
      have ea : dAdd (tsD acc) (tsD g) = some (.d (tsD (acc ++ g))) := by
        rw [dAdd_tup _ _ (le_big (by simp; omega))]; simp
      rw [loopF_cons, if_pos c]
      unfold l_best_1 at e ⊢
      simp -implicitDefEqProofs only [eVar_ap, dVar_ap, eC_ap, dOf_ap, eFrz_ap, eBin_ap, bTest_ap, bTru_ap, bAnd_ap, bOr_ap, bNot_ap, eIf_ap, eB_ap, eAnd_ap, eOr_ap, aNil_ap, aCons_ap, sNil_ap, sCons_ap, eTup_ap, eLst_ap, eCall_ap, eApp_ap, oNone_ap, oSome_ap, eSl_ap, sNil'_ap, sSeq_ap, sBrk_ap, sRet_ap, sRetN_ap, sRetO_ap, sDrop_ap, sIf_ap, sSet_ap, sApp_ap, sTown_ap, sExt_ap, sIns_ap, sSetIx_ap, sAsg_ap, sPar_ap, iOf_ap, iVal_ap, iRng1_ap, iRng2_ap, sFor_ap, eComp_ap, bYes_ap, frzAt_ap, eUn_ap, eNotD_ap, eOrD_ap, eChain_ap, eListRg1_ap, eIsa_ap, eMt_ap, iEnumV_ap, iEnumF_ap, iZipV_ap, iZipF_ap, eTLen_ap, iRng3D_ap, sEnd_ap, eSs_ap, sPar3_ap, xPop_ap, xTup1_ap, xCat_ap, sSetX_ap, sAppX_ap, sParO_ap, sForEI_ap, sForK_ap, runB_ap, gOne_ap, gMany_ap, dI_ap, yesC_ap, dCmp_int, setD, kill_nx, kill_rt, kill_bk, Option.bind_some, Option.map_some, Option.bind_none, Option.map_none, List.getElem?_cons_zero, List.getElem?_cons_succ, List.set_cons_zero, List.set_cons_succ, List.cons_append, List.nil_append, List.append_nil, List.replicate, List.length_cons, List.length_nil, Nat.reduceAdd, Nat.reduceSub, Nat.zero_add, wdat_no, wdat_d, wdat_town, wdat_ol, wdat_od, wfrz_no, wfrz_d, wfrz_town, wfrz_ol, wfrz_od, wval_no, wval_d, wval_town, wval_ol, wval_od, warg_no, warg_d, warg_town, warg_ol, warg_od, vals, gLen, gAbs, gMax2, gMin2, gInt, gTup, gList, wipeW, if_true, if_false, Bool.false_eq_true, Bool.not_true, Bool.not_false, reduceCtorEq, List.length_map, rLt_t c, ea, e]
    · obtain ⟨w4', e⟩ := best_loop m w0 w1 n gs acc (.d (tsD g)) (by omega)
      refine ⟨w4', ?_⟩
      rw [loopF_cons, if_neg c]
      unfold l_best_1 at e ⊢
      simp -implicitDefEqProofs only [eVar_ap, dVar_ap, eC_ap, dOf_ap, eFrz_ap, eBin_ap, bTest_ap, bTru_ap, bAnd_ap, bOr_ap, bNot_ap, eIf_ap, eB_ap, eAnd_ap, eOr_ap, aNil_ap, aCons_ap, sNil_ap, sCons_ap, eTup_ap, eLst_ap, eCall_ap, eApp_ap, oNone_ap, oSome_ap, eSl_ap, sNil'_ap, sSeq_ap, sBrk_ap, sRet_ap, sRetN_ap, sRetO_ap, sDrop_ap, sIf_ap, sSet_ap, sApp_ap, sTown_ap, sExt_ap, sIns_ap, sSetIx_ap, sAsg_ap, sPar_ap, iOf_ap, iVal_ap, iRng1_ap, iRng2_ap, sFor_ap, eComp_ap, bYes_ap, frzAt_ap, eUn_ap, eNotD_ap, eOrD_ap, eChain_ap, eListRg1_ap, eIsa_ap, eMt_ap, iEnumV_ap, iEnumF_ap, iZipV_ap, iZipF_ap, eTLen_ap, iRng3D_ap, sEnd_ap, eSs_ap, sPar3_ap, xPop_ap, xTup1_ap, xCat_ap, sSetX_ap, sAppX_ap, sParO_ap, sForEI_ap, sForK_ap, runB_ap, gOne_ap, gMany_ap, dI_ap, yesC_ap, dCmp_int, setD, kill_nx, kill_rt, kill_bk, Option.bind_some, Option.map_some, Option.bind_none, Option.map_none, List.getElem?_cons_zero, List.getElem?_cons_succ, List.set_cons_zero, List.set_cons_succ, List.cons_append, List.nil_append, List.append_nil, List.replicate, List.length_cons, List.length_nil, Nat.reduceAdd, Nat.reduceSub, Nat.zero_add, wdat_no, wdat_d, wdat_town, wdat_ol, wdat_od, wfrz_no, wfrz_d, wfrz_town, wfrz_ol, wfrz_od, wval_no, wval_d, wval_town, wval_ol, wval_od, warg_no, warg_d, warg_town, warg_ol, warg_od, vals, gLen, gAbs, gMax2, gMin2, gInt, gTup, gList, wipeW, if_true, if_false, Bool.false_eq_true, Bool.not_true, Bool.not_false, reduceCtorEq, List.length_map, rLt_f c, e]
theorem best_ok (r : Rw) (hr : Rw.ok r) (hrl : r.length ≤ 1000000) (ts : List Th) (ht : ts.length ≤ 1000) (m : Int) (n : Nat) : m_best [.d (rowD r), .d (tsD ts), I' m] n = some (.d (tsD (bestT m (groupsT r ts))), n) := by
  obtain ⟨w4, e⟩ := best_loop m (.d (rowD r)) (.d (tsD ts)) n (groupsT r ts) [] .no (by rw [(groupsT_flat r ts).1, ordT_len]; simpa using ht)
  have e : loopF (gOne 4) l_best_1 ((groupsT r ts).map tsD) [.d (rowD r), .d (tsD ts), .d (.int m), .d (.tuple []), .no] n = _ := e
  unfold m_best b_best
  simp -implicitDefEqProofs only [eVar_ap, dVar_ap, eC_ap, dOf_ap, eFrz_ap, eBin_ap, bTest_ap, bTru_ap, bAnd_ap, bOr_ap, bNot_ap, eIf_ap, eB_ap, eAnd_ap, eOr_ap, aNil_ap, aCons_ap, sNil_ap, sCons_ap, eTup_ap, eLst_ap, eCall_ap, eApp_ap, oNone_ap, oSome_ap, eSl_ap, sNil'_ap, sSeq_ap, sBrk_ap, sRet_ap, sRetN_ap, sRetO_ap, sDrop_ap, sIf_ap, sSet_ap, sApp_ap, sTown_ap, sExt_ap, sIns_ap, sSetIx_ap, sAsg_ap, sPar_ap, iOf_ap, iVal_ap, iRng1_ap, iRng2_ap, sFor_ap, eComp_ap, bYes_ap, frzAt_ap, eUn_ap, eNotD_ap, eOrD_ap, eChain_ap, eListRg1_ap, eIsa_ap, eMt_ap, iEnumV_ap, iEnumF_ap, iZipV_ap, iZipF_ap, eTLen_ap, iRng3D_ap, sEnd_ap, eSs_ap, sPar3_ap, xPop_ap, xTup1_ap, xCat_ap, sSetX_ap, sAppX_ap, sParO_ap, sForEI_ap, sForK_ap, runB_ap, gOne_ap, gMany_ap, dI_ap, yesC_ap, dCmp_int, setD, kill_nx, kill_rt, kill_bk, Option.bind_some, Option.map_some, Option.bind_none, Option.map_none, List.getElem?_cons_zero, List.getElem?_cons_succ, List.set_cons_zero, List.set_cons_succ, List.cons_append, List.nil_append, List.append_nil, List.replicate, List.length_cons, List.length_nil, Nat.reduceAdd, Nat.reduceSub, Nat.zero_add, wdat_no, wdat_d, wdat_town, wdat_ol, wdat_od, wfrz_no, wfrz_d, wfrz_town, wfrz_ol, wfrz_od, wval_no, wval_d, wval_town, wval_ol, wval_od, warg_no, warg_d, warg_town, warg_ol, warg_od, vals, gLen, gAbs, gMax2, gMin2, gInt, gTup, gList, wipeW, if_true, if_false, Bool.false_eq_true, Bool.not_true, Bool.not_false, reduceCtorEq, groups_ok r hr hrl ts ht n, iSeq, e]
  rfl
theorem bestT_le (m : Int) : ∀ (gs : List (List Th)) (acc : List Th), (gs.foldl (fun acc g => if (acc.length : Int) < m then acc ++ g else acc) acc).length ≤ acc.length + gs.flatten.length
  | [], acc => by simp
  | g :: gs, acc => by
    rw [List.foldl_cons, List.flatten_cons, List.length_append]
    split
    · have := bestT_le m gs (acc ++ g); simp at this ⊢; omega
    · have := bestT_le m gs acc; simp at this ⊢; omega
/-! lists told -/
def ltT (r : Rw) : List Th → List Th → Int
  | [], [] => 0
  | [], _ :: _ => -1
  | _ :: _, [] => 1
  | a :: as, b :: bs => if wrd r a b = 0 then ltT r as bs else wrd r a b
theorem ltT_anti (r : Rw) : ∀ as bs : List Th, ltT r bs as = 0 - ltT r as bs
  | [], [] => rfl
  | [], _ :: _ => rfl
  | _ :: _, [] => rfl
  | a :: as, b :: bs => by
    have ih := ltT_anti r as bs
    have h := wrd_anti r a b
    simp only [ltT]
    by_cases e : wrd r a b = 0
    · rw [if_pos e, if_pos (by omega), ih]
    · rw [if_neg e, if_neg (by omega), h]
def zpT : List Th → List Th → List (Th × Th) := List.zip
theorem zip_ts : ∀ as bs : List Th, zipD (as.map Th.d) (bs.map Th.d) = (as.zip bs).map fun p => .tuple [p.1.d, p.2.d]
  | [], [] => rfl
  | [], _ :: _ => rfl
  | _ :: _, [] => rfl
  | a :: as, b :: bs => by
    show PyData.tuple [a.d, b.d] :: zipD (as.map Th.d) (bs.map Th.d) = _
    rw [zip_ts as bs]; rfl
theorem ltold_loop (r : Rw) (hr : Rw.ok r) (hrl : r.length ≤ 1000000) (w1 w2 : W) (n : Nat) : ∀ (as bs : List Th) (w3 w4 w5 : W),
    (∃ ρ', loopF (gMany [3, 4]) l_list_told_1 ((as.zip bs).map fun p => .tuple [p.1.d, p.2.d]) [.d (rowD r), w1, w2, w3, w4, w5] n = some (.nx (.d (rowD r) :: w1 :: w2 :: ρ') n) ∧ ltT r as bs = (if as.length > bs.length then 1 else 0) - (if as.length < bs.length then 1 else 0)) ∨
    loopF (gMany [3, 4]) l_list_told_1 ((as.zip bs).map fun p => .tuple [p.1.d, p.2.d]) [.d (rowD r), w1, w2, w3, w4, w5] n = some (.rt (I' (ltT r as bs)) n)
  | [], [], w3, w4, w5 => .inl ⟨_, rfl, rfl⟩
  | [], _ :: _, w3, w4, w5 => .inl ⟨_, rfl, by simp [ltT]⟩
  | _ :: _, [], w3, w4, w5 => .inl ⟨_, rfl, by simp [ltT]⟩
  | a :: as, b :: bs, w3, w4, w5 => by
    have ht := told_ok' r hr hrl a b n
    rw [List.zip_cons_cons, List.map_cons, loopF_cons]
    by_cases e : wrd r a b = 0
    · have hl : ltT r (a :: as) (b :: bs) = ltT r as bs := if_pos e
      rw [hl]
      have c2 : (wrd r a b == 0) = true := by simpa using e
      rcases ltold_loop r hr hrl w1 w2 n as bs (.d a.d) (.d b.d) (I' (wrd r a b)) with ⟨ρ', q1, q2⟩ | q
      · refine .inl ⟨ρ', ?_, by rw [q2]; simp⟩
        unfold l_list_told_1 at q1 ⊢
        simp -implicitDefEqProofs only [eVar_ap, dVar_ap, eC_ap, dOf_ap, eFrz_ap, eBin_ap, bTest_ap, bTru_ap, bAnd_ap, bOr_ap, bNot_ap, eIf_ap, eB_ap, eAnd_ap, eOr_ap, aNil_ap, aCons_ap, sNil_ap, sCons_ap, eTup_ap, eLst_ap, eCall_ap, eApp_ap, oNone_ap, oSome_ap, eSl_ap, sNil'_ap, sSeq_ap, sBrk_ap, sRet_ap, sRetN_ap, sRetO_ap, sDrop_ap, sIf_ap, sSet_ap, sApp_ap, sTown_ap, sExt_ap, sIns_ap, sSetIx_ap, sAsg_ap, sPar_ap, iOf_ap, iVal_ap, iRng1_ap, iRng2_ap, sFor_ap, eComp_ap, bYes_ap, frzAt_ap, eUn_ap, eNotD_ap, eOrD_ap, eChain_ap, eListRg1_ap, eIsa_ap, eMt_ap, iEnumV_ap, iEnumF_ap, iZipV_ap, iZipF_ap, eTLen_ap, iRng3D_ap, sEnd_ap, eSs_ap, sPar3_ap, xPop_ap, xTup1_ap, xCat_ap, sSetX_ap, sAppX_ap, sParO_ap, sForEI_ap, sForK_ap, runB_ap, gOne_ap, gMany_ap, dI_ap, yesC_ap, dCmp_int, setD, kill_nx, kill_rt, kill_bk, Option.bind_some, Option.map_some, Option.bind_none, Option.map_none, List.getElem?_cons_zero, List.getElem?_cons_succ, List.set_cons_zero, List.set_cons_succ, List.cons_append, List.nil_append, List.append_nil, List.replicate, List.length_cons, List.length_nil, Nat.reduceAdd, Nat.reduceSub, Nat.zero_add, wdat_no, wdat_d, wdat_town, wdat_ol, wdat_od, wfrz_no, wfrz_d, wfrz_town, wfrz_ol, wfrz_od, wval_no, wval_d, wval_town, wval_ol, wval_od, warg_no, warg_d, warg_town, warg_ol, warg_od, vals, gLen, gAbs, gMax2, gMin2, gInt, gTup, gList, wipeW, if_true, if_false, Bool.false_eq_true, Bool.not_true, Bool.not_false, reduceCtorEq, ht, dNe_int, c2, q1]
      · refine .inr ?_
        unfold l_list_told_1 at q ⊢
        simp -implicitDefEqProofs only [eVar_ap, dVar_ap, eC_ap, dOf_ap, eFrz_ap, eBin_ap, bTest_ap, bTru_ap, bAnd_ap, bOr_ap, bNot_ap, eIf_ap, eB_ap, eAnd_ap, eOr_ap, aNil_ap, aCons_ap, sNil_ap, sCons_ap, eTup_ap, eLst_ap, eCall_ap, eApp_ap, oNone_ap, oSome_ap, eSl_ap, sNil'_ap, sSeq_ap, sBrk_ap, sRet_ap, sRetN_ap, sRetO_ap, sDrop_ap, sIf_ap, sSet_ap, sApp_ap, sTown_ap, sExt_ap, sIns_ap, sSetIx_ap, sAsg_ap, sPar_ap, iOf_ap, iVal_ap, iRng1_ap, iRng2_ap, sFor_ap, eComp_ap, bYes_ap, frzAt_ap, eUn_ap, eNotD_ap, eOrD_ap, eChain_ap, eListRg1_ap, eIsa_ap, eMt_ap, iEnumV_ap, iEnumF_ap, iZipV_ap, iZipF_ap, eTLen_ap, iRng3D_ap, sEnd_ap, eSs_ap, sPar3_ap, xPop_ap, xTup1_ap, xCat_ap, sSetX_ap, sAppX_ap, sParO_ap, sForEI_ap, sForK_ap, runB_ap, gOne_ap, gMany_ap, dI_ap, yesC_ap, dCmp_int, setD, kill_nx, kill_rt, kill_bk, Option.bind_some, Option.map_some, Option.bind_none, Option.map_none, List.getElem?_cons_zero, List.getElem?_cons_succ, List.set_cons_zero, List.set_cons_succ, List.cons_append, List.nil_append, List.append_nil, List.replicate, List.length_cons, List.length_nil, Nat.reduceAdd, Nat.reduceSub, Nat.zero_add, wdat_no, wdat_d, wdat_town, wdat_ol, wdat_od, wfrz_no, wfrz_d, wfrz_town, wfrz_ol, wfrz_od, wval_no, wval_d, wval_town, wval_ol, wval_od, warg_no, warg_d, warg_town, warg_ol, warg_od, vals, gLen, gAbs, gMax2, gMin2, gInt, gTup, gList, wipeW, if_true, if_false, Bool.false_eq_true, Bool.not_true, Bool.not_false, reduceCtorEq, ht, dNe_int, c2, q]
    · have hl : ltT r (a :: as) (b :: bs) = wrd r a b := if_neg e
      have c2 : (wrd r a b == 0) = false := by simpa using e
      refine .inr ?_
      rw [hl]
      unfold l_list_told_1
      simp -implicitDefEqProofs only [eVar_ap, dVar_ap, eC_ap, dOf_ap, eFrz_ap, eBin_ap, bTest_ap, bTru_ap, bAnd_ap, bOr_ap, bNot_ap, eIf_ap, eB_ap, eAnd_ap, eOr_ap, aNil_ap, aCons_ap, sNil_ap, sCons_ap, eTup_ap, eLst_ap, eCall_ap, eApp_ap, oNone_ap, oSome_ap, eSl_ap, sNil'_ap, sSeq_ap, sBrk_ap, sRet_ap, sRetN_ap, sRetO_ap, sDrop_ap, sIf_ap, sSet_ap, sApp_ap, sTown_ap, sExt_ap, sIns_ap, sSetIx_ap, sAsg_ap, sPar_ap, iOf_ap, iVal_ap, iRng1_ap, iRng2_ap, sFor_ap, eComp_ap, bYes_ap, frzAt_ap, eUn_ap, eNotD_ap, eOrD_ap, eChain_ap, eListRg1_ap, eIsa_ap, eMt_ap, iEnumV_ap, iEnumF_ap, iZipV_ap, iZipF_ap, eTLen_ap, iRng3D_ap, sEnd_ap, eSs_ap, sPar3_ap, xPop_ap, xTup1_ap, xCat_ap, sSetX_ap, sAppX_ap, sParO_ap, sForEI_ap, sForK_ap, runB_ap, gOne_ap, gMany_ap, dI_ap, yesC_ap, dCmp_int, setD, kill_nx, kill_rt, kill_bk, Option.bind_some, Option.map_some, Option.bind_none, Option.map_none, List.getElem?_cons_zero, List.getElem?_cons_succ, List.set_cons_zero, List.set_cons_succ, List.cons_append, List.nil_append, List.append_nil, List.replicate, List.length_cons, List.length_nil, Nat.reduceAdd, Nat.reduceSub, Nat.zero_add, wdat_no, wdat_d, wdat_town, wdat_ol, wdat_od, wfrz_no, wfrz_d, wfrz_town, wfrz_ol, wfrz_od, wval_no, wval_d, wval_town, wval_ol, wval_od, warg_no, warg_d, warg_town, warg_ol, warg_od, vals, gLen, gAbs, gMax2, gMin2, gInt, gTup, gList, wipeW, if_true, if_false, Bool.false_eq_true, Bool.not_true, Bool.not_false, reduceCtorEq, ht, dNe_int, c2]
theorem list_told_ok (r : Rw) (hr : Rw.ok r) (hrl : r.length ≤ 1000000) (as bs : List Th) (n : Nat) : m_list_told [.d (rowD r), .d (tsD as), .d (tsD bs)] n = some (I' (ltT r as bs), n) := by
  unfold m_list_told b_list_told
  rcases ltold_loop r hr hrl (.d (tsD as)) (.d (tsD bs)) n as bs .no .no .no with ⟨ρ', q1, q2⟩ | q
  · simp -implicitDefEqProofs only [eVar_ap, dVar_ap, eC_ap, dOf_ap, eFrz_ap, eBin_ap, bTest_ap, bTru_ap, bAnd_ap, bOr_ap, bNot_ap, eIf_ap, eB_ap, eAnd_ap, eOr_ap, aNil_ap, aCons_ap, sNil_ap, sCons_ap, eTup_ap, eLst_ap, eCall_ap, eApp_ap, oNone_ap, oSome_ap, eSl_ap, sNil'_ap, sSeq_ap, sBrk_ap, sRet_ap, sRetN_ap, sRetO_ap, sDrop_ap, sIf_ap, sSet_ap, sApp_ap, sTown_ap, sExt_ap, sIns_ap, sSetIx_ap, sAsg_ap, sPar_ap, iOf_ap, iVal_ap, iRng1_ap, iRng2_ap, sFor_ap, eComp_ap, bYes_ap, frzAt_ap, eUn_ap, eNotD_ap, eOrD_ap, eChain_ap, eListRg1_ap, eIsa_ap, eMt_ap, iEnumV_ap, iEnumF_ap, iZipV_ap, iZipF_ap, eTLen_ap, iRng3D_ap, sEnd_ap, eSs_ap, sPar3_ap, xPop_ap, xTup1_ap, xCat_ap, sSetX_ap, sAppX_ap, sParO_ap, sForEI_ap, sForK_ap, runB_ap, gOne_ap, gMany_ap, dI_ap, yesC_ap, dCmp_int, setD, kill_nx, kill_rt, kill_bk, Option.bind_some, Option.map_some, Option.bind_none, Option.map_none, List.getElem?_cons_zero, List.getElem?_cons_succ, List.set_cons_zero, List.set_cons_succ, List.cons_append, List.nil_append, List.append_nil, List.replicate, List.length_cons, List.length_nil, Nat.reduceAdd, Nat.reduceSub, Nat.zero_add, wdat_no, wdat_d, wdat_town, wdat_ol, wdat_od, wfrz_no, wfrz_d, wfrz_town, wfrz_ol, wfrz_od, wval_no, wval_d, wval_town, wval_ol, wval_od, warg_no, warg_d, warg_town, warg_ol, warg_od, vals, gLen, gAbs, gMax2, gMin2, gInt, gTup, gList, wipeW, if_true, if_false, Bool.false_eq_true, Bool.not_true, Bool.not_false, reduceCtorEq, zipOk, zip_ts, q1, List.length_map, dSub_int]
    rw [q2]
    have h1 : rGt (as.length : Int) (bs.length : Int) = decide (as.length > bs.length) := by unfold rGt; rw [Bool.eq_iff_iff]; simp
    have h2 : rLt (as.length : Int) (bs.length : Int) = decide (as.length < bs.length) := by unfold rLt; rw [Bool.eq_iff_iff]; simp
    rw [h1, h2]
    simp
  · simp -implicitDefEqProofs only [eVar_ap, dVar_ap, eC_ap, dOf_ap, eFrz_ap, eBin_ap, bTest_ap, bTru_ap, bAnd_ap, bOr_ap, bNot_ap, eIf_ap, eB_ap, eAnd_ap, eOr_ap, aNil_ap, aCons_ap, sNil_ap, sCons_ap, eTup_ap, eLst_ap, eCall_ap, eApp_ap, oNone_ap, oSome_ap, eSl_ap, sNil'_ap, sSeq_ap, sBrk_ap, sRet_ap, sRetN_ap, sRetO_ap, sDrop_ap, sIf_ap, sSet_ap, sApp_ap, sTown_ap, sExt_ap, sIns_ap, sSetIx_ap, sAsg_ap, sPar_ap, iOf_ap, iVal_ap, iRng1_ap, iRng2_ap, sFor_ap, eComp_ap, bYes_ap, frzAt_ap, eUn_ap, eNotD_ap, eOrD_ap, eChain_ap, eListRg1_ap, eIsa_ap, eMt_ap, iEnumV_ap, iEnumF_ap, iZipV_ap, iZipF_ap, eTLen_ap, iRng3D_ap, sEnd_ap, eSs_ap, sPar3_ap, xPop_ap, xTup1_ap, xCat_ap, sSetX_ap, sAppX_ap, sParO_ap, sForEI_ap, sForK_ap, runB_ap, gOne_ap, gMany_ap, dI_ap, yesC_ap, dCmp_int, setD, kill_nx, kill_rt, kill_bk, Option.bind_some, Option.map_some, Option.bind_none, Option.map_none, List.getElem?_cons_zero, List.getElem?_cons_succ, List.set_cons_zero, List.set_cons_succ, List.cons_append, List.nil_append, List.append_nil, List.replicate, List.length_cons, List.length_nil, Nat.reduceAdd, Nat.reduceSub, Nat.zero_add, wdat_no, wdat_d, wdat_town, wdat_ol, wdat_od, wfrz_no, wfrz_d, wfrz_town, wfrz_ol, wfrz_od, wval_no, wval_d, wval_town, wval_ol, wval_od, warg_no, warg_d, warg_town, warg_ol, warg_od, vals, gLen, gAbs, gMax2, gMin2, gInt, gTup, gList, wipeW, if_true, if_false, Bool.false_eq_true, Bool.not_true, Bool.not_false, reduceCtorEq, zipOk, zip_ts, q]
theorem llists_loop (r : Rw) (hr : Rw.ok r) (as bs : List Th) (ha : ∀ t ∈ as, t.ok) (hb : ∀ t ∈ bs, t.ok) (n : Nat) : ∀ (m k : Nat) (w3 w4 : W), k + m = min as.length bs.length →
    (∃ w3' w4', loopF (gOne 3) l__law_lists_1 ((List.range' k m).map fun (i : Nat) => .int (i : Int)) [.d (rowD r), .d (tsD as), .d (tsD bs), w3, w4] n = some (.nx [.d (rowD r), .d (tsD as), .d (tsD bs), w3', w4'] n) ∧ ltT r (as.drop k) (bs.drop k) = if as.length = bs.length then 0 else if as.length < bs.length then -1 else 1) ∨
    loopF (gOne 3) l__law_lists_1 ((List.range' k m).map fun (i : Nat) => .int (i : Int)) [.d (rowD r), .d (tsD as), .d (tsD bs), w3, w4] n = some (.rt (I' (ltT r (as.drop k) (bs.drop k))) n)
  | 0, k, w3, w4, h => by
    refine .inl ⟨w3, w4, rfl, ?_⟩
    rcases Nat.lt_trichotomy as.length bs.length with c | c | c
    · have h1 : as.drop k = [] := List.drop_eq_nil_iff.mpr (by omega)
      obtain ⟨b, bs', h2⟩ : ∃ b bs', bs.drop k = b :: bs' := by
        cases e : bs.drop k with
        | nil => have := List.drop_eq_nil_iff.mp e; omega
        | cons b bs' => exact ⟨b, bs', rfl⟩
      rw [h1, h2, if_neg (by omega), if_pos c]; rfl
    · have h1 : as.drop k = [] := List.drop_eq_nil_iff.mpr (by omega)
      have h2 : bs.drop k = [] := List.drop_eq_nil_iff.mpr (by omega)
      rw [h1, h2, if_pos c]; rfl
    · have h1 : bs.drop k = [] := List.drop_eq_nil_iff.mpr (by omega)
      obtain ⟨b, bs', h2⟩ : ∃ b bs', as.drop k = b :: bs' := by
        cases e : as.drop k with
        | nil => have := List.drop_eq_nil_iff.mp e; omega
        | cons b bs' => exact ⟨b, bs', rfl⟩
      rw [h1, h2, if_neg (by omega), if_neg (by omega)]; rfl
  | m + 1, k, w3, w4, h => by
    have la : k < as.length := by omega
    have lb : k < bs.length := by omega
    have x1 := ixTsN as k la
    have x2 := ixTsN bs k lb
    have hw := word_ok r hr as[k] bs[k] (ha _ (List.getElem_mem _)) (hb _ (List.getElem_mem _)) n
    rw [List.drop_eq_getElem_cons la, List.drop_eq_getElem_cons lb]
    show (∃ w3' w4', loopF (gOne 3) l__law_lists_1 (.int (k : Int) :: (List.range' (k + 1) m).map fun (i : Nat) => .int (i : Int)) _ n = _ ∧ _) ∨ loopF (gOne 3) l__law_lists_1 (.int (k : Int) :: (List.range' (k + 1) m).map fun (i : Nat) => .int (i : Int)) _ n = _
    rw [loopF_cons]
    by_cases e : wrd r as[k] bs[k] = 0
    · have hl : ltT r (as[k] :: as.drop (k + 1)) (bs[k] :: bs.drop (k + 1)) = ltT r (as.drop (k + 1)) (bs.drop (k + 1)) := if_pos e
      rw [hl]
      have c2 : (wrd r as[k] bs[k] == 0) = true := by simpa using e
      rcases llists_loop r hr as bs ha hb n m (k + 1) (I' k) (I' (wrd r as[k] bs[k])) (by omega) with ⟨v3, v4, q1, q2⟩ | q
      · refine .inl ⟨v3, v4, ?_, q2⟩
        unfold l__law_lists_1 at q1 ⊢
        simp -implicitDefEqProofs only [eVar_ap, dVar_ap, eC_ap, dOf_ap, eFrz_ap, eBin_ap, bTest_ap, bTru_ap, bAnd_ap, bOr_ap, bNot_ap, eIf_ap, eB_ap, eAnd_ap, eOr_ap, aNil_ap, aCons_ap, sNil_ap, sCons_ap, eTup_ap, eLst_ap, eCall_ap, eApp_ap, oNone_ap, oSome_ap, eSl_ap, sNil'_ap, sSeq_ap, sBrk_ap, sRet_ap, sRetN_ap, sRetO_ap, sDrop_ap, sIf_ap, sSet_ap, sApp_ap, sTown_ap, sExt_ap, sIns_ap, sSetIx_ap, sAsg_ap, sPar_ap, iOf_ap, iVal_ap, iRng1_ap, iRng2_ap, sFor_ap, eComp_ap, bYes_ap, frzAt_ap, eUn_ap, eNotD_ap, eOrD_ap, eChain_ap, eListRg1_ap, eIsa_ap, eMt_ap, iEnumV_ap, iEnumF_ap, iZipV_ap, iZipF_ap, eTLen_ap, iRng3D_ap, sEnd_ap, eSs_ap, sPar3_ap, xPop_ap, xTup1_ap, xCat_ap, sSetX_ap, sAppX_ap, sParO_ap, sForEI_ap, sForK_ap, runB_ap, gOne_ap, gMany_ap, dI_ap, yesC_ap, dCmp_int, setD, kill_nx, kill_rt, kill_bk, Option.bind_some, Option.map_some, Option.bind_none, Option.map_none, List.getElem?_cons_zero, List.getElem?_cons_succ, List.set_cons_zero, List.set_cons_succ, List.cons_append, List.nil_append, List.append_nil, List.replicate, List.length_cons, List.length_nil, Nat.reduceAdd, Nat.reduceSub, Nat.zero_add, wdat_no, wdat_d, wdat_town, wdat_ol, wdat_od, wfrz_no, wfrz_d, wfrz_town, wfrz_ol, wfrz_od, wval_no, wval_d, wval_town, wval_ol, wval_od, warg_no, warg_d, warg_town, warg_ol, warg_od, vals, gLen, gAbs, gMax2, gMin2, gInt, gTup, gList, wipeW, if_true, if_false, Bool.false_eq_true, Bool.not_true, Bool.not_false, reduceCtorEq, x1, x2, hw, dNe_int, c2, q1]
      · refine .inr ?_
        unfold l__law_lists_1 at q ⊢
        simp -implicitDefEqProofs only [eVar_ap, dVar_ap, eC_ap, dOf_ap, eFrz_ap, eBin_ap, bTest_ap, bTru_ap, bAnd_ap, bOr_ap, bNot_ap, eIf_ap, eB_ap, eAnd_ap, eOr_ap, aNil_ap, aCons_ap, sNil_ap, sCons_ap, eTup_ap, eLst_ap, eCall_ap, eApp_ap, oNone_ap, oSome_ap, eSl_ap, sNil'_ap, sSeq_ap, sBrk_ap, sRet_ap, sRetN_ap, sRetO_ap, sDrop_ap, sIf_ap, sSet_ap, sApp_ap, sTown_ap, sExt_ap, sIns_ap, sSetIx_ap, sAsg_ap, sPar_ap, iOf_ap, iVal_ap, iRng1_ap, iRng2_ap, sFor_ap, eComp_ap, bYes_ap, frzAt_ap, eUn_ap, eNotD_ap, eOrD_ap, eChain_ap, eListRg1_ap, eIsa_ap, eMt_ap, iEnumV_ap, iEnumF_ap, iZipV_ap, iZipF_ap, eTLen_ap, iRng3D_ap, sEnd_ap, eSs_ap, sPar3_ap, xPop_ap, xTup1_ap, xCat_ap, sSetX_ap, sAppX_ap, sParO_ap, sForEI_ap, sForK_ap, runB_ap, gOne_ap, gMany_ap, dI_ap, yesC_ap, dCmp_int, setD, kill_nx, kill_rt, kill_bk, Option.bind_some, Option.map_some, Option.bind_none, Option.map_none, List.getElem?_cons_zero, List.getElem?_cons_succ, List.set_cons_zero, List.set_cons_succ, List.cons_append, List.nil_append, List.append_nil, List.replicate, List.length_cons, List.length_nil, Nat.reduceAdd, Nat.reduceSub, Nat.zero_add, wdat_no, wdat_d, wdat_town, wdat_ol, wdat_od, wfrz_no, wfrz_d, wfrz_town, wfrz_ol, wfrz_od, wval_no, wval_d, wval_town, wval_ol, wval_od, warg_no, warg_d, warg_town, warg_ol, warg_od, vals, gLen, gAbs, gMax2, gMin2, gInt, gTup, gList, wipeW, if_true, if_false, Bool.false_eq_true, Bool.not_true, Bool.not_false, reduceCtorEq, x1, x2, hw, dNe_int, c2, q]
    · have hl : ltT r (as[k] :: as.drop (k + 1)) (bs[k] :: bs.drop (k + 1)) = wrd r as[k] bs[k] := if_neg e
      rw [hl]
      have c2 : (wrd r as[k] bs[k] == 0) = false := by simpa using e
      refine .inr ?_
      unfold l__law_lists_1
      simp -implicitDefEqProofs only [eVar_ap, dVar_ap, eC_ap, dOf_ap, eFrz_ap, eBin_ap, bTest_ap, bTru_ap, bAnd_ap, bOr_ap, bNot_ap, eIf_ap, eB_ap, eAnd_ap, eOr_ap, aNil_ap, aCons_ap, sNil_ap, sCons_ap, eTup_ap, eLst_ap, eCall_ap, eApp_ap, oNone_ap, oSome_ap, eSl_ap, sNil'_ap, sSeq_ap, sBrk_ap, sRet_ap, sRetN_ap, sRetO_ap, sDrop_ap, sIf_ap, sSet_ap, sApp_ap, sTown_ap, sExt_ap, sIns_ap, sSetIx_ap, sAsg_ap, sPar_ap, iOf_ap, iVal_ap, iRng1_ap, iRng2_ap, sFor_ap, eComp_ap, bYes_ap, frzAt_ap, eUn_ap, eNotD_ap, eOrD_ap, eChain_ap, eListRg1_ap, eIsa_ap, eMt_ap, iEnumV_ap, iEnumF_ap, iZipV_ap, iZipF_ap, eTLen_ap, iRng3D_ap, sEnd_ap, eSs_ap, sPar3_ap, xPop_ap, xTup1_ap, xCat_ap, sSetX_ap, sAppX_ap, sParO_ap, sForEI_ap, sForK_ap, runB_ap, gOne_ap, gMany_ap, dI_ap, yesC_ap, dCmp_int, setD, kill_nx, kill_rt, kill_bk, Option.bind_some, Option.map_some, Option.bind_none, Option.map_none, List.getElem?_cons_zero, List.getElem?_cons_succ, List.set_cons_zero, List.set_cons_succ, List.cons_append, List.nil_append, List.append_nil, List.replicate, List.length_cons, List.length_nil, Nat.reduceAdd, Nat.reduceSub, Nat.zero_add, wdat_no, wdat_d, wdat_town, wdat_ol, wdat_od, wfrz_no, wfrz_d, wfrz_town, wfrz_ol, wfrz_od, wval_no, wval_d, wval_town, wval_ol, wval_od, warg_no, warg_d, warg_town, warg_ol, warg_od, vals, gLen, gAbs, gMax2, gMin2, gInt, gTup, gList, wipeW, if_true, if_false, Bool.false_eq_true, Bool.not_true, Bool.not_false, reduceCtorEq, x1, x2, hw, dNe_int, c2]
end L2.Lv.Sh
namespace L2.Lv.Sh
open PySem PySem.Spec PyProof.Rows L2 L2.Lv
theorem llists_ok (r : Rw) (hr : Rw.ok r) (as bs : List Th) (ha : ∀ t ∈ as, t.ok) (hb : ∀ t ∈ bs, t.ok) (hl : as.length ≤ 1000) (hl2 : bs.length ≤ 1000) (n : Nat) : m__law_lists [.d (rowD r), .d (tsD as), .d (tsD bs)] n = some (I' (ltT r as bs), n) := by
  have hm : gMin2 [.int (as.length : Int), .int (bs.length : Int)] = some (.d (.int ((min as.length bs.length : Nat) : Int))) := by
    simp only [gMin2]
    congr 3
    split <;> omega
  have hr2 : rng1 (.int ((min as.length bs.length : Nat) : Int)) = some ((List.range' 0 (min as.length bs.length)).map fun (i : Nat) => .int (i : Int)) := by
    rw [rng1_ok (by omega) (by omega)]
    simp only [rangeD, Int.toNat_natCast, List.range_eq_range']
    exact congrArg some (List.map_congr_left fun k _ => by rw [Int.zero_add])
  have hq := llists_loop r hr as bs ha hb n (min as.length bs.length) 0 .no .no (by omega)
  rw [List.drop_zero, List.drop_zero] at hq
  unfold m__law_lists b__law_lists
  generalize hmn : ((min as.length bs.length : Nat) : Int) = mm at hm hr2
  have e0 : eApp gMin2 (sCons (dOf (eApp gLen (sCons (dVar 1) sNil))) (sCons (dOf (eApp gLen (sCons (dVar 2) sNil))) sNil)) [.d (rowD r), .d (tsD as), .d (tsD bs), .no, .no] n = some (.d (.int mm), n) := by
    rw [eApp_ap]
    have : sCons (dOf (eApp gLen (sCons (dVar 1) sNil))) (sCons (dOf (eApp gLen (sCons (dVar 2) sNil))) sNil) [.d (rowD r), .d (tsD as), .d (tsD bs), .no, .no] n = some ([.int (as.length : Int), .int (bs.length : Int)], n) := by
      simp -implicitDefEqProofs only [eVar_ap, dVar_ap, eC_ap, dOf_ap, eFrz_ap, eBin_ap, bTest_ap, bTru_ap, bAnd_ap, bOr_ap, bNot_ap, eIf_ap, eB_ap, eAnd_ap, eOr_ap, aNil_ap, aCons_ap, sNil_ap, sCons_ap, eTup_ap, eLst_ap, eCall_ap, eApp_ap, oNone_ap, oSome_ap, eSl_ap, sNil'_ap, sSeq_ap, sBrk_ap, sRet_ap, sRetN_ap, sRetO_ap, sDrop_ap, sIf_ap, sSet_ap, sApp_ap, sTown_ap, sExt_ap, sIns_ap, sSetIx_ap, sAsg_ap, sPar_ap, iOf_ap, iVal_ap, iRng1_ap, iRng2_ap, sFor_ap, eComp_ap, bYes_ap, frzAt_ap, eUn_ap, eNotD_ap, eOrD_ap, eChain_ap, eListRg1_ap, eIsa_ap, eMt_ap, iEnumV_ap, iEnumF_ap, iZipV_ap, iZipF_ap, eTLen_ap, iRng3D_ap, sEnd_ap, eSs_ap, sPar3_ap, xPop_ap, xTup1_ap, xCat_ap, sSetX_ap, sAppX_ap, sParO_ap, sForEI_ap, sForK_ap, runB_ap, gOne_ap, gMany_ap, dI_ap, yesC_ap, dCmp_int, setD, kill_nx, kill_rt, kill_bk, Option.bind_some, Option.map_some, Option.bind_none, Option.map_none, List.getElem?_cons_zero, List.getElem?_cons_succ, List.set_cons_zero, List.set_cons_succ, List.cons_append, List.nil_append, List.append_nil, List.replicate, List.length_cons, List.length_nil, Nat.reduceAdd, Nat.reduceSub, Nat.zero_add, wdat_no, wdat_d, wdat_town, wdat_ol, wdat_od, wfrz_no, wfrz_d, wfrz_town, wfrz_ol, wfrz_od, wval_no, wval_d, wval_town, wval_ol, wval_od, warg_no, warg_d, warg_town, warg_ol, warg_od, vals, gLen, gAbs, gMax2, gMin2, gInt, gTup, gList, wipeW, if_true, if_false, Bool.false_eq_true, Bool.not_true, Bool.not_false, reduceCtorEq, List.length_map]
    rw [this, Option.bind_some, hm]; rfl
  have e1 : dOf (eApp gMin2 (sCons (dOf (eApp gLen (sCons (dVar 1) sNil))) (sCons (dOf (eApp gLen (sCons (dVar 2) sNil))) sNil))) [.d (rowD r), .d (tsD as), .d (tsD bs), .no, .no] n = some (.int mm, n) := by
    rw [dOf_ap, e0]; rfl
  have e2 : iRng1 (dOf (eApp gMin2 (sCons (dOf (eApp gLen (sCons (dVar 1) sNil))) (sCons (dOf (eApp gLen (sCons (dVar 2) sNil))) sNil)))) [.d (rowD r), .d (tsD as), .d (tsD bs), .no, .no] n = some ((List.range' 0 (min as.length bs.length)).map fun (i : Nat) => .int (i : Int), n) := by
    rw [iRng1_ap, e1, Option.bind_some, hr2]; rfl
  have e3 : sFor (iRng1 (dOf (eApp gMin2 (sCons (dOf (eApp gLen (sCons (dVar 1) sNil))) (sCons (dOf (eApp gLen (sCons (dVar 2) sNil))) sNil))))) (gOne 3) l__law_lists_1 [.d (rowD r), .d (tsD as), .d (tsD bs), .no, .no] n = loopF (gOne 3) l__law_lists_1 ((List.range' 0 (min as.length bs.length)).map fun (i : Nat) => .int (i : Int)) [.d (rowD r), .d (tsD as), .d (tsD bs), .no, .no] n := by
    rw [sFor_ap, e2]; rfl
  have hst : [W.d (rowD r), .d (tsD as), .d (tsD bs)] ++ List.replicate (5 - [W.d (rowD r), .d (tsD as), .d (tsD bs)].length) .no = [.d (rowD r), .d (tsD as), .d (tsD bs), .no, .no] := rfl
  rw [runB_ap, hst, sSeq_ap, e3]
  rcases hq with ⟨v3, v4, q1, q2⟩ | q
  · rw [q1, q2]
    by_cases c : as.length = bs.length
    · have c2 : ((bs.length : Int) == (bs.length : Int)) = true := beq_self_eq_true _
      simp -implicitDefEqProofs only [eVar_ap, dVar_ap, eC_ap, dOf_ap, eFrz_ap, eBin_ap, bTest_ap, bTru_ap, bAnd_ap, bOr_ap, bNot_ap, eIf_ap, eB_ap, eAnd_ap, eOr_ap, aNil_ap, aCons_ap, sNil_ap, sCons_ap, eTup_ap, eLst_ap, eCall_ap, eApp_ap, oNone_ap, oSome_ap, eSl_ap, sNil'_ap, sSeq_ap, sBrk_ap, sRet_ap, sRetN_ap, sRetO_ap, sDrop_ap, sIf_ap, sSet_ap, sApp_ap, sTown_ap, sExt_ap, sIns_ap, sSetIx_ap, sAsg_ap, sPar_ap, iOf_ap, iVal_ap, iRng1_ap, iRng2_ap, sFor_ap, eComp_ap, bYes_ap, frzAt_ap, eUn_ap, eNotD_ap, eOrD_ap, eChain_ap, eListRg1_ap, eIsa_ap, eMt_ap, iEnumV_ap, iEnumF_ap, iZipV_ap, iZipF_ap, eTLen_ap, iRng3D_ap, sEnd_ap, eSs_ap, sPar3_ap, xPop_ap, xTup1_ap, xCat_ap, sSetX_ap, sAppX_ap, sParO_ap, sForEI_ap, sForK_ap, runB_ap, gOne_ap, gMany_ap, dI_ap, yesC_ap, dCmp_int, setD, kill_nx, kill_rt, kill_bk, Option.bind_some, Option.map_some, Option.bind_none, Option.map_none, List.getElem?_cons_zero, List.getElem?_cons_succ, List.set_cons_zero, List.set_cons_succ, List.cons_append, List.nil_append, List.append_nil, List.replicate, List.length_cons, List.length_nil, Nat.reduceAdd, Nat.reduceSub, Nat.zero_add, wdat_no, wdat_d, wdat_town, wdat_ol, wdat_od, wfrz_no, wfrz_d, wfrz_town, wfrz_ol, wfrz_od, wval_no, wval_d, wval_town, wval_ol, wval_od, warg_no, warg_d, warg_town, warg_ol, warg_od, vals, gLen, gAbs, gMax2, gMin2, gInt, gTup, gList, wipeW, if_true, if_false, Bool.false_eq_true, Bool.not_true, Bool.not_false, reduceCtorEq, List.length_map, dEq_int, c2, c]
    · have c2 : ((as.length : Int) == (bs.length : Int)) = false := by rw [beq_eq_false_iff_ne]; omega
      by_cases d : as.length < bs.length
      · simp -implicitDefEqProofs only [eVar_ap, dVar_ap, eC_ap, dOf_ap, eFrz_ap, eBin_ap, bTest_ap, bTru_ap, bAnd_ap, bOr_ap, bNot_ap, eIf_ap, eB_ap, eAnd_ap, eOr_ap, aNil_ap, aCons_ap, sNil_ap, sCons_ap, eTup_ap, eLst_ap, eCall_ap, eApp_ap, oNone_ap, oSome_ap, eSl_ap, sNil'_ap, sSeq_ap, sBrk_ap, sRet_ap, sRetN_ap, sRetO_ap, sDrop_ap, sIf_ap, sSet_ap, sApp_ap, sTown_ap, sExt_ap, sIns_ap, sSetIx_ap, sAsg_ap, sPar_ap, iOf_ap, iVal_ap, iRng1_ap, iRng2_ap, sFor_ap, eComp_ap, bYes_ap, frzAt_ap, eUn_ap, eNotD_ap, eOrD_ap, eChain_ap, eListRg1_ap, eIsa_ap, eMt_ap, iEnumV_ap, iEnumF_ap, iZipV_ap, iZipF_ap, eTLen_ap, iRng3D_ap, sEnd_ap, eSs_ap, sPar3_ap, xPop_ap, xTup1_ap, xCat_ap, sSetX_ap, sAppX_ap, sParO_ap, sForEI_ap, sForK_ap, runB_ap, gOne_ap, gMany_ap, dI_ap, yesC_ap, dCmp_int, setD, kill_nx, kill_rt, kill_bk, Option.bind_some, Option.map_some, Option.bind_none, Option.map_none, List.getElem?_cons_zero, List.getElem?_cons_succ, List.set_cons_zero, List.set_cons_succ, List.cons_append, List.nil_append, List.append_nil, List.replicate, List.length_cons, List.length_nil, Nat.reduceAdd, Nat.reduceSub, Nat.zero_add, wdat_no, wdat_d, wdat_town, wdat_ol, wdat_od, wfrz_no, wfrz_d, wfrz_town, wfrz_ol, wfrz_od, wval_no, wval_d, wval_town, wval_ol, wval_od, warg_no, warg_d, warg_town, warg_ol, warg_od, vals, gLen, gAbs, gMax2, gMin2, gInt, gTup, gList, wipeW, if_true, if_false, Bool.false_eq_true, Bool.not_true, Bool.not_false, reduceCtorEq, List.length_map, dEq_int, c2, c, rLt_t (show (as.length : Int) < bs.length by omega), d, dNeg]
      · simp -implicitDefEqProofs only [eVar_ap, dVar_ap, eC_ap, dOf_ap, eFrz_ap, eBin_ap, bTest_ap, bTru_ap, bAnd_ap, bOr_ap, bNot_ap, eIf_ap, eB_ap, eAnd_ap, eOr_ap, aNil_ap, aCons_ap, sNil_ap, sCons_ap, eTup_ap, eLst_ap, eCall_ap, eApp_ap, oNone_ap, oSome_ap, eSl_ap, sNil'_ap, sSeq_ap, sBrk_ap, sRet_ap, sRetN_ap, sRetO_ap, sDrop_ap, sIf_ap, sSet_ap, sApp_ap, sTown_ap, sExt_ap, sIns_ap, sSetIx_ap, sAsg_ap, sPar_ap, iOf_ap, iVal_ap, iRng1_ap, iRng2_ap, sFor_ap, eComp_ap, bYes_ap, frzAt_ap, eUn_ap, eNotD_ap, eOrD_ap, eChain_ap, eListRg1_ap, eIsa_ap, eMt_ap, iEnumV_ap, iEnumF_ap, iZipV_ap, iZipF_ap, eTLen_ap, iRng3D_ap, sEnd_ap, eSs_ap, sPar3_ap, xPop_ap, xTup1_ap, xCat_ap, sSetX_ap, sAppX_ap, sParO_ap, sForEI_ap, sForK_ap, runB_ap, gOne_ap, gMany_ap, dI_ap, yesC_ap, dCmp_int, setD, kill_nx, kill_rt, kill_bk, Option.bind_some, Option.map_some, Option.bind_none, Option.map_none, List.getElem?_cons_zero, List.getElem?_cons_succ, List.set_cons_zero, List.set_cons_succ, List.cons_append, List.nil_append, List.append_nil, List.replicate, List.length_cons, List.length_nil, Nat.reduceAdd, Nat.reduceSub, Nat.zero_add, wdat_no, wdat_d, wdat_town, wdat_ol, wdat_od, wfrz_no, wfrz_d, wfrz_town, wfrz_ol, wfrz_od, wval_no, wval_d, wval_town, wval_ol, wval_od, warg_no, warg_d, warg_town, warg_ol, warg_od, vals, gLen, gAbs, gMax2, gMin2, gInt, gTup, gList, wipeW, if_true, if_false, Bool.false_eq_true, Bool.not_true, Bool.not_false, reduceCtorEq, List.length_map, dEq_int, c2, c, rLt_f (show ¬ (as.length : Int) < bs.length by omega), d, dNeg]
  · rw [q]
    simp -implicitDefEqProofs only [eVar_ap, dVar_ap, eC_ap, dOf_ap, eFrz_ap, eBin_ap, bTest_ap, bTru_ap, bAnd_ap, bOr_ap, bNot_ap, eIf_ap, eB_ap, eAnd_ap, eOr_ap, aNil_ap, aCons_ap, sNil_ap, sCons_ap, eTup_ap, eLst_ap, eCall_ap, eApp_ap, oNone_ap, oSome_ap, eSl_ap, sNil'_ap, sSeq_ap, sBrk_ap, sRet_ap, sRetN_ap, sRetO_ap, sDrop_ap, sIf_ap, sSet_ap, sApp_ap, sTown_ap, sExt_ap, sIns_ap, sSetIx_ap, sAsg_ap, sPar_ap, iOf_ap, iVal_ap, iRng1_ap, iRng2_ap, sFor_ap, eComp_ap, bYes_ap, frzAt_ap, eUn_ap, eNotD_ap, eOrD_ap, eChain_ap, eListRg1_ap, eIsa_ap, eMt_ap, iEnumV_ap, iEnumF_ap, iZipV_ap, iZipF_ap, eTLen_ap, iRng3D_ap, sEnd_ap, eSs_ap, sPar3_ap, xPop_ap, xTup1_ap, xCat_ap, sSetX_ap, sAppX_ap, sParO_ap, sForEI_ap, sForK_ap, runB_ap, gOne_ap, gMany_ap, dI_ap, yesC_ap, dCmp_int, setD, kill_nx, kill_rt, kill_bk, Option.bind_some, Option.map_some, Option.bind_none, Option.map_none, List.getElem?_cons_zero, List.getElem?_cons_succ, List.set_cons_zero, List.set_cons_succ, List.cons_append, List.nil_append, List.append_nil, List.replicate, List.length_cons, List.length_nil, Nat.reduceAdd, Nat.reduceSub, Nat.zero_add, wdat_no, wdat_d, wdat_town, wdat_ol, wdat_od, wfrz_no, wfrz_d, wfrz_town, wfrz_ol, wfrz_od, wval_no, wval_d, wval_town, wval_ol, wval_od, warg_no, warg_d, warg_town, warg_ol, warg_od, vals, gLen, gAbs, gMax2, gMin2, gInt, gTup, gList, wipeW, if_true, if_false, Bool.false_eq_true, Bool.not_true, Bool.not_false, reduceCtorEq]
theorem cutD_take' (xs : List PyData) (k : Nat) : cutD xs none (some (k : Int)) = xs.take k := by
  unfold cutD
  rw [HT.sIx_none, HT.sIx_nat]
  simp [List.take_eq_take_iff]
theorem cutD_m2 (xs : List PyData) : cutD xs (some (-2)) none = xs.drop (xs.length - 2) := by
  have h : HT.sIx xs.length 0 (some (-2)) = xs.length - 2 := by
    unfold HT.sIx
    simp
    try omega
  unfold cutD
  rw [HT.sIx_none, h, ← List.length_drop, List.take_length]
end L2.Lv.Sh
namespace L2.Lv.Sh
open PySem PySem.Spec PyProof.Rows L2 L2.Lv
/-! the one list in order, by its classes -/
def eqv (r : Rw) (x : Th) (l : List Th) : List Th := l.filter fun y => wrd r x y == 0
def srted (r : Rw) (l : List Th) : Prop := l.Pairwise fun s t => wrd r s t < 1
/-- l is ts put in order, what is alike left as it stood -/
def Is (r : Rw) (l ts : List Th) : Prop := srted r l ∧ ∀ x, eqv r x l = eqv r x ts
theorem mem_eqv {r : Rw} {x y : Th} {l : List Th} : y ∈ eqv r x l ↔ y ∈ l ∧ wrd r x y = 0 := by
  unfold eqv
  rw [List.mem_filter, beq_iff_eq]
theorem Is.uniq {r : Rw} : ∀ {l m ts : List Th}, Is r l ts → Is r m ts → l = m
  | [], [], _, _, _ => rfl
  | [], b :: m, _, h1, h2 => by
    have h := (h1.2 b).trans (h2.2 b).symm
    have : b ∈ eqv r b (b :: m) := mem_eqv.mpr ⟨List.mem_cons_self .., wrd_refl r b⟩
    rw [← h] at this
    exact absurd (mem_eqv.mp this).1 (by simp)
  | a :: l, [], _, h1, h2 => by
    have h := (h1.2 a).trans (h2.2 a).symm
    have : a ∈ eqv r a (a :: l) := mem_eqv.mpr ⟨List.mem_cons_self .., wrd_refl r a⟩
    rw [h] at this
    exact absurd (mem_eqv.mp this).1 (by simp)
  | a :: l, b :: m, ts, h1, h2 => by
    have hh : ∀ x, eqv r x (a :: l) = eqv r x (b :: m) := fun x => (h1.2 x).trans (h2.2 x).symm
    obtain ⟨p1, p2⟩ := List.pairwise_cons.mp h1.1
    obtain ⟨q1, q2⟩ := List.pairwise_cons.mp h2.1
    have am : a ∈ eqv r a (b :: m) := by rw [← hh]; exact mem_eqv.mpr ⟨List.mem_cons_self .., wrd_refl r a⟩
    have bm : b ∈ eqv r b (a :: l) := by rw [hh]; exact mem_eqv.mpr ⟨List.mem_cons_self .., wrd_refl r b⟩
    have hba : wrd r b a < 1 := by
      rcases List.mem_cons.mp (mem_eqv.mp am).1 with e | e
      · rw [e, wrd_refl]; decide
      · exact q1 a e
    have hab : wrd r a b < 1 := by
      rcases List.mem_cons.mp (mem_eqv.mp bm).1 with e | e
      · rw [e, wrd_refl]; decide
      · exact p1 b e
    have h0 : wrd r a b = 0 := by have := wrd_anti r a b; omega
    have hd := hh a
    unfold eqv at hd
    rw [List.filter_cons, List.filter_cons, if_pos (by rw [wrd_refl]; rfl), if_pos (by rw [h0]; rfl)] at hd
    obtain ⟨rfl, _⟩ := List.cons.inj hd
    have ht : l = m := Is.uniq (ts := l) ⟨p2, fun _ => rfl⟩ ⟨q2, fun x => by
      have hx := hh x
      unfold eqv at hx ⊢
      rw [List.filter_cons, List.filter_cons] at hx
      split at hx
      · exact (List.cons.inj hx).2.symm
      · exact hx.symm⟩
    rw [ht]
theorem ordT_is (r : Rw) (ts : List Th) : Is r (ordT r ts) ts := by
  refine ⟨ordT_pw r ts, fun x => ?_⟩
  have h : (sE r ts).filter (fun p => wrd r x p.2 == 0) = (enumT ts).filter (fun p => wrd r x p.2 == 0) := by
    refine List.Perm.eq_of_pairwise (le := fun p q : Nat × Th => p.1 ≤ q.1) (fun a b ha hb h1 h2 => ?_) ?_ ?_ ((sE_perm r ts).filter _)
    · have g1 := enumT_get ((sE_perm r ts).mem_iff.mp (List.mem_filter.mp ha).1)
      have g2 := enumT_get (List.mem_filter.mp hb).1
      have e : a.1 = b.1 := Nat.le_antisymm h1 h2
      rw [e, g2] at g1
      exact Prod.ext e (Option.some.inj g1).symm
    · rw [List.pairwise_filter]
      refine (sE_pw r ts).imp fun {p q} h hp hq => ?_
      simp only [beq_iff_eq] at hp hq
      have h1 : wrd r p.2 q.2 = 0 := by
        have a1 := wrd_anti r x p.2
        have a2 := wrd_anti r x q.2
        have a3 := wrd_anti r p.2 q.2
        have t1 := wrd_trans r p.2 x q.2 (by omega) (by omega)
        have t2 := wrd_trans r q.2 x p.2 (by omega) (by omega)
        omega
      unfold rle at h
      omega
    · rw [List.pairwise_filter]
      exact (enumT_pw ts).imp fun h _ _ => Nat.le_of_lt h
  unfold eqv ordT
  rw [List.filter_map]
  show ((sE r ts).filter (fun p => wrd r x p.2 == 0)).map (·.2) = _
  rw [h]
  conv => rhs; rw [← enumT_snd ts, List.filter_map]
  rfl
theorem ordT_eq {r : Rw} {l ts : List Th} (h : Is r l ts) : l = ordT r ts := h.uniq (ordT_is r ts)
/-! two lists led together -/
def mergeT (r : Rw) : List Th → List Th → List Th
  | [], bs => bs
  | as, [] => as
  | a :: as, b :: bs => if wrd r a b < 1 then a :: mergeT r as (b :: bs) else b :: mergeT r (a :: as) bs
termination_by as bs => as.length + bs.length
theorem mergeT_nil (r : Rw) (as : List Th) : mergeT r as [] = as := by
  cases as <;> simp [mergeT]
theorem mergeT_nil' (r : Rw) (as : List Th) : mergeT r [] as = as := by
  simp [mergeT]
theorem mergeT_cons (r : Rw) (a b : Th) (as bs : List Th) : mergeT r (a :: as) (b :: bs) = if wrd r a b < 1 then a :: mergeT r as (b :: bs) else b :: mergeT r (a :: as) bs := by
  rw [mergeT]
theorem mergeT_mem (r : Rw) : ∀ (as bs : List Th) (x : Th), x ∈ mergeT r as bs ↔ x ∈ as ∨ x ∈ bs
  | [], bs, x => by simp [mergeT_nil']
  | a :: as, [], x => by simp [mergeT_nil]
  | a :: as, b :: bs, x => by
    rw [mergeT_cons]
    split
    · rw [List.mem_cons, mergeT_mem r as (b :: bs) x, List.mem_cons (l := as)]; exact or_assoc.symm
    · rw [List.mem_cons, mergeT_mem r (a :: as) bs x, List.mem_cons (l := bs)]
      constructor
      · rintro (h | h | h)
        · exact .inr (.inl h)
        · exact .inl h
        · exact .inr (.inr h)
      · rintro (h | h | h)
        · exact .inr (.inl h)
        · exact .inl h
        · exact .inr (.inr h)
termination_by as bs => as.length + bs.length
theorem mergeT_is (r : Rw) : ∀ (as bs : List Th), srted r as → srted r bs → Is r (mergeT r as bs) (as ++ bs)
  | [], bs, _, h => by rw [mergeT_nil']; exact ⟨h, fun _ => rfl⟩
  | a :: as, [], h, _ => by rw [mergeT_nil, List.append_nil]; exact ⟨h, fun _ => rfl⟩
  | a :: as, b :: bs, h1, h2 => by
    obtain ⟨p1, p2⟩ := List.pairwise_cons.mp h1
    obtain ⟨q1, q2⟩ := List.pairwise_cons.mp h2
    rw [mergeT_cons]
    split
    · rename_i c
      obtain ⟨i1, i2⟩ := mergeT_is r as (b :: bs) p2 h2
      refine ⟨List.pairwise_cons.mpr ⟨fun z hz => ?_, i1⟩, fun x => ?_⟩
      · rcases (mergeT_mem r as (b :: bs) z).mp hz with hz | hz
        · exact p1 z hz
        · rcases List.mem_cons.mp hz with rfl | hz
          · exact c
          · exact wrd_trans r a b z c (q1 z hz)
      · have := i2 x
        unfold eqv at this ⊢
        rw [List.cons_append, List.filter_cons, List.filter_cons, this]
    · rename_i c
      have cb : wrd r b a < 0 := by have := wrd_anti r a b; omega
      obtain ⟨i1, i2⟩ := mergeT_is r (a :: as) bs h1 q2
      have hlt : ∀ z ∈ a :: as, wrd r b z < 0 := fun z hz => by
        rcases List.mem_cons.mp hz with rfl | hz
        · exact cb
        · have t := wrd_trans r z b a
          have az := p1 z hz
          have n1 := wrd_anti r a z
          have n2 := wrd_anti r b z
          have n3 := wrd_anti r b a
          by_cases hh : wrd r b z < 0
          · exact hh
          · have := wrd_trans r a z b az (by omega)
            omega
      refine ⟨List.pairwise_cons.mpr ⟨fun z hz => ?_, i1⟩, fun x => ?_⟩
      · rcases (mergeT_mem r (a :: as) bs z).mp hz with hz | hz
        · have := hlt z hz; omega
        · exact q1 z hz
      · have := i2 x
        unfold eqv at this ⊢
        rw [List.filter_cons, this, List.filter_append, List.filter_append, List.filter_cons (x := b)]
        split
        · rename_i hb
          have hb : wrd r x b = 0 := by simpa using hb
          have : (a :: as).filter (fun y => wrd r x y == 0) = [] := List.filter_eq_nil_iff.mpr fun z hz => by
            have l1 := hlt z hz
            have n1 := wrd_anti r x b
            simp only [beq_iff_eq]
            intro h0
            have n2 := wrd_anti r x z
            have n3 := wrd_anti r b z
            have := wrd_trans r z x b (by omega) (by omega)
            omega
          rw [this]; rfl
        · rfl
termination_by as bs => as.length + bs.length
theorem mergeT_ord {r : Rw} {as bs : List Th} (h1 : srted r as) (h2 : srted r bs) : mergeT r as bs = ordT r (as ++ bs) := ordT_eq (mergeT_is r as bs h1 h2)
theorem eqv_app (r : Rw) (x : Th) (as bs : List Th) : eqv r x (as ++ bs) = eqv r x as ++ eqv r x bs := List.filter_append ..
theorem ordT_app (r : Rw) (as bs as' bs' : List Th) (h1 : ∀ x, eqv r x as = eqv r x as') (h2 : ∀ x, eqv r x bs = eqv r x bs') : ordT r (as ++ bs) = ordT r (as' ++ bs') := by
  refine ordT_eq ⟨(ordT_is r (as ++ bs)).1, fun x => ?_⟩
  rw [(ordT_is r (as ++ bs)).2 x, eqv_app, eqv_app, h1, h2]
/-- three, in either grouping -/
theorem mergeT_assoc {r : Rw} {as bs cs : List Th} (h1 : srted r as) (h2 : srted r bs) (h3 : srted r cs) : mergeT r (mergeT r as bs) cs = mergeT r as (mergeT r bs cs) := by
  rw [mergeT_ord (mergeT_is r as bs h1 h2).1 h3, mergeT_ord h1 (mergeT_is r bs cs h2 h3).1,
    ordT_app r (mergeT r as bs) cs (as ++ bs) cs (mergeT_is r as bs h1 h2).2 fun _ => rfl,
    ordT_app r as (mergeT r bs cs) as (bs ++ cs) (fun _ => rfl) (mergeT_is r bs cs h2 h3).2, List.append_assoc]
end L2.Lv.Sh
namespace L2.Lv.Sh
open PySem PySem.Spec PyProof.Rows L2 L2.Lv
/-! loops whose state is known -/
theorem loopF_same {α : Type} {g : Fg} {body : Fs} {ρ : List W} {n : Nat} (enc : α → PyData) : ∀ (xs : List α), (∀ x ∈ xs, ∃ ρ1, g (enc x) ρ = some ρ1 ∧ body ρ1 n = some (.nx ρ n)) → loopF g body (xs.map enc) ρ n = some (.nx ρ n)
  | [], _ => rfl
  | x :: xs, h => by
    obtain ⟨ρ1, e1, e2⟩ := h x (List.mem_cons_self ..)
    rw [List.map_cons, loopF_cons]
    simp -implicitDefEqProofs only [eVar_ap, dVar_ap, eC_ap, dOf_ap, eFrz_ap, eBin_ap, bTest_ap, bTru_ap, bAnd_ap, bOr_ap, bNot_ap, eIf_ap, eB_ap, eAnd_ap, eOr_ap, aNil_ap, aCons_ap, sNil_ap, sCons_ap, eTup_ap, eLst_ap, eCall_ap, eApp_ap, oNone_ap, oSome_ap, eSl_ap, sNil'_ap, sSeq_ap, sBrk_ap, sRet_ap, sRetN_ap, sRetO_ap, sDrop_ap, sIf_ap, sSet_ap, sApp_ap, sTown_ap, sExt_ap, sIns_ap, sSetIx_ap, sAsg_ap, sPar_ap, iOf_ap, iVal_ap, iRng1_ap, iRng2_ap, sFor_ap, eComp_ap, bYes_ap, frzAt_ap, eUn_ap, eNotD_ap, eOrD_ap, eChain_ap, eListRg1_ap, eIsa_ap, eMt_ap, iEnumV_ap, iEnumF_ap, iZipV_ap, iZipF_ap, eTLen_ap, iRng3D_ap, sEnd_ap, eSs_ap, sPar3_ap, xPop_ap, xTup1_ap, xCat_ap, sSetX_ap, sAppX_ap, sParO_ap, sForEI_ap, sForK_ap, runB_ap, gOne_ap, gMany_ap, dI_ap, yesC_ap, dCmp_int, setD, kill_nx, kill_rt, kill_bk, Option.bind_some, Option.map_some, Option.bind_none, Option.map_none, List.getElem?_cons_zero, List.getElem?_cons_succ, List.set_cons_zero, List.set_cons_succ, List.cons_append, List.nil_append, List.append_nil, List.replicate, List.length_cons, List.length_nil, Nat.reduceAdd, Nat.reduceSub, Nat.zero_add, wdat_no, wdat_d, wdat_town, wdat_ol, wdat_od, wfrz_no, wfrz_d, wfrz_town, wfrz_ol, wfrz_od, wval_no, wval_d, wval_town, wval_ol, wval_od, warg_no, warg_d, warg_town, warg_ol, warg_od, vals, gLen, gAbs, gMax2, gMin2, gInt, gTup, gList, wipeW, if_true, if_false, Bool.false_eq_true, Bool.not_true, Bool.not_false, reduceCtorEq, e1, e2, loopF_same enc xs fun z hz => h z (List.mem_cons_of_mem _ hz)]
theorem loopF_fold {α β : Type} {g : Fg} {body : Fs} {n : Nat} (enc : α → PyData) (env : β → List W) (step : β → α → β) (I : β → List α → Prop)
    (h : ∀ b x xs, I b (x :: xs) → ∃ ρ1, g (enc x) (env b) = some ρ1 ∧ body ρ1 n = some (.nx (env (step b x)) n) ∧ I (step b x) xs) : ∀ (xs : List α) (b : β), I b xs → loopF g body (xs.map enc) (env b) n = some (.nx (env (xs.foldl step b)) n)
  | [], _, _ => rfl
  | x :: xs, b, hI => by
    obtain ⟨ρ1, e1, e2, h3⟩ := h b x xs hI
    rw [List.map_cons, loopF_cons]
    simp -implicitDefEqProofs only [eVar_ap, dVar_ap, eC_ap, dOf_ap, eFrz_ap, eBin_ap, bTest_ap, bTru_ap, bAnd_ap, bOr_ap, bNot_ap, eIf_ap, eB_ap, eAnd_ap, eOr_ap, aNil_ap, aCons_ap, sNil_ap, sCons_ap, eTup_ap, eLst_ap, eCall_ap, eApp_ap, oNone_ap, oSome_ap, eSl_ap, sNil'_ap, sSeq_ap, sBrk_ap, sRet_ap, sRetN_ap, sRetO_ap, sDrop_ap, sIf_ap, sSet_ap, sApp_ap, sTown_ap, sExt_ap, sIns_ap, sSetIx_ap, sAsg_ap, sPar_ap, iOf_ap, iVal_ap, iRng1_ap, iRng2_ap, sFor_ap, eComp_ap, bYes_ap, frzAt_ap, eUn_ap, eNotD_ap, eOrD_ap, eChain_ap, eListRg1_ap, eIsa_ap, eMt_ap, iEnumV_ap, iEnumF_ap, iZipV_ap, iZipF_ap, eTLen_ap, iRng3D_ap, sEnd_ap, eSs_ap, sPar3_ap, xPop_ap, xTup1_ap, xCat_ap, sSetX_ap, sAppX_ap, sParO_ap, sForEI_ap, sForK_ap, runB_ap, gOne_ap, gMany_ap, dI_ap, yesC_ap, dCmp_int, setD, kill_nx, kill_rt, kill_bk, Option.bind_some, Option.map_some, Option.bind_none, Option.map_none, List.getElem?_cons_zero, List.getElem?_cons_succ, List.set_cons_zero, List.set_cons_succ, List.cons_append, List.nil_append, List.append_nil, List.replicate, List.length_cons, List.length_nil, Nat.reduceAdd, Nat.reduceSub, Nat.zero_add, wdat_no, wdat_d, wdat_town, wdat_ol, wdat_od, wfrz_no, wfrz_d, wfrz_town, wfrz_ol, wfrz_od, wval_no, wval_d, wval_town, wval_ol, wval_od, warg_no, warg_d, warg_town, warg_ol, warg_od, vals, gLen, gAbs, gMax2, gMin2, gInt, gTup, gList, wipeW, if_true, if_false, Bool.false_eq_true, Bool.not_true, Bool.not_false, reduceCtorEq, e1, e2, loopF_fold enc env step I h xs (step b x) h3, List.foldl_cons]
/-- .. with draws -/
theorem loopF_draw {β : Type} {g : Fg} {body : Fs} (env : β → List W) (J : Nat → β → Prop) (c : Nat)
    (h : ∀ (m : Nat) (b : β) (x : PyData) (n : Nat), J (m + 1) b → n + c ≤ big → ∃ ρ1 b' n', g x (env b) = some ρ1 ∧ body ρ1 n = some (.nx (env b') n') ∧ J m b' ∧ n ≤ n' ∧ n' ≤ n + c) :
    ∀ (xs : List PyData) (b : β) (n : Nat), J xs.length b → n + c * xs.length ≤ big → ∃ b' n', loopF g body xs (env b) n = some (.nx (env b') n') ∧ J 0 b' ∧ n ≤ n' ∧ n' ≤ n + c * xs.length
  | [], b, n, hJ, _ => ⟨b, n, rfl, hJ, Nat.le_refl _, Nat.le_add_right _ _⟩
  | x :: xs, b, n, hJ, hn => by
    rw [List.length_cons, Nat.mul_succ] at hn
    obtain ⟨ρ1, b1, n1, e1, e2, hJ1, l1, l2⟩ := h xs.length b x n hJ (by omega)
    obtain ⟨b2, n2, e3, hJ2, l3, l4⟩ := loopF_draw env J c h xs b1 n1 hJ1 (by omega)
    refine ⟨b2, n2, ?_, hJ2, by omega, by rw [List.length_cons, Nat.mul_succ]; omega⟩
    rw [loopF_cons]
    simp -implicitDefEqProofs only [eVar_ap, dVar_ap, eC_ap, dOf_ap, eFrz_ap, eBin_ap, bTest_ap, bTru_ap, bAnd_ap, bOr_ap, bNot_ap, eIf_ap, eB_ap, eAnd_ap, eOr_ap, aNil_ap, aCons_ap, sNil_ap, sCons_ap, eTup_ap, eLst_ap, eCall_ap, eApp_ap, oNone_ap, oSome_ap, eSl_ap, sNil'_ap, sSeq_ap, sBrk_ap, sRet_ap, sRetN_ap, sRetO_ap, sDrop_ap, sIf_ap, sSet_ap, sApp_ap, sTown_ap, sExt_ap, sIns_ap, sSetIx_ap, sAsg_ap, sPar_ap, iOf_ap, iVal_ap, iRng1_ap, iRng2_ap, sFor_ap, eComp_ap, bYes_ap, frzAt_ap, eUn_ap, eNotD_ap, eOrD_ap, eChain_ap, eListRg1_ap, eIsa_ap, eMt_ap, iEnumV_ap, iEnumF_ap, iZipV_ap, iZipF_ap, eTLen_ap, iRng3D_ap, sEnd_ap, eSs_ap, sPar3_ap, xPop_ap, xTup1_ap, xCat_ap, sSetX_ap, sAppX_ap, sParO_ap, sForEI_ap, sForK_ap, runB_ap, gOne_ap, gMany_ap, dI_ap, yesC_ap, dCmp_int, setD, kill_nx, kill_rt, kill_bk, Option.bind_some, Option.map_some, Option.bind_none, Option.map_none, List.getElem?_cons_zero, List.getElem?_cons_succ, List.set_cons_zero, List.set_cons_succ, List.cons_append, List.nil_append, List.append_nil, List.replicate, List.length_cons, List.length_nil, Nat.reduceAdd, Nat.reduceSub, Nat.zero_add, wdat_no, wdat_d, wdat_town, wdat_ol, wdat_od, wfrz_no, wfrz_d, wfrz_town, wfrz_ol, wfrz_od, wval_no, wval_d, wval_town, wval_ol, wval_od, warg_no, warg_d, warg_town, warg_ol, warg_od, vals, gLen, gAbs, gMax2, gMin2, gInt, gTup, gList, wipeW, if_true, if_false, Bool.false_eq_true, Bool.not_true, Bool.not_false, reduceCtorEq, e1, e2, e3]
/-- the turns of a law -/
theorem loop_law {g : Fg} {body : Fs} {ρ : List W} (c : Nat) (h : ∀ (x : PyData) (n : Nat), n + c ≤ big → ∃ ρ1 n', g x ρ = some ρ1 ∧ body ρ1 n = some (.nx ρ n') ∧ n ≤ n' ∧ n' ≤ n + c) :
    ∀ (xs : List PyData) (n : Nat), n + c * xs.length ≤ big → ∃ n', loopF g body xs ρ n = some (.nx ρ n') ∧ n ≤ n' ∧ n' ≤ n + c * xs.length
  | [], n, _ => ⟨n, rfl, Nat.le_refl _, Nat.le_add_right _ _⟩
  | x :: xs, n, hn => by
    rw [List.length_cons, Nat.mul_succ] at hn
    obtain ⟨ρ1, n1, e1, e2, l1, l2⟩ := h x n (by omega)
    obtain ⟨n2, e3, l3, l4⟩ := loop_law c h xs n1 (by omega)
    refine ⟨n2, ?_, by omega, by rw [List.length_cons, Nat.mul_succ]; omega⟩
    rw [loopF_cons]
    simp -implicitDefEqProofs only [eVar_ap, dVar_ap, eC_ap, dOf_ap, eFrz_ap, eBin_ap, bTest_ap, bTru_ap, bAnd_ap, bOr_ap, bNot_ap, eIf_ap, eB_ap, eAnd_ap, eOr_ap, aNil_ap, aCons_ap, sNil_ap, sCons_ap, eTup_ap, eLst_ap, eCall_ap, eApp_ap, oNone_ap, oSome_ap, eSl_ap, sNil'_ap, sSeq_ap, sBrk_ap, sRet_ap, sRetN_ap, sRetO_ap, sDrop_ap, sIf_ap, sSet_ap, sApp_ap, sTown_ap, sExt_ap, sIns_ap, sSetIx_ap, sAsg_ap, sPar_ap, iOf_ap, iVal_ap, iRng1_ap, iRng2_ap, sFor_ap, eComp_ap, bYes_ap, frzAt_ap, eUn_ap, eNotD_ap, eOrD_ap, eChain_ap, eListRg1_ap, eIsa_ap, eMt_ap, iEnumV_ap, iEnumF_ap, iZipV_ap, iZipF_ap, eTLen_ap, iRng3D_ap, sEnd_ap, eSs_ap, sPar3_ap, xPop_ap, xTup1_ap, xCat_ap, sSetX_ap, sAppX_ap, sParO_ap, sForEI_ap, sForK_ap, runB_ap, gOne_ap, gMany_ap, dI_ap, yesC_ap, dCmp_int, setD, kill_nx, kill_rt, kill_bk, Option.bind_some, Option.map_some, Option.bind_none, Option.map_none, List.getElem?_cons_zero, List.getElem?_cons_succ, List.set_cons_zero, List.set_cons_succ, List.cons_append, List.nil_append, List.append_nil, List.replicate, List.length_cons, List.length_nil, Nat.reduceAdd, Nat.reduceSub, Nat.zero_add, wdat_no, wdat_d, wdat_town, wdat_ol, wdat_od, wfrz_no, wfrz_d, wfrz_town, wfrz_ol, wfrz_od, wval_no, wval_d, wval_town, wval_ol, wval_od, warg_no, warg_d, warg_town, warg_ol, warg_od, vals, gLen, gAbs, gMax2, gMin2, gInt, gTup, gList, wipeW, if_true, if_false, Bool.false_eq_true, Bool.not_true, Bool.not_false, reduceCtorEq, e1, e2, e3]
theorem loopW_run {β : Type} {n : Nat} {c : Ft} {body : Fs} (env : β → List W) (cond : β → Bool) (step : β → β) (I : β → Prop) (μ : β → Nat) (hc : ∀ b, I b → c (env b) n = some (cond b, n))
    (hb : ∀ b, I b → cond b = true → body (env b) n = some (.nx (env (step b)) n) ∧ I (step b) ∧ μ (step b) < μ b) : ∀ (k : Nat) (b : β), I b → μ b < k → ∃ b', loopW c body k (env b) n = some (.nx (env b') n) ∧ I b' ∧ cond b' = false
  | 0, _, _, h => absurd h (Nat.not_lt_zero _)
  | k + 1, b, hI, h => by
    rw [loopW_succ, hc b hI]
    cases e : cond b with
    | false => exact ⟨b, by simp -implicitDefEqProofs only [eVar_ap, dVar_ap, eC_ap, dOf_ap, eFrz_ap, eBin_ap, bTest_ap, bTru_ap, bAnd_ap, bOr_ap, bNot_ap, eIf_ap, eB_ap, eAnd_ap, eOr_ap, aNil_ap, aCons_ap, sNil_ap, sCons_ap, eTup_ap, eLst_ap, eCall_ap, eApp_ap, oNone_ap, oSome_ap, eSl_ap, sNil'_ap, sSeq_ap, sBrk_ap, sRet_ap, sRetN_ap, sRetO_ap, sDrop_ap, sIf_ap, sSet_ap, sApp_ap, sTown_ap, sExt_ap, sIns_ap, sSetIx_ap, sAsg_ap, sPar_ap, iOf_ap, iVal_ap, iRng1_ap, iRng2_ap, sFor_ap, eComp_ap, bYes_ap, frzAt_ap, eUn_ap, eNotD_ap, eOrD_ap, eChain_ap, eListRg1_ap, eIsa_ap, eMt_ap, iEnumV_ap, iEnumF_ap, iZipV_ap, iZipF_ap, eTLen_ap, iRng3D_ap, sEnd_ap, eSs_ap, sPar3_ap, xPop_ap, xTup1_ap, xCat_ap, sSetX_ap, sAppX_ap, sParO_ap, sForEI_ap, sForK_ap, runB_ap, gOne_ap, gMany_ap, dI_ap, yesC_ap, dCmp_int, setD, kill_nx, kill_rt, kill_bk, Option.bind_some, Option.map_some, Option.bind_none, Option.map_none, List.getElem?_cons_zero, List.getElem?_cons_succ, List.set_cons_zero, List.set_cons_succ, List.cons_append, List.nil_append, List.append_nil, List.replicate, List.length_cons, List.length_nil, Nat.reduceAdd, Nat.reduceSub, Nat.zero_add, wdat_no, wdat_d, wdat_town, wdat_ol, wdat_od, wfrz_no, wfrz_d, wfrz_town, wfrz_ol, wfrz_od, wval_no, wval_d, wval_town, wval_ol, wval_od, warg_no, warg_d, warg_town, warg_ol, warg_od, vals, gLen, gAbs, gMax2, gMin2, gInt, gTup, gList, wipeW, if_true, if_false, Bool.false_eq_true, Bool.not_true, Bool.not_false, reduceCtorEq], hI, e⟩
    | true =>
      obtain ⟨e1, h1, h2⟩ := hb b hI e
      obtain ⟨b', e2, h3, h4⟩ := loopW_run env cond step I μ hc hb k (step b) h1 (by omega)
      exact ⟨b', by simp -implicitDefEqProofs only [eVar_ap, dVar_ap, eC_ap, dOf_ap, eFrz_ap, eBin_ap, bTest_ap, bTru_ap, bAnd_ap, bOr_ap, bNot_ap, eIf_ap, eB_ap, eAnd_ap, eOr_ap, aNil_ap, aCons_ap, sNil_ap, sCons_ap, eTup_ap, eLst_ap, eCall_ap, eApp_ap, oNone_ap, oSome_ap, eSl_ap, sNil'_ap, sSeq_ap, sBrk_ap, sRet_ap, sRetN_ap, sRetO_ap, sDrop_ap, sIf_ap, sSet_ap, sApp_ap, sTown_ap, sExt_ap, sIns_ap, sSetIx_ap, sAsg_ap, sPar_ap, iOf_ap, iVal_ap, iRng1_ap, iRng2_ap, sFor_ap, eComp_ap, bYes_ap, frzAt_ap, eUn_ap, eNotD_ap, eOrD_ap, eChain_ap, eListRg1_ap, eIsa_ap, eMt_ap, iEnumV_ap, iEnumF_ap, iZipV_ap, iZipF_ap, eTLen_ap, iRng3D_ap, sEnd_ap, eSs_ap, sPar3_ap, xPop_ap, xTup1_ap, xCat_ap, sSetX_ap, sAppX_ap, sParO_ap, sForEI_ap, sForK_ap, runB_ap, gOne_ap, gMany_ap, dI_ap, yesC_ap, dCmp_int, setD, kill_nx, kill_rt, kill_bk, Option.bind_some, Option.map_some, Option.bind_none, Option.map_none, List.getElem?_cons_zero, List.getElem?_cons_succ, List.set_cons_zero, List.set_cons_succ, List.cons_append, List.nil_append, List.append_nil, List.replicate, List.length_cons, List.length_nil, Nat.reduceAdd, Nat.reduceSub, Nat.zero_add, wdat_no, wdat_d, wdat_town, wdat_ol, wdat_od, wfrz_no, wfrz_d, wfrz_town, wfrz_ol, wfrz_od, wval_no, wval_d, wval_town, wval_ol, wval_od, warg_no, warg_d, warg_town, warg_ol, warg_od, vals, gLen, gAbs, gMax2, gMin2, gInt, gTup, gList, wipeW, if_true, if_false, Bool.false_eq_true, Bool.not_true, Bool.not_false, reduceCtorEq, e1, e2], h3, h4⟩
/-- comprehensions with draws, over what one likes -/
theorem comp_ranA {α β : Type} {g : Fg} {own : List Nat} {elt : Fe} {ρ : List W} (c : Nat) (enc : α → PyData) (f : β → PyData) (P : β → Prop) : ∀ (xs : List α) (n : Nat), n + c * xs.length ≤ big →
    (∀ x ∈ xs, ∀ m, m + c ≤ big → ∃ ρ1 b m', g (enc x) (wipeW ρ own) = some ρ1 ∧ elt ρ1 m = some (.d (f b), m') ∧ m ≤ m' ∧ m' ≤ m + c ∧ P b) →
    ∃ (ys : List β) (m : Nat), loopC g own bYes elt ρ (xs.map enc) n = some (ys.map f, m) ∧ ys.length = xs.length ∧ (∀ y ∈ ys, P y) ∧ n ≤ m ∧ m ≤ n + c * xs.length
  | [], n, _, _ => ⟨[], n, rfl, rfl, by simp, Nat.le_refl _, Nat.le_add_right _ _⟩
  | x :: xs, n, hn, h => by
    rw [List.length_cons, Nat.mul_succ] at hn
    obtain ⟨ρ1, y, m, e0, e1, l1, l2, hp⟩ := h x (List.mem_cons_self ..) n (by omega)
    obtain ⟨ys, m', e2, l3, hq, l4, l5⟩ := comp_ranA c enc f P xs m (by omega) fun z hz => h z (List.mem_cons_of_mem _ hz)
    refine ⟨y :: ys, m', ?_, by simp [l3], fun z hz => ?_, by omega, ?_⟩
    · rw [List.map_cons, loopC_cons]
      simp -implicitDefEqProofs only [eVar_ap, dVar_ap, eC_ap, dOf_ap, eFrz_ap, eBin_ap, bTest_ap, bTru_ap, bAnd_ap, bOr_ap, bNot_ap, eIf_ap, eB_ap, eAnd_ap, eOr_ap, aNil_ap, aCons_ap, sNil_ap, sCons_ap, eTup_ap, eLst_ap, eCall_ap, eApp_ap, oNone_ap, oSome_ap, eSl_ap, sNil'_ap, sSeq_ap, sBrk_ap, sRet_ap, sRetN_ap, sRetO_ap, sDrop_ap, sIf_ap, sSet_ap, sApp_ap, sTown_ap, sExt_ap, sIns_ap, sSetIx_ap, sAsg_ap, sPar_ap, iOf_ap, iVal_ap, iRng1_ap, iRng2_ap, sFor_ap, eComp_ap, bYes_ap, frzAt_ap, eUn_ap, eNotD_ap, eOrD_ap, eChain_ap, eListRg1_ap, eIsa_ap, eMt_ap, iEnumV_ap, iEnumF_ap, iZipV_ap, iZipF_ap, eTLen_ap, iRng3D_ap, sEnd_ap, eSs_ap, sPar3_ap, xPop_ap, xTup1_ap, xCat_ap, sSetX_ap, sAppX_ap, sParO_ap, sForEI_ap, sForK_ap, runB_ap, gOne_ap, gMany_ap, dI_ap, yesC_ap, dCmp_int, setD, kill_nx, kill_rt, kill_bk, Option.bind_some, Option.map_some, Option.bind_none, Option.map_none, List.getElem?_cons_zero, List.getElem?_cons_succ, List.set_cons_zero, List.set_cons_succ, List.cons_append, List.nil_append, List.append_nil, List.replicate, List.length_cons, List.length_nil, Nat.reduceAdd, Nat.reduceSub, Nat.zero_add, wdat_no, wdat_d, wdat_town, wdat_ol, wdat_od, wfrz_no, wfrz_d, wfrz_town, wfrz_ol, wfrz_od, wval_no, wval_d, wval_town, wval_ol, wval_od, warg_no, warg_d, warg_town, warg_ol, warg_od, vals, gLen, gAbs, gMax2, gMin2, gInt, gTup, gList, wipeW, if_true, if_false, Bool.false_eq_true, Bool.not_true, Bool.not_false, reduceCtorEq, e0, e1, e2, List.map_cons]
    · rcases List.mem_cons.mp hz with rfl | hz
      · exact hp
      · exact hq z hz
    · rw [List.length_cons, Nat.mul_succ]; omega
theorem rangeD_map (n : Nat) : rangeD 0 n = (List.range n).map fun (i : Nat) => PyData.int (i : Int) := by
  unfold rangeD
  exact List.map_congr_left fun i _ => by rw [Int.zero_add]
/-! merged -/
theorem cutD_take1 (x : PyData) (xs : List PyData) : cutD (x :: xs) none (some 1) = [x] := by
  have := cutD_take (x :: xs) 1 (by simp)
  simpa using this
theorem cutD_drop1 (x : PyData) (xs : List PyData) : cutD (x :: xs) (some 1) none = xs := by
  have := cutD_drop (x :: xs) 1 (by simp)
  simpa using this
theorem ix0 (x : PyData) (xs : List PyData) : dIx (.tuple (x :: xs)) (.int 0) = some (.d x) := i0 x xs
theorem dTru_bool (b : Bool) : dTru (.bool b) = some b := rfl
theorem dTru_tup (xs : List PyData) : dTru (.tuple xs) = some (!xs.isEmpty) := rfl
theorem merged_loop (r : Rw) (hr : Rw.ok r) (hrl : r.length ≤ 1000000) (n : Nat) : ∀ (k : Nat) (as bs fs : List Th), fs.length + as.length + bs.length ≤ 1000000 → as.length + bs.length < k → ∃ as' bs' fs',
    loopW (bAnd (bTru (dVar 1)) (bTru (dVar 2))) l_merged_1 k [.d (rowD r), .d (tsD as), .d (tsD bs), .d (tsD fs)] n = some (.nx [.d (rowD r), .d (tsD as'), .d (tsD bs'), .d (tsD fs')] n) ∧ fs' ++ as' ++ bs' = fs ++ mergeT r as bs
  | 0, _, _, _, _, h => absurd h (Nat.not_lt_zero _)
  | k + 1, [], bs, fs, _, _ => ⟨[], bs, fs, by rw [loopW_succ]; simp -implicitDefEqProofs only [eVar_ap, dVar_ap, eC_ap, dOf_ap, eFrz_ap, eBin_ap, bTest_ap, bTru_ap, bAnd_ap, bOr_ap, bNot_ap, eIf_ap, eB_ap, eAnd_ap, eOr_ap, aNil_ap, aCons_ap, sNil_ap, sCons_ap, eTup_ap, eLst_ap, eCall_ap, eApp_ap, oNone_ap, oSome_ap, eSl_ap, sNil'_ap, sSeq_ap, sBrk_ap, sRet_ap, sRetN_ap, sRetO_ap, sDrop_ap, sIf_ap, sSet_ap, sApp_ap, sTown_ap, sExt_ap, sIns_ap, sSetIx_ap, sAsg_ap, sPar_ap, iOf_ap, iVal_ap, iRng1_ap, iRng2_ap, sFor_ap, eComp_ap, bYes_ap, frzAt_ap, eUn_ap, eNotD_ap, eOrD_ap, eChain_ap, eListRg1_ap, eIsa_ap, eMt_ap, iEnumV_ap, iEnumF_ap, iZipV_ap, iZipF_ap, eTLen_ap, iRng3D_ap, sEnd_ap, eSs_ap, sPar3_ap, xPop_ap, xTup1_ap, xCat_ap, sSetX_ap, sAppX_ap, sParO_ap, sForEI_ap, sForK_ap, runB_ap, gOne_ap, gMany_ap, dI_ap, yesC_ap, dCmp_int, setD, kill_nx, kill_rt, kill_bk, Option.bind_some, Option.map_some, Option.bind_none, Option.map_none, List.getElem?_cons_zero, List.getElem?_cons_succ, List.set_cons_zero, List.set_cons_succ, List.cons_append, List.nil_append, List.append_nil, List.replicate, List.length_cons, List.length_nil, Nat.reduceAdd, Nat.reduceSub, Nat.zero_add, wdat_no, wdat_d, wdat_town, wdat_ol, wdat_od, wfrz_no, wfrz_d, wfrz_town, wfrz_ol, wfrz_od, wval_no, wval_d, wval_town, wval_ol, wval_od, warg_no, warg_d, warg_town, warg_ol, warg_od, vals, gLen, gAbs, gMax2, gMin2, gInt, gTup, gList, wipeW, if_true, if_false, Bool.false_eq_true, Bool.not_true, Bool.not_false, reduceCtorEq, dTru_tup, List.map_nil, List.isEmpty_nil], by rw [mergeT_nil', List.append_nil]⟩
  | k + 1, a :: as, [], fs, _, _ => ⟨a :: as, [], fs, by rw [loopW_succ]; simp -implicitDefEqProofs only [eVar_ap, dVar_ap, eC_ap, dOf_ap, eFrz_ap, eBin_ap, bTest_ap, bTru_ap, bAnd_ap, bOr_ap, bNot_ap, eIf_ap, eB_ap, eAnd_ap, eOr_ap, aNil_ap, aCons_ap, sNil_ap, sCons_ap, eTup_ap, eLst_ap, eCall_ap, eApp_ap, oNone_ap, oSome_ap, eSl_ap, sNil'_ap, sSeq_ap, sBrk_ap, sRet_ap, sRetN_ap, sRetO_ap, sDrop_ap, sIf_ap, sSet_ap, sApp_ap, sTown_ap, sExt_ap, sIns_ap, sSetIx_ap, sAsg_ap, sPar_ap, iOf_ap, iVal_ap, iRng1_ap, iRng2_ap, sFor_ap, eComp_ap, bYes_ap, frzAt_ap, eUn_ap, eNotD_ap, eOrD_ap, eChain_ap, eListRg1_ap, eIsa_ap, eMt_ap, iEnumV_ap, iEnumF_ap, iZipV_ap, iZipF_ap, eTLen_ap, iRng3D_ap, sEnd_ap, eSs_ap, sPar3_ap, xPop_ap, xTup1_ap, xCat_ap, sSetX_ap, sAppX_ap, sParO_ap, sForEI_ap, sForK_ap, runB_ap, gOne_ap, gMany_ap, dI_ap, yesC_ap, dCmp_int, setD, kill_nx, kill_rt, kill_bk, Option.bind_some, Option.map_some, Option.bind_none, Option.map_none, List.getElem?_cons_zero, List.getElem?_cons_succ, List.set_cons_zero, List.set_cons_succ, List.cons_append, List.nil_append, List.append_nil, List.replicate, List.length_cons, List.length_nil, Nat.reduceAdd, Nat.reduceSub, Nat.zero_add, wdat_no, wdat_d, wdat_town, wdat_ol, wdat_od, wfrz_no, wfrz_d, wfrz_town, wfrz_ol, wfrz_od, wval_no, wval_d, wval_town, wval_ol, wval_od, warg_no, warg_d, warg_town, warg_ol, warg_od, vals, gLen, gAbs, gMax2, gMin2, gInt, gTup, gList, wipeW, if_true, if_false, Bool.false_eq_true, Bool.not_true, Bool.not_false, reduceCtorEq, dTru_tup, List.map_nil, List.isEmpty_nil, List.map_cons, List.isEmpty_cons], by rw [mergeT_nil, List.append_nil]⟩
  | k + 1, a :: as, b :: bs, fs, hl, hk => by
    have ht := told_ok' r hr hrl a b n
    simp only [List.length_cons] at hl hk
    by_cases c : wrd r a b < 1
    · obtain ⟨as', bs', fs', e1, e2⟩ := merged_loop r hr hrl n k as (b :: bs) (fs ++ [a]) (by simp; omega) (by simp; omega)
      refine ⟨as', bs', fs', ?_, ?_⟩
      · have ea : dAdd (tsD fs) (.tuple [a.d]) = some (.d (tsD (fs ++ [a]))) := by
          rw [dAdd_tup _ _ (le_big (by simp; omega))]; simp
        rw [loopW_succ]
        unfold l_merged_1 at e1 ⊢
        simp only [tsD, List.map_cons] at e1 ea
        simp -implicitDefEqProofs only [eVar_ap, dVar_ap, eC_ap, dOf_ap, eFrz_ap, eBin_ap, bTest_ap, bTru_ap, bAnd_ap, bOr_ap, bNot_ap, eIf_ap, eB_ap, eAnd_ap, eOr_ap, aNil_ap, aCons_ap, sNil_ap, sCons_ap, eTup_ap, eLst_ap, eCall_ap, eApp_ap, oNone_ap, oSome_ap, eSl_ap, sNil'_ap, sSeq_ap, sBrk_ap, sRet_ap, sRetN_ap, sRetO_ap, sDrop_ap, sIf_ap, sSet_ap, sApp_ap, sTown_ap, sExt_ap, sIns_ap, sSetIx_ap, sAsg_ap, sPar_ap, iOf_ap, iVal_ap, iRng1_ap, iRng2_ap, sFor_ap, eComp_ap, bYes_ap, frzAt_ap, eUn_ap, eNotD_ap, eOrD_ap, eChain_ap, eListRg1_ap, eIsa_ap, eMt_ap, iEnumV_ap, iEnumF_ap, iZipV_ap, iZipF_ap, eTLen_ap, iRng3D_ap, sEnd_ap, eSs_ap, sPar3_ap, xPop_ap, xTup1_ap, xCat_ap, sSetX_ap, sAppX_ap, sParO_ap, sForEI_ap, sForK_ap, runB_ap, gOne_ap, gMany_ap, dI_ap, yesC_ap, dCmp_int, setD, kill_nx, kill_rt, kill_bk, Option.bind_some, Option.map_some, Option.bind_none, Option.map_none, List.getElem?_cons_zero, List.getElem?_cons_succ, List.set_cons_zero, List.set_cons_succ, List.cons_append, List.nil_append, List.append_nil, List.replicate, List.length_cons, List.length_nil, Nat.reduceAdd, Nat.reduceSub, Nat.zero_add, wdat_no, wdat_d, wdat_town, wdat_ol, wdat_od, wfrz_no, wfrz_d, wfrz_town, wfrz_ol, wfrz_od, wval_no, wval_d, wval_town, wval_ol, wval_od, warg_no, warg_d, warg_town, warg_ol, warg_od, vals, gLen, gAbs, gMax2, gMin2, gInt, gTup, gList, wipeW, if_true, if_false, Bool.false_eq_true, Bool.not_true, Bool.not_false, reduceCtorEq, dTru_tup, tsD, List.map_cons, List.isEmpty_cons, ix0, ht, rLt_t c, dSl, cutD_take1, cutD_drop1, ea, e1]
      · rw [e2, mergeT_cons, if_pos c, List.append_assoc]; rfl
    · obtain ⟨as', bs', fs', e1, e2⟩ := merged_loop r hr hrl n k (a :: as) bs (fs ++ [b]) (by simp; omega) (by simp; omega)
      refine ⟨as', bs', fs', ?_, ?_⟩
      · have ea : dAdd (tsD fs) (.tuple [b.d]) = some (.d (tsD (fs ++ [b]))) := by
          rw [dAdd_tup _ _ (le_big (by simp; omega))]; simp
        rw [loopW_succ]
        unfold l_merged_1 at e1 ⊢
        simp only [tsD, List.map_cons] at e1 ea
        simp -implicitDefEqProofs only [eVar_ap, dVar_ap, eC_ap, dOf_ap, eFrz_ap, eBin_ap, bTest_ap, bTru_ap, bAnd_ap, bOr_ap, bNot_ap, eIf_ap, eB_ap, eAnd_ap, eOr_ap, aNil_ap, aCons_ap, sNil_ap, sCons_ap, eTup_ap, eLst_ap, eCall_ap, eApp_ap, oNone_ap, oSome_ap, eSl_ap, sNil'_ap, sSeq_ap, sBrk_ap, sRet_ap, sRetN_ap, sRetO_ap, sDrop_ap, sIf_ap, sSet_ap, sApp_ap, sTown_ap, sExt_ap, sIns_ap, sSetIx_ap, sAsg_ap, sPar_ap, iOf_ap, iVal_ap, iRng1_ap, iRng2_ap, sFor_ap, eComp_ap, bYes_ap, frzAt_ap, eUn_ap, eNotD_ap, eOrD_ap, eChain_ap, eListRg1_ap, eIsa_ap, eMt_ap, iEnumV_ap, iEnumF_ap, iZipV_ap, iZipF_ap, eTLen_ap, iRng3D_ap, sEnd_ap, eSs_ap, sPar3_ap, xPop_ap, xTup1_ap, xCat_ap, sSetX_ap, sAppX_ap, sParO_ap, sForEI_ap, sForK_ap, runB_ap, gOne_ap, gMany_ap, dI_ap, yesC_ap, dCmp_int, setD, kill_nx, kill_rt, kill_bk, Option.bind_some, Option.map_some, Option.bind_none, Option.map_none, List.getElem?_cons_zero, List.getElem?_cons_succ, List.set_cons_zero, List.set_cons_succ, List.cons_append, List.nil_append, List.append_nil, List.replicate, List.length_cons, List.length_nil, Nat.reduceAdd, Nat.reduceSub, Nat.zero_add, wdat_no, wdat_d, wdat_town, wdat_ol, wdat_od, wfrz_no, wfrz_d, wfrz_town, wfrz_ol, wfrz_od, wval_no, wval_d, wval_town, wval_ol, wval_od, warg_no, warg_d, warg_town, warg_ol, warg_od, vals, gLen, gAbs, gMax2, gMin2, gInt, gTup, gList, wipeW, if_true, if_false, Bool.false_eq_true, Bool.not_true, Bool.not_false, reduceCtorEq, dTru_tup, tsD, List.map_cons, List.isEmpty_cons, ix0, ht, rLt_f c, dSl, cutD_take1, cutD_drop1, ea, e1]
      · rw [e2, mergeT_cons, if_neg c, List.append_assoc]; rfl
theorem mergeT_len (r : Rw) : ∀ (as bs : List Th), (mergeT r as bs).length = as.length + bs.length
  | [], bs => by rw [mergeT_nil']; simp
  | a :: as, [] => by rw [mergeT_nil]; simp
  | a :: as, b :: bs => by
    rw [mergeT_cons]
    split
    · have := mergeT_len r as (b :: bs); simp at this ⊢; omega
    · have := mergeT_len r (a :: as) bs; simp at this ⊢; omega
termination_by as bs => as.length + bs.length
theorem merged_ok (r : Rw) (hr : Rw.ok r) (hrl : r.length ≤ 1000000) (as bs : List Th) (hl : as.length + bs.length ≤ 10000) (n : Nat) : m_merged [.d (rowD r), .d (tsD as), .d (tsD bs)] n = some (.d (tsD (mergeT r as bs)), n) := by
  obtain ⟨as', bs', fs', e1, e2⟩ := merged_loop r hr hrl n 100000 as bs [] (by simp; omega) (by omega)
  rw [List.nil_append] at e2
  have hm := congrArg List.length e2
  rw [mergeT_len, List.length_append, List.length_append] at hm
  have h1 : dAdd (tsD fs') (tsD as') = some (.d (tsD (fs' ++ as'))) := by
    rw [dAdd_tup _ _ (le_big (by simp; omega))]; simp
  have h2 : dAdd (tsD (fs' ++ as')) (tsD bs') = some (.d (tsD (mergeT r as bs))) := by
    rw [dAdd_tup _ _ (le_big (by simp; omega)), ← e2]; simp
  have e1 : loopW _ l_merged_1 100000 [.d (rowD r), .d (tsD as), .d (tsD bs), .d (.tuple [])] n = _ := e1
  unfold m_merged b_merged
  simp -implicitDefEqProofs only [eVar_ap, dVar_ap, eC_ap, dOf_ap, eFrz_ap, eBin_ap, bTest_ap, bTru_ap, bAnd_ap, bOr_ap, bNot_ap, eIf_ap, eB_ap, eAnd_ap, eOr_ap, aNil_ap, aCons_ap, sNil_ap, sCons_ap, eTup_ap, eLst_ap, eCall_ap, eApp_ap, oNone_ap, oSome_ap, eSl_ap, sNil'_ap, sSeq_ap, sBrk_ap, sRet_ap, sRetN_ap, sRetO_ap, sDrop_ap, sIf_ap, sSet_ap, sApp_ap, sTown_ap, sExt_ap, sIns_ap, sSetIx_ap, sAsg_ap, sPar_ap, iOf_ap, iVal_ap, iRng1_ap, iRng2_ap, sFor_ap, eComp_ap, bYes_ap, frzAt_ap, eUn_ap, eNotD_ap, eOrD_ap, eChain_ap, eListRg1_ap, eIsa_ap, eMt_ap, iEnumV_ap, iEnumF_ap, iZipV_ap, iZipF_ap, eTLen_ap, iRng3D_ap, sEnd_ap, eSs_ap, sPar3_ap, xPop_ap, xTup1_ap, xCat_ap, sSetX_ap, sAppX_ap, sParO_ap, sForEI_ap, sForK_ap, runB_ap, gOne_ap, gMany_ap, dI_ap, yesC_ap, dCmp_int, setD, kill_nx, kill_rt, kill_bk, Option.bind_some, Option.map_some, Option.bind_none, Option.map_none, List.getElem?_cons_zero, List.getElem?_cons_succ, List.set_cons_zero, List.set_cons_succ, List.cons_append, List.nil_append, List.append_nil, List.replicate, List.length_cons, List.length_nil, Nat.reduceAdd, Nat.reduceSub, Nat.zero_add, wdat_no, wdat_d, wdat_town, wdat_ol, wdat_od, wfrz_no, wfrz_d, wfrz_town, wfrz_ol, wfrz_od, wval_no, wval_d, wval_town, wval_ol, wval_od, warg_no, warg_d, warg_town, warg_ol, warg_od, vals, gLen, gAbs, gMax2, gMin2, gInt, gTup, gList, wipeW, if_true, if_false, Bool.false_eq_true, Bool.not_true, Bool.not_false, reduceCtorEq, e1, h1, h2]
end L2.Lv.Sh
namespace L2.Lv.Sh
open PySem PySem.Spec PyProof.Rows L2 L2.Lv
/-! lists led together two and two -/
theorem rangeC_cons (lo c : Int) (k : Nat) : rangeC lo c (k + 1) = .int lo :: rangeC (lo + c) c k := by
  unfold rangeC
  rw [List.range_succ_eq_map, List.map_cons, List.map_map]
  congr 1
  · simp
  · refine List.map_congr_left fun i _ => ?_
    show PyData.int (lo + ((i + 1 : Nat) : Int) * c) = .int (lo + c + (i : Int) * c)
    rw [Int.natCast_add, Int.add_mul]
    congr 1
    simp
    omega
theorem fitsL {x : Int} (h : -5000 ≤ x) (h2 : x ≤ 5000) : Builtin.Range.rangeFitsLong x = true := by
  unfold Builtin.Range.rangeFitsLong
  simp only [Bool.and_eq_true, decide_eq_true_eq]
  omega
theorem rng3_two (n : Nat) (h : n ≤ 1000) : rng3 (.int 0) (.int n) (.int 2) = some (rangeC 0 2 ((n + 1) / 2)) := by
  have h1 : Builtin.Range.rangeSize 0 (n : Int) 2 = (((n + 1) / 2 : Nat) : Int) := by
    unfold Builtin.Range.rangeSize
    simp
    split <;> omega
  have h2 : Builtin.Range.small 0 (n : Int) 2 = true := by
    unfold Builtin.Range.small
    rw [h1, fitsL (by decide) (by decide), fitsL (by omega) (by omega), fitsL (by decide) (by decide), fitsL (by omega) (by omega), if_pos (by decide), fitsL (by omega) (by omega)]
    simp
  have h3 : (2 : Int).natAbs < 1073741824 := by show 2 < 1073741824; omega
  simp only [rng3, h1, h2, h3, ne_eq, and_true, true_and, Int.natCast_nonneg, Int.toNat_natCast]
  rw [if_pos (by decide)]
def pairUp (r : Rw) : List (List Th) → List (List Th)
  | a :: b :: rest => mergeT r a b :: pairUp r rest
  | [a] => [a]
  | [] => []
theorem pairUp_len (r : Rw) : ∀ ls : List (List Th), (pairUp r ls).length = (ls.length + 1) / 2
  | a :: b :: rest => by
    have := pairUp_len r rest
    simp only [pairUp, List.length_cons, this]
    omega
  | [a] => by simp [pairUp]
  | [] => by simp [pairUp]
theorem pairUp_flen (r : Rw) : ∀ ls : List (List Th), (pairUp r ls).flatten.length = ls.flatten.length
  | a :: b :: rest => by
    have := pairUp_flen r rest
    simp only [pairUp, List.flatten_cons, List.length_append, this, mergeT_len]
    omega
  | [a] => rfl
  | [] => rfl
theorem pairUp_mem (r : Rw) : ∀ (ls : List (List Th)) (x : Th), x ∈ (pairUp r ls).flatten ↔ x ∈ ls.flatten
  | a :: b :: rest, x => by
    have := pairUp_mem r rest x
    simp only [pairUp, List.flatten_cons, List.mem_append, this, mergeT_mem, or_assoc]
  | [a], x => Iff.rfl
  | [], x => Iff.rfl
theorem pairUp_srt (r : Rw) : ∀ ls : List (List Th), (∀ l ∈ ls, srted r l) → ∀ l ∈ pairUp r ls, srted r l
  | a :: b :: rest, h => by
    intro l hl
    rcases List.mem_cons.mp hl with rfl | hl
    · exact (mergeT_is r a b (h a (by simp)) (h b (by simp))).1
    · exact pairUp_srt r rest (fun m hm => h m (by simp [hm])) l hl
  | [a], h => h
  | [], h => h
theorem pairUp_eqv (r : Rw) (x : Th) : ∀ ls : List (List Th), (∀ l ∈ ls, srted r l) → eqv r x (pairUp r ls).flatten = eqv r x ls.flatten
  | a :: b :: rest, h => by
    have ih := pairUp_eqv r x rest fun m hm => h m (by simp [hm])
    simp only [pairUp, List.flatten_cons, eqv_app, ih, (mergeT_is r a b (h a (by simp)) (h b (by simp))).2 x, List.append_assoc]
  | [a], _ => rfl
  | [], _ => rfl
def turnsF (r : Rw) : Nat → List (List Th) → List (List Th)
  | 0, _ => []
  | k + 1, ls => if 1 < ls.length then (pairUp r ls).flatten :: turnsF r k (pairUp r ls) else []
/-- flattening a list of lists of things, one by one -/
theorem flat_loop {p q : Nat} {g : Fg} {body : Fs} {env : List Th → List W} {n : Nat} (hs : ∀ (acc l : List Th), acc.length + l.length ≤ 1000000 → ∃ ρ1, g (tsD l) (env acc) = some ρ1 ∧ body ρ1 n = some (.nx (env (acc ++ l)) n)) :
    ∀ (ls : List (List Th)) (acc : List Th), acc.length + ls.flatten.length ≤ 1000000 → loopF g body (ls.map tsD) (env acc) n = some (.nx (env (acc ++ ls.flatten)) n)
  | [], acc, _ => by simp [loopF]
  | l :: ls, acc, h => by
    rw [List.flatten_cons, List.length_append] at h
    obtain ⟨ρ1, e1, e2⟩ := hs acc l (by omega)
    have ih := flat_loop (p := p) (q := q) hs ls (acc ++ l) (by rw [List.length_append]; omega)
    rw [List.map_cons, loopF_cons]
    simp -implicitDefEqProofs only [eVar_ap, dVar_ap, eC_ap, dOf_ap, eFrz_ap, eBin_ap, bTest_ap, bTru_ap, bAnd_ap, bOr_ap, bNot_ap, eIf_ap, eB_ap, eAnd_ap, eOr_ap, aNil_ap, aCons_ap, sNil_ap, sCons_ap, eTup_ap, eLst_ap, eCall_ap, eApp_ap, oNone_ap, oSome_ap, eSl_ap, sNil'_ap, sSeq_ap, sBrk_ap, sRet_ap, sRetN_ap, sRetO_ap, sDrop_ap, sIf_ap, sSet_ap, sApp_ap, sTown_ap, sExt_ap, sIns_ap, sSetIx_ap, sAsg_ap, sPar_ap, iOf_ap, iVal_ap, iRng1_ap, iRng2_ap, sFor_ap, eComp_ap, bYes_ap, frzAt_ap, eUn_ap, eNotD_ap, eOrD_ap, eChain_ap, eListRg1_ap, eIsa_ap, eMt_ap, iEnumV_ap, iEnumF_ap, iZipV_ap, iZipF_ap, eTLen_ap, iRng3D_ap, sEnd_ap, eSs_ap, sPar3_ap, xPop_ap, xTup1_ap, xCat_ap, sSetX_ap, sAppX_ap, sParO_ap, sForEI_ap, sForK_ap, runB_ap, gOne_ap, gMany_ap, dI_ap, yesC_ap, dCmp_int, setD, kill_nx, kill_rt, kill_bk, Option.bind_some, Option.map_some, Option.bind_none, Option.map_none, List.getElem?_cons_zero, List.getElem?_cons_succ, List.set_cons_zero, List.set_cons_succ, List.cons_append, List.nil_append, List.append_nil, List.replicate, List.length_cons, List.length_nil, Nat.reduceAdd, Nat.reduceSub, Nat.zero_add, wdat_no, wdat_d, wdat_town, wdat_ol, wdat_od, wfrz_no, wfrz_d, wfrz_town, wfrz_ol, wfrz_od, wval_no, wval_d, wval_town, wval_ol, wval_od, warg_no, warg_d, warg_town, warg_ol, warg_od, vals, gLen, gAbs, gMax2, gMin2, gInt, gTup, gList, wipeW, if_true, if_false, Bool.false_eq_true, Bool.not_true, Bool.not_false, reduceCtorEq, e1, e2, ih, List.flatten_cons, List.append_assoc]
theorem dAdd_ts (as bs : List Th) (h : as.length + bs.length ≤ 1000000) : dAdd (tsD as) (tsD bs) = some (.d (tsD (as ++ bs))) := by
  rw [dAdd_tup _ _ (le_big (by simp; omega))]; simp
theorem drop_cons2 {α : Type} {ls : List α} {i : Nat} {a b : α} {rest : List α} (h : ls.drop i = a :: b :: rest) : ls.drop (i + 2) = rest ∧ ls[i]? = some a ∧ ls[i + 1]? = some b := by
  refine ⟨by rw [← List.drop_drop, h]; rfl, ?_, ?_⟩
  · have := congrArg (·[0]?) h
    simpa [List.getElem?_drop] using this
  · have := congrArg (·[1]?) h
    simpa [List.getElem?_drop] using this
theorem cut2 (xs : List PyData) (i : Nat) : cutD xs (some (i : Int)) (some ((i : Int) + 2)) = (xs.drop i).take 2 := by
  unfold cutD
  have e : ((i : Int) + 2) = ((i + 2 : Nat) : Int) := by omega
  rw [e, HT.sIx_nat, HT.sIx_nat]
  by_cases h : i ≤ xs.length
  · rw [Nat.min_eq_left h]
    apply List.ext_getElem?
    intro j
    rw [List.getElem?_take, List.getElem?_take]
    have hd : (xs.drop i).length = xs.length - i := List.length_drop ..
    by_cases hj : j < 2
    · rw [if_pos hj]
      by_cases hk : j < min (i + 2) xs.length - i
      · rw [if_pos hk]
      · rw [if_neg hk, List.getElem?_eq_none (by rw [hd]; omega)]
    · rw [if_neg hj, if_neg (by omega)]
  · have : min i xs.length = xs.length := Nat.min_eq_right (by omega)
    rw [this, List.drop_eq_nil_of_le (show xs.length ≤ i by omega), List.drop_eq_nil_of_le (Nat.le_refl xs.length)]
    simp
theorem turns_in (r : Rw) (hr : Rw.ok r) (hrl : r.length ≤ 1000000) (ls : List (List Th)) (hl : ls.flatten.length ≤ 1000) (w3 : W) (n : Nat) : ∀ (rest : List (List Th)) (i : Nat) (acc : List (List Th)), ls.drop i = rest → acc.length + rest.length ≤ 1000 → (∀ l ∈ rest, l.length ≤ 1000) →
    loopF (gOne 5) l_turns_2 (rangeC i 2 ((rest.length + 1) / 2)) [.d (rowD r), .no, .d (.list (ls.map tsD)), w3, .ol (acc.map tsD), .no, .no, .no, .no] n =
      some (.nx [.d (rowD r), .no, .d (.list (ls.map tsD)), w3, .ol ((acc ++ pairUp r rest).map tsD), .no, .no, .no, .no] n)
  | [], i, acc, _, _, _ => by simp [pairUp, rangeC, loopF]
  | [a], i, acc, hd, hc, hle => by
    have hk : ((([a] : List (List Th)).length + 1) / 2) = 0 + 1 := by simp
    have hcut : cutD (ls.map tsD) (some (i : Int)) (some ((i : Int) + 2)) = [tsD a] := by rw [cut2, ← List.map_drop, hd]; rfl
    have hm := merged_ok r hr hrl a [] (by have := hle a (by simp); simp; omega) n
    rw [mergeT_nil] at hm
    have hb : acc.length < big := by unfold big; simp at hc; omega
    have h1 : dAdd (.list [tsD a]) (.list [.tuple []]) = some (.ol [tsD a, .tuple []]) := dAdd_lst _ _ (le_big (by simp))
    have h2 : dIx (.list [tsD a]) (.int 0) = some (.d (tsD a)) := rfl
    have h3 : dIx (.list [tsD a, .tuple []]) (.int 1) = some (.d (.tuple [])) := rfl
    have hm : m_merged [.d (rowD r), .d (tsD a), .d (.tuple [])] n = _ := hm
    rw [hk, rangeC_cons, loopF_cons]
    unfold l_turns_2
    simp -implicitDefEqProofs only [eVar_ap, dVar_ap, eC_ap, dOf_ap, eFrz_ap, eBin_ap, bTest_ap, bTru_ap, bAnd_ap, bOr_ap, bNot_ap, eIf_ap, eB_ap, eAnd_ap, eOr_ap, aNil_ap, aCons_ap, sNil_ap, sCons_ap, eTup_ap, eLst_ap, eCall_ap, eApp_ap, oNone_ap, oSome_ap, eSl_ap, sNil'_ap, sSeq_ap, sBrk_ap, sRet_ap, sRetN_ap, sRetO_ap, sDrop_ap, sIf_ap, sSet_ap, sApp_ap, sTown_ap, sExt_ap, sIns_ap, sSetIx_ap, sAsg_ap, sPar_ap, iOf_ap, iVal_ap, iRng1_ap, iRng2_ap, sFor_ap, eComp_ap, bYes_ap, frzAt_ap, eUn_ap, eNotD_ap, eOrD_ap, eChain_ap, eListRg1_ap, eIsa_ap, eMt_ap, iEnumV_ap, iEnumF_ap, iZipV_ap, iZipF_ap, eTLen_ap, iRng3D_ap, sEnd_ap, eSs_ap, sPar3_ap, xPop_ap, xTup1_ap, xCat_ap, sSetX_ap, sAppX_ap, sParO_ap, sForEI_ap, sForK_ap, runB_ap, gOne_ap, gMany_ap, dI_ap, yesC_ap, dCmp_int, setD, kill_nx, kill_rt, kill_bk, Option.bind_some, Option.map_some, Option.bind_none, Option.map_none, List.getElem?_cons_zero, List.getElem?_cons_succ, List.set_cons_zero, List.set_cons_succ, List.cons_append, List.nil_append, List.append_nil, List.replicate, List.length_cons, List.length_nil, Nat.reduceAdd, Nat.reduceSub, Nat.zero_add, wdat_no, wdat_d, wdat_town, wdat_ol, wdat_od, wfrz_no, wfrz_d, wfrz_town, wfrz_ol, wfrz_od, wval_no, wval_d, wval_town, wval_ol, wval_od, warg_no, warg_d, warg_town, warg_ol, warg_od, vals, gLen, gAbs, gMax2, gMin2, gInt, gTup, gList, wipeW, if_true, if_false, Bool.false_eq_true, Bool.not_true, Bool.not_false, reduceCtorEq, dSl, dAdd_int, hcut, h1, h2, h3, hm, List.length_map, hb, pairUp, List.map_append, List.map_cons, List.map_nil]
    rfl
  | a :: b :: rest, i, acc, hd, hc, hle => by
    obtain ⟨h1, h2, h3⟩ := drop_cons2 hd
    have hk : (((a :: b :: rest : List (List Th)).length + 1) / 2) = ((rest.length + 1) / 2) + 1 := by simp only [List.length_cons]; omega
    have hcut : cutD (ls.map tsD) (some (i : Int)) (some ((i : Int) + 2)) = [tsD a, tsD b] := by rw [cut2, ← List.map_drop, hd]; rfl
    have hm := merged_ok r hr hrl a b (by have := hle a (by simp); have := hle b (by simp); omega) n
    have hb : acc.length < big := by unfold big; simp at hc; omega
    have g1 : dAdd (.list [tsD a, tsD b]) (.list [.tuple []]) = some (.ol [tsD a, tsD b, .tuple []]) := dAdd_lst _ _ (le_big (by simp))
    have g2 : dIx (.list [tsD a, tsD b]) (.int 0) = some (.d (tsD a)) := rfl
    have g3 : dIx (.list [tsD a, tsD b, .tuple []]) (.int 1) = some (.d (tsD b)) := rfl
    have ih := turns_in r hr hrl ls hl w3 n rest (i + 2) (acc ++ [mergeT r a b]) h1 (by simp at hc ⊢; omega) fun l hl => hle l (by simp [hl])
    have e : ((i + 2 : Nat) : Int) = (i : Int) + 2 := by omega
    rw [e] at ih
    rw [hk, rangeC_cons, loopF_cons]
    unfold l_turns_2 at ih ⊢
    have ea : acc.map tsD ++ [tsD (mergeT r a b)] = (acc ++ [mergeT r a b]).map tsD := by simp
    simp -implicitDefEqProofs only [eVar_ap, dVar_ap, eC_ap, dOf_ap, eFrz_ap, eBin_ap, bTest_ap, bTru_ap, bAnd_ap, bOr_ap, bNot_ap, eIf_ap, eB_ap, eAnd_ap, eOr_ap, aNil_ap, aCons_ap, sNil_ap, sCons_ap, eTup_ap, eLst_ap, eCall_ap, eApp_ap, oNone_ap, oSome_ap, eSl_ap, sNil'_ap, sSeq_ap, sBrk_ap, sRet_ap, sRetN_ap, sRetO_ap, sDrop_ap, sIf_ap, sSet_ap, sApp_ap, sTown_ap, sExt_ap, sIns_ap, sSetIx_ap, sAsg_ap, sPar_ap, iOf_ap, iVal_ap, iRng1_ap, iRng2_ap, sFor_ap, eComp_ap, bYes_ap, frzAt_ap, eUn_ap, eNotD_ap, eOrD_ap, eChain_ap, eListRg1_ap, eIsa_ap, eMt_ap, iEnumV_ap, iEnumF_ap, iZipV_ap, iZipF_ap, eTLen_ap, iRng3D_ap, sEnd_ap, eSs_ap, sPar3_ap, xPop_ap, xTup1_ap, xCat_ap, sSetX_ap, sAppX_ap, sParO_ap, sForEI_ap, sForK_ap, runB_ap, gOne_ap, gMany_ap, dI_ap, yesC_ap, dCmp_int, setD, kill_nx, kill_rt, kill_bk, Option.bind_some, Option.map_some, Option.bind_none, Option.map_none, List.getElem?_cons_zero, List.getElem?_cons_succ, List.set_cons_zero, List.set_cons_succ, List.cons_append, List.nil_append, List.append_nil, List.replicate, List.length_cons, List.length_nil, Nat.reduceAdd, Nat.reduceSub, Nat.zero_add, wdat_no, wdat_d, wdat_town, wdat_ol, wdat_od, wfrz_no, wfrz_d, wfrz_town, wfrz_ol, wfrz_od, wval_no, wval_d, wval_town, wval_ol, wval_od, warg_no, warg_d, warg_town, warg_ol, warg_od, vals, gLen, gAbs, gMax2, gMin2, gInt, gTup, gList, wipeW, if_true, if_false, Bool.false_eq_true, Bool.not_true, Bool.not_false, reduceCtorEq, dSl, dAdd_int, hcut, g1, g2, g3, hm, List.length_map, hb, pairUp, ea, ih, List.append_assoc]
theorem turns_loop (r : Rw) (hr : Rw.ok r) (hrl : r.length ≤ 1000000) (n : Nat) : ∀ (k : Nat) (ls acc : List (List Th)), ls.length < k → ls.length ≤ 1000 → ls.flatten.length ≤ 1000 → (∀ l ∈ ls, l.length ≤ 1000) → acc.length + ls.length ≤ 1000000 → ∃ ls',
    loopW (bTest (eBin (dCmp rGt zGt) (dOf (eApp gLen (sCons (dVar 2) sNil))) (dOf (eC (.int 1))))) l_turns_1 k [.d (rowD r), .no, .d (.list (ls.map tsD)), .ol (acc.map tsD), .no, .no, .no, .no, .no] n =
      some (.nx [.d (rowD r), .no, ls', .ol ((acc ++ turnsF r k ls).map tsD), .no, .no, .no, .no, .no] n)
  | 0, _, _, h, _, _, _, _ => absurd h (Nat.not_lt_zero _)
  | k + 1, ls, acc, hk, h1, h2, h3, h4 => by
    rw [loopW_succ]
    by_cases c : 1 < ls.length
    · have hc : rGt (ls.length : Int) 1 = true := decide_eq_true (by omega)
      have pl := pairUp_len r ls
      have pf := pairUp_flen r ls
      obtain ⟨ls', ih⟩ := turns_loop r hr hrl n k (pairUp r ls) (acc ++ [(pairUp r ls).flatten]) (by omega) (by omega) (by omega) (fun l hl => by
        have := (List.sublist_flatten_of_mem hl).length_le
        omega) (by simp; omega)
      have e1 := turns_in r hr hrl ls h2 (.ol (acc.map tsD)) n ls 0 [] (by simp) (by simpa using h1) h3
      have hr3 := rng3_two ls.length h1
      have e2 := flat_loop (p := 0) (q := 0) (g := gOne 8) (body := l_turns_3) (env := fun a => [.d (rowD r), .no, .d (.list ((pairUp r ls).map tsD)), .ol (acc.map tsD), .no, .no, .no, .d (tsD a), .no]) (n := n)
        (fun a l h => ⟨_, rfl, by unfold l_turns_3; simp -implicitDefEqProofs only [eVar_ap, dVar_ap, eC_ap, dOf_ap, eFrz_ap, eBin_ap, bTest_ap, bTru_ap, bAnd_ap, bOr_ap, bNot_ap, eIf_ap, eB_ap, eAnd_ap, eOr_ap, aNil_ap, aCons_ap, sNil_ap, sCons_ap, eTup_ap, eLst_ap, eCall_ap, eApp_ap, oNone_ap, oSome_ap, eSl_ap, sNil'_ap, sSeq_ap, sBrk_ap, sRet_ap, sRetN_ap, sRetO_ap, sDrop_ap, sIf_ap, sSet_ap, sApp_ap, sTown_ap, sExt_ap, sIns_ap, sSetIx_ap, sAsg_ap, sPar_ap, iOf_ap, iVal_ap, iRng1_ap, iRng2_ap, sFor_ap, eComp_ap, bYes_ap, frzAt_ap, eUn_ap, eNotD_ap, eOrD_ap, eChain_ap, eListRg1_ap, eIsa_ap, eMt_ap, iEnumV_ap, iEnumF_ap, iZipV_ap, iZipF_ap, eTLen_ap, iRng3D_ap, sEnd_ap, eSs_ap, sPar3_ap, xPop_ap, xTup1_ap, xCat_ap, sSetX_ap, sAppX_ap, sParO_ap, sForEI_ap, sForK_ap, runB_ap, gOne_ap, gMany_ap, dI_ap, yesC_ap, dCmp_int, setD, kill_nx, kill_rt, kill_bk, Option.bind_some, Option.map_some, Option.bind_none, Option.map_none, List.getElem?_cons_zero, List.getElem?_cons_succ, List.set_cons_zero, List.set_cons_succ, List.cons_append, List.nil_append, List.append_nil, List.replicate, List.length_cons, List.length_nil, Nat.reduceAdd, Nat.reduceSub, Nat.zero_add, wdat_no, wdat_d, wdat_town, wdat_ol, wdat_od, wfrz_no, wfrz_d, wfrz_town, wfrz_ol, wfrz_od, wval_no, wval_d, wval_town, wval_ol, wval_od, warg_no, warg_d, warg_town, warg_ol, warg_od, vals, gLen, gAbs, gMax2, gMin2, gInt, gTup, gList, wipeW, if_true, if_false, Bool.false_eq_true, Bool.not_true, Bool.not_false, reduceCtorEq, dAdd_ts a l h]⟩) (pairUp r ls) [] (by rw [List.length_nil]; omega)
      rw [List.nil_append] at e1 e2
      have e2 : loopF (gOne 8) l_turns_3 ((pairUp r ls).map tsD) [.d (rowD r), .no, .d (.list ((pairUp r ls).map tsD)), .ol (acc.map tsD), .no, .no, .no, .d (.tuple []), .no] n = _ := e2
      have e1 : loopF (gOne 5) l_turns_2 (rangeC 0 2 ((ls.length + 1) / 2)) [.d (rowD r), .no, .d (.list (ls.map tsD)), .ol (acc.map tsD), .ol [], .no, .no, .no, .no] n = _ := e1
      have hb : acc.length < big := by unfold big; omega
      have ea : acc.map tsD ++ [tsD (pairUp r ls).flatten] = (acc ++ [(pairUp r ls).flatten]).map tsD := by simp
      have et : turnsF r (k + 1) ls = (pairUp r ls).flatten :: turnsF r k (pairUp r ls) := if_pos c
      refine ⟨ls', ?_⟩
      rw [et]
      unfold l_turns_1 at ih ⊢
      simp -implicitDefEqProofs only [eVar_ap, dVar_ap, eC_ap, dOf_ap, eFrz_ap, eBin_ap, bTest_ap, bTru_ap, bAnd_ap, bOr_ap, bNot_ap, eIf_ap, eB_ap, eAnd_ap, eOr_ap, aNil_ap, aCons_ap, sNil_ap, sCons_ap, eTup_ap, eLst_ap, eCall_ap, eApp_ap, oNone_ap, oSome_ap, eSl_ap, sNil'_ap, sSeq_ap, sBrk_ap, sRet_ap, sRetN_ap, sRetO_ap, sDrop_ap, sIf_ap, sSet_ap, sApp_ap, sTown_ap, sExt_ap, sIns_ap, sSetIx_ap, sAsg_ap, sPar_ap, iOf_ap, iVal_ap, iRng1_ap, iRng2_ap, sFor_ap, eComp_ap, bYes_ap, frzAt_ap, eUn_ap, eNotD_ap, eOrD_ap, eChain_ap, eListRg1_ap, eIsa_ap, eMt_ap, iEnumV_ap, iEnumF_ap, iZipV_ap, iZipF_ap, eTLen_ap, iRng3D_ap, sEnd_ap, eSs_ap, sPar3_ap, xPop_ap, xTup1_ap, xCat_ap, sSetX_ap, sAppX_ap, sParO_ap, sForEI_ap, sForK_ap, runB_ap, gOne_ap, gMany_ap, dI_ap, yesC_ap, dCmp_int, setD, kill_nx, kill_rt, kill_bk, Option.bind_some, Option.map_some, Option.bind_none, Option.map_none, List.getElem?_cons_zero, List.getElem?_cons_succ, List.set_cons_zero, List.set_cons_succ, List.cons_append, List.nil_append, List.append_nil, List.replicate, List.length_cons, List.length_nil, Nat.reduceAdd, Nat.reduceSub, Nat.zero_add, wdat_no, wdat_d, wdat_town, wdat_ol, wdat_od, wfrz_no, wfrz_d, wfrz_town, wfrz_ol, wfrz_od, wval_no, wval_d, wval_town, wval_ol, wval_od, warg_no, warg_d, warg_town, warg_ol, warg_od, vals, gLen, gAbs, gMax2, gMin2, gInt, gTup, gList, wipeW, if_true, if_false, Bool.false_eq_true, Bool.not_true, Bool.not_false, reduceCtorEq, List.length_map, hc, hr3, e1, iSeq, e2, hb, ea, ih, List.append_assoc]
    · have hc : rGt (ls.length : Int) 1 = false := decide_eq_false (by omega)
      have et : turnsF r (k + 1) ls = [] := if_neg c
      refine ⟨.d (.list (ls.map tsD)), ?_⟩
      rw [et]
      simp -implicitDefEqProofs only [eVar_ap, dVar_ap, eC_ap, dOf_ap, eFrz_ap, eBin_ap, bTest_ap, bTru_ap, bAnd_ap, bOr_ap, bNot_ap, eIf_ap, eB_ap, eAnd_ap, eOr_ap, aNil_ap, aCons_ap, sNil_ap, sCons_ap, eTup_ap, eLst_ap, eCall_ap, eApp_ap, oNone_ap, oSome_ap, eSl_ap, sNil'_ap, sSeq_ap, sBrk_ap, sRet_ap, sRetN_ap, sRetO_ap, sDrop_ap, sIf_ap, sSet_ap, sApp_ap, sTown_ap, sExt_ap, sIns_ap, sSetIx_ap, sAsg_ap, sPar_ap, iOf_ap, iVal_ap, iRng1_ap, iRng2_ap, sFor_ap, eComp_ap, bYes_ap, frzAt_ap, eUn_ap, eNotD_ap, eOrD_ap, eChain_ap, eListRg1_ap, eIsa_ap, eMt_ap, iEnumV_ap, iEnumF_ap, iZipV_ap, iZipF_ap, eTLen_ap, iRng3D_ap, sEnd_ap, eSs_ap, sPar3_ap, xPop_ap, xTup1_ap, xCat_ap, sSetX_ap, sAppX_ap, sParO_ap, sForEI_ap, sForK_ap, runB_ap, gOne_ap, gMany_ap, dI_ap, yesC_ap, dCmp_int, setD, kill_nx, kill_rt, kill_bk, Option.bind_some, Option.map_some, Option.bind_none, Option.map_none, List.getElem?_cons_zero, List.getElem?_cons_succ, List.set_cons_zero, List.set_cons_succ, List.cons_append, List.nil_append, List.append_nil, List.replicate, List.length_cons, List.length_nil, Nat.reduceAdd, Nat.reduceSub, Nat.zero_add, wdat_no, wdat_d, wdat_town, wdat_ol, wdat_od, wfrz_no, wfrz_d, wfrz_town, wfrz_ol, wfrz_od, wval_no, wval_d, wval_town, wval_ol, wval_od, warg_no, warg_d, warg_town, warg_ol, warg_od, vals, gLen, gAbs, gMax2, gMin2, gInt, gTup, gList, wipeW, if_true, if_false, Bool.false_eq_true, Bool.not_true, Bool.not_false, reduceCtorEq, List.length_map, hc]
def turnsT (r : Rw) (ts : List Th) : List (List Th) := turnsF r 100000 (runsT r ts)
end L2.Lv.Sh
namespace L2.Lv.Sh
open PySem PySem.Spec PyProof.Rows L2 L2.Lv L2.Lv.Sh
theorem rStep_ok {r : Rw} {acc : List (List Th)} {t : Th} {k : Nat} (ha : ∀ l ∈ acc, ∀ t ∈ l, t.ok) (hto : t.ok) (h : rInv acc k) : ∀ l ∈ rStep r acc t, ∀ t ∈ l, t.ok := by
  rcases List.eq_nil_or_concat acc with rfl | ⟨A, l, rfl⟩
  · intro l hl z hz
    rw [rStep_nil] at hl
    simp at hl; subst hl; simp at hz; subst hz; exact hto
  · obtain ⟨n1, _⟩ := h.2 l (by simp)
    rcases List.eq_nil_or_concat l with rfl | ⟨B, u, rfl⟩
    · exact absurd rfl n1
    · simp only [List.concat_eq_append] at *
      rw [rStep_app]
      intro l hl z hz
      split at hl
      · rcases List.mem_append.mp hl with hl | hl
        · exact ha l (List.mem_append_left _ hl) z hz
        · simp only [List.mem_singleton] at hl; subst hl
          rcases List.mem_append.mp hz with hz | hz
          · exact ha (B ++ [u]) (by simp) z hz
          · simp only [List.mem_singleton] at hz; subst hz; exact hto
      · rcases List.mem_append.mp hl with hl | hl
        · exact ha l hl z hz
        · simp only [List.mem_singleton] at hl; subst hl
          simp only [List.mem_singleton] at hz; subst hz; exact hto
theorem fold_ok {r : Rw} : ∀ (ts : List Th) (acc : List (List Th)), (∀ t ∈ ts, t.ok) → (∀ l ∈ acc, ∀ t ∈ l, t.ok) → rInv acc ts.length → ∀ l ∈ ts.foldl (rStep r) acc, ∀ t ∈ l, t.ok
  | [], _, _, h, _ => h
  | t :: ts, acc, ht, h, hi => fold_ok ts (rStep r acc t) (fun z hz => ht z (List.mem_cons_of_mem _ hz)) (rStep_ok h (ht t (List.mem_cons_self ..)) hi) (rInv.step hi)
theorem runsT_ok {r : Rw} {ts : List Th} (ht : ∀ t ∈ ts, t.ok) (hl : ts.length ≤ 1000) : ∀ l ∈ runsT r ts, ∀ t ∈ l, t.ok := fold_ok ts [] ht (by simp) (rInv0 hl)
/-! what the runs are -/
theorem rStep_flat {r : Rw} {acc : List (List Th)} {t : Th} {k : Nat} (h : rInv acc k) : (rStep r acc t).flatten = acc.flatten ++ [t] := by
  rcases List.eq_nil_or_concat acc with rfl | ⟨A, l, rfl⟩
  · rfl
  · obtain ⟨n1, _⟩ := h.2 l (by simp)
    rcases List.eq_nil_or_concat l with rfl | ⟨B, u, rfl⟩
    · exact absurd rfl n1
    · simp only [List.concat_eq_append] at *
      rw [rStep_app]
      split <;> simp
theorem rStep_srt {r : Rw} {acc : List (List Th)} {t : Th} {k : Nat} (h : rInv acc k) (hs : ∀ l ∈ acc, srted r l) : ∀ l ∈ rStep r acc t, srted r l := by
  rcases List.eq_nil_or_concat acc with rfl | ⟨A, l, rfl⟩
  · intro l hl
    rw [rStep_nil] at hl
    simp at hl; subst hl; exact List.pairwise_singleton _ _
  · obtain ⟨n1, _⟩ := h.2 l (by simp)
    rcases List.eq_nil_or_concat l with rfl | ⟨B, u, rfl⟩
    · exact absurd rfl n1
    · simp only [List.concat_eq_append] at *
      rw [rStep_app]
      intro l hl
      split at hl
      · rename_i c
        rcases List.mem_append.mp hl with hl | hl
        · exact hs l (List.mem_append_left _ hl)
        · simp only [List.mem_singleton] at hl; subst hl
          have q : srted r (B ++ [u]) := hs (B ++ [u]) (by simp)
          refine List.pairwise_append.mpr ⟨q, List.pairwise_singleton _ _, fun x hx y hy => ?_⟩
          simp only [List.mem_singleton] at hy; subst hy
          rcases List.mem_append.mp hx with hx | hx
          · exact wrd_trans r x u y ((List.pairwise_append.mp q).2.2 x hx u (by simp)) c
          · simp only [List.mem_singleton] at hx; subst hx; exact c
      · rcases List.mem_append.mp hl with hl | hl
        · exact hs l hl
        · simp only [List.mem_singleton] at hl; subst hl; exact List.pairwise_singleton _ _
theorem foldR (r : Rw) : ∀ (ts : List Th) (acc : List (List Th)), rInv acc ts.length → (∀ l ∈ acc, srted r l) → (ts.foldl (rStep r) acc).flatten = acc.flatten ++ ts ∧ ∀ l ∈ ts.foldl (rStep r) acc, srted r l
  | [], acc, _, h => ⟨by simp, h⟩
  | t :: ts, acc, hi, h => by
    obtain ⟨q1, q2⟩ := foldR r ts (rStep r acc t) (rInv.step hi) (rStep_srt hi h)
    rw [List.foldl_cons]
    exact ⟨by rw [q1, rStep_flat hi]; simp, q2⟩
theorem runsT_flat {r : Rw} {ts : List Th} (hl : ts.length ≤ 1000) : (runsT r ts).flatten = ts := by
  have := (foldR r ts [] (rInv0 hl) (by simp)).1
  simpa [runsT] using this
theorem runsT_srt {r : Rw} {ts : List Th} (hl : ts.length ≤ 1000) : ∀ l ∈ runsT r ts, srted r l := (foldR r ts [] (rInv0 hl) (by simp)).2
theorem fold_len (r : Rw) : ∀ (ts : List Th) (acc : List (List Th)), rInv acc ts.length → (ts.foldl (rStep r) acc).length ≤ acc.length + ts.length
  | [], acc, _ => by simp
  | t :: ts, acc, hi => by
    have := fold_len r ts (rStep r acc t) (rInv.step hi)
    have h2 : (rStep r acc t).length ≤ acc.length + 1 := by
      rcases List.eq_nil_or_concat acc with rfl | ⟨A, l, rfl⟩
      · simp [rStep_nil]
      · obtain ⟨n1, _⟩ := hi.2 l (by simp)
        rcases List.eq_nil_or_concat l with rfl | ⟨B, u, rfl⟩
        · exact absurd rfl n1
        · simp only [List.concat_eq_append] at *
          rw [rStep_app]
          split <;> simp
    rw [List.foldl_cons, List.length_cons]
    omega
theorem runsT_len {r : Rw} {ts : List Th} (hl : ts.length ≤ 1000) : (runsT r ts).length ≤ ts.length := by
  have := fold_len r ts [] (rInv0 hl)
  simpa [runsT] using this
theorem mem_len {l : List Th} {ls : List (List Th)} (h : l ∈ ls) : l.length ≤ ls.flatten.length := (List.sublist_flatten_of_mem h).length_le
theorem turns_ok (r : Rw) (hr : Rw.ok r) (hrl : r.length ≤ 1000000) (ts : List Th) (hl : ts.length ≤ 1000) (n : Nat) : m_turns [.d (rowD r), .d (tsD ts)] n = some (.d (tssD (turnsT r ts)), n) := by
  have h1 := runs_ok r hr hrl ts hl n
  have h2 := runsT_len (r := r) hl
  have h3 := runsT_flat (r := r) hl
  obtain ⟨ls', e⟩ := turns_loop r hr hrl n 100000 (runsT r ts) [] (by omega) (by omega) (by rw [h3]; exact hl) (fun l h => by have := mem_len h; rw [h3] at this; omega) (by simp; omega)
  rw [List.nil_append] at e
  have e : loopW _ l_turns_1 100000 [.d (rowD r), .no, .d (.list ((runsT r ts).map tsD)), .ol [], .no, .no, .no, .no, .no] n = _ := e
  unfold m_turns b_turns
  simp -implicitDefEqProofs only [eVar_ap, dVar_ap, eC_ap, dOf_ap, eFrz_ap, eBin_ap, bTest_ap, bTru_ap, bAnd_ap, bOr_ap, bNot_ap, eIf_ap, eB_ap, eAnd_ap, eOr_ap, aNil_ap, aCons_ap, sNil_ap, sCons_ap, eTup_ap, eLst_ap, eCall_ap, eApp_ap, oNone_ap, oSome_ap, eSl_ap, sNil'_ap, sSeq_ap, sBrk_ap, sRet_ap, sRetN_ap, sRetO_ap, sDrop_ap, sIf_ap, sSet_ap, sApp_ap, sTown_ap, sExt_ap, sIns_ap, sSetIx_ap, sAsg_ap, sPar_ap, iOf_ap, iVal_ap, iRng1_ap, iRng2_ap, sFor_ap, eComp_ap, bYes_ap, frzAt_ap, eUn_ap, eNotD_ap, eOrD_ap, eChain_ap, eListRg1_ap, eIsa_ap, eMt_ap, iEnumV_ap, iEnumF_ap, iZipV_ap, iZipF_ap, eTLen_ap, iRng3D_ap, sEnd_ap, eSs_ap, sPar3_ap, xPop_ap, xTup1_ap, xCat_ap, sSetX_ap, sAppX_ap, sParO_ap, sForEI_ap, sForK_ap, runB_ap, gOne_ap, gMany_ap, dI_ap, yesC_ap, dCmp_int, setD, kill_nx, kill_rt, kill_bk, Option.bind_some, Option.map_some, Option.bind_none, Option.map_none, List.getElem?_cons_zero, List.getElem?_cons_succ, List.set_cons_zero, List.set_cons_succ, List.cons_append, List.nil_append, List.append_nil, List.replicate, List.length_cons, List.length_nil, Nat.reduceAdd, Nat.reduceSub, Nat.zero_add, wdat_no, wdat_d, wdat_town, wdat_ol, wdat_od, wfrz_no, wfrz_d, wfrz_town, wfrz_ol, wfrz_od, wval_no, wval_d, wval_town, wval_ol, wval_od, warg_no, warg_d, warg_town, warg_ol, warg_od, vals, gLen, gAbs, gMax2, gMin2, gInt, gTup, gList, wipeW, if_true, if_false, Bool.false_eq_true, Bool.not_true, Bool.not_false, reduceCtorEq, h1, e]
  rfl
/-! by hand -/
theorem sE_snd (r : Rw) (ts : List Th) (n : Nat) (a b : Nat) (ρ : List W) (own : List Nat) (h : ∀ p : Nat × Th, dVar a ((wipeW ρ own).set b (.d (.int (p.1 : Int)))) n = some (tsD ts, n)) (hb : ∀ p : Nat × Th, dVar b ((wipeW ρ own).set b (.d (.int (p.1 : Int)))) n = some (.int (p.1 : Int), n)) :
    loopC (gOne b) own bYes (eBin dIx (dVar a) (dVar b)) ρ ((sE r ts).map fun p : Nat × Th => PyData.int (p.1 : Int)) n = some ((ordT r ts).map Th.d, n) := by
  have c := comp_mapA (g := gOne b) (own := own) (elt := eBin dIx (dVar a) (dVar b)) (ρ := ρ) (n := n) (fun p : Nat × Th => .int (p.1 : Int)) (fun p => p.2.d) (sE r ts) fun p hp => ⟨_, rfl, by
    rw [eBin_ap, h p]
    simp only [Option.bind_some]
    rw [hb p]
    simp -implicitDefEqProofs only [eVar_ap, dVar_ap, eC_ap, dOf_ap, eFrz_ap, eBin_ap, bTest_ap, bTru_ap, bAnd_ap, bOr_ap, bNot_ap, eIf_ap, eB_ap, eAnd_ap, eOr_ap, aNil_ap, aCons_ap, sNil_ap, sCons_ap, eTup_ap, eLst_ap, eCall_ap, eApp_ap, oNone_ap, oSome_ap, eSl_ap, sNil'_ap, sSeq_ap, sBrk_ap, sRet_ap, sRetN_ap, sRetO_ap, sDrop_ap, sIf_ap, sSet_ap, sApp_ap, sTown_ap, sExt_ap, sIns_ap, sSetIx_ap, sAsg_ap, sPar_ap, iOf_ap, iVal_ap, iRng1_ap, iRng2_ap, sFor_ap, eComp_ap, bYes_ap, frzAt_ap, eUn_ap, eNotD_ap, eOrD_ap, eChain_ap, eListRg1_ap, eIsa_ap, eMt_ap, iEnumV_ap, iEnumF_ap, iZipV_ap, iZipF_ap, eTLen_ap, iRng3D_ap, sEnd_ap, eSs_ap, sPar3_ap, xPop_ap, xTup1_ap, xCat_ap, sSetX_ap, sAppX_ap, sParO_ap, sForEI_ap, sForK_ap, runB_ap, gOne_ap, gMany_ap, dI_ap, yesC_ap, dCmp_int, setD, kill_nx, kill_rt, kill_bk, Option.bind_some, Option.map_some, Option.bind_none, Option.map_none, List.getElem?_cons_zero, List.getElem?_cons_succ, List.set_cons_zero, List.set_cons_succ, List.cons_append, List.nil_append, List.append_nil, List.replicate, List.length_cons, List.length_nil, Nat.reduceAdd, Nat.reduceSub, Nat.zero_add, wdat_no, wdat_d, wdat_town, wdat_ol, wdat_od, wfrz_no, wfrz_d, wfrz_town, wfrz_ol, wfrz_od, wval_no, wval_d, wval_town, wval_ol, wval_od, warg_no, warg_d, warg_town, warg_ol, warg_od, vals, gLen, gAbs, gMax2, gMin2, gInt, gTup, gList, wipeW, if_true, if_false, Bool.false_eq_true, Bool.not_true, Bool.not_false, reduceCtorEq, dIx_ts ((sE_perm r ts).mem_iff.mp hp)]⟩
  have h7 : (sE r ts).map (fun p => p.2.d) = (ordT r ts).map Th.d := by unfold ordT; rw [List.map_map]; rfl
  rw [h7] at c
  exact c
theorem sE_big (r : Rw) (ts : List Th) (h : ts.length ≤ 1000000) : ((sE r ts).map fun p : Nat × Th => PyData.int (p.1 : Int)).length ≤ big := by rw [List.length_map, sE_len]; exact le_big h
theorem together_ok (r : Rw) (hr : Rw.ok r) (as bs : List Th) (ha : ∀ t ∈ as, t.ok) (hb : ∀ t ∈ bs, t.ok) (hl : as.length + bs.length ≤ 1000) (n : Nat) : m__law_together [.d (rowD r), .d (tsD as), .d (tsD bs)] n = some (.d (tsD (ordT r (as ++ bs))), n) := by
  have h1 := lsorted_ok r hr (as ++ bs) (fun t ht => (List.mem_append.mp ht).elim (ha t) (hb t)) (by simpa using hl) n
  have h2 := dAdd_ts as bs (by omega)
  have c := sE_snd r (as ++ bs) n 3 4 [.d (rowD r), .no, .no, .d (tsD (as ++ bs)), .no] [4] (fun p => rfl) (fun p => rfl)
  have hb := sE_big r (as ++ bs) (by simp; omega)
  unfold m__law_together b__law_together
  simp -implicitDefEqProofs only [eVar_ap, dVar_ap, eC_ap, dOf_ap, eFrz_ap, eBin_ap, bTest_ap, bTru_ap, bAnd_ap, bOr_ap, bNot_ap, eIf_ap, eB_ap, eAnd_ap, eOr_ap, aNil_ap, aCons_ap, sNil_ap, sCons_ap, eTup_ap, eLst_ap, eCall_ap, eApp_ap, oNone_ap, oSome_ap, eSl_ap, sNil'_ap, sSeq_ap, sBrk_ap, sRet_ap, sRetN_ap, sRetO_ap, sDrop_ap, sIf_ap, sSet_ap, sApp_ap, sTown_ap, sExt_ap, sIns_ap, sSetIx_ap, sAsg_ap, sPar_ap, iOf_ap, iVal_ap, iRng1_ap, iRng2_ap, sFor_ap, eComp_ap, bYes_ap, frzAt_ap, eUn_ap, eNotD_ap, eOrD_ap, eChain_ap, eListRg1_ap, eIsa_ap, eMt_ap, iEnumV_ap, iEnumF_ap, iZipV_ap, iZipF_ap, eTLen_ap, iRng3D_ap, sEnd_ap, eSs_ap, sPar3_ap, xPop_ap, xTup1_ap, xCat_ap, sSetX_ap, sAppX_ap, sParO_ap, sForEI_ap, sForK_ap, runB_ap, gOne_ap, gMany_ap, dI_ap, yesC_ap, dCmp_int, setD, kill_nx, kill_rt, kill_bk, Option.bind_some, Option.map_some, Option.bind_none, Option.map_none, List.getElem?_cons_zero, List.getElem?_cons_succ, List.set_cons_zero, List.set_cons_succ, List.cons_append, List.nil_append, List.append_nil, List.replicate, List.length_cons, List.length_nil, Nat.reduceAdd, Nat.reduceSub, Nat.zero_add, wdat_no, wdat_d, wdat_town, wdat_ol, wdat_od, wfrz_no, wfrz_d, wfrz_town, wfrz_ol, wfrz_od, wval_no, wval_d, wval_town, wval_ol, wval_od, warg_no, warg_d, warg_town, warg_ol, warg_od, vals, gLen, gAbs, gMax2, gMin2, gInt, gTup, gList, wipeW, if_true, if_false, Bool.false_eq_true, Bool.not_true, Bool.not_false, reduceCtorEq, h2, h1, iSeq, hb, c]
theorem lturns_cut (r : Rw) (hr : Rw.ok r)  (n : Nat) : ∀ (ts : List Th) (ht : ∀ t ∈ ts, t.ok) (acc : List (List Th)) (ha : ∀ l ∈ acc, ∀ t ∈ l, t.ok), rInv acc ts.length →
    loopF (gOne 3) l__law_turns_1 (ts.map Th.d) [.d (rowD r), .no, .ol (acc.map tsD), .no, .no, .no, .no, .no, .no] n = some (.nx [.d (rowD r), .no, .ol ((ts.foldl (rStep r) acc).map tsD), .no, .no, .no, .no, .no, .no] n)
  | [], _, acc, _, _ => rfl
  | t :: ts, ht, acc, ha, h => by
    have hto : t.ok := ht t (List.mem_cons_self ..)
    have e := lturns_cut r hr  n ts (fun z hz => ht z (List.mem_cons_of_mem _ hz)) (rStep r acc t) (rStep_ok ha hto h) (rInv.step h)
    obtain ⟨h1, h2⟩ := h
    have hb : (acc.map tsD).length < big := by rw [List.length_map]; unfold big; simp at h1; omega
    rw [List.map_cons, loopF_cons, List.foldl_cons]
    unfold l__law_turns_1 at e ⊢
    rcases List.eq_nil_or_concat acc with rfl | ⟨A, l, rfl⟩
    · have hb0 : 0 < big := by decide
      rw [rStep_nil] at e
      rw [rStep_nil]
      have e' : loopF (gOne 3) _ (ts.map Th.d) [.d (rowD r), .no, .ol [.tuple [t.d]], .no, .no, .no, .no, .no, .no] n = _ := e
      simp -implicitDefEqProofs only [eVar_ap, dVar_ap, eC_ap, dOf_ap, eFrz_ap, eBin_ap, bTest_ap, bTru_ap, bAnd_ap, bOr_ap, bNot_ap, eIf_ap, eB_ap, eAnd_ap, eOr_ap, aNil_ap, aCons_ap, sNil_ap, sCons_ap, eTup_ap, eLst_ap, eCall_ap, eApp_ap, oNone_ap, oSome_ap, eSl_ap, sNil'_ap, sSeq_ap, sBrk_ap, sRet_ap, sRetN_ap, sRetO_ap, sDrop_ap, sIf_ap, sSet_ap, sApp_ap, sTown_ap, sExt_ap, sIns_ap, sSetIx_ap, sAsg_ap, sPar_ap, iOf_ap, iVal_ap, iRng1_ap, iRng2_ap, sFor_ap, eComp_ap, bYes_ap, frzAt_ap, eUn_ap, eNotD_ap, eOrD_ap, eChain_ap, eListRg1_ap, eIsa_ap, eMt_ap, iEnumV_ap, iEnumF_ap, iZipV_ap, iZipF_ap, eTLen_ap, iRng3D_ap, sEnd_ap, eSs_ap, sPar3_ap, xPop_ap, xTup1_ap, xCat_ap, sSetX_ap, sAppX_ap, sParO_ap, sForEI_ap, sForK_ap, runB_ap, gOne_ap, gMany_ap, dI_ap, yesC_ap, dCmp_int, setD, kill_nx, kill_rt, kill_bk, Option.bind_some, Option.map_some, Option.bind_none, Option.map_none, List.getElem?_cons_zero, List.getElem?_cons_succ, List.set_cons_zero, List.set_cons_succ, List.cons_append, List.nil_append, List.append_nil, List.replicate, List.length_cons, List.length_nil, Nat.reduceAdd, Nat.reduceSub, Nat.zero_add, wdat_no, wdat_d, wdat_town, wdat_ol, wdat_od, wfrz_no, wfrz_d, wfrz_town, wfrz_ol, wfrz_od, wval_no, wval_d, wval_town, wval_ol, wval_od, warg_no, warg_d, warg_town, warg_ol, warg_od, vals, gLen, gAbs, gMax2, gMin2, gInt, gTup, gList, wipeW, if_true, if_false, Bool.false_eq_true, Bool.not_true, Bool.not_false, reduceCtorEq, dTru, List.map_nil, List.isEmpty_nil, hb0, e']
    · obtain ⟨n1, n2⟩ := h2 l (by simp)
      rcases List.eq_nil_or_concat l with rfl | ⟨B, u, rfl⟩
      · exact absurd rfl n1
      · simp only [List.concat_eq_append] at *
        rw [rStep_app] at e
        rw [rStep_app]
        have huo : u.ok := ha (B ++ [u]) (by simp) u (by simp)
        have hw := word_ok r hr u t huo hto n
        have he : ((A ++ [B ++ [u]]).map tsD).isEmpty = false := by simp
        by_cases c : wrd r u t < 1
        · rw [if_pos c] at e
          rw [if_pos c]
          have ea : dAdd (tsD (B ++ [u])) (.tuple [t.d]) = some (.d (tsD (B ++ [u] ++ [t]))) := by
            rw [dAdd_tup _ _ (le_big (by simp at n2 ⊢; omega))]; simp
          have ix : ixN ((A ++ [B ++ [u]]).map tsD).length (-1) = some A.length := by
            have : ((A ++ [B ++ [u]]).map tsD).length = A.length + 1 := by simp
            rw [this, ixN_last]
          simp -implicitDefEqProofs only [eVar_ap, dVar_ap, eC_ap, dOf_ap, eFrz_ap, eBin_ap, bTest_ap, bTru_ap, bAnd_ap, bOr_ap, bNot_ap, eIf_ap, eB_ap, eAnd_ap, eOr_ap, aNil_ap, aCons_ap, sNil_ap, sCons_ap, eTup_ap, eLst_ap, eCall_ap, eApp_ap, oNone_ap, oSome_ap, eSl_ap, sNil'_ap, sSeq_ap, sBrk_ap, sRet_ap, sRetN_ap, sRetO_ap, sDrop_ap, sIf_ap, sSet_ap, sApp_ap, sTown_ap, sExt_ap, sIns_ap, sSetIx_ap, sAsg_ap, sPar_ap, iOf_ap, iVal_ap, iRng1_ap, iRng2_ap, sFor_ap, eComp_ap, bYes_ap, frzAt_ap, eUn_ap, eNotD_ap, eOrD_ap, eChain_ap, eListRg1_ap, eIsa_ap, eMt_ap, iEnumV_ap, iEnumF_ap, iZipV_ap, iZipF_ap, eTLen_ap, iRng3D_ap, sEnd_ap, eSs_ap, sPar3_ap, xPop_ap, xTup1_ap, xCat_ap, sSetX_ap, sAppX_ap, sParO_ap, sForEI_ap, sForK_ap, runB_ap, gOne_ap, gMany_ap, dI_ap, yesC_ap, dCmp_int, setD, kill_nx, kill_rt, kill_bk, Option.bind_some, Option.map_some, Option.bind_none, Option.map_none, List.getElem?_cons_zero, List.getElem?_cons_succ, List.set_cons_zero, List.set_cons_succ, List.cons_append, List.nil_append, List.append_nil, List.replicate, List.length_cons, List.length_nil, Nat.reduceAdd, Nat.reduceSub, Nat.zero_add, wdat_no, wdat_d, wdat_town, wdat_ol, wdat_od, wfrz_no, wfrz_d, wfrz_town, wfrz_ol, wfrz_od, wval_no, wval_d, wval_town, wval_ol, wval_od, warg_no, warg_d, warg_town, warg_ol, warg_od, vals, gLen, gAbs, gMax2, gMin2, gInt, gTup, gList, wipeW, if_true, if_false, Bool.false_eq_true, Bool.not_true, Bool.not_false, reduceCtorEq, dTru, he, dNeg, rLast, tLast, hw, rLt_t c, ea, ix, rSet, e]
        · rw [if_neg c] at e
          rw [if_neg c]
          have em : (A ++ [B ++ [u]]).map tsD ++ [.tuple [t.d]] = (A ++ [B ++ [u]] ++ [[t]]).map tsD := by simp
          simp -implicitDefEqProofs only [eVar_ap, dVar_ap, eC_ap, dOf_ap, eFrz_ap, eBin_ap, bTest_ap, bTru_ap, bAnd_ap, bOr_ap, bNot_ap, eIf_ap, eB_ap, eAnd_ap, eOr_ap, aNil_ap, aCons_ap, sNil_ap, sCons_ap, eTup_ap, eLst_ap, eCall_ap, eApp_ap, oNone_ap, oSome_ap, eSl_ap, sNil'_ap, sSeq_ap, sBrk_ap, sRet_ap, sRetN_ap, sRetO_ap, sDrop_ap, sIf_ap, sSet_ap, sApp_ap, sTown_ap, sExt_ap, sIns_ap, sSetIx_ap, sAsg_ap, sPar_ap, iOf_ap, iVal_ap, iRng1_ap, iRng2_ap, sFor_ap, eComp_ap, bYes_ap, frzAt_ap, eUn_ap, eNotD_ap, eOrD_ap, eChain_ap, eListRg1_ap, eIsa_ap, eMt_ap, iEnumV_ap, iEnumF_ap, iZipV_ap, iZipF_ap, eTLen_ap, iRng3D_ap, sEnd_ap, eSs_ap, sPar3_ap, xPop_ap, xTup1_ap, xCat_ap, sSetX_ap, sAppX_ap, sParO_ap, sForEI_ap, sForK_ap, runB_ap, gOne_ap, gMany_ap, dI_ap, yesC_ap, dCmp_int, setD, kill_nx, kill_rt, kill_bk, Option.bind_some, Option.map_some, Option.bind_none, Option.map_none, List.getElem?_cons_zero, List.getElem?_cons_succ, List.set_cons_zero, List.set_cons_succ, List.cons_append, List.nil_append, List.append_nil, List.replicate, List.length_cons, List.length_nil, Nat.reduceAdd, Nat.reduceSub, Nat.zero_add, wdat_no, wdat_d, wdat_town, wdat_ol, wdat_od, wfrz_no, wfrz_d, wfrz_town, wfrz_ol, wfrz_od, wval_no, wval_d, wval_town, wval_ol, wval_od, warg_no, warg_d, warg_town, warg_ol, warg_od, vals, gLen, gAbs, gMax2, gMin2, gInt, gTup, gList, wipeW, if_true, if_false, Bool.false_eq_true, Bool.not_true, Bool.not_false, reduceCtorEq, dTru, he, dNeg, rLast, tLast, hw, rLt_f c, hb, em, e]
theorem rIx (ls : List (List Th)) (i : Nat) (l : List Th) (h : ls[i]? = some l) : dIx (.list (ls.map tsD)) (.int (i : Int)) = some (.d (tsD l)) := by
  obtain ⟨hi, e⟩ := List.getElem?_eq_some_iff.mp h
  rw [ixL _ _ (by omega) (by simpa using hi)]
  simp [e]
theorem lturns_in (r : Rw) (hr : Rw.ok r) (ls : List (List Th)) (w2 w4 : W) (hw : w2.dat = some (.list (ls.map tsD))) (hok : ∀ l ∈ ls, ∀ t ∈ l, t.ok) (hs : ∀ l ∈ ls, srted r l) (hfl : ls.flatten.length ≤ 1000) (n : Nat) : ∀ (rest : List (List Th)) (i : Nat) (acc : List (List Th)), ls.drop i = rest → acc.length + rest.length ≤ 1000 →
    loopF (gOne 6) l__law_turns_3 (rangeC i 2 ((rest.length + 1) / 2)) [.d (rowD r), .no, w2, .no, w4, .ol (acc.map tsD), .no, .no, .no] n =
      some (.nx [.d (rowD r), .no, w2, .no, w4, .ol ((acc ++ pairUp r rest).map tsD), .no, .no, .no] n)
  | [], i, acc, _, _ => by simp [pairUp, rangeC, loopF]
  | [a], i, acc, hd, hc => by
    have hk : ((([a] : List (List Th)).length + 1) / 2) = 0 + 1 := by simp
    have hlen : ls.length = i + 1 := by have := congrArg List.length hd; simp at this; omega
    have h1 : rLt ((i : Int) + 1) (ls.length : Int) = false := rLt_f (by omega)
    have h2 := rIx ls i a (by have := congrArg (·[0]?) hd; simpa [List.getElem?_drop] using this)
    have hb : acc.length < big := by unfold big; simp at hc; omega
    rw [hk, rangeC_cons, loopF_cons]
    unfold l__law_turns_3
    simp -implicitDefEqProofs only [eVar_ap, dVar_ap, eC_ap, dOf_ap, eFrz_ap, eBin_ap, bTest_ap, bTru_ap, bAnd_ap, bOr_ap, bNot_ap, eIf_ap, eB_ap, eAnd_ap, eOr_ap, aNil_ap, aCons_ap, sNil_ap, sCons_ap, eTup_ap, eLst_ap, eCall_ap, eApp_ap, oNone_ap, oSome_ap, eSl_ap, sNil'_ap, sSeq_ap, sBrk_ap, sRet_ap, sRetN_ap, sRetO_ap, sDrop_ap, sIf_ap, sSet_ap, sApp_ap, sTown_ap, sExt_ap, sIns_ap, sSetIx_ap, sAsg_ap, sPar_ap, iOf_ap, iVal_ap, iRng1_ap, iRng2_ap, sFor_ap, eComp_ap, bYes_ap, frzAt_ap, eUn_ap, eNotD_ap, eOrD_ap, eChain_ap, eListRg1_ap, eIsa_ap, eMt_ap, iEnumV_ap, iEnumF_ap, iZipV_ap, iZipF_ap, eTLen_ap, iRng3D_ap, sEnd_ap, eSs_ap, sPar3_ap, xPop_ap, xTup1_ap, xCat_ap, sSetX_ap, sAppX_ap, sParO_ap, sForEI_ap, sForK_ap, runB_ap, gOne_ap, gMany_ap, dI_ap, yesC_ap, dCmp_int, setD, kill_nx, kill_rt, kill_bk, Option.bind_some, Option.map_some, Option.bind_none, Option.map_none, List.getElem?_cons_zero, List.getElem?_cons_succ, List.set_cons_zero, List.set_cons_succ, List.cons_append, List.nil_append, List.append_nil, List.replicate, List.length_cons, List.length_nil, Nat.reduceAdd, Nat.reduceSub, Nat.zero_add, wdat_no, wdat_d, wdat_town, wdat_ol, wdat_od, wfrz_no, wfrz_d, wfrz_town, wfrz_ol, wfrz_od, wval_no, wval_d, wval_town, wval_ol, wval_od, warg_no, warg_d, warg_town, warg_ol, warg_od, vals, gLen, gAbs, gMax2, gMin2, gInt, gTup, gList, wipeW, if_true, if_false, Bool.false_eq_true, Bool.not_true, Bool.not_false, reduceCtorEq, hw, dAdd_int, List.length_map, h1, h2, hb, pairUp, List.map_append, List.map_cons, List.map_nil]
    rfl
  | a :: b :: rest, i, acc, hd, hc => by
    obtain ⟨h1, h2, h3⟩ := drop_cons2 hd
    have hk : (((a :: b :: rest : List (List Th)).length + 1) / 2) = ((rest.length + 1) / 2) + 1 := by simp only [List.length_cons]; omega
    have hlen : i + 1 < ls.length := (List.getElem?_eq_some_iff.mp h3).1
    have h4 : rLt ((i : Int) + 1) (ls.length : Int) = true := rLt_t (by omega)
    have i1 := rIx ls i a h2
    have i2 := rIx ls (i + 1) b h3
    have ma := List.mem_of_getElem? h2
    have mb := List.mem_of_getElem? h3
    have la := mem_len ma
    have hm := together_ok r hr a b (hok a ma) (hok b mb) (by
      have e0 : (ls.take i ++ ls.drop i).flatten.length = ls.flatten.length := by rw [List.take_append_drop]
      rw [hd, List.flatten_append, List.length_append, List.flatten_cons, List.flatten_cons, List.length_append, List.length_append] at e0
      omega) n
    rw [← mergeT_ord (hs a ma) (hs b mb)] at hm
    have hb : acc.length < big := by unfold big; simp at hc; omega
    have ih := lturns_in r hr ls w2 w4 hw hok hs hfl n rest (i + 2) (acc ++ [mergeT r a b]) h1 (by simp at hc ⊢; omega)
    have e : ((i + 2 : Nat) : Int) = (i : Int) + 2 := by omega
    have e' : ((i + 1 : Nat) : Int) = (i : Int) + 1 := by omega
    rw [e] at ih
    rw [e'] at i2
    rw [hk, rangeC_cons, loopF_cons]
    unfold l__law_turns_3 at ih ⊢
    have ea : acc.map tsD ++ [tsD (mergeT r a b)] = (acc ++ [mergeT r a b]).map tsD := by simp
    simp -implicitDefEqProofs only [eVar_ap, dVar_ap, eC_ap, dOf_ap, eFrz_ap, eBin_ap, bTest_ap, bTru_ap, bAnd_ap, bOr_ap, bNot_ap, eIf_ap, eB_ap, eAnd_ap, eOr_ap, aNil_ap, aCons_ap, sNil_ap, sCons_ap, eTup_ap, eLst_ap, eCall_ap, eApp_ap, oNone_ap, oSome_ap, eSl_ap, sNil'_ap, sSeq_ap, sBrk_ap, sRet_ap, sRetN_ap, sRetO_ap, sDrop_ap, sIf_ap, sSet_ap, sApp_ap, sTown_ap, sExt_ap, sIns_ap, sSetIx_ap, sAsg_ap, sPar_ap, iOf_ap, iVal_ap, iRng1_ap, iRng2_ap, sFor_ap, eComp_ap, bYes_ap, frzAt_ap, eUn_ap, eNotD_ap, eOrD_ap, eChain_ap, eListRg1_ap, eIsa_ap, eMt_ap, iEnumV_ap, iEnumF_ap, iZipV_ap, iZipF_ap, eTLen_ap, iRng3D_ap, sEnd_ap, eSs_ap, sPar3_ap, xPop_ap, xTup1_ap, xCat_ap, sSetX_ap, sAppX_ap, sParO_ap, sForEI_ap, sForK_ap, runB_ap, gOne_ap, gMany_ap, dI_ap, yesC_ap, dCmp_int, setD, kill_nx, kill_rt, kill_bk, Option.bind_some, Option.map_some, Option.bind_none, Option.map_none, List.getElem?_cons_zero, List.getElem?_cons_succ, List.set_cons_zero, List.set_cons_succ, List.cons_append, List.nil_append, List.append_nil, List.replicate, List.length_cons, List.length_nil, Nat.reduceAdd, Nat.reduceSub, Nat.zero_add, wdat_no, wdat_d, wdat_town, wdat_ol, wdat_od, wfrz_no, wfrz_d, wfrz_town, wfrz_ol, wfrz_od, wval_no, wval_d, wval_town, wval_ol, wval_od, warg_no, warg_d, warg_town, warg_ol, warg_od, vals, gLen, gAbs, gMax2, gMin2, gInt, gTup, gList, wipeW, if_true, if_false, Bool.false_eq_true, Bool.not_true, Bool.not_false, reduceCtorEq, hw, dAdd_int, List.length_map, h4, i1, i2, hm, hb, pairUp, ea, ih, List.append_assoc]
theorem lturns_loop (r : Rw) (hr : Rw.ok r) (n : Nat) : ∀ (k : Nat) (ls acc : List (List Th)) (w2 : W), (w2 = .ol (ls.map tsD) ∨ w2 = .d (.list (ls.map tsD))) → ls.length < k → ls.length ≤ 1000 → ls.flatten.length ≤ 1000 → (∀ l ∈ ls, ∀ t ∈ l, t.ok) → (∀ l ∈ ls, srted r l) → acc.length + ls.length ≤ 1000000 → ∃ w',
    loopW (bTest (eBin (dCmp rGt zGt) (dOf (eApp gLen (sCons (dVar 2) sNil))) (dOf (eC (.int 1))))) l__law_turns_2 k [.d (rowD r), .no, w2, .no, .ol (acc.map tsD), .no, .no, .no, .no] n =
      some (.nx [.d (rowD r), .no, w', .no, .ol ((acc ++ turnsF r k ls).map tsD), .no, .no, .no, .no] n)
  | 0, _, _, _, _, h, _, _, _, _, _ => absurd h (Nat.not_lt_zero _)
  | k + 1, ls, acc, w2, hw0, hk, h1, h2, h3, h4, h5 => by
    have hw : w2.dat = some (.list (ls.map tsD)) := by rcases hw0 with rfl | rfl <;> rfl
    rw [loopW_succ]
    by_cases c : 1 < ls.length
    · have hc : rGt (ls.length : Int) 1 = true := decide_eq_true (by omega)
      have pl := pairUp_len r ls
      have pf := pairUp_flen r ls
      obtain ⟨w', ih⟩ := lturns_loop r hr n k (pairUp r ls) (acc ++ [(pairUp r ls).flatten]) (.d (.list ((pairUp r ls).map tsD))) (.inr rfl) (by omega) (by omega) (by omega) (fun l hl t ht => by
        have : t ∈ (pairUp r ls).flatten := List.mem_flatten.mpr ⟨l, hl, ht⟩
        rw [pairUp_mem] at this
        obtain ⟨m, hm, htm⟩ := List.mem_flatten.mp this
        exact h3 m hm t htm) (pairUp_srt r ls h4) (by simp; omega)
      have e1 := lturns_in r hr ls w2 (.ol (acc.map tsD)) hw h3 h4 h2 n ls 0 [] (by simp) (by simpa using h1)
      have hr3 := rng3_two ls.length h1
      have e2 := flat_loop (p := 0) (q := 0) (g := gOne 8) (body := l__law_turns_4) (env := fun a => [.d (rowD r), .no, .d (.list ((pairUp r ls).map tsD)), .no, .ol (acc.map tsD), .no, .no, .d (tsD a), .no]) (n := n)
        (fun a l h => ⟨_, rfl, by unfold l__law_turns_4; simp -implicitDefEqProofs only [eVar_ap, dVar_ap, eC_ap, dOf_ap, eFrz_ap, eBin_ap, bTest_ap, bTru_ap, bAnd_ap, bOr_ap, bNot_ap, eIf_ap, eB_ap, eAnd_ap, eOr_ap, aNil_ap, aCons_ap, sNil_ap, sCons_ap, eTup_ap, eLst_ap, eCall_ap, eApp_ap, oNone_ap, oSome_ap, eSl_ap, sNil'_ap, sSeq_ap, sBrk_ap, sRet_ap, sRetN_ap, sRetO_ap, sDrop_ap, sIf_ap, sSet_ap, sApp_ap, sTown_ap, sExt_ap, sIns_ap, sSetIx_ap, sAsg_ap, sPar_ap, iOf_ap, iVal_ap, iRng1_ap, iRng2_ap, sFor_ap, eComp_ap, bYes_ap, frzAt_ap, eUn_ap, eNotD_ap, eOrD_ap, eChain_ap, eListRg1_ap, eIsa_ap, eMt_ap, iEnumV_ap, iEnumF_ap, iZipV_ap, iZipF_ap, eTLen_ap, iRng3D_ap, sEnd_ap, eSs_ap, sPar3_ap, xPop_ap, xTup1_ap, xCat_ap, sSetX_ap, sAppX_ap, sParO_ap, sForEI_ap, sForK_ap, runB_ap, gOne_ap, gMany_ap, dI_ap, yesC_ap, dCmp_int, setD, kill_nx, kill_rt, kill_bk, Option.bind_some, Option.map_some, Option.bind_none, Option.map_none, List.getElem?_cons_zero, List.getElem?_cons_succ, List.set_cons_zero, List.set_cons_succ, List.cons_append, List.nil_append, List.append_nil, List.replicate, List.length_cons, List.length_nil, Nat.reduceAdd, Nat.reduceSub, Nat.zero_add, wdat_no, wdat_d, wdat_town, wdat_ol, wdat_od, wfrz_no, wfrz_d, wfrz_town, wfrz_ol, wfrz_od, wval_no, wval_d, wval_town, wval_ol, wval_od, warg_no, warg_d, warg_town, warg_ol, warg_od, vals, gLen, gAbs, gMax2, gMin2, gInt, gTup, gList, wipeW, if_true, if_false, Bool.false_eq_true, Bool.not_true, Bool.not_false, reduceCtorEq, dAdd_ts a l h]⟩) (pairUp r ls) [] (by rw [List.length_nil]; omega)
      rw [List.nil_append] at e1 e2
      have e2 : loopF (gOne 8) l__law_turns_4 ((pairUp r ls).map tsD) [.d (rowD r), .no, .d (.list ((pairUp r ls).map tsD)), .no, .ol (acc.map tsD), .no, .no, .d (.tuple []), .no] n = _ := e2
      have e1 : loopF (gOne 6) l__law_turns_3 (rangeC 0 2 ((ls.length + 1) / 2)) [.d (rowD r), .no, w2, .no, .ol (acc.map tsD), .ol [], .no, .no, .no] n = _ := e1
      have hb : acc.length < big := by unfold big; omega
      have ea : acc.map tsD ++ [tsD (pairUp r ls).flatten] = (acc ++ [(pairUp r ls).flatten]).map tsD := by simp
      have et : turnsF r (k + 1) ls = (pairUp r ls).flatten :: turnsF r k (pairUp r ls) := if_pos c
      refine ⟨w', ?_⟩
      rw [et]
      unfold l__law_turns_2 at ih ⊢
      simp -implicitDefEqProofs only [eVar_ap, dVar_ap, eC_ap, dOf_ap, eFrz_ap, eBin_ap, bTest_ap, bTru_ap, bAnd_ap, bOr_ap, bNot_ap, eIf_ap, eB_ap, eAnd_ap, eOr_ap, aNil_ap, aCons_ap, sNil_ap, sCons_ap, eTup_ap, eLst_ap, eCall_ap, eApp_ap, oNone_ap, oSome_ap, eSl_ap, sNil'_ap, sSeq_ap, sBrk_ap, sRet_ap, sRetN_ap, sRetO_ap, sDrop_ap, sIf_ap, sSet_ap, sApp_ap, sTown_ap, sExt_ap, sIns_ap, sSetIx_ap, sAsg_ap, sPar_ap, iOf_ap, iVal_ap, iRng1_ap, iRng2_ap, sFor_ap, eComp_ap, bYes_ap, frzAt_ap, eUn_ap, eNotD_ap, eOrD_ap, eChain_ap, eListRg1_ap, eIsa_ap, eMt_ap, iEnumV_ap, iEnumF_ap, iZipV_ap, iZipF_ap, eTLen_ap, iRng3D_ap, sEnd_ap, eSs_ap, sPar3_ap, xPop_ap, xTup1_ap, xCat_ap, sSetX_ap, sAppX_ap, sParO_ap, sForEI_ap, sForK_ap, runB_ap, gOne_ap, gMany_ap, dI_ap, yesC_ap, dCmp_int, setD, kill_nx, kill_rt, kill_bk, Option.bind_some, Option.map_some, Option.bind_none, Option.map_none, List.getElem?_cons_zero, List.getElem?_cons_succ, List.set_cons_zero, List.set_cons_succ, List.cons_append, List.nil_append, List.append_nil, List.replicate, List.length_cons, List.length_nil, Nat.reduceAdd, Nat.reduceSub, Nat.zero_add, wdat_no, wdat_d, wdat_town, wdat_ol, wdat_od, wfrz_no, wfrz_d, wfrz_town, wfrz_ol, wfrz_od, wval_no, wval_d, wval_town, wval_ol, wval_od, warg_no, warg_d, warg_town, warg_ol, warg_od, vals, gLen, gAbs, gMax2, gMin2, gInt, gTup, gList, wipeW, if_true, if_false, Bool.false_eq_true, Bool.not_true, Bool.not_false, reduceCtorEq, hw, List.length_map, hc, hr3, e1, iSeq, e2, hb, ea, ih, List.append_assoc]
    · have hc : rGt (ls.length : Int) 1 = false := decide_eq_false (by omega)
      have et : turnsF r (k + 1) ls = [] := if_neg c
      refine ⟨w2, ?_⟩
      rw [et]
      simp -implicitDefEqProofs only [eVar_ap, dVar_ap, eC_ap, dOf_ap, eFrz_ap, eBin_ap, bTest_ap, bTru_ap, bAnd_ap, bOr_ap, bNot_ap, eIf_ap, eB_ap, eAnd_ap, eOr_ap, aNil_ap, aCons_ap, sNil_ap, sCons_ap, eTup_ap, eLst_ap, eCall_ap, eApp_ap, oNone_ap, oSome_ap, eSl_ap, sNil'_ap, sSeq_ap, sBrk_ap, sRet_ap, sRetN_ap, sRetO_ap, sDrop_ap, sIf_ap, sSet_ap, sApp_ap, sTown_ap, sExt_ap, sIns_ap, sSetIx_ap, sAsg_ap, sPar_ap, iOf_ap, iVal_ap, iRng1_ap, iRng2_ap, sFor_ap, eComp_ap, bYes_ap, frzAt_ap, eUn_ap, eNotD_ap, eOrD_ap, eChain_ap, eListRg1_ap, eIsa_ap, eMt_ap, iEnumV_ap, iEnumF_ap, iZipV_ap, iZipF_ap, eTLen_ap, iRng3D_ap, sEnd_ap, eSs_ap, sPar3_ap, xPop_ap, xTup1_ap, xCat_ap, sSetX_ap, sAppX_ap, sParO_ap, sForEI_ap, sForK_ap, runB_ap, gOne_ap, gMany_ap, dI_ap, yesC_ap, dCmp_int, setD, kill_nx, kill_rt, kill_bk, Option.bind_some, Option.map_some, Option.bind_none, Option.map_none, List.getElem?_cons_zero, List.getElem?_cons_succ, List.set_cons_zero, List.set_cons_succ, List.cons_append, List.nil_append, List.append_nil, List.replicate, List.length_cons, List.length_nil, Nat.reduceAdd, Nat.reduceSub, Nat.zero_add, wdat_no, wdat_d, wdat_town, wdat_ol, wdat_od, wfrz_no, wfrz_d, wfrz_town, wfrz_ol, wfrz_od, wval_no, wval_d, wval_town, wval_ol, wval_od, warg_no, warg_d, warg_town, warg_ol, warg_od, vals, gLen, gAbs, gMax2, gMin2, gInt, gTup, gList, wipeW, if_true, if_false, Bool.false_eq_true, Bool.not_true, Bool.not_false, reduceCtorEq, hw, List.length_map, hc]
theorem lturns_ok (r : Rw) (hr : Rw.ok r) (ts : List Th) (ht : ∀ t ∈ ts, t.ok) (hl : ts.length ≤ 1000) (n : Nat) : m__law_turns [.d (rowD r), .d (tsD ts)] n = some (.d (tssD (turnsT r ts)), n) := by
  have h2 := runsT_len (r := r) hl
  have h3 := runsT_flat (r := r) hl
  have e0 := lturns_cut r hr n ts ht [] (by simp) (rInv0 hl)
  have e0 : loopF (gOne 3) l__law_turns_1 (ts.map Th.d) [.d (rowD r), .no, .ol [], .no, .no, .no, .no, .no, .no] n = some (.nx [.d (rowD r), .no, .ol ((runsT r ts).map tsD), .no, .no, .no, .no, .no, .no] n) := e0
  obtain ⟨w', e⟩ := lturns_loop r hr n 100000 (runsT r ts) [] (.ol ((runsT r ts).map tsD)) (.inl rfl) (by omega) (by omega) (by rw [h3]; exact hl) (runsT_ok ht hl) (runsT_srt hl) (by simp; omega)
  rw [List.nil_append] at e
  have e : loopW _ l__law_turns_2 100000 [.d (rowD r), .no, .ol ((runsT r ts).map tsD), .no, .ol [], .no, .no, .no, .no] n = _ := e
  unfold m__law_turns b__law_turns
  simp -implicitDefEqProofs only [eVar_ap, dVar_ap, eC_ap, dOf_ap, eFrz_ap, eBin_ap, bTest_ap, bTru_ap, bAnd_ap, bOr_ap, bNot_ap, eIf_ap, eB_ap, eAnd_ap, eOr_ap, aNil_ap, aCons_ap, sNil_ap, sCons_ap, eTup_ap, eLst_ap, eCall_ap, eApp_ap, oNone_ap, oSome_ap, eSl_ap, sNil'_ap, sSeq_ap, sBrk_ap, sRet_ap, sRetN_ap, sRetO_ap, sDrop_ap, sIf_ap, sSet_ap, sApp_ap, sTown_ap, sExt_ap, sIns_ap, sSetIx_ap, sAsg_ap, sPar_ap, iOf_ap, iVal_ap, iRng1_ap, iRng2_ap, sFor_ap, eComp_ap, bYes_ap, frzAt_ap, eUn_ap, eNotD_ap, eOrD_ap, eChain_ap, eListRg1_ap, eIsa_ap, eMt_ap, iEnumV_ap, iEnumF_ap, iZipV_ap, iZipF_ap, eTLen_ap, iRng3D_ap, sEnd_ap, eSs_ap, sPar3_ap, xPop_ap, xTup1_ap, xCat_ap, sSetX_ap, sAppX_ap, sParO_ap, sForEI_ap, sForK_ap, runB_ap, gOne_ap, gMany_ap, dI_ap, yesC_ap, dCmp_int, setD, kill_nx, kill_rt, kill_bk, Option.bind_some, Option.map_some, Option.bind_none, Option.map_none, List.getElem?_cons_zero, List.getElem?_cons_succ, List.set_cons_zero, List.set_cons_succ, List.cons_append, List.nil_append, List.append_nil, List.replicate, List.length_cons, List.length_nil, Nat.reduceAdd, Nat.reduceSub, Nat.zero_add, wdat_no, wdat_d, wdat_town, wdat_ol, wdat_od, wfrz_no, wfrz_d, wfrz_town, wfrz_ol, wfrz_od, wval_no, wval_d, wval_town, wval_ol, wval_od, warg_no, warg_d, warg_town, warg_ol, warg_od, vals, gLen, gAbs, gMax2, gMin2, gInt, gTup, gList, wipeW, if_true, if_false, Bool.false_eq_true, Bool.not_true, Bool.not_false, reduceCtorEq, iSeq, e0, e]
  rfl
/-- the last of the turns is the list in order -/
theorem turnsF_last (r : Rw) (ts : List Th) : ∀ (k : Nat) (ls : List (List Th)), ls.length < k → (∀ l ∈ ls, srted r l) → (∀ x, eqv r x ls.flatten = eqv r x ts) → ∀ m ∈ (turnsF r k ls).getLast?, m = ordT r ts
  | 0, _, h, _, _ => absurd h (Nat.not_lt_zero _)
  | k + 1, ls, hk, hs, he => by
    intro m hm
    unfold turnsF at hm
    split at hm
    · rename_i c
      have pl := pairUp_len r ls
      have ih := turnsF_last r ts k (pairUp r ls) (by omega) (pairUp_srt r ls hs) (fun x => (pairUp_eqv r x ls hs).trans (he x))
      rw [List.getLast?_cons] at hm
      cases hq : turnsF r k (pairUp r ls) with
      | cons a b =>
        rw [hq] at hm ih
        refine ih m ?_
        rw [List.getLast?_eq_some_getLast (show a :: b ≠ [] by simp)] at hm ⊢
        exact hm
      | nil =>
        rw [hq] at hm
        have hm : m = (pairUp r ls).flatten := by simpa [eq_comm] using hm
        -- one run is left
        have h1 : (pairUp r ls).length ≤ 1 := by
          cases k with
          | zero => omega
          | succ k =>
            unfold turnsF at hq
            split at hq
            · cases hq
            · omega
        match hp : pairUp r ls, h1 with
        | [], _ => rw [hp] at pl; simp at pl; omega
        | [l], _ =>
          have e : (pairUp r ls).flatten = l := by rw [hp]; simp
          rw [hm]
          refine ordT_eq ⟨?_, fun x => (pairUp_eqv r x ls hs).trans (he x)⟩
          rw [e]
          exact pairUp_srt r ls hs l (by rw [hp]; simp)
    · cases hm
theorem turnsT_last {r : Rw} {ts : List Th} (hl : ts.length ≤ 1000) : ∀ m ∈ (turnsT r ts).getLast?, m = ordT r ts :=
  turnsF_last r ts 100000 (runsT r ts) (by have := runsT_len (r := r) hl; omega) (runsT_srt hl) fun x => by rw [runsT_flat hl]
theorem turnsF_len (r : Rw) (N : Nat) : ∀ (k : Nat) (ls : List (List Th)), ls.length < k → ls.flatten.length = N → (turnsF r k ls).length ≤ ls.length ∧ ∀ m ∈ turnsF r k ls, m.length = N
  | 0, _, h, _ => absurd h (Nat.not_lt_zero _)
  | k + 1, ls, hk, hN => by
    unfold turnsF
    split
    · rename_i c
      have pl := pairUp_len r ls
      have pf := pairUp_flen r ls
      obtain ⟨h1, h2⟩ := turnsF_len r N k (pairUp r ls) (by omega) (by omega)
      refine ⟨by rw [List.length_cons]; omega, fun m hm => ?_⟩
      rcases List.mem_cons.mp hm with rfl | hm
      · omega
      · exact h2 m hm
    · exact ⟨Nat.zero_le _, by simp⟩
theorem turnsT_len {r : Rw} {ts : List Th} (hl : ts.length ≤ 1000) : (turnsT r ts).length ≤ 1000 ∧ ∀ m ∈ turnsT r ts, m.length = ts.length := by
  have h := runsT_len (r := r) hl
  obtain ⟨h1, h2⟩ := turnsF_len r ts.length 100000 (runsT r ts) (by omega) (by rw [runsT_flat hl])
  exact ⟨by unfold turnsT; omega, h2⟩
theorem turns_nc (r : Rw) (ts : List Th) (h : ts.length ≤ 1000) : nc 4 (tssD (turnsT r ts)) = true := by
  obtain ⟨h1, h2⟩ := turnsT_len (r := r) h
  refine nc_tup (by simpa using by omega) fun x hx => ?_
  obtain ⟨l, hl, rfl⟩ := List.mem_map.mp hx
  exact nc_ts (by have := h2 l hl; omega)
end L2.Lv.Sh
namespace L2.Lv.Sh
open PySem PySem.Spec PyProof.Rows L2 L2.Lv
/-! what rows tell, put together -/
theorem wrd_le_lt {r : Rw} {a b c : Th} (h1 : wrd r a b < 1) (h2 : wrd r b c < 0) : wrd r a c < 0 := wrd_lt0 h1 h2
theorem wrd_lt_le {r : Rw} {a b c : Th} (h1 : wrd r a b < 0) (h2 : wrd r b c < 1) : wrd r a c < 0 := by
  have a1 := wrd_anti r a b
  have a2 := wrd_anti r b c
  have a3 := wrd_anti r a c
  have t := wrd_trans r b c a h2
  by_cases h : wrd r a c < 0
  · exact h
  · have := t (by omega)
    omega
theorem wrd_eq_trans {r : Rw} {a b c : Th} (h1 : wrd r a b = 0) (h2 : wrd r b c = 0) : wrd r a c = 0 := by
  have a1 := wrd_anti r a b
  have a2 := wrd_anti r b c
  have a3 := wrd_anti r a c
  have t1 := wrd_trans r a b c (by omega) (by omega)
  have t2 := wrd_trans r c b a (by omega) (by omega)
  omega
theorem wrd_sym {r : Rw} {a b : Th} (h : wrd r a b = 0) : wrd r b a = 0 := by have := wrd_anti r a b; omega
theorem wrd_app (r q : Rw) (s t : Th) : wrd (r ++ q) s t = if wrd r s t = 0 then wrd q s t else wrd r s t := by
  induction r with
  | nil => rfl
  | cons k r ih =>
    have h1 : ∀ q : Rw, wrd (k :: q) s t = if k.worth s = k.worth t then wrd q s t else if k.worth s < k.worth t then -1 else 1 := fun _ => rfl
    rw [List.cons_append, h1 (r ++ q)]
    by_cases e : k.worth s = k.worth t
    · have h2 : wrd (k :: r) s t = wrd r s t := (h1 r).trans (if_pos e)
      rw [if_pos e, ih, h2]
    · have h2 : wrd (k :: r) s t = if k.worth s < k.worth t then -1 else 1 := (h1 r).trans (if_neg e)
      rw [if_neg e, h2]
      by_cases l : k.worth s < k.worth t
      · simp [l]
      · simp [l]
theorem eqv_eqv (r q : Rw) (x : Th) (l : List Th) : eqv (r ++ q) x l = eqv q x (eqv r x l) := by
  unfold eqv
  rw [List.filter_filter]
  refine List.filter_congr fun y _ => ?_
  rw [wrd_app]
  by_cases e : wrd r x y = 0 <;> simp [e]
theorem eqv_comm (r q : Rw) (x : Th) (l : List Th) : eqv q x (eqv r x l) = eqv r x (eqv q x l) := by
  unfold eqv
  rw [List.filter_filter, List.filter_filter]
  exact List.filter_congr fun y _ => Bool.and_comm _ _
theorem srted_app {r q : Rw} : ∀ {l : List Th}, srted r l → (∀ x, srted q (eqv r x l)) → srted (r ++ q) l
  | [], _, _ => List.Pairwise.nil
  | a :: l, h, hq => by
    obtain ⟨h1, h2⟩ := List.pairwise_cons.mp h
    have ha := hq a
    unfold eqv at ha
    rw [List.filter_cons, if_pos (by rw [wrd_refl]; rfl)] at ha
    obtain ⟨g1, g2⟩ := List.pairwise_cons.mp ha
    refine List.pairwise_cons.mpr ⟨fun b hb => ?_, srted_app h2 fun x => ?_⟩
    · rw [wrd_app]
      split
      · rename_i e
        exact g1 b (List.mem_filter.mpr ⟨hb, by simpa using e⟩)
      · exact h1 b hb
    · have := hq x
      unfold eqv at this ⊢
      rw [List.filter_cons] at this
      split at this
      · exact (List.pairwise_cons.mp this).2
      · exact this
theorem srted_eqv {r : Rw} (q : Rw) (x : Th) {l : List Th} (h : srted r l) : srted r (eqv q x l) := List.Pairwise.sublist List.filter_sublist h
/-- put in order by the second row, then the first -/
theorem ordT_two (r q : Rw) (ts : List Th) : ordT r (ordT q ts) = ordT (r ++ q) ts := by
  have h1 := ordT_is r (ordT q ts)
  have h2 := ordT_is q ts
  refine ordT_eq ⟨srted_app h1.1 fun x => ?_, fun x => ?_⟩
  · rw [h1.2 x]; exact srted_eqv r x h2.1
  · rw [eqv_eqv, h1.2, eqv_comm, h2.2, ← eqv_comm, ← eqv_eqv]
/-! groups -/
structure IsG (r : Rw) (G : List (List Th)) : Prop where
  eq : ∀ g ∈ G, ∀ a ∈ g, ∀ b ∈ g, wrd r a b = 0
  lt : G.Pairwise fun g h => ∀ a ∈ g, ∀ b ∈ h, wrd r a b < 0
  ne : ∀ g ∈ G, g ≠ []
theorem IsG.step {r : Rw} {acc : List (List Th)} {t : Th} (h : IsG r acc) (ht : ∀ a ∈ acc.flatten, wrd r a t < 1) : IsG r (gStep r acc t) := by
  rcases List.eq_nil_or_concat acc with rfl | ⟨A, l, rfl⟩
  · rw [gStep_nil]
    refine ⟨fun g hg a ha b hb => ?_, List.pairwise_singleton _ _, by simp⟩
    simp only [List.mem_singleton] at hg
    subst hg
    simp only [List.mem_singleton] at ha hb
    rw [ha, hb, wrd_refl]
  · simp only [List.concat_eq_append] at *
    cases l with
    | nil => exact absurd rfl (h.ne [] (by simp))
    | cons u B =>
      rw [gStep_app]
      have hu : wrd r u t < 1 := ht u (by simp)
      have hl := List.pairwise_append.mp h.lt
      have heq : ∀ a ∈ u :: B, wrd r a u = 0 := fun a ha => h.eq (u :: B) (by simp) a ha u (by simp)
      split
      · rename_i c
        have hat : ∀ a ∈ u :: B, wrd r a t = 0 := fun a ha => wrd_eq_trans (heq a ha) c
        refine ⟨fun g hg a ha b hb => ?_, List.pairwise_append.mpr ⟨hl.1, List.pairwise_singleton _ _, fun g hg k hk a ha b hb => ?_⟩, fun g hg => ?_⟩
        · rcases List.mem_append.mp hg with hg | hg
          · exact h.eq g (List.mem_append_left _ hg) a ha b hb
          · simp only [List.mem_singleton] at hg
            subst hg
            have ha : a ∈ (u :: B) ++ [t] := ha
            have hb : b ∈ (u :: B) ++ [t] := hb
            rcases List.mem_append.mp ha with ha | ha <;> rcases List.mem_append.mp hb with hb | hb
            · exact h.eq (u :: B) (by simp) a ha b hb
            · rw [List.mem_singleton.mp hb]; exact hat a ha
            · rw [List.mem_singleton.mp ha]; exact wrd_sym (hat b hb)
            · rw [List.mem_singleton.mp ha, List.mem_singleton.mp hb]; exact wrd_refl _ _
        · simp only [List.mem_singleton] at hk
          subst hk
          have hb : b ∈ (u :: B) ++ [t] := hb
          rcases List.mem_append.mp hb with hb | hb
          · exact hl.2.2 g hg (u :: B) (by simp) a ha b hb
          · simp only [List.mem_singleton] at hb; subst hb
            exact wrd_lt_le (hl.2.2 g hg (u :: B) (by simp) a ha u (by simp)) hu
        · rcases List.mem_append.mp hg with hg | hg
          · exact h.ne g (List.mem_append_left _ hg)
          · simp only [List.mem_singleton] at hg; subst hg; simp
      · rename_i c
        have hut : wrd r u t < 0 := by omega
        have hat : ∀ a ∈ u :: B, wrd r a t < 0 := fun a ha => wrd_le_lt (by have := heq a ha; omega) hut
        refine ⟨fun g hg a ha b hb => ?_, List.pairwise_append.mpr ⟨h.lt, List.pairwise_singleton _ _, fun g hg k hk a ha b hb => ?_⟩, fun g hg => ?_⟩
        · rcases List.mem_append.mp hg with hg | hg
          · exact h.eq g hg a ha b hb
          · simp only [List.mem_singleton] at hg; subst hg
            simp only [List.mem_singleton] at ha hb; subst ha hb; exact wrd_refl _ _
        · simp only [List.mem_singleton] at hk; subst hk
          simp only [List.mem_singleton] at hb; subst hb
          rcases List.mem_append.mp hg with hg | hg
          · exact wrd_lt_le (hl.2.2 g hg (u :: B) (by simp) a ha u (by simp)) hu
          · simp only [List.mem_singleton] at hg; subst hg; exact hat a ha
        · rcases List.mem_append.mp hg with hg | hg
          · exact h.ne g hg
          · simp only [List.mem_singleton] at hg; subst hg; simp
theorem fold_isG (r : Rw) : ∀ (ts : List Th) (acc : List (List Th)), IsG r acc → srted r (acc.flatten ++ ts) → IsG r (ts.foldl (gStep r) acc)
  | [], _, h, _ => h
  | t :: ts, acc, h, hs => by
    have hf := (gStep_flat r acc t h.ne).1
    refine fold_isG r ts (gStep r acc t) (h.step fun a ha => ?_) ?_
    · exact (List.pairwise_append.mp hs).2.2 a ha t (by simp)
    · rw [hf, List.append_assoc]; exact hs
theorem groupsT_isG (r : Rw) (ts : List Th) : IsG r (groupsT r ts) := fold_isG r (ordT r ts) [] ⟨by simp, List.Pairwise.nil, by simp⟩ (by rw [List.flatten_nil, List.nil_append]; exact ordT_pw r ts)
theorem IsG.tail {r : Rw} {g : List Th} {G : List (List Th)} (h : IsG r (g :: G)) : IsG r G := ⟨fun k hk => h.eq k (List.mem_cons_of_mem _ hk), (List.pairwise_cons.mp h.lt).2, fun k hk => h.ne k (List.mem_cons_of_mem _ hk)⟩
theorem takeWhile_app {α : Type} {p : α → Bool} : ∀ {l m : List α}, (∀ x ∈ l, p x = true) → (∀ x ∈ m.head?, p x = false) → (l ++ m).takeWhile p = l ∧ (l ++ m).dropWhile p = m
  | [], [], _, _ => ⟨rfl, rfl⟩
  | [], b :: m, _, h => by
    have := h b rfl
    simp [List.takeWhile_cons, List.dropWhile_cons, this]
  | a :: l, m, h1, h2 => by
    obtain ⟨q1, q2⟩ := takeWhile_app (l := l) (m := m) (fun x hx => h1 x (List.mem_cons_of_mem _ hx)) h2
    have := h1 a (List.mem_cons_self ..)
    simp [List.takeWhile_cons, List.dropWhile_cons, this, q1, q2]
theorem IsG.uniq {r : Rw} : ∀ {G K : List (List Th)}, IsG r G → IsG r K → G.flatten = K.flatten → G = K
  | [], [], _, _, _ => rfl
  | [], k :: K, _, hK, e => by
    have := hK.ne k (by simp)
    rw [List.flatten_nil, List.flatten_cons] at e
    exact absurd (List.append_eq_nil_iff.mp e.symm).1 this
  | g :: G, [], hG, _, e => by
    have := hG.ne g (by simp)
    rw [List.flatten_nil, List.flatten_cons] at e
    exact absurd (List.append_eq_nil_iff.mp e).1 this
  | g :: G, k :: K, hG, hK, e => by
    cases hg : g with
    | nil => exact absurd hg (hG.ne g (by simp))
    | cons a g' =>
      cases hk : k with
      | nil => exact absurd hk (hK.ne k (by simp))
      | cons b k' =>
        subst hg hk
        have hab : a = b := by
          rw [List.flatten_cons, List.flatten_cons, List.cons_append, List.cons_append] at e
          exact (List.cons.inj e).1
        subst hab
        have key : ∀ {l : List Th} {M : List (List Th)}, IsG r ((a :: l) :: M) → ((a :: l) ++ M.flatten).takeWhile (fun y => wrd r a y == 0) = a :: l ∧ ((a :: l) ++ M.flatten).dropWhile (fun y => wrd r a y == 0) = M.flatten := fun {l M} h => takeWhile_app (fun x hx => by
          have := h.eq (a :: l) (by simp) a (by simp) x hx
          simpa using this) fun x hx => by
          have hm : x ∈ M.flatten := List.mem_of_mem_head? hx
          obtain ⟨m, h1, h2⟩ := List.mem_flatten.mp hm
          have := (List.pairwise_cons.mp h.lt).1 m h1 a (by simp) x h2
          simp; omega
        obtain ⟨p1, p2⟩ := key hG
        obtain ⟨q1, q2⟩ := key hK
        rw [List.flatten_cons, List.flatten_cons] at e
        rw [e] at p1 p2
        have e1 := p1.symm.trans q1
        have e2 := p2.symm.trans q2
        rw [e1, IsG.uniq hG.tail hK.tail e2]
theorem turn_zero {r : Rw} {a b : Th} : (wrd (r.map Ky.turn) a b == 0) = (wrd r a b == 0) := by
  rw [wrd_turn, Bool.eq_iff_iff]
  simp only [beq_iff_eq]
  omega
theorem eqv_turn (r : Rw) (x : Th) (l : List Th) : eqv (r.map Ky.turn) x l = eqv r x l := by
  unfold eqv
  exact List.filter_congr fun y _ => turn_zero
theorem IsG.rev {r : Rw} {G : List (List Th)} (h : IsG r G) : IsG (r.map Ky.turn) G.reverse := by
  refine ⟨fun g hg a ha b hb => ?_, ?_, fun g hg => h.ne g (List.mem_reverse.mp hg)⟩
  · rw [wrd_turn, h.eq g (List.mem_reverse.mp hg) a ha b hb]; rfl
  · rw [List.pairwise_reverse]
    refine h.lt.imp fun {g k} q a ha b hb => ?_
    have := q b hb a ha
    have := wrd_anti r b a
    rw [wrd_turn]; omega
theorem IsG.srt {r : Rw} : ∀ {G : List (List Th)}, IsG r G → srted r G.flatten
  | [], _ => List.Pairwise.nil
  | g :: G, h => by
    rw [List.flatten_cons]
    refine List.pairwise_append.mpr ⟨?_, h.tail.srt, fun a ha b hb => ?_⟩
    · rw [List.pairwise_iff_getElem]
      intro i j hi hj _
      have := h.eq g (by simp) g[i] (List.getElem_mem _) g[j] (List.getElem_mem _)
      omega
    · obtain ⟨m, h1, h2⟩ := List.mem_flatten.mp hb
      have := (List.pairwise_cons.mp h.lt).1 m h1 a ha b h2
      omega
theorem IsG.eqv_rev {r : Rw} (x : Th) : ∀ {G : List (List Th)}, IsG r G → eqv r x G.reverse.flatten = eqv r x G.flatten
  | [], _ => rfl
  | g :: G, h => by
    rw [List.reverse_cons, List.flatten_append, eqv_app, List.flatten_singleton, List.flatten_cons, eqv_app, h.tail.eqv_rev x]
    by_cases hg : eqv r x g = []
    · rw [hg]; simp
    · obtain ⟨a, ha⟩ := List.exists_mem_of_ne_nil _ hg
      obtain ⟨h1, h2⟩ := mem_eqv.mp ha
      have : eqv r x G.flatten = [] := List.filter_eq_nil_iff.mpr fun b hb => by
        obtain ⟨m, m1, m2⟩ := List.mem_flatten.mp hb
        have := (List.pairwise_cons.mp h.lt).1 m m1 a h1 b m2
        simp only [beq_iff_eq]
        intro e
        have := wrd_eq_trans (wrd_sym h2) e
        omega
      rw [this]; simp
/-- by the turned row the groups stand the other way round -/
theorem groupsT_turn (r : Rw) (ts : List Th) : groupsT (r.map Ky.turn) ts = (groupsT r ts).reverse := by
  refine (groupsT_isG _ ts).uniq (groupsT_isG r ts).rev ?_
  rw [(groupsT_flat _ ts).1]
  refine (ordT_eq ⟨(groupsT_isG r ts).rev.srt, fun x => ?_⟩).symm
  rw [eqv_turn, eqv_turn, (groupsT_isG r ts).eqv_rev, (groupsT_flat r ts).1, (ordT_is r ts).2]
/-! crossings, pairs not told apart -/
def tieT (r : Rw) : List Th → Nat
  | [] => 0
  | t :: ts => (ts.filter fun u => wrd r t u == 0).length + tieT r ts
def tri : Nat → Nat
  | 0 => 0
  | n + 1 => tri n + n
theorem tri_two (n : Nat) : tri n * 2 = n * (n - 1) := by
  induction n with
  | zero => rfl
  | succ n ih =>
    rw [tri, Nat.add_mul, ih, Nat.add_sub_cancel]
    cases n with
    | zero => rfl
    | succ n =>
      rw [Nat.add_sub_cancel, ← Nat.mul_add, Nat.mul_comm]
theorem tri_eq (n : Nat) : tri n = n * (n - 1) / 2 := by have := tri_two n; omega
theorem tri_int (n : Nat) : ((n : Int) * ((n : Int) - 1)) / 2 = (tri n : Nat) := by
  have h := tri_two n
  have e : (n : Int) * ((n : Int) - 1) = ((n * (n - 1) : Nat) : Int) := by
    cases n with
    | zero => rfl
    | succ n =>
      rw [Nat.add_sub_cancel, Int.natCast_mul]
      congr 1
      omega
  rw [e, ← h]
  omega
theorem cross_all (r : Rw) : ∀ ts : List Th, crossT r ts + crossT (r.map Ky.turn) ts + tieT r ts = tri ts.length
  | [] => rfl
  | t :: ts => by
    have ih := cross_all r ts
    have h : ∀ l : List Th, (l.filter fun u => wrd r t u == 1).length + (l.filter fun u => wrd (r.map Ky.turn) t u == 1).length + (l.filter fun u => wrd r t u == 0).length = l.length := by
      intro l
      induction l with
      | nil => rfl
      | cons a l ihl =>
        simp only [List.filter_cons]
        rcases wrd_cases r t a with e | e | e
        · have e2 : wrd (r.map Ky.turn) t a = 1 := by rw [wrd_turn, e]; rfl
          simp [e, e2]; omega
        · have e2 : wrd (r.map Ky.turn) t a = 0 := by rw [wrd_turn, e]; rfl
          simp [e, e2]; omega
        · have e2 : wrd (r.map Ky.turn) t a = -1 := by rw [wrd_turn, e]; rfl
          simp [e, e2]; omega
    have := h ts
    simp only [crossT, tieT, List.length_cons, tri]
    omega
theorem tieT_perm (r : Rw) {l m : List Th} (h : l.Perm m) : tieT r l = tieT r m := by
  induction h with
  | nil => rfl
  | cons x p ih => simp only [tieT, ih, (p.filter _).length_eq]
  | swap x y l =>
    simp only [tieT, List.filter_cons]
    have : (wrd r y x == 0) = (wrd r x y == 0) := by
      have := wrd_anti r x y
      rw [Bool.eq_iff_iff]; simp; omega
    rw [this]
    cases (wrd r x y == 0) <;> simp [Nat.add_assoc, Nat.add_comm, Nat.add_left_comm] <;> omega
  | trans _ _ i1 i2 => exact i1.trans i2
theorem tieT_all {r : Rw} : ∀ {g : List Th}, (∀ a ∈ g, ∀ b ∈ g, wrd r a b = 0) → tieT r g = tri g.length
  | [], _ => rfl
  | a :: g, h => by
    have ih := tieT_all (g := g) fun x hx y hy => h x (List.mem_cons_of_mem _ hx) y (List.mem_cons_of_mem _ hy)
    have : g.filter (fun u => wrd r a u == 0) = g := List.filter_eq_self.mpr fun b hb => by simpa using h a (by simp) b (List.mem_cons_of_mem _ hb)
    simp only [tieT, this, ih, List.length_cons, tri]
    omega
theorem tieT_app {r : Rw} {g m : List Th} (h : ∀ a ∈ g, ∀ b ∈ m, wrd r a b < 0) : tieT r (g ++ m) = tieT r g + tieT r m := by
  induction g with
  | nil => simp [tieT]
  | cons a g ih =>
    have ih := ih fun x hx => h x (List.mem_cons_of_mem _ hx)
    have : m.filter (fun u => wrd r a u == 0) = [] := List.filter_eq_nil_iff.mpr fun b hb => by
      have := h a (by simp) b hb
      simp; omega
    simp only [List.cons_append, tieT, ih, List.filter_append, List.length_append, this, List.length_nil]
    omega
theorem IsG.tie {r : Rw} : ∀ {G : List (List Th)}, IsG r G → tieT r G.flatten = (G.map fun g => tri g.length).sum
  | [], _ => rfl
  | g :: G, h => by
    rw [List.flatten_cons, tieT_app fun a ha b hb => by
      obtain ⟨m, h1, h2⟩ := List.mem_flatten.mp hb
      exact (List.pairwise_cons.mp h.lt).1 m h1 a ha b h2, h.tail.tie, tieT_all (h.eq g (by simp))]
    simp
theorem ordT_perm (r : Rw) (ts : List Th) : (ordT r ts).Perm ts := by
  have := (sE_perm r ts).map (·.2)
  rw [enumT_snd] at this
  exact this
theorem tie_groups (r : Rw) (ts : List Th) : tieT r ts = ((groupsT r ts).map fun g => tri g.length).sum := by
  rw [← (groupsT_isG r ts).tie, (groupsT_flat r ts).1]
  exact (tieT_perm r (ordT_perm r ts)).symm
/-! the best -/
theorem bestT_all : ∀ (gs : List (List Th)) (acc : List Th) (m : Int), (∀ g ∈ gs, g ≠ []) → m = ((acc ++ gs.flatten).length : Nat) → gs.foldl (fun acc g => if (acc.length : Int) < m then acc ++ g else acc) acc = acc ++ gs.flatten
  | [], acc, m, _, _ => by simp
  | g :: gs, acc, m, h, hm => by
    have hg := List.length_pos_iff.mpr (h g (by simp))
    rw [List.flatten_cons] at hm ⊢
    rw [List.foldl_cons, if_pos (by rw [hm]; simp; omega), bestT_all gs (acc ++ g) m (fun k hk => h k (List.mem_cons_of_mem _ hk)) (by rw [hm]; simp), List.append_assoc]
theorem best_all (r : Rw) (ts : List Th) : bestT (ts.length : Nat) (groupsT r ts) = ordT r ts := by
  unfold bestT
  rw [bestT_all _ _ _ (groupsT_flat r ts).2 (by rw [List.nil_append, (groupsT_flat r ts).1, ordT_len]), List.nil_append, (groupsT_flat r ts).1]
theorem bestT_none (m : Int) : ∀ (gs : List (List Th)) (acc : List Th), m ≤ acc.length → gs.foldl (fun acc g => if (acc.length : Int) < m then acc ++ g else acc) acc = acc
  | [], _, _ => rfl
  | g :: gs, acc, h => by rw [List.foldl_cons, if_neg (by omega), bestT_none m gs acc h]
/-! lists told go on -/
theorem ltT_trans (r : Rw) : ∀ as bs cs : List Th, ltT r as bs < 1 → ltT r bs cs < 1 → ltT r as cs < 1
  | [], _, [], _, _ => by simp [ltT]
  | [], _, c :: cs, _, _ => by simp [ltT]
  | a :: as, [], _, h, _ => by simp [ltT] at h
  | a :: as, b :: bs, [], _, h => by simp [ltT] at h
  | a :: as, b :: bs, c :: cs, h1, h2 => by
    simp only [ltT] at h1 h2 ⊢
    have an := wrd_anti r a b
    have an2 := wrd_anti r b c
    by_cases e1 : wrd r a b = 0
    · rw [if_pos e1] at h1
      by_cases e2 : wrd r b c = 0
      · rw [if_pos e2] at h2
        rw [if_pos (wrd_eq_trans e1 e2)]
        exact ltT_trans r as bs cs h1 h2
      · rw [if_neg e2] at h2
        have : wrd r a c < 0 := wrd_le_lt (by omega) (show wrd r b c < 0 by omega)
        rw [if_neg (by omega)]; omega
    · rw [if_neg e1] at h1
      have hb : wrd r b c < 1 := by split at h2 <;> omega
      have : wrd r a c < 0 := wrd_lt_le (show wrd r a b < 0 by omega) hb
      rw [if_neg (by omega)]; omega
/-! places -/
theorem srtI_of {l m : List Int} (h : l.Perm m) (hs : m.Pairwise (· ≤ ·)) : srtI l = m := by
  refine List.Perm.eq_of_pairwise (le := (· ≤ ·)) (fun a b _ _ h1 h2 => Int.le_antisymm h1 h2) (srtI_pw l) hs ((srtI_perm l).trans h)
theorem enumT_fst (ts : List Th) : (enumT ts).map (fun p => (p.1 : Int)) = (List.range ts.length).map fun (i : Nat) => (i : Int) := by
  unfold enumT
  apply List.ext_getElem?
  intro i
  simp only [List.getElem?_map, List.getElem?_mapIdx, List.getElem?_range]
  by_cases h : i < ts.length
  · simp [h]
  · simp [h]
theorem range_rise (n : Nat) : ((List.range n).map fun (i : Nat) => (i : Int)).Pairwise (· ≤ ·) := by
  rw [List.pairwise_map]
  exact List.pairwise_lt_range.imp fun h => by omega
theorem places_srt (r : Rw) (ts : List Th) : srtI ((sE r ts).map fun p => (p.1 : Int)) = (List.range ts.length).map fun (i : Nat) => (i : Int) :=
  srtI_of (by rw [← enumT_fst]; exact (sE_perm r ts).map _) (range_rise _)
end L2.Lv.Sh
namespace L2.Lv.Sh
open PySem PySem.Spec PyProof.Rows L2 L2.Lv
/-! plain data is like itself -/
mutual
theorem nc_self : ∀ (k : Nat) (x : PyData), nc k x = true → x.canLay0 = true ∧ x.depth ≤ k ∧ PyData.eqv x x = true
  | 0, _, h => by simp [nc] at h
  | k + 1, .none, _ => by simp [PyData.canLay0, PyData.depth, PyData.eqv]
  | k + 1, .bool b, _ => by simp [PyData.canLay0, PyData.depth, PyData.eqv]
  | k + 1, .int i, _ => by simp [PyData.canLay0, PyData.depth, PyData.eqv]
  | k + 1, .str s, h => by
    have h : shp (.str s) = true := h
    have := SeqAt.canLay_of_shaped h
    refine ⟨this, by simp [PyData.depth], by simp [PyData.eqv]⟩
  | k + 1, .tuple xs, h => by
    simp [nc] at h
    obtain ⟨h1, h2, h3⟩ := nc_selfAll k xs h.2
    exact ⟨by simpa [PyData.canLay0] using h1, by simp [PyData.depth]; omega, by simpa [PyData.eqv] using h3⟩
  | k + 1, .list _, h => by simp [nc] at h
  | k + 1, .dict _, h => by simp [nc] at h
theorem nc_selfAll : ∀ (k : Nat) (xs : List PyData), (∀ x ∈ xs, nc k x = true) → PyData.canLayAll0 xs = true ∧ PyData.depthAll xs ≤ k ∧ PyData.eqvAll xs xs = true
  | _, [], _ => by simp [PyData.canLayAll0, PyData.depthAll, PyData.eqvAll]
  | k, x :: xs, h => by
    obtain ⟨a1, a2, a3⟩ := nc_self k x (h x (List.mem_cons_self ..))
    obtain ⟨b1, b2, b3⟩ := nc_selfAll k xs fun z hz => h z (List.mem_cons_of_mem _ hz)
    refine ⟨by simp [PyData.canLayAll0, a1, b1], by simp [PyData.depthAll]; omega, by simp [PyData.eqvAll, a3, b3]⟩
end
theorem nc_shp {k : Nat} {x : PyData} (h : nc k x = true) (hk : k ≤ 60) : shp x = true := by
  obtain ⟨h1, h2, _⟩ := nc_self k x h
  simp only [shp, SeqAt.shaped, h1, Bool.true_and, decide_eq_true_eq]
  omega
theorem dEq_self {k : Nat} {x : PyData} (h : nc k x = true) (hk : k ≤ 60) : dEq x x = some (.d (.bool true)) := by
  rw [dEq, nc_shp h hk, (nc_self k x h).2.2]; rfl
theorem dNe_self {k : Nat} {x : PyData} (h : nc k x = true) (hk : k ≤ 60) : dNe x x = some (.d (.bool false)) := by
  rw [dNe, nc_shp h hk, (nc_self k x h).2.2]; rfl
/-- .. lists of plain data -/
theorem ls_shp {k : Nat} {xs : List PyData} (h : ∀ x ∈ xs, nc k x = true) (hk : k ≤ 60) : shp (.list xs) = true ∧ PyData.eqv (.list xs) (.list xs) = true := by
  obtain ⟨h1, h2, h3⟩ := nc_selfAll k xs h
  constructor
  · have e : (PyData.list xs).depth = PyData.depthAll xs + 1 := by simp [PyData.depth]
    have e2 : (PyData.list xs).canLay0 = true := by simpa [PyData.canLay0] using h1
    simp only [shp, SeqAt.shaped, e2, Bool.true_and, decide_eq_true_eq]
    omega
  · simpa [PyData.eqv] using h3
theorem dEq_ls {k : Nat} {xs : List PyData} (h : ∀ x ∈ xs, nc k x = true) (hk : k ≤ 60) : dEq (.list xs) (.list xs) = some (.d (.bool true)) := by
  rw [dEq, (ls_shp h hk).1, (ls_shp h hk).2]; rfl
theorem dNe_ls {k : Nat} {xs : List PyData} (h : ∀ x ∈ xs, nc k x = true) (hk : k ≤ 60) : dNe (.list xs) (.list xs) = some (.d (.bool false)) := by
  rw [dNe, (ls_shp h hk).1, (ls_shp h hk).2]; rfl
theorem dNe_li (l : List Int) : dNe (.list (l.map .int)) (.list (l.map .int)) = some (.d (.bool false)) := dNe_ls (k := 1) (fun x hx => by
  obtain ⟨i, _, rfl⟩ := List.mem_map.mp hx; rfl) (by decide)
theorem dEq_li (l : List Int) : dEq (.list (l.map .int)) (.list (l.map .int)) = some (.d (.bool true)) := dEq_ls (k := 1) (fun x hx => by
  obtain ⟨i, _, rfl⟩ := List.mem_map.mp hx; rfl) (by decide)
/-! a tuple the other way round -/
theorem fm_congr {α β : Type} {f g : α → Option β} : ∀ (l : List α), (∀ x ∈ l, f x = g x) → l.filterMap f = l.filterMap g
  | [], _ => rfl
  | x :: l, h => by
    rw [List.filterMap_cons, List.filterMap_cons, h x (List.mem_cons_self ..), fm_congr l fun z hz => h z (List.mem_cons_of_mem _ hz)]
theorem rev_pick {α : Type} (xs : List α) : (((List.range xs.length).map fun (k : Nat) => (((xs.length : Int) - 1) + (k : Int) * (-1)).toNat).filterMap (xs[·]?)) = xs.reverse := by
  rw [List.filterMap_map]
  have : ∀ k ∈ List.range xs.length, ((xs[·]?) ∘ fun (k : Nat) => (((xs.length : Int) - 1) + (k : Int) * (-1)).toNat) k = xs.reverse[k]? := by
    intro k hk
    have hk := List.mem_range.mp hk
    rw [List.getElem?_reverse hk]
    show xs[(((xs.length : Int) - 1) + (k : Int) * (-1)).toNat]? = _
    congr 1
    omega
  rw [fm_congr _ this]
  have h2 : ∀ (ys : List α), (List.range ys.length).filterMap (ys[·]?) = ys := by
    intro ys
    induction ys with
    | nil => rfl
    | cons y ys ih =>
      rw [List.length_cons, List.range_succ_eq_map, List.filterMap_cons]
      simp only [List.getElem?_cons_zero]
      rw [List.filterMap_map]
      congr 1
  have := h2 xs.reverse
  rw [List.length_reverse] at this
  exact this
theorem stepIx_rev (n : Nat) : stepIx n none none (-1) = (List.range n).map fun (k : Nat) => (((n : Int) - 1) + (k : Int) * (-1)).toNat := by
  unfold stepIx
  have h1 : Builtin.Slice.sliceAdjust none none (-1) (n : Int) = ((n : Int) - 1, -1) := by
    unfold Builtin.Slice.sliceAdjust
    simp
  have h2 : Builtin.Slice.slicePlaces ((n : Int) - 1) (-1) (-1) = n := by
    unfold Builtin.Slice.slicePlaces
    rw [if_neg (by decide)]
    split
    · have : (-(-1) : Int) = 1 := rfl
      rw [this, Int.ediv_one]; omega
    · omega
  rw [h1, h2]
theorem dSs_rev (xs : List PyData) (h : xs.length ≤ 1000000) : dSs (.tuple xs) none none (-1) = some (.d (.tuple xs.reverse)) := by
  have e : (stepIx xs.length none none (-1)).filterMap (xs[·]?) = xs.reverse := by rw [stepIx_rev, rev_pick]
  show (if _ then some (W.d (.tuple ((stepIx xs.length none none (-1)).filterMap (xs[·]?)))) else none) = _
  rw [e, if_pos ⟨by decide, by decide, by rw [List.length_reverse]; exact le_big h⟩]
theorem rowT_ok {r : Rw} (h : Rw.ok r) : Rw.ok (r.map Ky.turn) := fun k hk => by
  obtain ⟨k', hk', rfl⟩ := List.mem_map.mp hk
  exact Ky.turn_ok (h k' hk')
theorem flat_len {α : Type} : ∀ {G : List (List α)}, (∀ g ∈ G, g ≠ []) → G.length ≤ G.flatten.length
  | [], _ => Nat.le_refl _
  | g :: G, h => by
    have h1 := flat_len (G := G) fun k hk => h k (List.mem_cons_of_mem _ hk)
    have h2 := List.length_pos_iff.mpr (h g (by simp))
    rw [List.flatten_cons, List.length_append, List.length_cons]; omega
theorem groupsT_len (r : Rw) (ts : List Th) : (groupsT r ts).length ≤ ts.length := by
  have := flat_len (groupsT_flat r ts).2
  rw [(groupsT_flat r ts).1, ordT_len] at this
  exact this
end L2.Lv.Sh
namespace L2.Lv.K17
open PySem PySem.Spec PyProof.Rows L2 L2.Lv L2.Lv.Sh
def topS (i : Nat) : Stmt := PySem.Challenge.pw_keyorders_k17_whole_rules_of_lists.main.body.getD i (.Pass ⟨0, 0, 0, 0⟩)
structure Facts (K : PySem.W.Frag) (mg : Str → Option Value) where
  d_worth : DF K mg "worth" (topS 1) ["key", "thing"]
  d_worths : DF K mg "worths" (topS 2) ["row", "thing"]
  d_told : DF K mg "told" (topS 3) ["row", "one", "other"]
  d_turned_key : DF K mg "turned_key" (topS 4) ["key"]
  d_turned : DF K mg "turned" (topS 5) ["row"]
  d_places : DF K mg "places" (topS 7) ["row", "things"]
  d_ordered : DF K mg "ordered" (topS 8) ["row", "things"]
  d_merged : DF K mg "merged" (topS 9) ["row", "ones", "others"]
  d_crossings : DF K mg "crossings" (topS 10) ["row", "things"]
  d_groups : DF K mg "groups" (topS 11) ["row", "things"]
  d_best : DF K mg "best" (topS 12) ["row", "things", "many"]
  d__law_same : DF K mg "_law_same" (topS 15) ["_law_got", "_law_due"]
  d__law_draw : DF K mg "_law_draw" (topS 16) ["_law_script", "_law_town", "_law_many"]
  d__law_pick : DF K mg "_law_pick" (topS 17) ["_law_script", "_law_town", "_law_some"]
  d__law_plain : DF K mg "_law_plain" (topS 18) ["_law_script", "_law_town"]
  d__law_key : DF K mg "_law_key" (topS 19) ["_law_script", "_law_town"]
  d__law_keys : DF K mg "_law_keys" (topS 20) ["_law_script", "_law_town", "_law_most"]
  d__law_thing : DF K mg "_law_thing" (topS 21) ["_law_script", "_law_town"]
  d__law_list : DF K mg "_law_list" (topS 22) ["_law_script", "_law_town", "_law_most"]
  d_list_told : DF K mg "list_told" (topS 13) ["row", "ones", "others"]
  d__law_goes_on : DF K mg "_law_goes_on" (topS 23) ["_law_row", "_law_lists"]
  d_law : DF K mg "law" (topS 24) ["_law_script"]
  z_abs : mg "abs" = none
  z_all : mg "all" = none
  z_bool : mg "bool" = none
  z_enumerate : mg "enumerate" = none
  z_int : mg "int" = none
  z_isinstance : mg "isinstance" = none
  z_len : mg "len" = none
  z_list : mg "list" = none
  z_max : mg "max" = none
  z_range : mg "range" = none
  z_sorted : mg "sorted" = none
  z_str : mg "str" = none
  z_sum : mg "sum" = none
  z_tuple : mg "tuple" = none
  z_zip : mg "zip" = none
section
variable {P : Program} {w : World} {K : PySem.W.Frag} {mg : Str → Option Value} {base : Heap}
/-! ### worth -/
abbrev st_worth : Stmt := topS 1
abbrev N_worth : List Str := ["key", "thing", "word", "one", "other"]
theorem sc_worth : FnScope N_worth ["key", "thing"] (defScope st_worth) := ⟨rfl, rfl, rfl, by decide +kernel, rfl, by decide +kernel, by decide +kernel⟩
theorem ok_worth_ (T : Facts K mg)  : ∀ k, FnOk P w K mg base CX0 (k + 0) T.d_worth.f T.d_worth.fd ["key", "thing"] (spOf K 2 (m_worth_ k))
  | 0 => fn_none
  | k + 1 => by
    have G := ok_worth_ T  k
    have h0 : k + 0 ≤ k + 0 := Nat.le_refl _
    show FnOk P w K mg base CX0 (k + 0 + 1) _ _ _ _
    exact fn_val (N := N_worth) T.d_worth.F sc_worth fun cdv A outer s H E hr => ((by exact (ss_cons (by exact (ss_set (i := 2) sc_worth.nd (by rfl) (by first | exact .inl rfl | exact .inr rfl) (by exact (ev_ix ixv (by exact (eb_var (pv 0))) (by exact (eb_of (by exact ev_int))) (fun _ _ => by rfl)))))
    (by exact (ss_cons (by exact (ss_if (by exact (et_cmp (ov_eq (hu64 hr)) (by exact (eb_var (pv 2))) (by exact (eb_of (by exact ev_str))) (nomark _)))
    (by exact (ss_one (by exact (ss_ret (by exact (ev_bin ov_sub (by exact (eb_of (by exact ev_int))) (by exact (eb_of (by exact (ev_callD T.d_worth G hr h0 (by rfl) (by exact (ea_cons (by exact (ev_ix ixv (by exact (eb_var (pv 0))) (by exact (eb_of (by exact ev_int))) (fun _ _ => by rfl))) (by exact (ea_cons (by exact (ev_var (pv 1))) (by exact ea_nil)))))))))))))))
    (by exact ss_nil)))
    (by exact (ss_cons (by exact (ss_set (i := 3) sc_worth.nd (by rfl) (by first | exact .inl rfl | exact .inr rfl) (by exact (ev_ix ixv (by exact (eb_var (pv 1))) (by exact (eb_of (by exact (ev_ix ixv (by exact (eb_var (pv 0))) (by exact (eb_of (by exact ev_int))) (fun _ _ => by rfl))))) (fun _ _ => by rfl)))))
    (by exact (ss_cons (by exact (ss_if (by exact (et_cmp (ov_eq (hu64 hr)) (by exact (eb_var (pv 2))) (by exact (eb_of (by exact ev_str))) (nomark _)))
    (by exact (ss_one (by exact (ss_ret (by exact (ev_var (pv 3)))))))
    (by exact ss_nil)))
    (by exact (ss_cons (by exact (ss_if (by exact (et_cmp (ov_eq (hu64 hr)) (by exact (eb_var (pv 2))) (by exact (eb_of (by exact ev_str))) (nomark _)))
    (by exact (ss_one (by exact (ss_ret (by exact (ev_bin ov_div (by exact (eb_var (pv 3))) (by exact (eb_of (by exact (ev_ix ixv (by exact (eb_var (pv 0))) (by exact (eb_of (by exact ev_int))) (fun _ _ => by rfl)))))))))))
    (by exact ss_nil)))
    (by exact (ss_cons (by exact (ss_if (by exact (et_cmp (ov_eq (hu64 hr)) (by exact (eb_var (pv 2))) (by exact (eb_of (by exact ev_str))) (nomark _)))
    (by exact (ss_one (by exact (ss_ret (by exact (ev_bin ov_mod (by exact (eb_var (pv 3))) (by exact (eb_of (by exact (ev_ix ixv (by exact (eb_var (pv 0))) (by exact (eb_of (by exact ev_int))) (fun _ _ => by rfl)))))))))))
    (by exact ss_nil)))
    (by exact (ss_cons (by exact (ss_if (by exact (et_cmp (ov_eq (hu64 hr)) (by exact (eb_var (pv 2))) (by exact (eb_of (by exact ev_str))) (nomark _)))
    (by exact (ss_one (by exact (ss_ret (by exact (ev_ife (by exact (et_cmp (ov_in (hu65 hr)) (by exact (eb_var (pv 3))) (by exact (eb_of (by exact (ev_ix ixv (by exact (eb_var (pv 0))) (by exact (eb_of (by exact ev_int))) (fun _ _ => by rfl))))) (by with_unfolding_all rfl))) (by exact (ev_tm PySem.F.slot_tuple_index PySem.F.type_tuple_index mv_tindex (by exact (eb_of (by exact (ev_ix ixv (by exact (eb_var (pv 0))) (by exact (eb_of (by exact ev_int))) (fun _ _ => by rfl))))) (by exact (ed_cons (by exact (eb_var (pv 3))) (by exact ed_nil))))) (by exact (ev_callB cv_len (by rfl) T.z_len bt_len (by exact (ed_cons (by exact (eb_of (by exact (ev_ix ixv (by exact (eb_var (pv 0))) (by exact (eb_of (by exact ev_int))) (fun _ _ => by rfl))))) (by exact ed_nil)))))))))))
    (by exact ss_nil)))
    (by exact (ss_cons (by exact (ss_if (by exact (et_cmp (ov_eq (hu64 hr)) (by exact (eb_var (pv 2))) (by exact (eb_of (by exact ev_str))) (nomark _)))
    (by exact (ss_one (by exact (ss_ret (by exact (ev_callTy cv_int (by rfl) T.z_int bt_int (by exact (ed_cons (by exact (eb_of (by exact (ev_cmp (ov_notIn (hu65 hr)) (by exact (eb_var (pv 3))) (by exact (eb_of (by exact (ev_ix ixv (by exact (eb_var (pv 0))) (by exact (eb_of (by exact ev_int))) (fun _ _ => by rfl))))) (by with_unfolding_all rfl))))) (by exact ed_nil)))))))))
    (by exact ss_nil)))
    (by exact (ss_cons (by exact (ss_set (i := 4) sc_worth.nd (by rfl) (by first | exact .inl rfl | exact .inr rfl) (by exact (ev_ix ixv (by exact (eb_var (pv 1))) (by exact (eb_of (by exact (ev_ix ixv (by exact (eb_var (pv 0))) (by exact (eb_of (by exact ev_int))) (fun _ _ => by rfl))))) (fun _ _ => by rfl)))))
    (by exact (ss_cons (by exact (ss_if (by exact (et_cmp (ov_eq (hu64 hr)) (by exact (eb_var (pv 2))) (by exact (eb_of (by exact ev_str))) (nomark _)))
    (by exact (ss_one (by exact (ss_ret (by exact (ev_bin ov_add (by exact (eb_var (pv 3))) (by exact (eb_var (pv 4)))))))))
    (by exact ss_nil)))
    (by exact (ss_cons (by exact (ss_if (by exact (et_cmp (ov_eq (hu64 hr)) (by exact (eb_var (pv 2))) (by exact (eb_of (by exact ev_str))) (nomark _)))
    (by exact (ss_one (by exact (ss_ret (by exact (ev_callB cv_abs (by rfl) T.z_abs bt_abs (by exact (ed_cons (by exact (eb_of (by exact (ev_bin ov_sub (by exact (eb_var (pv 3))) (by exact (eb_var (pv 4))))))) (by exact ed_nil)))))))))
    (by exact ss_nil)))
    (by exact (ss_one (by exact (ss_ret (by exact (ev_callB (cv_max2 (by rfl)) (by rfl) T.z_max bt_max (by exact (ed_cons (by exact (eb_var (pv 3))) (by exact (ed_cons (by exact (eb_var (pv 4))) (by exact ed_nil))))))))))))))))))))))))))))))))))
theorem ok_worth (T : Facts K mg)  : FnOk P w K mg base CX0 4 T.d_worth.f T.d_worth.fd ["key", "thing"] (spOf K 2 m_worth) := ok_worth_ T  4
/-! ### worths -/
abbrev st_worths : Stmt := topS 2
abbrev N_worths : List Str := ["row", "thing", "key"]
theorem sc_worths : FnScope N_worths ["row", "thing"] (defScope st_worths) := ⟨rfl, rfl, rfl, by decide +kernel, rfl, by decide +kernel, by decide +kernel⟩
theorem ok_worths (T : Facts K mg) (G_worth : FnOk P w K mg base CX0 4 T.d_worth.f T.d_worth.fd ["key", "thing"] (spOf K 2 m_worth)) : FnOk P w K mg base CX0 5 T.d_worths.f T.d_worths.fd ["row", "thing"] (spOf K 2 m_worths) :=
  fn_val (N := N_worths) T.d_worths.F sc_worths fun cdv A outer s H E hr => (by exact (ss_one (by exact (ss_ret (by exact (ev_callTy cv_tup (by rfl) T.z_tuple bt_tuple (by exact (ed_cons (by exact (eb_of (by exact (ev_lc (own:=[("key",2)]) (by rfl) sc_worths.nd (by exact (ej_seq (by exact (eb_var (pv 0))))) (blkOk_by (N := N_worths) (sc := defScope st_worths) (by decide +kernel)) (fun _ _ _ _ _ => (by exact (eg_one (pg_name (i := 2) sc_worths.nd (by rfl) (by first | exact .inl rfl | exact .inr rfl))))) (fun _ _ _ _ _ => ets_nil) (fun _ _ _ _ _ => (by exact (ev_callD T.d_worth G_worth hr (by decide) (by rfl) (by exact (ea_cons (by exact (ev_var (pv 2))) (by exact (ea_cons (by exact (ev_var (pv 1))) (by exact ea_nil)))))))))))) (by exact ed_nil)))))))))
/-! ### told -/
abbrev st_told : Stmt := topS 3
abbrev N_told : List Str := ["row", "one", "other", "mine", "yours"]
theorem sc_told : FnScope N_told ["row", "one", "other"] (defScope st_told) := ⟨rfl, rfl, rfl, by decide +kernel, rfl, by decide +kernel, by decide +kernel⟩
theorem ok_told (T : Facts K mg) (G_worths : FnOk P w K mg base CX0 5 T.d_worths.f T.d_worths.fd ["row", "thing"] (spOf K 2 m_worths)) : FnOk P w K mg base CX0 6 T.d_told.f T.d_told.fd ["row", "one", "other"] (spOf K 3 m_told) :=
  fn_val (N := N_told) T.d_told.F sc_told fun cdv A outer s H E hr => (by exact (ss_cons (by exact (ss_set (i := 3) sc_told.nd (by rfl) (by first | exact .inl rfl | exact .inr rfl) (ev_frz (by exact (ev_callD T.d_worths G_worths hr (by decide) (by rfl) (by exact (ea_cons (by exact (ev_var (pv 0))) (by exact (ea_cons (by exact (ev_var (pv 1))) (by exact ea_nil))))))))))
    (by exact (ss_cons (by exact (ss_set (i := 4) sc_told.nd (by rfl) (by first | exact .inl rfl | exact .inr rfl) (ev_frz (by exact (ev_callD T.d_worths G_worths hr (by decide) (by rfl) (by exact (ea_cons (by exact (ev_var (pv 0))) (by exact (ea_cons (by exact (ev_var (pv 2))) (by exact ea_nil))))))))))
    (by exact (ss_one (by exact (ss_ret (by exact (ev_bin ov_sub (by exact (eb_of (by exact (ev_callTy cv_int (by rfl) T.z_int bt_int (by exact (ed_cons (by exact (eb_of (by exact (ev_cmp (ov_gt (hu0 hr)) (by exact (eb_var (pv 3))) (by exact (eb_var (pv 4))) (nomark _))))) (by exact ed_nil))))))) (by exact (eb_of (by exact (ev_callTy cv_int (by rfl) T.z_int bt_int (by exact (ed_cons (by exact (eb_of (by exact (ev_cmp (ov_lt (hu0 hr)) (by exact (eb_var (pv 3))) (by exact (eb_var (pv 4))) (nomark _))))) (by exact ed_nil)))))))))))))))))
/-! ### turned_key -/
abbrev st_turned_key : Stmt := topS 4
abbrev N_turned_key : List Str := ["key"]
theorem sc_turned_key : FnScope N_turned_key ["key"] (defScope st_turned_key) := ⟨rfl, rfl, rfl, by decide +kernel, rfl, by decide +kernel, by decide +kernel⟩
theorem ok_turned_key (T : Facts K mg)  : FnOk P w K mg base CX0 1 T.d_turned_key.f T.d_turned_key.fd ["key"] (spOf K 1 m_turned_key) :=
  fn_val (N := N_turned_key) T.d_turned_key.F sc_turned_key fun cdv A outer s H E hr => (by exact (ss_cons (by exact (ss_if (by exact (et_cmp (ov_eq (hu64 hr)) (by exact (eb_of (by exact (ev_ix ixv (by exact (eb_var (pv 0))) (by exact (eb_of (by exact ev_int))) (fun _ _ => by rfl))))) (by exact (eb_of (by exact ev_str))) (nomark _)))
    (by exact (ss_one (by exact (ss_ret (by exact (ev_ix ixv (by exact (eb_var (pv 0))) (by exact (eb_of (by exact ev_int))) (fun _ _ => by rfl)))))))
    (by exact ss_nil)))
    (by exact (ss_one (by exact (ss_ret (by exact (ev_tup (by exact (ea_cons (by exact ev_str) (by exact (ea_cons (by exact (ev_var (pv 0))) (by exact ea_nil)))))))))))))
/-! ### turned -/
abbrev st_turned : Stmt := topS 5
abbrev N_turned : List Str := ["row", "key"]
theorem sc_turned : FnScope N_turned ["row"] (defScope st_turned) := ⟨rfl, rfl, rfl, by decide +kernel, rfl, by decide +kernel, by decide +kernel⟩
theorem ok_turned (T : Facts K mg) (G_turned_key : FnOk P w K mg base CX0 1 T.d_turned_key.f T.d_turned_key.fd ["key"] (spOf K 1 m_turned_key)) : FnOk P w K mg base CX0 2 T.d_turned.f T.d_turned.fd ["row"] (spOf K 1 m_turned) :=
  fn_val (N := N_turned) T.d_turned.F sc_turned fun cdv A outer s H E hr => (by exact (ss_one (by exact (ss_ret (by exact (ev_callTy cv_tup (by rfl) T.z_tuple bt_tuple (by exact (ed_cons (by exact (eb_of (by exact (ev_lc (own:=[("key",1)]) (by rfl) sc_turned.nd (by exact (ej_seq (by exact (eb_var (pv 0))))) (blkOk_by (N := N_turned) (sc := defScope st_turned) (by decide +kernel)) (fun _ _ _ _ _ => (by exact (eg_one (pg_name (i := 1) sc_turned.nd (by rfl) (by first | exact .inl rfl | exact .inr rfl))))) (fun _ _ _ _ _ => ets_nil) (fun _ _ _ _ _ => (by exact (ev_callD T.d_turned_key G_turned_key hr (by decide) (by rfl) (by exact (ea_cons (by exact (ev_var (pv 1))) (by exact ea_nil)))))))))) (by exact ed_nil)))))))))
/-! ### places -/
abbrev st_places : Stmt := topS 7
abbrev N_places : List Str := ["row", "things", "keyed", "at", "thing", "some"]
theorem sc_places : FnScope N_places ["row", "things"] (defScope st_places) := ⟨rfl, rfl, rfl, by decide +kernel, rfl, by decide +kernel, by decide +kernel⟩
theorem ok_places (T : Facts K mg) (G_worths : FnOk P w K mg base CX0 5 T.d_worths.f T.d_worths.fd ["row", "thing"] (spOf K 2 m_worths)) : FnOk P w K mg base CX0 6 T.d_places.f T.d_places.fd ["row", "things"] (spOf K 2 m_places) :=
  fn_val (N := N_places) T.d_places.F sc_places fun cdv A outer s H E hr => (by exact (ss_cons (by exact (ss_set (i := 2) sc_places.nd (by rfl) (by first | exact .inl rfl | exact .inr rfl) (ev_frz (by exact (ev_callB (cv_sorted (hu100 hr)) (by rfl) T.z_sorted bt_sorted (by exact (ed_cons (by exact (eb_of (by exact (ev_lc (own:=[("at",3),("thing",4)]) (by rfl) sc_places.nd (by exact (ej_enum (by rfl) T.z_enumerate (by exact (eb_var (pv 1))))) (blkOk_by (N := N_places) (sc := defScope st_places) (by decide +kernel)) (fun _ _ _ _ _ => (by exact (eg_many (by rfl) (egs_cons (pg_name (i := 3) sc_places.nd (by rfl) (by first | exact .inl rfl | exact .inr rfl)) (egs_cons (pg_name (i := 4) sc_places.nd (by rfl) (by first | exact .inl rfl | exact .inr rfl)) egs_nil))))) (fun _ _ _ _ _ => ets_nil) (fun _ _ _ _ _ => (by exact (ev_tup (by exact (ea_cons (by exact (ev_callD T.d_worths G_worths hr (by decide) (by rfl) (by exact (ea_cons (by exact (ev_var (pv 0))) (by exact (ea_cons (by exact (ev_var (pv 4))) (by exact ea_nil))))))) (by exact (ea_cons (by exact (ev_var (pv 3))) (by exact ea_nil)))))))))))) (by exact ed_nil))))))))
    (by exact (ss_one (by exact (ss_ret (by exact (ev_callTy cv_tup (by rfl) T.z_tuple bt_tuple (by exact (ed_cons (by exact (eb_of (by exact (ev_lc (own:=[("some",5),("at",3)]) (by rfl) sc_places.nd (by exact (ej_seq (by exact (eb_var (pv 2))))) (blkOk_by (N := N_places) (sc := defScope st_places) (by decide +kernel)) (fun _ _ _ _ _ => (by exact (eg_many (by rfl) (egs_cons (pg_name (i := 5) sc_places.nd (by rfl) (by first | exact .inl rfl | exact .inr rfl)) (egs_cons (pg_name (i := 3) sc_places.nd (by rfl) (by first | exact .inl rfl | exact .inr rfl)) egs_nil))))) (fun _ _ _ _ _ => ets_nil) (fun _ _ _ _ _ => (by exact (ev_var (pv 3)))))))) (by exact ed_nil)))))))))))
/-! ### ordered -/
abbrev st_ordered : Stmt := topS 8
abbrev N_ordered : List Str := ["row", "things", "at"]
theorem sc_ordered : FnScope N_ordered ["row", "things"] (defScope st_ordered) := ⟨rfl, rfl, rfl, by decide +kernel, rfl, by decide +kernel, by decide +kernel⟩
theorem ok_ordered (T : Facts K mg) (G_places : FnOk P w K mg base CX0 6 T.d_places.f T.d_places.fd ["row", "things"] (spOf K 2 m_places)) : FnOk P w K mg base CX0 7 T.d_ordered.f T.d_ordered.fd ["row", "things"] (spOf K 2 m_ordered) :=
  fn_val (N := N_ordered) T.d_ordered.F sc_ordered fun cdv A outer s H E hr => (by exact (ss_one (by exact (ss_ret (by exact (ev_callTy cv_tup (by rfl) T.z_tuple bt_tuple (by exact (ed_cons (by exact (eb_of (by exact (ev_lc (own:=[("at",2)]) (by rfl) sc_ordered.nd (by exact (ej_seq (by exact (eb_of (by exact (ev_callD T.d_places G_places hr (by decide) (by rfl) (by exact (ea_cons (by exact (ev_var (pv 0))) (by exact (ea_cons (by exact (ev_var (pv 1))) (by exact ea_nil))))))))))) (blkOk_by (N := N_ordered) (sc := defScope st_ordered) (by decide +kernel)) (fun _ _ _ _ _ => (by exact (eg_one (pg_name (i := 2) sc_ordered.nd (by rfl) (by first | exact .inl rfl | exact .inr rfl))))) (fun _ _ _ _ _ => ets_nil) (fun _ _ _ _ _ => (by exact (ev_ix ixv (by exact (eb_var (pv 1))) (by exact (eb_var (pv 2))) (fun _ _ => by rfl)))))))) (by exact ed_nil)))))))))
/-! ### merged -/
abbrev st_merged : Stmt := topS 9
abbrev N_merged : List Str := ["row", "ones", "others", "found"]
theorem sc_merged : FnScope N_merged ["row", "ones", "others"] (defScope st_merged) := ⟨rfl, rfl, rfl, by decide +kernel, rfl, by decide +kernel, by decide +kernel⟩
theorem ok_merged (T : Facts K mg) (G_told : FnOk P w K mg base CX0 6 T.d_told.f T.d_told.fd ["row", "one", "other"] (spOf K 3 m_told)) : FnOk P w K mg base CX0 7 T.d_merged.f T.d_merged.fd ["row", "ones", "others"] (spOf K 3 m_merged) :=
  fn_val (N := N_merged) T.d_merged.F sc_merged fun cdv A outer s H E hr => (by exact (ss_cons (by exact (ss_set (i := 3) sc_merged.nd (by rfl) (by first | exact .inl rfl | exact .inr rfl) (by exact (ev_tup (by exact ea_nil)))))
    (by exact (ss_cons (by exact (ss_end [0] (by exact (ss_while 100000 PassesOwn.never (by exact (et_w (ew_and (by exact (et_tru (by exact (eb_var (pv 1))) (fun _ => (by rfl)))) (ew_and1 (by exact (et_tru (by exact (eb_var (pv 2))) (fun _ => (by rfl)))))))) (by exact (ss_one (by exact (ss_if (by exact (et_cmp (ov_lt (hu0 hr)) (by exact (eb_of (by exact (ev_callD T.d_told G_told hr (by decide) (by rfl) (by exact (ea_cons (by exact (ev_var (pv 0))) (by exact (ea_cons (by exact (ev_ix ixv (by exact (eb_var (pv 1))) (by exact (eb_of (by exact ev_int))) (fun _ _ => by rfl))) (by exact (ea_cons (by exact (ev_ix ixv (by exact (eb_var (pv 2))) (by exact (eb_of (by exact ev_int))) (fun _ _ => by rfl))) (by exact ea_nil))))))))))) (by exact (eb_of (by exact ev_int))) (nomark _)))
    (by exact (ss_cons (by exact (ss_set (i := 3) sc_merged.nd (by rfl) (by first | exact .inl rfl | exact .inr rfl) (ev_frz (by exact (ev_bin ov_add (by exact (eb_var (pv 3))) (by exact (eb_of (by exact (ev_slice slv (by exact (eb_var (pv 1))) (by exact eo_none) (by exact (eo_some (by exact (eb_of (by exact ev_int))))))))))))))
    (by exact (ss_one (by exact (ss_set (i := 1) sc_merged.nd (by rfl) (by first | exact .inl rfl | exact .inr rfl) (ev_frz (by exact (ev_slice slv (by exact (eb_var (pv 1))) (by exact (eo_some (by exact (eb_of (by exact ev_int))))) (by exact eo_none))))))))))
    (by exact (ss_cons (by exact (ss_set (i := 3) sc_merged.nd (by rfl) (by first | exact .inl rfl | exact .inr rfl) (ev_frz (by exact (ev_bin ov_add (by exact (eb_var (pv 3))) (by exact (eb_of (by exact (ev_slice slv (by exact (eb_var (pv 2))) (by exact eo_none) (by exact (eo_some (by exact (eb_of (by exact ev_int))))))))))))))
    (by exact (ss_one (by exact (ss_set (i := 2) sc_merged.nd (by rfl) (by first | exact .inl rfl | exact .inr rfl) (ev_frz (by exact (ev_slice slv (by exact (eb_var (pv 2))) (by exact (eo_some (by exact (eb_of (by exact ev_int))))) (by exact eo_none))))))))))))))))))
    (by exact (ss_one (by exact (ss_ret (by exact (ev_bin ov_add (by exact (eb_of (by exact (ev_bin ov_add (by exact (eb_var (pv 3))) (by exact (eb_var (pv 1))))))) (by exact (eb_var (pv 2)))))))))))))
/-! ### crossings -/
abbrev st_crossings : Stmt := topS 10
abbrev N_crossings : List Str := ["row", "things", "many", "at", "one", "other"]
theorem sc_crossings : FnScope N_crossings ["row", "things"] (defScope st_crossings) := ⟨rfl, rfl, rfl, by decide +kernel, rfl, by decide +kernel, by decide +kernel⟩
theorem ok_crossings (T : Facts K mg) (G_told : FnOk P w K mg base CX0 6 T.d_told.f T.d_told.fd ["row", "one", "other"] (spOf K 3 m_told)) : FnOk P w K mg base CX0 7 T.d_crossings.f T.d_crossings.fd ["row", "things"] (spOf K 2 m_crossings) :=
  fn_val (N := N_crossings) T.d_crossings.F sc_crossings fun cdv A outer s H E hr => (by exact (ss_cons (by exact (ss_set (i := 2) sc_crossings.nd (by rfl) (by first | exact .inl rfl | exact .inr rfl) (by exact ev_int)))
    (by exact (ss_cons (by exact (ss_for PassesOwn.never (by rfl) (by exact (ei_enum (by rfl) T.z_enumerate (by exact (ev_var (pv 1))))) (by exact (eg_many (by rfl) (egs_cons (pg_name (i := 3) sc_crossings.nd (by rfl) (by first | exact .inl rfl | exact .inr rfl)) (egs_cons (pg_name (i := 4) sc_crossings.nd (by rfl) (by first | exact .inl rfl | exact .inr rfl)) egs_nil))))
    (by exact (ss_one (by exact (ss_set (i := 2) sc_crossings.nd (by rfl) (by first | exact .inl rfl | exact .inr rfl) (ev_frz (by exact (ev_bin ov_add (by exact (eb_var (pv 2))) (by exact (eb_of (by exact (ev_callB cv_len (by rfl) T.z_len bt_len (by exact (ed_cons (by exact (eb_of (by exact (ev_lc (own:=[("other",5)]) (by rfl) sc_crossings.nd (by exact (ej_seq (by exact (eb_of (by exact (ev_slice slv (by exact (eb_var (pv 1))) (by exact (eo_some (by exact (eb_of (by exact (ev_bin ov_add (by exact (eb_var (pv 3))) (by exact (eb_of (by exact ev_int))))))))) (by exact eo_none))))))) (blkOk_by (N := N_crossings) (sc := defScope st_crossings) (by decide +kernel)) (fun _ _ _ _ _ => (by exact (eg_one (pg_name (i := 5) sc_crossings.nd (by rfl) (by first | exact .inl rfl | exact .inr rfl))))) (fun _ _ _ _ _ => (ets_one (by exact (et_cmp (ov_eq (hu64 hr)) (by exact (eb_of (by exact (ev_callD T.d_told G_told hr (by decide) (by rfl) (by exact (ea_cons (by exact (ev_var (pv 0))) (by exact (ea_cons (by exact (ev_var (pv 4))) (by exact (ea_cons (by exact (ev_var (pv 5))) (by exact ea_nil))))))))))) (by exact (eb_of (by exact ev_int))) (nomark _))))) (fun _ _ _ _ _ => (by exact (ev_var (pv 5)))))))) (by exact ed_nil))))))))))))))))
    (by exact (ss_one (by exact (ss_ret (by exact (ev_var (pv 2)))))))))))
/-! ### groups -/
abbrev st_groups : Stmt := topS 11
abbrev N_groups : List Str := ["row", "things", "found", "thing"]
theorem sc_groups : FnScope N_groups ["row", "things"] (defScope st_groups) := ⟨rfl, rfl, rfl, by decide +kernel, rfl, by decide +kernel, by decide +kernel⟩
theorem ok_groups (T : Facts K mg) (G_told : FnOk P w K mg base CX0 6 T.d_told.f T.d_told.fd ["row", "one", "other"] (spOf K 3 m_told)) (G_ordered : FnOk P w K mg base CX0 7 T.d_ordered.f T.d_ordered.fd ["row", "things"] (spOf K 2 m_ordered)) : FnOk P w K mg base CX0 8 T.d_groups.f T.d_groups.fd ["row", "things"] (spOf K 2 m_groups) :=
  fn_val (N := N_groups) T.d_groups.F sc_groups fun cdv A outer s H E hr => (by exact (ss_cons (by exact (ss_set (i := 2) sc_groups.nd (by rfl) (by first | exact .inl rfl | exact .inr rfl) (by exact (ev_lst (by exact ea_nil)))))
    (by exact (ss_cons (by exact (ss_for PassesOwn.never (by rfl) (by exact (ei_seq (by exact (ev_callD T.d_ordered G_ordered hr (by decide) (by rfl) (by exact (ea_cons (by exact (ev_var (pv 0))) (by exact (ea_cons (by exact (ev_var (pv 1))) (by exact ea_nil))))))))) (by exact (eg_one (pg_name (i := 3) sc_groups.nd (by rfl) (by first | exact .inl rfl | exact .inr rfl))))
    (by exact (ss_one (by exact (ss_if (by exact (et_w (ew_and (by exact (et_tru (by exact (eb_var (pv 2))) (fun _ => (by rfl)))) (ew_and1 (by exact (et_cmp (ov_eq (hu64 hr)) (by exact (eb_of (by exact (ev_callD T.d_told G_told hr (by decide) (by rfl) (by exact (ea_cons (by exact (ev_var (pv 0))) (by exact (ea_cons (by exact (ev_ix ixv (by exact (eb_of (by exact (ev_ix ixv (by exact (eb_var (pv 2))) (by exact (eb_of (by exact (ev_neg (by exact (eb_of (by exact ev_int))))))) (fun _ _ => by rfl))))) (by exact (eb_of (by exact ev_int))) (fun _ _ => by rfl))) (by exact (ea_cons (by exact (ev_var (pv 3))) (by exact ea_nil))))))))))) (by exact (eb_of (by exact ev_int))) (nomark _)))))))
    (by exact (ss_one (by exact (ss_setix (pv 2) (by exact (eb_of (by exact (ev_neg (by exact (eb_of (by exact ev_int))))))) (by exact (ev_bin ov_add (by exact (eb_of (by exact (ev_ix ixv (by exact (eb_var (pv 2))) (by exact (eb_of (by exact (ev_neg (by exact (eb_of (by exact ev_int))))))) (fun _ _ => by rfl))))) (by exact (eb_of (by exact (ev_tup (by exact (ea_cons (by exact (ev_var (pv 3))) (by exact ea_nil))))))))) (fun _ => (by rfl))))))
    (by exact (ss_one (by exact (ss_append (pv 2) (by exact (ev_tup (by exact (ea_cons (by exact (ev_var (pv 3))) (by exact ea_nil)))))))))))))))
    (by exact (ss_one (by exact (ss_ret (by exact (ev_callTy cv_tup (by rfl) T.z_tuple bt_tuple (by exact (ed_cons (by exact (eb_var (pv 2))) (by exact ed_nil)))))))))))))
/-! ### best -/
abbrev st_best : Stmt := topS 12
abbrev N_best : List Str := ["row", "things", "many", "found", "group"]
theorem sc_best : FnScope N_best ["row", "things", "many"] (defScope st_best) := ⟨rfl, rfl, rfl, by decide +kernel, rfl, by decide +kernel, by decide +kernel⟩
theorem ok_best (T : Facts K mg) (G_groups : FnOk P w K mg base CX0 8 T.d_groups.f T.d_groups.fd ["row", "things"] (spOf K 2 m_groups)) : FnOk P w K mg base CX0 9 T.d_best.f T.d_best.fd ["row", "things", "many"] (spOf K 3 m_best) :=
  fn_val (N := N_best) T.d_best.F sc_best fun cdv A outer s H E hr => (by exact (ss_cons (by exact (ss_set (i := 3) sc_best.nd (by rfl) (by first | exact .inl rfl | exact .inr rfl) (by exact (ev_tup (by exact ea_nil)))))
    (by exact (ss_cons (by exact (ss_for PassesOwn.never (by rfl) (by exact (ei_seq (by exact (ev_callD T.d_groups G_groups hr (by decide) (by rfl) (by exact (ea_cons (by exact (ev_var (pv 0))) (by exact (ea_cons (by exact (ev_var (pv 1))) (by exact ea_nil))))))))) (by exact (eg_one (pg_name (i := 4) sc_best.nd (by rfl) (by first | exact .inl rfl | exact .inr rfl))))
    (by exact (ss_one (by exact (ss_if (by exact (et_cmp (ov_lt (hu0 hr)) (by exact (eb_of (by exact (ev_callB cv_len (by rfl) T.z_len bt_len (by exact (ed_cons (by exact (eb_var (pv 3))) (by exact ed_nil))))))) (by exact (eb_var (pv 2))) (nomark _)))
    (by exact (ss_one (by exact (ss_set (i := 3) sc_best.nd (by rfl) (by first | exact .inl rfl | exact .inr rfl) (ev_frz (by exact (ev_bin ov_add (by exact (eb_var (pv 3))) (by exact (eb_var (pv 4))))))))))
    (by exact ss_nil)))))))
    (by exact (ss_one (by exact (ss_ret (by exact (ev_var (pv 3)))))))))))
/-! ### _law_same -/
abbrev st__law_same : Stmt := topS 15
abbrev N__law_same : List Str := ["_law_got", "_law_due", "_law_one", "_law_other"]
theorem sc__law_same : FnScope N__law_same ["_law_got", "_law_due"] (defScope st__law_same) := ⟨rfl, rfl, rfl, by decide +kernel, rfl, by decide +kernel, by decide +kernel⟩
theorem ok__law_same_ (T : Facts K mg)  : ∀ k, FnOk P w K mg base CX0 (k + 0) T.d__law_same.f T.d__law_same.fd ["_law_got", "_law_due"] (spOf K 2 (m__law_same_ k))
  | 0 => fn_none
  | k + 1 => by
    have G := ok__law_same_ T  k
    have h0 : k + 0 ≤ k + 0 := Nat.le_refl _
    show FnOk P w K mg base CX0 (k + 0 + 1) _ _ _ _
    exact fn_val (N := N__law_same) T.d__law_same.F sc__law_same fun cdv A outer s H E hr => ((by exact (ss_cons (by exact (ss_if (by exact (et_cmp (ov_isN) (by exact (eb_var (pv 1))) (by exact (eb_of (by exact ev_non))) (nomark _)))
    (by exact (ss_one (by exact (ss_ret (by exact (ev_cmp (ov_isN) (by exact (eb_var (pv 0))) (by exact (eb_of (by exact ev_non))) (nomark _)))))))
    (by exact ss_nil)))
    (by exact (ss_cons (by exact (ss_if (by exact (et_tru (by exact (eb_of (by exact (ev_isa isa_bool (by rfl) T.z_isinstance bt_isinstance (by exact (eb_var (pv 1))) (pe_bltn (by rfl) T.z_bool bt_bool (by rfl)))))) (fun _ => (by rfl))))
    (by exact (ss_one (by exact (ss_ret (by exact (ev_and (by exact (ev_isa isa_bool (by rfl) T.z_isinstance bt_isinstance (by exact (eb_var (pv 0))) (pe_bltn (by rfl) T.z_bool bt_bool (by rfl)))) (ev_one (by exact (ev_cmp (ov_eq (hu64 hr)) (by exact (eb_var (pv 0))) (by exact (eb_var (pv 1))) (nomark _))))))))))
    (by exact ss_nil)))
    (by exact (ss_cons (by exact (ss_if (by exact (et_tru (by exact (eb_of (by exact (ev_isa isa_tuple (by rfl) T.z_isinstance bt_isinstance (by exact (eb_var (pv 1))) (pe_bltn (by rfl) T.z_tuple bt_tuple (by rfl)))))) (fun _ => (by rfl))))
    (by exact (ss_cons (by exact (ss_if (by exact (et_w (ew_or (by exact (et_not (by exact (et_tru (by exact (eb_of (by exact (ev_isa isa_tuple (by rfl) T.z_isinstance bt_isinstance (by exact (eb_var (pv 0))) (pe_bltn (by rfl) T.z_tuple bt_tuple (by rfl)))))) (fun _ => (by rfl)))))) (ew_or1 (by exact (et_cmp (ov_ne (hu64 hr)) (by exact (eb_of (by exact (ev_callB cv_len (by rfl) T.z_len bt_len (by exact (ed_cons (by exact (eb_var (pv 0))) (by exact ed_nil))))))) (by exact (eb_of (by exact (ev_callB cv_len (by rfl) T.z_len bt_len (by exact (ed_cons (by exact (eb_var (pv 1))) (by exact ed_nil))))))) (nomark _)))))))
    (by exact (ss_one (by exact (ss_ret (by exact ev_bl)))))
    (by exact ss_nil)))
    (by exact (ss_one (by exact (ss_ret (by exact (ev_callB (cv_all (by rfl)) (by rfl) T.z_all bt_all (by exact (ed_cons (by exact (eb_of (by exact (ev_lc (own:=[("_law_one",2),("_law_other",3)]) (by rfl) sc__law_same.nd (by exact (ej_zip (by rfl) T.z_zip (by exact (eb_var (pv 0))) (by exact (eb_var (pv 1))))) (blkOk_by (N := N__law_same) (sc := defScope st__law_same) (by decide +kernel)) (fun _ _ _ _ _ => (by exact (eg_many (by rfl) (egs_cons (pg_name (i := 2) sc__law_same.nd (by rfl) (by first | exact .inl rfl | exact .inr rfl)) (egs_cons (pg_name (i := 3) sc__law_same.nd (by rfl) (by first | exact .inl rfl | exact .inr rfl)) egs_nil))))) (fun _ _ _ _ _ => ets_nil) (fun _ _ _ _ _ => (by exact (ev_callD T.d__law_same G hr h0 (by rfl) (by exact (ea_cons (by exact (ev_var (pv 2))) (by exact (ea_cons (by exact (ev_var (pv 3))) (by exact ea_nil)))))))))))) (by exact ed_nil)))))))))))
    (by exact ss_nil)))
    (by exact (ss_cons (by exact (ss_if (by exact (et_tru (by exact (eb_of (by exact (ev_isa isa_str (by rfl) T.z_isinstance bt_isinstance (by exact (eb_var (pv 1))) (pe_bltn (by rfl) T.z_str bt_str (by rfl)))))) (fun _ => (by rfl))))
    (by exact (ss_one (by exact (ss_ret (by exact (ev_and (by exact (ev_isa isa_str (by rfl) T.z_isinstance bt_isinstance (by exact (eb_var (pv 0))) (pe_bltn (by rfl) T.z_str bt_str (by rfl)))) (ev_one (by exact (ev_cmp (ov_eq (hu64 hr)) (by exact (eb_var (pv 0))) (by exact (eb_var (pv 1))) (nomark _))))))))))
    (by exact ss_nil)))
    (by exact (ss_one (by exact (ss_ret (by exact (ev_and (by exact (ev_isa isa_int (by rfl) T.z_isinstance bt_isinstance (by exact (eb_var (pv 0))) (pe_bltn (by rfl) T.z_int bt_int (by rfl)))) (ev_and (by exact (ev_notD (by exact (eb_of (by exact (ev_isa isa_bool (by rfl) T.z_isinstance bt_isinstance (by exact (eb_var (pv 0))) (pe_bltn (by rfl) T.z_bool bt_bool (by rfl)))))))) (ev_one (by exact (ev_cmp (ov_eq (hu64 hr)) (by exact (eb_var (pv 0))) (by exact (eb_var (pv 1))) (nomark _))))))))))))))))))))
theorem ok__law_same (T : Facts K mg)  : FnOk P w K mg base CX0 12 T.d__law_same.f T.d__law_same.fd ["_law_got", "_law_due"] (spOf K 2 m__law_same) := ok__law_same_ T  12
/-! ### _law_draw -/
abbrev st__law_draw : Stmt := topS 16
abbrev N__law_draw : List Str := ["_law_script", "_law_town", "_law_many", "_law_k", "_law_cell", "_law_number"]
theorem sc__law_draw : FnScope N__law_draw ["_law_script", "_law_town", "_law_many"] (defScope st__law_draw) := ⟨rfl, rfl, rfl, by decide +kernel, rfl, by decide +kernel, by decide +kernel⟩
theorem ok__law_draw (T : Facts K mg)  : FnOk P w K mg base CX0 1 T.d__law_draw.f T.d__law_draw.fd ["_law_script", "_law_town", "_law_many"] (spOf K 3 m__law_draw) :=
  fn_val (N := N__law_draw) T.d__law_draw.F sc__law_draw fun cdv A outer s H E hr => (by exact (ss_cons (by exact (ss_town (pv 1)))
    (by exact (ss_cons (by exact (ss_set (i := 3) sc__law_draw.nd (by rfl) (by first | exact .inl rfl | exact .inr rfl) (by exact (ev_tlen (by rfl) T.z_len (pv 1)))))
    (by exact (ss_cons (by exact (ss_set (i := 4) sc__law_draw.nd (by rfl) (by first | exact .inl rfl | exact .inr rfl) (by exact ev_int)))
    (by exact (ss_cons (by exact (ss_if (by exact (et_tru (by exact (eb_var (pv 0))) (fun _ => (by rfl))))
    (by exact (ss_one (by exact (ss_set (i := 4) sc__law_draw.nd (by rfl) (by first | exact .inl rfl | exact .inr rfl) (by exact (ev_ix ixv (by exact (eb_var (pv 0))) (by exact (eb_of (by exact (ev_bin ov_mod (by exact (eb_var (pv 3))) (by exact (eb_of (by exact (ev_callB cv_len (by rfl) T.z_len bt_len (by exact (ed_cons (by exact (eb_var (pv 0))) (by exact ed_nil))))))))))) (fun _ _ => by rfl)))))))
    (by exact ss_nil)))
    (by exact (ss_cons (by exact (ss_set (i := 5) sc__law_draw.nd (by rfl) (by first | exact .inl rfl | exact .inr rfl) (by exact (ev_bin ov_mod (by exact (eb_of (by exact (ev_bin ov_add (by exact (eb_var (pv 4))) (by exact (eb_of (by exact (ev_bin ov_mul (by exact (eb_of (by exact ev_int))) (by exact (eb_var (pv 3))))))))))) (by exact (eb_of (by exact ev_int)))))))
    (by exact (ss_cons (by exact (ss_set (i := 5) sc__law_draw.nd (by rfl) (by first | exact .inl rfl | exact .inr rfl) (by exact (ev_bin ov_mod (by exact (eb_of (by exact (ev_bin ov_mul (by exact (eb_of (by exact (ev_bin ov_mod (by exact (eb_of (by exact (ev_bin ov_mul (by exact (eb_var (pv 5))) (by exact (eb_var (pv 5))))))) (by exact (eb_of (by exact ev_int))))))) (by exact (eb_of (by exact ev_int))))))) (by exact (eb_of (by exact ev_int)))))))
    (by exact (ss_one (by exact (ss_ret (by exact (ev_bin ov_mod (by exact (eb_of (by exact (ev_bin ov_div (by exact (eb_var (pv 5))) (by exact (eb_of (by exact ev_int))))))) (by exact (eb_var (pv 2)))))))))))))))))))))
/-! ### _law_pick -/
abbrev st__law_pick : Stmt := topS 17
abbrev N__law_pick : List Str := ["_law_script", "_law_town", "_law_some"]
theorem sc__law_pick : FnScope N__law_pick ["_law_script", "_law_town", "_law_some"] (defScope st__law_pick) := ⟨rfl, rfl, rfl, by decide +kernel, rfl, by decide +kernel, by decide +kernel⟩
theorem ok__law_pick (T : Facts K mg) (G__law_draw : FnOk P w K mg base CX0 1 T.d__law_draw.f T.d__law_draw.fd ["_law_script", "_law_town", "_law_many"] (spOf K 3 m__law_draw)) : FnOk P w K mg base CX0 2 T.d__law_pick.f T.d__law_pick.fd ["_law_script", "_law_town", "_law_some"] (spOf K 3 m__law_pick) :=
  fn_val (N := N__law_pick) T.d__law_pick.F sc__law_pick fun cdv A outer s H E hr => (by exact (ss_one (by exact (ss_ret (by exact (ev_ix ixv (by exact (eb_var (pv 2))) (by exact (eb_of (by exact (ev_callD T.d__law_draw G__law_draw hr (by decide) (by rfl) (by exact (ea_cons (by exact (ev_var (pv 0))) (by exact (ea_cons (by exact (ev_var (pv 1))) (by exact (ea_cons (by exact (ev_callB cv_len (by rfl) T.z_len bt_len (by exact (ed_cons (by exact (eb_var (pv 2))) (by exact ed_nil))))) (by exact ea_nil))))))))))) (fun _ _ => by rfl)))))))
/-! ### _law_plain -/
abbrev st__law_plain : Stmt := topS 18
abbrev N__law_plain : List Str := ["_law_script", "_law_town", "_law_kind", "_law_at", "_law_some", "_law_k", "_law_one", "_law_pair"]
theorem sc__law_plain : FnScope N__law_plain ["_law_script", "_law_town"] (defScope st__law_plain) := ⟨rfl, rfl, rfl, by decide +kernel, rfl, by decide +kernel, by decide +kernel⟩
theorem ok__law_plain (T : Facts K mg) (G__law_draw : FnOk P w K mg base CX0 1 T.d__law_draw.f T.d__law_draw.fd ["_law_script", "_law_town", "_law_many"] (spOf K 3 m__law_draw)) (G__law_pick : FnOk P w K mg base CX0 2 T.d__law_pick.f T.d__law_pick.fd ["_law_script", "_law_town", "_law_some"] (spOf K 3 m__law_pick)) : FnOk P w K mg base CX0 3 T.d__law_plain.f T.d__law_plain.fd ["_law_script", "_law_town"] (spOf K 2 m__law_plain) :=
  fn_val (N := N__law_plain) T.d__law_plain.F sc__law_plain fun cdv A outer s H E hr => (by exact (ss_cons (by exact (ss_set (i := 2) sc__law_plain.nd (by rfl) (by first | exact .inl rfl | exact .inr rfl) (by exact (ev_callD T.d__law_draw G__law_draw hr (by decide) (by rfl) (by exact (ea_cons (by exact (ev_var (pv 0))) (by exact (ea_cons (by exact (ev_var (pv 1))) (by exact (ea_cons (by exact ev_int) (by exact ea_nil)))))))))))
    (by exact (ss_cons (by exact (ss_set (i := 3) sc__law_plain.nd (by rfl) (by first | exact .inl rfl | exact .inr rfl) (by exact (ev_callD T.d__law_draw G__law_draw hr (by decide) (by rfl) (by exact (ea_cons (by exact (ev_var (pv 0))) (by exact (ea_cons (by exact (ev_var (pv 1))) (by exact (ea_cons (by exact ev_int) (by exact ea_nil)))))))))))
    (by exact (ss_cons (by exact (ss_if (by exact (et_cmp (ov_lt (hu0 hr)) (by exact (eb_var (pv 2))) (by exact (eb_of (by exact ev_int))) (nomark _)))
    (by exact (ss_one (by exact (ss_ret (by exact (ev_tup (by exact (ea_cons (by exact ev_str) (by exact (ea_cons (by exact (ev_var (pv 3))) (by exact ea_nil)))))))))))
    (by exact ss_nil)))
    (by exact (ss_cons (by exact (ss_if (by exact (et_cmp (ov_lt (hu0 hr)) (by exact (eb_var (pv 2))) (by exact (eb_of (by exact ev_int))) (nomark _)))
    (by exact (ss_one (by exact (ss_ret (by exact (ev_tup (by exact (ea_cons (by exact (ev_ix ixv (by exact (eb_of (by exact (ev_lst (by exact (ea_cons (by exact ev_str) (by exact (ea_cons (by exact ev_str) (by exact ea_nil))))))))) (by exact (eb_of (by exact (ev_bin ov_sub (by exact (eb_var (pv 2))) (by exact (eb_of (by exact ev_int))))))) (fun _ _ => by rfl))) (by exact (ea_cons (by exact (ev_var (pv 3))) (by exact (ea_cons (by exact (ev_bin ov_add (by exact (eb_of (by exact ev_int))) (by exact (eb_of (by exact (ev_callD T.d__law_draw G__law_draw hr (by decide) (by rfl) (by exact (ea_cons (by exact (ev_var (pv 0))) (by exact (ea_cons (by exact (ev_var (pv 1))) (by exact (ea_cons (by exact ev_int) (by exact ea_nil))))))))))))) (by exact ea_nil)))))))))))))
    (by exact ss_nil)))
    (by exact (ss_cons (by exact (ss_if (by exact (et_cmp (ov_lt (hu0 hr)) (by exact (eb_var (pv 2))) (by exact (eb_of (by exact ev_int))) (nomark _)))
    (by exact (ss_cons (by exact (ss_set (i := 4) sc__law_plain.nd (by rfl) (by first | exact .inl rfl | exact .inr rfl) (by exact (ev_tup (by exact ea_nil)))))
    (by exact (ss_cons (by exact (ss_for PassesOwn.never (by rfl) (by exact (ei_range1 (by rfl) T.z_range (by exact (eb_of (by exact (ev_bin ov_add (by exact (eb_of (by exact ev_int))) (by exact (eb_of (by exact (ev_callD T.d__law_draw G__law_draw hr (by decide) (by rfl) (by exact (ea_cons (by exact (ev_var (pv 0))) (by exact (ea_cons (by exact (ev_var (pv 1))) (by exact (ea_cons (by exact ev_int) (by exact ea_nil))))))))))))))))) (by exact (eg_one (pg_name (i := 5) sc__law_plain.nd (by rfl) (by first | exact .inl rfl | exact .inr rfl))))
    (by exact (ss_cons (by exact (ss_set (i := 6) sc__law_plain.nd (by rfl) (by first | exact .inl rfl | exact .inr rfl) (by exact (ev_callD T.d__law_draw G__law_draw hr (by decide) (by rfl) (by exact (ea_cons (by exact (ev_var (pv 0))) (by exact (ea_cons (by exact (ev_var (pv 1))) (by exact (ea_cons (by exact ev_int) (by exact ea_nil)))))))))))
    (by exact (ss_one (by exact (ss_if (by exact (et_cmp (ov_notIn (hu65 hr)) (by exact (eb_var (pv 6))) (by exact (eb_var (pv 4))) (by with_unfolding_all rfl)))
    (by exact (ss_one (by exact (ss_set (i := 4) sc__law_plain.nd (by rfl) (by first | exact .inl rfl | exact .inr rfl) (ev_frz (by exact (ev_bin ov_add (by exact (eb_var (pv 4))) (by exact (eb_of (by exact (ev_tup (by exact (ea_cons (by exact (ev_var (pv 6))) (by exact ea_nil))))))))))))))
    (by exact ss_nil)))))))))
    (by exact (ss_one (by exact (ss_ret (by exact (ev_ife (by exact (et_cmp (ov_eq (hu64 hr)) (by exact (eb_var (pv 2))) (by exact (eb_of (by exact ev_int))) (nomark _))) (by exact (ev_tup (by exact (ea_cons (by exact ev_str) (by exact (ea_cons (by exact (ev_var (pv 3))) (by exact (ea_cons (by exact (ev_var (pv 4))) (by exact ea_nil))))))))) (by exact (ev_tup (by exact (ea_cons (by exact ev_str) (by exact (ea_cons (by exact (ev_var (pv 3))) (by exact (ea_cons (by exact (ev_callTy cv_tup (by rfl) T.z_tuple bt_tuple (by exact (ed_cons (by exact (eb_of (by exact (ev_callB (cv_sorted (hu100 hr)) (by rfl) T.z_sorted bt_sorted (by exact (ed_cons (by exact (eb_var (pv 4))) (by exact ed_nil))))))) (by exact ed_nil))))) (by exact ea_nil)))))))))))))))))))
    (by exact ss_nil)))
    (by exact (ss_cons (by exact (ss_set (i := 7) sc__law_plain.nd (by rfl) (by first | exact .inl rfl | exact .inr rfl) (ev_frz (by exact (ev_callD T.d__law_pick G__law_pick hr (by decide) (by rfl) (by exact (ea_cons (by exact (ev_var (pv 0))) (by exact (ea_cons (by exact (ev_var (pv 1))) (by exact (ea_cons (by exact (ev_lst (by exact (ea_cons (by exact (ev_tup (by exact (ea_cons (by exact ev_int) (by exact (ea_cons (by exact ev_int) (by exact ea_nil))))))) (by exact (ea_cons (by exact (ev_tup (by exact (ea_cons (by exact ev_int) (by exact (ea_cons (by exact ev_int) (by exact ea_nil))))))) (by exact (ea_cons (by exact (ev_tup (by exact (ea_cons (by exact ev_int) (by exact (ea_cons (by exact ev_int) (by exact ea_nil))))))) (by exact ea_nil))))))))) (by exact ea_nil))))))))))))
    (by exact (ss_one (by exact (ss_ret (by exact (ev_bin ov_add (by exact (eb_of (by exact (ev_tup (by exact (ea_cons (by exact (ev_ix ixv (by exact (eb_of (by exact (ev_lst (by exact (ea_cons (by exact ev_str) (by exact (ea_cons (by exact ev_str) (by exact (ea_cons (by exact ev_str) (by exact ea_nil))))))))))) (by exact (eb_of (by exact (ev_bin ov_sub (by exact (eb_var (pv 2))) (by exact (eb_of (by exact ev_int))))))) (fun _ _ => by rfl))) (by exact ea_nil))))))) (by exact (eb_var (pv 7)))))))))))))))))))))
/-! ### _law_key -/
abbrev st__law_key : Stmt := topS 19
abbrev N__law_key : List Str := ["_law_script", "_law_town", "_law_key_here"]
theorem sc__law_key : FnScope N__law_key ["_law_script", "_law_town"] (defScope st__law_key) := ⟨rfl, rfl, rfl, by decide +kernel, rfl, by decide +kernel, by decide +kernel⟩
theorem ok__law_key (T : Facts K mg) (G__law_draw : FnOk P w K mg base CX0 1 T.d__law_draw.f T.d__law_draw.fd ["_law_script", "_law_town", "_law_many"] (spOf K 3 m__law_draw)) (G__law_plain : FnOk P w K mg base CX0 3 T.d__law_plain.f T.d__law_plain.fd ["_law_script", "_law_town"] (spOf K 2 m__law_plain)) : FnOk P w K mg base CX0 4 T.d__law_key.f T.d__law_key.fd ["_law_script", "_law_town"] (spOf K 2 m__law_key) :=
  fn_val (N := N__law_key) T.d__law_key.F sc__law_key fun cdv A outer s H E hr => (by exact (ss_cons (by exact (ss_set (i := 2) sc__law_key.nd (by rfl) (by first | exact .inl rfl | exact .inr rfl) (ev_frz (by exact (ev_callD T.d__law_plain G__law_plain hr (by decide) (by rfl) (by exact (ea_cons (by exact (ev_var (pv 0))) (by exact (ea_cons (by exact (ev_var (pv 1))) (by exact ea_nil))))))))))
    (by exact (ss_one (by exact (ss_ret (by exact (ev_ife (by exact (et_cmp (ov_eq (hu64 hr)) (by exact (eb_of (by exact (ev_callD T.d__law_draw G__law_draw hr (by decide) (by rfl) (by exact (ea_cons (by exact (ev_var (pv 0))) (by exact (ea_cons (by exact (ev_var (pv 1))) (by exact (ea_cons (by exact ev_int) (by exact ea_nil))))))))))) (by exact (eb_of (by exact ev_int))) (nomark _))) (by exact (ev_tup (by exact (ea_cons (by exact ev_str) (by exact (ea_cons (by exact (ev_var (pv 2))) (by exact ea_nil))))))) (by exact (ev_var (pv 2)))))))))))
/-! ### _law_keys -/
abbrev st__law_keys : Stmt := topS 20
abbrev N__law_keys : List Str := ["_law_script", "_law_town", "_law_most", "_law_k"]
theorem sc__law_keys : FnScope N__law_keys ["_law_script", "_law_town", "_law_most"] (defScope st__law_keys) := ⟨rfl, rfl, rfl, by decide +kernel, rfl, by decide +kernel, by decide +kernel⟩
theorem ok__law_keys (T : Facts K mg) (G__law_draw : FnOk P w K mg base CX0 1 T.d__law_draw.f T.d__law_draw.fd ["_law_script", "_law_town", "_law_many"] (spOf K 3 m__law_draw)) (G__law_key : FnOk P w K mg base CX0 4 T.d__law_key.f T.d__law_key.fd ["_law_script", "_law_town"] (spOf K 2 m__law_key)) : FnOk P w K mg base CX0 5 T.d__law_keys.f T.d__law_keys.fd ["_law_script", "_law_town", "_law_most"] (spOf K 3 m__law_keys) :=
  fn_val (N := N__law_keys) T.d__law_keys.F sc__law_keys fun cdv A outer s H E hr => (by exact (ss_one (by exact (ss_ret (by exact (ev_callTy cv_tup (by rfl) T.z_tuple bt_tuple (by exact (ed_cons (by exact (eb_of (by exact (ev_lc (own:=[("_law_k",3)]) (by rfl) sc__law_keys.nd (by exact (ej_of (ei_range1 (by rfl) T.z_range (by exact (eb_of (by exact (ev_callD T.d__law_draw G__law_draw hr (by decide) (by rfl) (by exact (ea_cons (by exact (ev_var (pv 0))) (by exact (ea_cons (by exact (ev_var (pv 1))) (by exact (ea_cons (by exact (ev_bin ov_add (by exact (eb_var (pv 2))) (by exact (eb_of (by exact ev_int))))) (by exact ea_nil)))))))))))))) (blkOk_by (N := N__law_keys) (sc := defScope st__law_keys) (by decide +kernel)) (fun _ _ _ _ _ => (by exact (eg_one (pg_name (i := 3) sc__law_keys.nd (by rfl) (by first | exact .inl rfl | exact .inr rfl))))) (fun _ _ _ _ _ => ets_nil) (fun _ _ _ _ _ => (by exact (ev_callD T.d__law_key G__law_key hr (by decide) (by rfl) (by exact (ea_cons (by exact (ev_var (pv 0))) (by exact (ea_cons (by exact (ev_var (pv 1))) (by exact ea_nil)))))))))))) (by exact ed_nil)))))))))
/-! ### _law_thing -/
abbrev st__law_thing : Stmt := topS 21
abbrev N__law_thing : List Str := ["_law_script", "_law_town"]
theorem sc__law_thing : FnScope N__law_thing ["_law_script", "_law_town"] (defScope st__law_thing) := ⟨rfl, rfl, rfl, by decide +kernel, rfl, by decide +kernel, by decide +kernel⟩
theorem ok__law_thing (T : Facts K mg) (G__law_draw : FnOk P w K mg base CX0 1 T.d__law_draw.f T.d__law_draw.fd ["_law_script", "_law_town", "_law_many"] (spOf K 3 m__law_draw)) : FnOk P w K mg base CX0 2 T.d__law_thing.f T.d__law_thing.fd ["_law_script", "_law_town"] (spOf K 2 m__law_thing) :=
  fn_val (N := N__law_thing) T.d__law_thing.F sc__law_thing fun cdv A outer s H E hr => (by exact (ss_one (by exact (ss_ret (by exact (ev_tup (by exact (ea_cons (by exact (ev_callD T.d__law_draw G__law_draw hr (by decide) (by rfl) (by exact (ea_cons (by exact (ev_var (pv 0))) (by exact (ea_cons (by exact (ev_var (pv 1))) (by exact (ea_cons (by exact ev_int) (by exact ea_nil))))))))) (by exact (ea_cons (by exact (ev_callD T.d__law_draw G__law_draw hr (by decide) (by rfl) (by exact (ea_cons (by exact (ev_var (pv 0))) (by exact (ea_cons (by exact (ev_var (pv 1))) (by exact (ea_cons (by exact ev_int) (by exact ea_nil))))))))) (by exact (ea_cons (by exact (ev_callD T.d__law_draw G__law_draw hr (by decide) (by rfl) (by exact (ea_cons (by exact (ev_var (pv 0))) (by exact (ea_cons (by exact (ev_var (pv 1))) (by exact (ea_cons (by exact ev_int) (by exact ea_nil))))))))) (by exact ea_nil)))))))))))))
/-! ### _law_list -/
abbrev st__law_list : Stmt := topS 22
abbrev N__law_list : List Str := ["_law_script", "_law_town", "_law_most", "_law_some", "_law_k", "_law_got"]
theorem sc__law_list : FnScope N__law_list ["_law_script", "_law_town", "_law_most"] (defScope st__law_list) := ⟨rfl, rfl, rfl, by decide +kernel, rfl, by decide +kernel, by decide +kernel⟩
theorem ok__law_list (T : Facts K mg) (G__law_draw : FnOk P w K mg base CX0 1 T.d__law_draw.f T.d__law_draw.fd ["_law_script", "_law_town", "_law_many"] (spOf K 3 m__law_draw)) (G__law_pick : FnOk P w K mg base CX0 2 T.d__law_pick.f T.d__law_pick.fd ["_law_script", "_law_town", "_law_some"] (spOf K 3 m__law_pick)) (G__law_thing : FnOk P w K mg base CX0 2 T.d__law_thing.f T.d__law_thing.fd ["_law_script", "_law_town"] (spOf K 2 m__law_thing)) : FnOk P w K mg base CX0 3 T.d__law_list.f T.d__law_list.fd ["_law_script", "_law_town", "_law_most"] (spOf K 3 m__law_list) :=
  fn_val (N := N__law_list) T.d__law_list.F sc__law_list fun cdv A outer s H E hr => (by exact (ss_cons (by exact (ss_setLcF (i := 3) (own:=[("_law_k",4)]) (by rfl) sc__law_list.nd (by rfl) (by rfl) (by rfl) (by exact (ej_of (ei_range1 (by rfl) T.z_range (by exact (eb_of (by exact ev_int)))))) (blkOk_by (N := N__law_list) (sc := defScope st__law_list) (by decide +kernel)) (fun _ _ _ _ _ => (by exact (eg_one (pg_name (i := 4) sc__law_list.nd (by rfl) (by first | exact .inl rfl | exact .inr rfl))))) (fun _ _ _ _ _ => ets_nil) (fun _ _ _ _ _ => (by exact (ev_callD T.d__law_thing G__law_thing hr (by decide) (by rfl) (by exact (ea_cons (by exact (ev_var (pv 0))) (by exact (ea_cons (by exact (ev_var (pv 1))) (by exact ea_nil))))))))))
    (by exact (ss_cons (by exact (ss_set (i := 5) sc__law_list.nd (by rfl) (by first | exact .inl rfl | exact .inr rfl) (by exact (ev_tup (by exact ea_nil)))))
    (by exact (ss_cons (by exact (ss_for PassesOwn.never (by rfl) (by exact (ei_range1 (by rfl) T.z_range (by exact (eb_of (by exact (ev_callD T.d__law_draw G__law_draw hr (by decide) (by rfl) (by exact (ea_cons (by exact (ev_var (pv 0))) (by exact (ea_cons (by exact (ev_var (pv 1))) (by exact (ea_cons (by exact (ev_bin ov_add (by exact (eb_var (pv 2))) (by exact (eb_of (by exact ev_int))))) (by exact ea_nil))))))))))))) (by exact (eg_one (pg_name (i := 4) sc__law_list.nd (by rfl) (by first | exact .inl rfl | exact .inr rfl))))
    (by exact (ss_one (by exact (ss_set (i := 5) sc__law_list.nd (by rfl) (by first | exact .inl rfl | exact .inr rfl) (ev_frz (by exact (ev_bin ov_add (by exact (eb_var (pv 5))) (by exact (eb_of (by exact (ev_tup (by exact (ea_cons (by exact (ev_callD T.d__law_pick G__law_pick hr (by decide) (by rfl) (by exact (ea_cons (by exact (ev_var (pv 0))) (by exact (ea_cons (by exact (ev_var (pv 1))) (by exact (ea_cons (by exact (ev_bin ov_add (by exact (eb_var (pv 3))) (by exact (eb_of (by exact (ev_lst (by exact (ea_cons (by exact (ev_callD T.d__law_thing G__law_thing hr (by decide) (by rfl) (by exact (ea_cons (by exact (ev_var (pv 0))) (by exact (ea_cons (by exact (ev_var (pv 1))) (by exact ea_nil))))))) (by exact ea_nil))))))))) (by exact ea_nil))))))))) (by exact ea_nil))))))))))))))))
    (by exact (ss_one (by exact (ss_ret (by exact (ev_var (pv 5)))))))))))))
/-! ### list_told -/
abbrev st_list_told : Stmt := topS 13
abbrev N_list_told : List Str := ["row", "ones", "others", "one", "other", "word"]
theorem sc_list_told : FnScope N_list_told ["row", "ones", "others"] (defScope st_list_told) := ⟨rfl, rfl, rfl, by decide +kernel, rfl, by decide +kernel, by decide +kernel⟩
theorem ok_list_told (T : Facts K mg) (G_told : FnOk P w K mg base CX0 6 T.d_told.f T.d_told.fd ["row", "one", "other"] (spOf K 3 m_told)) : FnOk P w K mg base CX0 7 T.d_list_told.f T.d_list_told.fd ["row", "ones", "others"] (spOf K 3 m_list_told) :=
  fn_val (N := N_list_told) T.d_list_told.F sc_list_told fun cdv A outer s H E hr => (by exact (ss_cons (by exact (ss_for PassesOwn.never (by rfl) (by exact (ei_zip (by rfl) T.z_zip (by exact (ev_var (pv 1))) (by exact (ev_var (pv 2))))) (by exact (eg_many (by rfl) (egs_cons (pg_name (i := 3) sc_list_told.nd (by rfl) (by first | exact .inl rfl | exact .inr rfl)) (egs_cons (pg_name (i := 4) sc_list_told.nd (by rfl) (by first | exact .inl rfl | exact .inr rfl)) egs_nil))))
    (by exact (ss_cons (by exact (ss_set (i := 5) sc_list_told.nd (by rfl) (by first | exact .inl rfl | exact .inr rfl) (ev_frz (by exact (ev_callD T.d_told G_told hr (by decide) (by rfl) (by exact (ea_cons (by exact (ev_var (pv 0))) (by exact (ea_cons (by exact (ev_var (pv 3))) (by exact (ea_cons (by exact (ev_var (pv 4))) (by exact ea_nil))))))))))))
    (by exact (ss_one (by exact (ss_if (by exact (et_cmp (ov_ne (hu64 hr)) (by exact (eb_var (pv 5))) (by exact (eb_of (by exact ev_int))) (nomark _)))
    (by exact (ss_one (by exact (ss_ret (by exact (ev_var (pv 5)))))))
    (by exact ss_nil)))))))))
    (by exact (ss_one (by exact (ss_ret (by exact (ev_bin ov_sub (by exact (eb_of (by exact (ev_callTy cv_int (by rfl) T.z_int bt_int (by exact (ed_cons (by exact (eb_of (by exact (ev_cmp (ov_gt (hu0 hr)) (by exact (eb_of (by exact (ev_callB cv_len (by rfl) T.z_len bt_len (by exact (ed_cons (by exact (eb_var (pv 1))) (by exact ed_nil))))))) (by exact (eb_of (by exact (ev_callB cv_len (by rfl) T.z_len bt_len (by exact (ed_cons (by exact (eb_var (pv 2))) (by exact ed_nil))))))) (nomark _))))) (by exact ed_nil))))))) (by exact (eb_of (by exact (ev_callTy cv_int (by rfl) T.z_int bt_int (by exact (ed_cons (by exact (eb_of (by exact (ev_cmp (ov_lt (hu0 hr)) (by exact (eb_of (by exact (ev_callB cv_len (by rfl) T.z_len bt_len (by exact (ed_cons (by exact (eb_var (pv 1))) (by exact ed_nil))))))) (by exact (eb_of (by exact (ev_callB cv_len (by rfl) T.z_len bt_len (by exact (ed_cons (by exact (eb_var (pv 2))) (by exact ed_nil))))))) (nomark _))))) (by exact ed_nil)))))))))))))))
/-! ### _law_goes_on -/
abbrev st__law_goes_on : Stmt := topS 23
abbrev N__law_goes_on : List Str := ["_law_row", "_law_lists", "_law_some", "_law_other", "_law_third"]
theorem sc__law_goes_on : FnScope N__law_goes_on ["_law_row", "_law_lists"] (defScope st__law_goes_on) := ⟨rfl, rfl, rfl, by decide +kernel, rfl, by decide +kernel, by decide +kernel⟩
theorem ok__law_goes_on (T : Facts K mg) (G_list_told : FnOk P w K mg base CX0 7 T.d_list_told.f T.d_list_told.fd ["row", "ones", "others"] (spOf K 3 m_list_told)) : FnOk P w K mg base CX0 8 T.d__law_goes_on.f T.d__law_goes_on.fd ["_law_row", "_law_lists"] (spOf K 2 m__law_goes_on) :=
  fn_val (N := N__law_goes_on) T.d__law_goes_on.F sc__law_goes_on fun cdv A outer s H E hr => (by exact (ss_cons (by exact (ss_end [0, 1] (by exact (ss_for PassesOwn.never (by rfl) (by exact (ei_seq (by exact (ev_var (pv 1))))) (by exact (eg_one (pg_name (i := 2) sc__law_goes_on.nd (by rfl) (by first | exact .inl rfl | exact .inr rfl))))
    (by exact (ss_one (by exact (ss_end [2] (by exact (ss_for PassesOwn.never (by rfl) (by exact (ei_seq (by exact (ev_var (pv 1))))) (by exact (eg_one (pg_name (i := 3) sc__law_goes_on.nd (by rfl) (by first | exact .inl rfl | exact .inr rfl))))
    (by exact (ss_one (by exact (ss_end [3] (by exact (ss_for PassesOwn.never (by rfl) (by exact (ei_seq (by exact (ev_var (pv 1))))) (by exact (eg_one (pg_name (i := 4) sc__law_goes_on.nd (by rfl) (by first | exact .inl rfl | exact .inr rfl))))
    (by exact (ss_one (by exact (ss_end [4] (by exact (ss_if (by exact (et_w (ew_and (by exact (et_cmp (ov_lt (hu0 hr)) (by exact (eb_of (by exact (ev_callD T.d_list_told G_list_told hr (by decide) (by rfl) (by exact (ea_cons (by exact (ev_var (pv 0))) (by exact (ea_cons (by exact (ev_var (pv 2))) (by exact (ea_cons (by exact (ev_var (pv 3))) (by exact ea_nil))))))))))) (by exact (eb_of (by exact ev_int))) (nomark _))) (ew_and1 (by exact (et_cmp (ov_lt (hu0 hr)) (by exact (eb_of (by exact (ev_callD T.d_list_told G_list_told hr (by decide) (by rfl) (by exact (ea_cons (by exact (ev_var (pv 0))) (by exact (ea_cons (by exact (ev_var (pv 3))) (by exact (ea_cons (by exact (ev_var (pv 4))) (by exact ea_nil))))))))))) (by exact (eb_of (by exact ev_int))) (nomark _)))))))
    (by exact (ss_one (by exact (ss_end [4] (by exact (ss_if (by exact (et_cmp (ov_gt (hu0 hr)) (by exact (eb_of (by exact (ev_callD T.d_list_told G_list_told hr (by decide) (by rfl) (by exact (ea_cons (by exact (ev_var (pv 0))) (by exact (ea_cons (by exact (ev_var (pv 2))) (by exact (ea_cons (by exact (ev_var (pv 4))) (by exact ea_nil))))))))))) (by exact (eb_of (by exact ev_int))) (nomark _)))
    (by exact (ss_one (by exact (ss_ret (by exact ev_bl)))))
    (by exact ss_nil)))))))
    (by exact ss_nil)))))))))))))))))))))))
    (by exact (ss_one (by exact (ss_ret (by exact ev_bl)))))))
/-! ### law -/
abbrev st_law : Stmt := topS 24
abbrev N_law : List Str := ["_law_script", "_law_town", "_law_k", "_law_one", "_law_two", "_law_things", "_law_cut", "_law_whole", "_law_some", "_law_many", "_law_same_here", "_law_half", "_law_put", "_law_lists"]
theorem sc_law : FnScope N_law ["_law_script"] (defScope st_law) := ⟨rfl, rfl, rfl, by decide +kernel, rfl, by decide +kernel, by decide +kernel⟩
-- l_law_2: head 0:_law_script 1:_law_town 3:_law_one 5:_law_things 6:_law_cut 7:_law_whole of 14
def l_law_2 : Fs :=
    (sEnd [8] (sSet 7 (eFrz (eBin dAdd (dVar 7) (dVar 8)))))
-- l_law_1: head 0:_law_script 1:_law_town of 14
def l_law_1 : Fs :=
    (sSeq (sEnd [2] (sSet 3 (eFrz (eCall m__law_keys (aCons (eVar 0) (aCons (eVar 1) (aCons (eC (.int 2)) aNil)))))))
    (sSeq (sSet 4 (eFrz (eCall m__law_keys (aCons (eVar 0) (aCons (eVar 1) (aCons (eC (.int 2)) aNil))))))
    (sSeq (sSet 5 (eFrz (eCall m__law_list (aCons (eVar 0) (aCons (eVar 1) (aCons (eC (.int 12)) aNil))))))
    (sSeq (sEnd [4] (sIf (bNot (bTru (dOf (eCall m__law_same (aCons (eCall m_ordered (aCons (eVar 3) (aCons (eCall m_ordered (aCons (eVar 4) (aCons (eVar 5) aNil))) aNil))) (aCons (eCall m_ordered (aCons (eBin dAdd (dVar 3) (dVar 4)) (aCons (eVar 5) aNil))) aNil))))))
    (sRet (eC (.bool false)))
    sNil'))
    (sSeq (sSet 6 (eFrz (eCall m_groups (aCons (eVar 3) (aCons (eVar 5) aNil)))))
    (sSeq (sSet 7 (eTup aNil))
    (sSeq (sFor (iVal (eVar 6)) (gOne 8)
    l_law_2)
    (sSeq (sIf (bOr (bNot (bTru (dOf (eCall m__law_same (aCons (eVar 7) (aCons (eCall m_ordered (aCons (eVar 3) (aCons (eVar 5) aNil))) aNil)))))) (bNot (bTru (dOf (eCall m__law_same (aCons (eCall m_groups (aCons (eCall m_turned (aCons (eVar 3) aNil)) (aCons (eVar 5) aNil))) (aCons (eSs dSs (dVar 6) oNone oNone (oSome (dOf (eUn dNeg (dOf (eC (.int 1))))))) aNil)))))))
    (sRet (eC (.bool false)))
    sNil')
    (sSeq (sSet 9 (eApp gLen (sCons (dVar 5) sNil)))
    (sSeq (sEnd [6] (sSet 10 (eApp gSum (sCons (dOf (eComp (iOf (dVar 6)) (gOne 8) [8] bYes (eBin dDiv (dOf (eBin dMul (dOf (eApp gLen (sCons (dVar 8) sNil))) (dOf (eBin dSub (dOf (eApp gLen (sCons (dVar 8) sNil))) (dOf (eC (.int 1))))))) (dOf (eC (.int 2)))))) sNil))))
    (sSeq (sEnd [10] (sIf (bTest (eBin dNe (dOf (eBin dAdd (dOf (eBin dAdd (dOf (eCall m_crossings (aCons (eVar 3) (aCons (eVar 5) aNil)))) (dOf (eCall m_crossings (aCons (eCall m_turned (aCons (eVar 3) aNil)) (aCons (eVar 5) aNil)))))) (dVar 10))) (dOf (eBin dDiv (dOf (eBin dMul (dVar 9) (dOf (eBin dSub (dVar 9) (dOf (eC (.int 1))))))) (dOf (eC (.int 2)))))))
    (sRet (eC (.bool false)))
    sNil'))
    (sSeq (sIf (bOr (bNot (bTru (dOf (eCall m__law_same (aCons (eCall m_best (aCons (eVar 3) (aCons (eVar 5) (aCons (eVar 9) aNil)))) (aCons (eVar 7) aNil)))))) (bNot (bTru (dOf (eCall m__law_same (aCons (eCall m_best (aCons (eVar 3) (aCons (eVar 5) (aCons (eC (.int 0)) aNil)))) (aCons (eTup aNil) aNil)))))))
    (sRet (eC (.bool false)))
    sNil')
    (sSeq (sIf (bTest (eBin dNe (dOf (eApp gSorted (sCons (dOf (eCall m_places (aCons (eVar 3) (aCons (eVar 5) aNil)))) sNil))) (dOf (eListRg1 (dVar 9)))))
    (sRet (eC (.bool false)))
    sNil')
    (sSeq (sSet 11 (eBin dDiv (dVar 9) (dOf (eC (.int 2)))))
    (sSeq (sEnd [11] (sSet 12 (eFrz (eCall m_merged (aCons (eVar 3) (aCons (eCall m_ordered (aCons (eVar 3) (aCons (eSl dSl (dVar 5) oNone (oSome (dVar 11))) aNil))) (aCons (eCall m_ordered (aCons (eVar 3) (aCons (eSl dSl (dVar 5) (oSome (dVar 11)) oNone) aNil))) aNil)))))))
    (sSeq (sEnd [12] (sIf (bNot (bTru (dOf (eCall m__law_same (aCons (eVar 12) (aCons (eVar 7) aNil))))))
    (sRet (eC (.bool false)))
    sNil'))
    (sSeq (sEnd [5] (sSet 13 (eFrz (eLst (aCons (eVar 5) (aCons (eCall m__law_list (aCons (eVar 0) (aCons (eVar 1) (aCons (eC (.int 4)) aNil)))) (aCons (eSl dSl (dVar 5) oNone (oSome (dOf (eCall m__law_draw (aCons (eVar 0) (aCons (eVar 1) (aCons (eC (.int 5)) aNil))))))) (aCons (eCall m__law_list (aCons (eVar 0) (aCons (eVar 1) (aCons (eC (.int 3)) aNil)))) aNil))))))))
    (sSeq (sEnd [13] (sIf (bNot (bTru (dOf (eCall m__law_goes_on (aCons (eVar 3) (aCons (eVar 13) aNil))))))
    (sRet (eC (.bool false)))
    sNil'))
    (sEnd [3, 7, 9] (sIf (bAnd (bTest (eBin (dCmp rGt zGt) (dVar 9) (dOf (eC (.int 1))))) (bTest (eBin (dCmp rGt zGt) (dOf (eCall m_told (aCons (eVar 3) (aCons (eBin dIx (dVar 7) (dOf (eC (.int 0)))) (aCons (eBin dIx (dVar 7) (dOf (eUn dNeg (dOf (eC (.int 1)))))) aNil))))) (dOf (eC (.int 0))))))
    (sRet (eC (.bool false)))
    sNil'))))))))))))))))))))
def b_law : Fs :=
    (sSeq (sEnd [0, 1] (sFor (iRng1 (dOf (eC (.int 8)))) (gOne 2)
    l_law_1))
    (sRet (eC (.bool true))))
theorem ok_law (T : Facts K mg) (G_told : FnOk P w K mg base CX0 6 T.d_told.f T.d_told.fd ["row", "one", "other"] (spOf K 3 m_told)) (G_turned : FnOk P w K mg base CX0 2 T.d_turned.f T.d_turned.fd ["row"] (spOf K 1 m_turned)) (G_places : FnOk P w K mg base CX0 6 T.d_places.f T.d_places.fd ["row", "things"] (spOf K 2 m_places)) (G_ordered : FnOk P w K mg base CX0 7 T.d_ordered.f T.d_ordered.fd ["row", "things"] (spOf K 2 m_ordered)) (G_merged : FnOk P w K mg base CX0 7 T.d_merged.f T.d_merged.fd ["row", "ones", "others"] (spOf K 3 m_merged)) (G_crossings : FnOk P w K mg base CX0 7 T.d_crossings.f T.d_crossings.fd ["row", "things"] (spOf K 2 m_crossings)) (G_groups : FnOk P w K mg base CX0 8 T.d_groups.f T.d_groups.fd ["row", "things"] (spOf K 2 m_groups)) (G_best : FnOk P w K mg base CX0 9 T.d_best.f T.d_best.fd ["row", "things", "many"] (spOf K 3 m_best)) (G__law_same : FnOk P w K mg base CX0 12 T.d__law_same.f T.d__law_same.fd ["_law_got", "_law_due"] (spOf K 2 m__law_same)) (G__law_draw : FnOk P w K mg base CX0 1 T.d__law_draw.f T.d__law_draw.fd ["_law_script", "_law_town", "_law_many"] (spOf K 3 m__law_draw)) (G__law_keys : FnOk P w K mg base CX0 5 T.d__law_keys.f T.d__law_keys.fd ["_law_script", "_law_town", "_law_most"] (spOf K 3 m__law_keys)) (G__law_list : FnOk P w K mg base CX0 3 T.d__law_list.f T.d__law_list.fd ["_law_script", "_law_town", "_law_most"] (spOf K 3 m__law_list)) (G__law_goes_on : FnOk P w K mg base CX0 8 T.d__law_goes_on.f T.d__law_goes_on.fd ["_law_row", "_law_lists"] (spOf K 2 m__law_goes_on)) (m : Nat) (hm : ∀ ns : List Int, ns.length ≤ m → ∃ n', b_law (.d (.list (ns.map .int)) :: .town :: List.replicate 12 .no) 0 = some (.rt (.d (.bool true)) n')) : FnOk P w K mg base CX0 13 T.d_law.f T.d_law.fd ["_law_script"] (spLaw K m) :=
  fn_law (N := N_law) T.d_law.F sc_law rfl rfl (by first | exact .inl rfl | exact .inr rfl) (fun cdv A outer s H E hr => (by exact (ss_cons (by exact (ss_end [0, 1] (by exact (ss_for PassesOwn.never (by rfl) (by exact (ei_range1 (by rfl) T.z_range (by exact (eb_of (by exact ev_int))))) (by exact (eg_one (pg_name (i := 2) sc_law.nd (by rfl) (by first | exact .inl rfl | exact .inr rfl))))
    (by exact (ss_cons (by exact (ss_end [2] (by exact (ss_set (i := 3) sc_law.nd (by rfl) (by first | exact .inl rfl | exact .inr rfl) (ev_frz (by exact (ev_callD T.d__law_keys G__law_keys hr (by decide) (by rfl) (by exact (ea_cons (by exact (ev_var (pv 0))) (by exact (ea_cons (by exact (ev_var (pv 1))) (by exact (ea_cons (by exact ev_int) (by exact ea_nil))))))))))))))
    (by exact (ss_cons (by exact (ss_set (i := 4) sc_law.nd (by rfl) (by first | exact .inl rfl | exact .inr rfl) (ev_frz (by exact (ev_callD T.d__law_keys G__law_keys hr (by decide) (by rfl) (by exact (ea_cons (by exact (ev_var (pv 0))) (by exact (ea_cons (by exact (ev_var (pv 1))) (by exact (ea_cons (by exact ev_int) (by exact ea_nil))))))))))))
    (by exact (ss_cons (by exact (ss_set (i := 5) sc_law.nd (by rfl) (by first | exact .inl rfl | exact .inr rfl) (ev_frz (by exact (ev_callD T.d__law_list G__law_list hr (by decide) (by rfl) (by exact (ea_cons (by exact (ev_var (pv 0))) (by exact (ea_cons (by exact (ev_var (pv 1))) (by exact (ea_cons (by exact ev_int) (by exact ea_nil))))))))))))
    (by exact (ss_cons (by exact (ss_end [4] (by exact (ss_if (by exact (et_not (by exact (et_tru (by exact (eb_of (by exact (ev_callD T.d__law_same G__law_same hr (by decide) (by rfl) (by exact (ea_cons (by exact (ev_callD T.d_ordered G_ordered hr (by decide) (by rfl) (by exact (ea_cons (by exact (ev_var (pv 3))) (by exact (ea_cons (by exact (ev_callD T.d_ordered G_ordered hr (by decide) (by rfl) (by exact (ea_cons (by exact (ev_var (pv 4))) (by exact (ea_cons (by exact (ev_var (pv 5))) (by exact ea_nil))))))) (by exact ea_nil))))))) (by exact (ea_cons (by exact (ev_callD T.d_ordered G_ordered hr (by decide) (by rfl) (by exact (ea_cons (by exact (ev_bin ov_add (by exact (eb_var (pv 3))) (by exact (eb_var (pv 4))))) (by exact (ea_cons (by exact (ev_var (pv 5))) (by exact ea_nil))))))) (by exact ea_nil))))))))) (fun _ => (by rfl))))))
    (by exact (ss_one (by exact (ss_ret (by exact ev_bl)))))
    (by exact ss_nil)))))
    (by exact (ss_cons (by exact (ss_set (i := 6) sc_law.nd (by rfl) (by first | exact .inl rfl | exact .inr rfl) (ev_frz (by exact (ev_callD T.d_groups G_groups hr (by decide) (by rfl) (by exact (ea_cons (by exact (ev_var (pv 3))) (by exact (ea_cons (by exact (ev_var (pv 5))) (by exact ea_nil))))))))))
    (by exact (ss_cons (by exact (ss_set (i := 7) sc_law.nd (by rfl) (by first | exact .inl rfl | exact .inr rfl) (by exact (ev_tup (by exact ea_nil)))))
    (by exact (ss_cons (by exact (ss_for PassesOwn.never (by rfl) (by exact (ei_seq (by exact (ev_var (pv 6))))) (by exact (eg_one (pg_name (i := 8) sc_law.nd (by rfl) (by first | exact .inl rfl | exact .inr rfl))))
    (by exact (ss_one (by exact (ss_end [8] (by exact (ss_set (i := 7) sc_law.nd (by rfl) (by first | exact .inl rfl | exact .inr rfl) (ev_frz (by exact (ev_bin ov_add (by exact (eb_var (pv 7))) (by exact (eb_var (pv 8))))))))))))))
    (by exact (ss_cons (by exact (ss_if (by exact (et_w (ew_or (by exact (et_not (by exact (et_tru (by exact (eb_of (by exact (ev_callD T.d__law_same G__law_same hr (by decide) (by rfl) (by exact (ea_cons (by exact (ev_var (pv 7))) (by exact (ea_cons (by exact (ev_callD T.d_ordered G_ordered hr (by decide) (by rfl) (by exact (ea_cons (by exact (ev_var (pv 3))) (by exact (ea_cons (by exact (ev_var (pv 5))) (by exact ea_nil))))))) (by exact ea_nil))))))))) (fun _ => (by rfl)))))) (ew_or1 (by exact (et_not (by exact (et_tru (by exact (eb_of (by exact (ev_callD T.d__law_same G__law_same hr (by decide) (by rfl) (by exact (ea_cons (by exact (ev_callD T.d_groups G_groups hr (by decide) (by rfl) (by exact (ea_cons (by exact (ev_callD T.d_turned G_turned hr (by decide) (by rfl) (by exact (ea_cons (by exact (ev_var (pv 3))) (by exact ea_nil))))) (by exact (ea_cons (by exact (ev_var (pv 5))) (by exact ea_nil))))))) (by exact (ea_cons (by exact (ev_sliceS (by exact (eb_var (pv 6))) (by exact eo_none) (by exact eo_none) (by exact (eo_some (by exact (eb_of (by exact (ev_neg (by exact (eb_of (by exact ev_int))))))))))) (by exact ea_nil))))))))) (fun _ => (by rfl))))))))))
    (by exact (ss_one (by exact (ss_ret (by exact ev_bl)))))
    (by exact ss_nil)))
    (by exact (ss_cons (by exact (ss_set (i := 9) sc_law.nd (by rfl) (by first | exact .inl rfl | exact .inr rfl) (by exact (ev_callB cv_len (by rfl) T.z_len bt_len (by exact (ed_cons (by exact (eb_var (pv 5))) (by exact ed_nil)))))))
    (by exact (ss_cons (by exact (ss_end [6] (by exact (ss_set (i := 10) sc_law.nd (by rfl) (by first | exact .inl rfl | exact .inr rfl) (by exact (ev_callB (cv_sum (by rfl)) (by rfl) T.z_sum bt_sum (by exact (ed_cons (by exact (eb_of (by exact (ev_lc (own:=[("_law_some",8)]) (by rfl) sc_law.nd (by exact (ej_seq (by exact (eb_var (pv 6))))) (blkOk_by (N := N_law) (sc := defScope st_law) (by decide +kernel)) (fun _ _ _ _ _ => (by exact (eg_one (pg_name (i := 8) sc_law.nd (by rfl) (by first | exact .inl rfl | exact .inr rfl))))) (fun _ _ _ _ _ => ets_nil) (fun _ _ _ _ _ => (by exact (ev_bin ov_div (by exact (eb_of (by exact (ev_bin ov_mul (by exact (eb_of (by exact (ev_callB cv_len (by rfl) T.z_len bt_len (by exact (ed_cons (by exact (eb_var (pv 8))) (by exact ed_nil))))))) (by exact (eb_of (by exact (ev_bin ov_sub (by exact (eb_of (by exact (ev_callB cv_len (by rfl) T.z_len bt_len (by exact (ed_cons (by exact (eb_var (pv 8))) (by exact ed_nil))))))) (by exact (eb_of (by exact ev_int))))))))))) (by exact (eb_of (by exact ev_int)))))))))) (by exact ed_nil)))))))))
    (by exact (ss_cons (by exact (ss_end [10] (by exact (ss_if (by exact (et_cmp (ov_ne (hu64 hr)) (by exact (eb_of (by exact (ev_bin ov_add (by exact (eb_of (by exact (ev_bin ov_add (by exact (eb_of (by exact (ev_callD T.d_crossings G_crossings hr (by decide) (by rfl) (by exact (ea_cons (by exact (ev_var (pv 3))) (by exact (ea_cons (by exact (ev_var (pv 5))) (by exact ea_nil))))))))) (by exact (eb_of (by exact (ev_callD T.d_crossings G_crossings hr (by decide) (by rfl) (by exact (ea_cons (by exact (ev_callD T.d_turned G_turned hr (by decide) (by rfl) (by exact (ea_cons (by exact (ev_var (pv 3))) (by exact ea_nil))))) (by exact (ea_cons (by exact (ev_var (pv 5))) (by exact ea_nil))))))))))))) (by exact (eb_var (pv 10))))))) (by exact (eb_of (by exact (ev_bin ov_div (by exact (eb_of (by exact (ev_bin ov_mul (by exact (eb_var (pv 9))) (by exact (eb_of (by exact (ev_bin ov_sub (by exact (eb_var (pv 9))) (by exact (eb_of (by exact ev_int))))))))))) (by exact (eb_of (by exact ev_int))))))) (nomark _)))
    (by exact (ss_one (by exact (ss_ret (by exact ev_bl)))))
    (by exact ss_nil)))))
    (by exact (ss_cons (by exact (ss_if (by exact (et_w (ew_or (by exact (et_not (by exact (et_tru (by exact (eb_of (by exact (ev_callD T.d__law_same G__law_same hr (by decide) (by rfl) (by exact (ea_cons (by exact (ev_callD T.d_best G_best hr (by decide) (by rfl) (by exact (ea_cons (by exact (ev_var (pv 3))) (by exact (ea_cons (by exact (ev_var (pv 5))) (by exact (ea_cons (by exact (ev_var (pv 9))) (by exact ea_nil))))))))) (by exact (ea_cons (by exact (ev_var (pv 7))) (by exact ea_nil))))))))) (fun _ => (by rfl)))))) (ew_or1 (by exact (et_not (by exact (et_tru (by exact (eb_of (by exact (ev_callD T.d__law_same G__law_same hr (by decide) (by rfl) (by exact (ea_cons (by exact (ev_callD T.d_best G_best hr (by decide) (by rfl) (by exact (ea_cons (by exact (ev_var (pv 3))) (by exact (ea_cons (by exact (ev_var (pv 5))) (by exact (ea_cons (by exact ev_int) (by exact ea_nil))))))))) (by exact (ea_cons (by exact (ev_tup (by exact ea_nil))) (by exact ea_nil))))))))) (fun _ => (by rfl))))))))))
    (by exact (ss_one (by exact (ss_ret (by exact ev_bl)))))
    (by exact ss_nil)))
    (by exact (ss_cons (by exact (ss_if (by exact (et_cmp (ov_ne (hu64 hr)) (by exact (eb_of (by exact (ev_callB (cv_sorted (hu100 hr)) (by rfl) T.z_sorted bt_sorted (by exact (ed_cons (by exact (eb_of (by exact (ev_callD T.d_places G_places hr (by decide) (by rfl) (by exact (ea_cons (by exact (ev_var (pv 3))) (by exact (ea_cons (by exact (ev_var (pv 5))) (by exact ea_nil))))))))) (by exact ed_nil))))))) (by exact (eb_of (by exact (ev_listRg1 (by rfl) (by rfl) T.z_list (by rfl) T.z_range (by exact (eb_var (pv 9))))))) (nomark _)))
    (by exact (ss_one (by exact (ss_ret (by exact ev_bl)))))
    (by exact ss_nil)))
    (by exact (ss_cons (by exact (ss_set (i := 11) sc_law.nd (by rfl) (by first | exact .inl rfl | exact .inr rfl) (by exact (ev_bin ov_div (by exact (eb_var (pv 9))) (by exact (eb_of (by exact ev_int)))))))
    (by exact (ss_cons (by exact (ss_end [11] (by exact (ss_set (i := 12) sc_law.nd (by rfl) (by first | exact .inl rfl | exact .inr rfl) (ev_frz (by exact (ev_callD T.d_merged G_merged hr (by decide) (by rfl) (by exact (ea_cons (by exact (ev_var (pv 3))) (by exact (ea_cons (by exact (ev_callD T.d_ordered G_ordered hr (by decide) (by rfl) (by exact (ea_cons (by exact (ev_var (pv 3))) (by exact (ea_cons (by exact (ev_slice slv (by exact (eb_var (pv 5))) (by exact eo_none) (by exact (eo_some (by exact (eb_var (pv 11))))))) (by exact ea_nil))))))) (by exact (ea_cons (by exact (ev_callD T.d_ordered G_ordered hr (by decide) (by rfl) (by exact (ea_cons (by exact (ev_var (pv 3))) (by exact (ea_cons (by exact (ev_slice slv (by exact (eb_var (pv 5))) (by exact (eo_some (by exact (eb_var (pv 11))))) (by exact eo_none))) (by exact ea_nil))))))) (by exact ea_nil))))))))))))))
    (by exact (ss_cons (by exact (ss_end [12] (by exact (ss_if (by exact (et_not (by exact (et_tru (by exact (eb_of (by exact (ev_callD T.d__law_same G__law_same hr (by decide) (by rfl) (by exact (ea_cons (by exact (ev_var (pv 12))) (by exact (ea_cons (by exact (ev_var (pv 7))) (by exact ea_nil))))))))) (fun _ => (by rfl))))))
    (by exact (ss_one (by exact (ss_ret (by exact ev_bl)))))
    (by exact ss_nil)))))
    (by exact (ss_cons (by exact (ss_end [5] (by exact (ss_set (i := 13) sc_law.nd (by rfl) (by first | exact .inl rfl | exact .inr rfl) (ev_frz (by exact (ev_lst (by exact (ea_cons (by exact (ev_var (pv 5))) (by exact (ea_cons (by exact (ev_callD T.d__law_list G__law_list hr (by decide) (by rfl) (by exact (ea_cons (by exact (ev_var (pv 0))) (by exact (ea_cons (by exact (ev_var (pv 1))) (by exact (ea_cons (by exact ev_int) (by exact ea_nil))))))))) (by exact (ea_cons (by exact (ev_slice slv (by exact (eb_var (pv 5))) (by exact eo_none) (by exact (eo_some (by exact (eb_of (by exact (ev_callD T.d__law_draw G__law_draw hr (by decide) (by rfl) (by exact (ea_cons (by exact (ev_var (pv 0))) (by exact (ea_cons (by exact (ev_var (pv 1))) (by exact (ea_cons (by exact ev_int) (by exact ea_nil))))))))))))))) (by exact (ea_cons (by exact (ev_callD T.d__law_list G__law_list hr (by decide) (by rfl) (by exact (ea_cons (by exact (ev_var (pv 0))) (by exact (ea_cons (by exact (ev_var (pv 1))) (by exact (ea_cons (by exact ev_int) (by exact ea_nil))))))))) (by exact ea_nil))))))))))))))))
    (by exact (ss_cons (by exact (ss_end [13] (by exact (ss_if (by exact (et_not (by exact (et_tru (by exact (eb_of (by exact (ev_callD T.d__law_goes_on G__law_goes_on hr (by decide) (by rfl) (by exact (ea_cons (by exact (ev_var (pv 3))) (by exact (ea_cons (by exact (ev_var (pv 13))) (by exact ea_nil))))))))) (fun _ => (by rfl))))))
    (by exact (ss_one (by exact (ss_ret (by exact ev_bl)))))
    (by exact ss_nil)))))
    (by exact (ss_one (by exact (ss_end [3, 7, 9] (by exact (ss_if (by exact (et_w (ew_and (by exact (et_cmp (ov_gt (hu0 hr)) (by exact (eb_var (pv 9))) (by exact (eb_of (by exact ev_int))) (nomark _))) (ew_and1 (by exact (et_cmp (ov_gt (hu0 hr)) (by exact (eb_of (by exact (ev_callD T.d_told G_told hr (by decide) (by rfl) (by exact (ea_cons (by exact (ev_var (pv 3))) (by exact (ea_cons (by exact (ev_ix ixv (by exact (eb_var (pv 7))) (by exact (eb_of (by exact ev_int))) (fun _ _ => by rfl))) (by exact (ea_cons (by exact (ev_ix ixv (by exact (eb_var (pv 7))) (by exact (eb_of (by exact (ev_neg (by exact (eb_of (by exact ev_int))))))) (fun _ _ => by rfl))) (by exact ea_nil))))))))))) (by exact (eb_of (by exact ev_int))) (nomark _)))))))
    (by exact (ss_one (by exact (ss_ret (by exact ev_bl)))))
    (by exact ss_nil)))))))))))))))))))))))))))))))))))))))))))))))
    (by exact (ss_one (by exact (ss_ret (by exact ev_bl)))))))) hm
theorem ok_all (T : Facts K mg) (m : Nat) (hm : ∀ ns : List Int, ns.length ≤ m → ∃ n', b_law (.d (.list (ns.map .int)) :: .town :: List.replicate 12 .no) 0 = some (.rt (.d (.bool true)) n')) : FnOk P w K mg base CX0 13 T.d_law.f T.d_law.fd ["_law_script"] (spLaw K m) := by
  have G_worth := ok_worth (P := P) (w := w) (base := base) T
  have G_worths := ok_worths (P := P) (w := w) (base := base) T G_worth
  have G_told := ok_told (P := P) (w := w) (base := base) T G_worths
  have G_turned_key := ok_turned_key (P := P) (w := w) (base := base) T
  have G_turned := ok_turned (P := P) (w := w) (base := base) T G_turned_key
  have G_places := ok_places (P := P) (w := w) (base := base) T G_worths
  have G_ordered := ok_ordered (P := P) (w := w) (base := base) T G_places
  have G_merged := ok_merged (P := P) (w := w) (base := base) T G_told
  have G_crossings := ok_crossings (P := P) (w := w) (base := base) T G_told
  have G_groups := ok_groups (P := P) (w := w) (base := base) T G_told G_ordered
  have G_best := ok_best (P := P) (w := w) (base := base) T G_groups
  have G__law_same := ok__law_same (P := P) (w := w) (base := base) T
  have G__law_draw := ok__law_draw (P := P) (w := w) (base := base) T
  have G__law_pick := ok__law_pick (P := P) (w := w) (base := base) T G__law_draw
  have G__law_plain := ok__law_plain (P := P) (w := w) (base := base) T G__law_draw G__law_pick
  have G__law_key := ok__law_key (P := P) (w := w) (base := base) T G__law_draw G__law_plain
  have G__law_keys := ok__law_keys (P := P) (w := w) (base := base) T G__law_draw G__law_key
  have G__law_thing := ok__law_thing (P := P) (w := w) (base := base) T G__law_draw
  have G__law_list := ok__law_list (P := P) (w := w) (base := base) T G__law_draw G__law_pick G__law_thing
  have G_list_told := ok_list_told (P := P) (w := w) (base := base) T G_told
  have G__law_goes_on := ok__law_goes_on (P := P) (w := w) (base := base) T G_list_told
  exact ok_law T G_told G_turned G_places G_ordered G_merged G_crossings G_groups G_best G__law_same G__law_draw G__law_keys G__law_list G__law_goes_on m hm
end
theorem all_mk {l : PySem.W.OpenLaw} {w : World} {K : PySem.W.Frag} {h : Heap} {mg : Str → Option Value} {fa : Addr} (X : K.In h) (G : h.Ns mainGlobals mg) (hfa : mg "law" = some (.ref fa)) (m : Nat) (hm : ∀ ns : List Int, ns.length ≤ m → ∃ n', b_law (.d (.list (ns.map .int)) :: .town :: List.replicate 12 .no) 0 = some (.rt (.d (.bool true)) n'))
    {f0 : Addr} {od0 an0 : Option Addr} {sl0 : Array (Option Value)} {oc0 kV0 dc0 pm0 cd0 ct0 : Value}
    {f1 : Addr} {od1 an1 : Option Addr} {sl1 : Array (Option Value)} {oc1 kV1 dc1 pm1 cd1 ct1 : Value}
    {f2 : Addr} {od2 an2 : Option Addr} {sl2 : Array (Option Value)} {oc2 kV2 dc2 pm2 cd2 ct2 : Value}
    {f3 : Addr} {od3 an3 : Option Addr} {sl3 : Array (Option Value)} {oc3 kV3 dc3 pm3 cd3 ct3 : Value}
    {f4 : Addr} {od4 an4 : Option Addr} {sl4 : Array (Option Value)} {oc4 kV4 dc4 pm4 cd4 ct4 : Value}
    {f5 : Addr} {od5 an5 : Option Addr} {sl5 : Array (Option Value)} {oc5 kV5 dc5 pm5 cd5 ct5 : Value}
    {f6 : Addr} {od6 an6 : Option Addr} {sl6 : Array (Option Value)} {oc6 kV6 dc6 pm6 cd6 ct6 : Value}
    {f7 : Addr} {od7 an7 : Option Addr} {sl7 : Array (Option Value)} {oc7 kV7 dc7 pm7 cd7 ct7 : Value}
    {f8 : Addr} {od8 an8 : Option Addr} {sl8 : Array (Option Value)} {oc8 kV8 dc8 pm8 cd8 ct8 : Value}
    {f9 : Addr} {od9 an9 : Option Addr} {sl9 : Array (Option Value)} {oc9 kV9 dc9 pm9 cd9 ct9 : Value}
    {f10 : Addr} {od10 an10 : Option Addr} {sl10 : Array (Option Value)} {oc10 kV10 dc10 pm10 cd10 ct10 : Value}
    {f11 : Addr} {od11 an11 : Option Addr} {sl11 : Array (Option Value)} {oc11 kV11 dc11 pm11 cd11 ct11 : Value}
    {f12 : Addr} {od12 an12 : Option Addr} {sl12 : Array (Option Value)} {oc12 kV12 dc12 pm12 cd12 ct12 : Value}
    {f13 : Addr} {od13 an13 : Option Addr} {sl13 : Array (Option Value)} {oc13 kV13 dc13 pm13 cd13 ct13 : Value}
    {f14 : Addr} {od14 an14 : Option Addr} {sl14 : Array (Option Value)} {oc14 kV14 dc14 pm14 cd14 ct14 : Value}
    {f15 : Addr} {od15 an15 : Option Addr} {sl15 : Array (Option Value)} {oc15 kV15 dc15 pm15 cd15 ct15 : Value}
    {f16 : Addr} {od16 an16 : Option Addr} {sl16 : Array (Option Value)} {oc16 kV16 dc16 pm16 cd16 ct16 : Value}
    {f17 : Addr} {od17 an17 : Option Addr} {sl17 : Array (Option Value)} {oc17 kV17 dc17 pm17 cd17 ct17 : Value}
    {f18 : Addr} {od18 an18 : Option Addr} {sl18 : Array (Option Value)} {oc18 kV18 dc18 pm18 cd18 ct18 : Value}
    {f19 : Addr} {od19 an19 : Option Addr} {sl19 : Array (Option Value)} {oc19 kV19 dc19 pm19 cd19 ct19 : Value}
    {f20 : Addr} {od20 an20 : Option Addr} {sl20 : Array (Option Value)} {oc20 kV20 dc20 pm20 cd20 ct20 : Value}
    {f21 : Addr} {od21 an21 : Option Addr} {sl21 : Array (Option Value)} {oc21 kV21 dc21 pm21 cd21 ct21 : Value}
    (a0 : PySem.W.nsIn K mainGlobals "worth" = some (some (.ref f0))) (l0 : K.lookup f0 = some ⟨oc0, od0, .func (PySem.W.fnOf "worth" "worth" (defArgs (topS 1)) (defBody (topS 1)) (defScope (topS 1)) .none kV0 dc0 pm0 an0 cd0 ct0), sl0⟩) (c0 : PySem.W.codeIn K cd0 "worth" = true) (k0 : PySem.W.keepIn K (.ref f0) = true)
    (a1 : PySem.W.nsIn K mainGlobals "worths" = some (some (.ref f1))) (l1 : K.lookup f1 = some ⟨oc1, od1, .func (PySem.W.fnOf "worths" "worths" (defArgs (topS 2)) (defBody (topS 2)) (defScope (topS 2)) .none kV1 dc1 pm1 an1 cd1 ct1), sl1⟩) (c1 : PySem.W.codeIn K cd1 "worths" = true) (k1 : PySem.W.keepIn K (.ref f1) = true)
    (a2 : PySem.W.nsIn K mainGlobals "told" = some (some (.ref f2))) (l2 : K.lookup f2 = some ⟨oc2, od2, .func (PySem.W.fnOf "told" "told" (defArgs (topS 3)) (defBody (topS 3)) (defScope (topS 3)) .none kV2 dc2 pm2 an2 cd2 ct2), sl2⟩) (c2 : PySem.W.codeIn K cd2 "told" = true) (k2 : PySem.W.keepIn K (.ref f2) = true)
    (a3 : PySem.W.nsIn K mainGlobals "turned_key" = some (some (.ref f3))) (l3 : K.lookup f3 = some ⟨oc3, od3, .func (PySem.W.fnOf "turned_key" "turned_key" (defArgs (topS 4)) (defBody (topS 4)) (defScope (topS 4)) .none kV3 dc3 pm3 an3 cd3 ct3), sl3⟩) (c3 : PySem.W.codeIn K cd3 "turned_key" = true) (k3 : PySem.W.keepIn K (.ref f3) = true)
    (a4 : PySem.W.nsIn K mainGlobals "turned" = some (some (.ref f4))) (l4 : K.lookup f4 = some ⟨oc4, od4, .func (PySem.W.fnOf "turned" "turned" (defArgs (topS 5)) (defBody (topS 5)) (defScope (topS 5)) .none kV4 dc4 pm4 an4 cd4 ct4), sl4⟩) (c4 : PySem.W.codeIn K cd4 "turned" = true) (k4 : PySem.W.keepIn K (.ref f4) = true)
    (a5 : PySem.W.nsIn K mainGlobals "places" = some (some (.ref f5))) (l5 : K.lookup f5 = some ⟨oc5, od5, .func (PySem.W.fnOf "places" "places" (defArgs (topS 7)) (defBody (topS 7)) (defScope (topS 7)) .none kV5 dc5 pm5 an5 cd5 ct5), sl5⟩) (c5 : PySem.W.codeIn K cd5 "places" = true) (k5 : PySem.W.keepIn K (.ref f5) = true)
    (a6 : PySem.W.nsIn K mainGlobals "ordered" = some (some (.ref f6))) (l6 : K.lookup f6 = some ⟨oc6, od6, .func (PySem.W.fnOf "ordered" "ordered" (defArgs (topS 8)) (defBody (topS 8)) (defScope (topS 8)) .none kV6 dc6 pm6 an6 cd6 ct6), sl6⟩) (c6 : PySem.W.codeIn K cd6 "ordered" = true) (k6 : PySem.W.keepIn K (.ref f6) = true)
    (a7 : PySem.W.nsIn K mainGlobals "merged" = some (some (.ref f7))) (l7 : K.lookup f7 = some ⟨oc7, od7, .func (PySem.W.fnOf "merged" "merged" (defArgs (topS 9)) (defBody (topS 9)) (defScope (topS 9)) .none kV7 dc7 pm7 an7 cd7 ct7), sl7⟩) (c7 : PySem.W.codeIn K cd7 "merged" = true) (k7 : PySem.W.keepIn K (.ref f7) = true)
    (a8 : PySem.W.nsIn K mainGlobals "crossings" = some (some (.ref f8))) (l8 : K.lookup f8 = some ⟨oc8, od8, .func (PySem.W.fnOf "crossings" "crossings" (defArgs (topS 10)) (defBody (topS 10)) (defScope (topS 10)) .none kV8 dc8 pm8 an8 cd8 ct8), sl8⟩) (c8 : PySem.W.codeIn K cd8 "crossings" = true) (k8 : PySem.W.keepIn K (.ref f8) = true)
    (a9 : PySem.W.nsIn K mainGlobals "groups" = some (some (.ref f9))) (l9 : K.lookup f9 = some ⟨oc9, od9, .func (PySem.W.fnOf "groups" "groups" (defArgs (topS 11)) (defBody (topS 11)) (defScope (topS 11)) .none kV9 dc9 pm9 an9 cd9 ct9), sl9⟩) (c9 : PySem.W.codeIn K cd9 "groups" = true) (k9 : PySem.W.keepIn K (.ref f9) = true)
    (a10 : PySem.W.nsIn K mainGlobals "best" = some (some (.ref f10))) (l10 : K.lookup f10 = some ⟨oc10, od10, .func (PySem.W.fnOf "best" "best" (defArgs (topS 12)) (defBody (topS 12)) (defScope (topS 12)) .none kV10 dc10 pm10 an10 cd10 ct10), sl10⟩) (c10 : PySem.W.codeIn K cd10 "best" = true) (k10 : PySem.W.keepIn K (.ref f10) = true)
    (a11 : PySem.W.nsIn K mainGlobals "_law_same" = some (some (.ref f11))) (l11 : K.lookup f11 = some ⟨oc11, od11, .func (PySem.W.fnOf "_law_same" "_law_same" (defArgs (topS 15)) (defBody (topS 15)) (defScope (topS 15)) .none kV11 dc11 pm11 an11 cd11 ct11), sl11⟩) (c11 : PySem.W.codeIn K cd11 "_law_same" = true) (k11 : PySem.W.keepIn K (.ref f11) = true)
    (a12 : PySem.W.nsIn K mainGlobals "_law_draw" = some (some (.ref f12))) (l12 : K.lookup f12 = some ⟨oc12, od12, .func (PySem.W.fnOf "_law_draw" "_law_draw" (defArgs (topS 16)) (defBody (topS 16)) (defScope (topS 16)) .none kV12 dc12 pm12 an12 cd12 ct12), sl12⟩) (c12 : PySem.W.codeIn K cd12 "_law_draw" = true) (k12 : PySem.W.keepIn K (.ref f12) = true)
    (a13 : PySem.W.nsIn K mainGlobals "_law_pick" = some (some (.ref f13))) (l13 : K.lookup f13 = some ⟨oc13, od13, .func (PySem.W.fnOf "_law_pick" "_law_pick" (defArgs (topS 17)) (defBody (topS 17)) (defScope (topS 17)) .none kV13 dc13 pm13 an13 cd13 ct13), sl13⟩) (c13 : PySem.W.codeIn K cd13 "_law_pick" = true) (k13 : PySem.W.keepIn K (.ref f13) = true)
    (a14 : PySem.W.nsIn K mainGlobals "_law_plain" = some (some (.ref f14))) (l14 : K.lookup f14 = some ⟨oc14, od14, .func (PySem.W.fnOf "_law_plain" "_law_plain" (defArgs (topS 18)) (defBody (topS 18)) (defScope (topS 18)) .none kV14 dc14 pm14 an14 cd14 ct14), sl14⟩) (c14 : PySem.W.codeIn K cd14 "_law_plain" = true) (k14 : PySem.W.keepIn K (.ref f14) = true)
    (a15 : PySem.W.nsIn K mainGlobals "_law_key" = some (some (.ref f15))) (l15 : K.lookup f15 = some ⟨oc15, od15, .func (PySem.W.fnOf "_law_key" "_law_key" (defArgs (topS 19)) (defBody (topS 19)) (defScope (topS 19)) .none kV15 dc15 pm15 an15 cd15 ct15), sl15⟩) (c15 : PySem.W.codeIn K cd15 "_law_key" = true) (k15 : PySem.W.keepIn K (.ref f15) = true)
    (a16 : PySem.W.nsIn K mainGlobals "_law_keys" = some (some (.ref f16))) (l16 : K.lookup f16 = some ⟨oc16, od16, .func (PySem.W.fnOf "_law_keys" "_law_keys" (defArgs (topS 20)) (defBody (topS 20)) (defScope (topS 20)) .none kV16 dc16 pm16 an16 cd16 ct16), sl16⟩) (c16 : PySem.W.codeIn K cd16 "_law_keys" = true) (k16 : PySem.W.keepIn K (.ref f16) = true)
    (a17 : PySem.W.nsIn K mainGlobals "_law_thing" = some (some (.ref f17))) (l17 : K.lookup f17 = some ⟨oc17, od17, .func (PySem.W.fnOf "_law_thing" "_law_thing" (defArgs (topS 21)) (defBody (topS 21)) (defScope (topS 21)) .none kV17 dc17 pm17 an17 cd17 ct17), sl17⟩) (c17 : PySem.W.codeIn K cd17 "_law_thing" = true) (k17 : PySem.W.keepIn K (.ref f17) = true)
    (a18 : PySem.W.nsIn K mainGlobals "_law_list" = some (some (.ref f18))) (l18 : K.lookup f18 = some ⟨oc18, od18, .func (PySem.W.fnOf "_law_list" "_law_list" (defArgs (topS 22)) (defBody (topS 22)) (defScope (topS 22)) .none kV18 dc18 pm18 an18 cd18 ct18), sl18⟩) (c18 : PySem.W.codeIn K cd18 "_law_list" = true) (k18 : PySem.W.keepIn K (.ref f18) = true)
    (a19 : PySem.W.nsIn K mainGlobals "list_told" = some (some (.ref f19))) (l19 : K.lookup f19 = some ⟨oc19, od19, .func (PySem.W.fnOf "list_told" "list_told" (defArgs (topS 13)) (defBody (topS 13)) (defScope (topS 13)) .none kV19 dc19 pm19 an19 cd19 ct19), sl19⟩) (c19 : PySem.W.codeIn K cd19 "list_told" = true) (k19 : PySem.W.keepIn K (.ref f19) = true)
    (a20 : PySem.W.nsIn K mainGlobals "_law_goes_on" = some (some (.ref f20))) (l20 : K.lookup f20 = some ⟨oc20, od20, .func (PySem.W.fnOf "_law_goes_on" "_law_goes_on" (defArgs (topS 23)) (defBody (topS 23)) (defScope (topS 23)) .none kV20 dc20 pm20 an20 cd20 ct20), sl20⟩) (c20 : PySem.W.codeIn K cd20 "_law_goes_on" = true) (k20 : PySem.W.keepIn K (.ref f20) = true)
    (a21 : PySem.W.nsIn K mainGlobals "law" = some (some (.ref f21))) (l21 : K.lookup f21 = some ⟨oc21, od21, .func (PySem.W.fnOf "law" "law" (defArgs (topS 24)) (defBody (topS 24)) (defScope (topS 24)) .none kV21 dc21 pm21 an21 cd21 ct21), sl21⟩) (c21 : PySem.W.codeIn K cd21 "law" = true) (k21 : PySem.W.keepIn K (.ref f21) = true)
    (z0 : PySem.W.nsIn K mainGlobals "abs" = some none)
    (z1 : PySem.W.nsIn K mainGlobals "all" = some none)
    (z2 : PySem.W.nsIn K mainGlobals "bool" = some none)
    (z3 : PySem.W.nsIn K mainGlobals "enumerate" = some none)
    (z4 : PySem.W.nsIn K mainGlobals "int" = some none)
    (z5 : PySem.W.nsIn K mainGlobals "isinstance" = some none)
    (z6 : PySem.W.nsIn K mainGlobals "len" = some none)
    (z7 : PySem.W.nsIn K mainGlobals "list" = some none)
    (z8 : PySem.W.nsIn K mainGlobals "max" = some none)
    (z9 : PySem.W.nsIn K mainGlobals "range" = some none)
    (z10 : PySem.W.nsIn K mainGlobals "sorted" = some none)
    (z11 : PySem.W.nsIn K mainGlobals "str" = some none)
    (z12 : PySem.W.nsIn K mainGlobals "sum" = some none)
    (z13 : PySem.W.nsIn K mainGlobals "tuple" = some none)
    (z14 : PySem.W.nsIn K mainGlobals "zip" = some none) :
    ∃ fd : FuncData, (∀ (s : Shared) (v : Value), BindsTo s fd ⟨[v], []⟩ [("_law_script", v)]) ∧ ∀ base : Heap, K.In base → base.Ns mainGlobals mg → FnOk l.prog w K mg base CX0 13 fa fd ["_law_script"] (spLaw K m) := by
  have e := hfa.symm.trans (PySem.W.mg_of X G a21)
  cases e
  let T : Facts K mg := ⟨⟨_, _, fun_mk (st := topS 1) l0 c0 k0, Fun.binds (st := topS 1) (x := "worth") (qual := "worth") (fun_mk l0 c0 k0) (fun _ _ _ _ _ _ us hl => match us, hl with | [_, _], _ => (by rfl)), PySem.W.mg_of X G a0⟩,
    ⟨_, _, fun_mk (st := topS 2) l1 c1 k1, Fun.binds (st := topS 2) (x := "worths") (qual := "worths") (fun_mk l1 c1 k1) (fun _ _ _ _ _ _ us hl => match us, hl with | [_, _], _ => (by rfl)), PySem.W.mg_of X G a1⟩,
    ⟨_, _, fun_mk (st := topS 3) l2 c2 k2, Fun.binds (st := topS 3) (x := "told") (qual := "told") (fun_mk l2 c2 k2) (fun _ _ _ _ _ _ us hl => match us, hl with | [_, _, _], _ => (by rfl)), PySem.W.mg_of X G a2⟩,
    ⟨_, _, fun_mk (st := topS 4) l3 c3 k3, Fun.binds (st := topS 4) (x := "turned_key") (qual := "turned_key") (fun_mk l3 c3 k3) (fun _ _ _ _ _ _ us hl => match us, hl with | [_], _ => (by rfl)), PySem.W.mg_of X G a3⟩,
    ⟨_, _, fun_mk (st := topS 5) l4 c4 k4, Fun.binds (st := topS 5) (x := "turned") (qual := "turned") (fun_mk l4 c4 k4) (fun _ _ _ _ _ _ us hl => match us, hl with | [_], _ => (by rfl)), PySem.W.mg_of X G a4⟩,
    ⟨_, _, fun_mk (st := topS 7) l5 c5 k5, Fun.binds (st := topS 7) (x := "places") (qual := "places") (fun_mk l5 c5 k5) (fun _ _ _ _ _ _ us hl => match us, hl with | [_, _], _ => (by rfl)), PySem.W.mg_of X G a5⟩,
    ⟨_, _, fun_mk (st := topS 8) l6 c6 k6, Fun.binds (st := topS 8) (x := "ordered") (qual := "ordered") (fun_mk l6 c6 k6) (fun _ _ _ _ _ _ us hl => match us, hl with | [_, _], _ => (by rfl)), PySem.W.mg_of X G a6⟩,
    ⟨_, _, fun_mk (st := topS 9) l7 c7 k7, Fun.binds (st := topS 9) (x := "merged") (qual := "merged") (fun_mk l7 c7 k7) (fun _ _ _ _ _ _ us hl => match us, hl with | [_, _, _], _ => (by rfl)), PySem.W.mg_of X G a7⟩,
    ⟨_, _, fun_mk (st := topS 10) l8 c8 k8, Fun.binds (st := topS 10) (x := "crossings") (qual := "crossings") (fun_mk l8 c8 k8) (fun _ _ _ _ _ _ us hl => match us, hl with | [_, _], _ => (by rfl)), PySem.W.mg_of X G a8⟩,
    ⟨_, _, fun_mk (st := topS 11) l9 c9 k9, Fun.binds (st := topS 11) (x := "groups") (qual := "groups") (fun_mk l9 c9 k9) (fun _ _ _ _ _ _ us hl => match us, hl with | [_, _], _ => (by rfl)), PySem.W.mg_of X G a9⟩,
    ⟨_, _, fun_mk (st := topS 12) l10 c10 k10, Fun.binds (st := topS 12) (x := "best") (qual := "best") (fun_mk l10 c10 k10) (fun _ _ _ _ _ _ us hl => match us, hl with | [_, _, _], _ => (by rfl)), PySem.W.mg_of X G a10⟩,
    ⟨_, _, fun_mk (st := topS 15) l11 c11 k11, Fun.binds (st := topS 15) (x := "_law_same") (qual := "_law_same") (fun_mk l11 c11 k11) (fun _ _ _ _ _ _ us hl => match us, hl with | [_, _], _ => (by rfl)), PySem.W.mg_of X G a11⟩,
    ⟨_, _, fun_mk (st := topS 16) l12 c12 k12, Fun.binds (st := topS 16) (x := "_law_draw") (qual := "_law_draw") (fun_mk l12 c12 k12) (fun _ _ _ _ _ _ us hl => match us, hl with | [_, _, _], _ => (by rfl)), PySem.W.mg_of X G a12⟩,
    ⟨_, _, fun_mk (st := topS 17) l13 c13 k13, Fun.binds (st := topS 17) (x := "_law_pick") (qual := "_law_pick") (fun_mk l13 c13 k13) (fun _ _ _ _ _ _ us hl => match us, hl with | [_, _, _], _ => (by rfl)), PySem.W.mg_of X G a13⟩,
    ⟨_, _, fun_mk (st := topS 18) l14 c14 k14, Fun.binds (st := topS 18) (x := "_law_plain") (qual := "_law_plain") (fun_mk l14 c14 k14) (fun _ _ _ _ _ _ us hl => match us, hl with | [_, _], _ => (by rfl)), PySem.W.mg_of X G a14⟩,
    ⟨_, _, fun_mk (st := topS 19) l15 c15 k15, Fun.binds (st := topS 19) (x := "_law_key") (qual := "_law_key") (fun_mk l15 c15 k15) (fun _ _ _ _ _ _ us hl => match us, hl with | [_, _], _ => (by rfl)), PySem.W.mg_of X G a15⟩,
    ⟨_, _, fun_mk (st := topS 20) l16 c16 k16, Fun.binds (st := topS 20) (x := "_law_keys") (qual := "_law_keys") (fun_mk l16 c16 k16) (fun _ _ _ _ _ _ us hl => match us, hl with | [_, _, _], _ => (by rfl)), PySem.W.mg_of X G a16⟩,
    ⟨_, _, fun_mk (st := topS 21) l17 c17 k17, Fun.binds (st := topS 21) (x := "_law_thing") (qual := "_law_thing") (fun_mk l17 c17 k17) (fun _ _ _ _ _ _ us hl => match us, hl with | [_, _], _ => (by rfl)), PySem.W.mg_of X G a17⟩,
    ⟨_, _, fun_mk (st := topS 22) l18 c18 k18, Fun.binds (st := topS 22) (x := "_law_list") (qual := "_law_list") (fun_mk l18 c18 k18) (fun _ _ _ _ _ _ us hl => match us, hl with | [_, _, _], _ => (by rfl)), PySem.W.mg_of X G a18⟩,
    ⟨_, _, fun_mk (st := topS 13) l19 c19 k19, Fun.binds (st := topS 13) (x := "list_told") (qual := "list_told") (fun_mk l19 c19 k19) (fun _ _ _ _ _ _ us hl => match us, hl with | [_, _, _], _ => (by rfl)), PySem.W.mg_of X G a19⟩,
    ⟨_, _, fun_mk (st := topS 23) l20 c20 k20, Fun.binds (st := topS 23) (x := "_law_goes_on") (qual := "_law_goes_on") (fun_mk l20 c20 k20) (fun _ _ _ _ _ _ us hl => match us, hl with | [_, _], _ => (by rfl)), PySem.W.mg_of X G a20⟩,
    ⟨_, _, fun_mk (st := topS 24) l21 c21 k21, Fun.binds (st := topS 24) (x := "law") (qual := "law") (fun_mk l21 c21 k21) (fun _ _ _ _ _ _ us hl => match us, hl with | [_], _ => (by rfl)), PySem.W.mg_of X G a21⟩,
    PySem.W.mg_none_of X G z0,
    PySem.W.mg_none_of X G z1,
    PySem.W.mg_none_of X G z2,
    PySem.W.mg_none_of X G z3,
    PySem.W.mg_none_of X G z4,
    PySem.W.mg_none_of X G z5,
    PySem.W.mg_none_of X G z6,
    PySem.W.mg_none_of X G z7,
    PySem.W.mg_none_of X G z8,
    PySem.W.mg_none_of X G z9,
    PySem.W.mg_none_of X G z10,
    PySem.W.mg_none_of X G z11,
    PySem.W.mg_none_of X G z12,
    PySem.W.mg_none_of X G z13,
    PySem.W.mg_none_of X G z14⟩
  exact ⟨PySem.W.fnOf "law" "law" (defArgs (topS 24)) (defBody (topS 24)) (defScope (topS 24)) .none kV21 dc21 pm21 an21 cd21 ct21, fun s v => .of_eq rfl, fun base _ _ => ok_all T m hm⟩
end L2.Lv.K17
namespace L2.Lv.K17
open PySem PySem.Spec PyProof.Rows L2 L2.Lv L2.Lv.Sh
theorem goes_on (r : Rw) (hr : Rw.ok r) (hrl : r.length ≤ 1000000) (ls : List (List Th)) (n : Nat) : m__law_goes_on [.d (rowD r), .d (.list (ls.map tsD))] n = some (.d (.bool true), n) := by
  have e3 : ∀ a b : List Th, loopF (gOne 4) l__law_goes_on_3 (ls.map tsD) [.d (rowD r), .d (.list (ls.map tsD)), .d (tsD a), .d (tsD b), .no] n = some (.nx [.d (rowD r), .d (.list (ls.map tsD)), .d (tsD a), .d (tsD b), .no] n) := fun a b =>
    loopF_same tsD ls fun c _ => ⟨_, rfl, by
      have f1 := list_told_ok r hr hrl a b n
      have f2 := list_told_ok r hr hrl b c n
      have f3 := list_told_ok r hr hrl a c n
      unfold l__law_goes_on_3
      by_cases c1 : ltT r a b < 1
      · by_cases c2 : ltT r b c < 1
        · have c3 : rGt (ltT r a c) 0 = false := decide_eq_false (by have := ltT_trans r a b c c1 c2; omega)
          simp -implicitDefEqProofs only [eVar_ap, dVar_ap, eC_ap, dOf_ap, eFrz_ap, eBin_ap, bTest_ap, bTru_ap, bAnd_ap, bOr_ap, bNot_ap, eIf_ap, eB_ap, eAnd_ap, eOr_ap, aNil_ap, aCons_ap, sNil_ap, sCons_ap, eTup_ap, eLst_ap, eCall_ap, eApp_ap, oNone_ap, oSome_ap, eSl_ap, sNil'_ap, sSeq_ap, sBrk_ap, sRet_ap, sRetN_ap, sRetO_ap, sDrop_ap, sIf_ap, sSet_ap, sApp_ap, sTown_ap, sExt_ap, sIns_ap, sSetIx_ap, sAsg_ap, sPar_ap, iOf_ap, iVal_ap, iRng1_ap, iRng2_ap, sFor_ap, eComp_ap, bYes_ap, frzAt_ap, eUn_ap, eNotD_ap, eOrD_ap, eChain_ap, eListRg1_ap, eIsa_ap, eMt_ap, iEnumV_ap, iEnumF_ap, iZipV_ap, iZipF_ap, eTLen_ap, iRng3D_ap, sEnd_ap, eSs_ap, sPar3_ap, xPop_ap, xTup1_ap, xCat_ap, sSetX_ap, sAppX_ap, sParO_ap, sForEI_ap, sForK_ap, runB_ap, gOne_ap, gMany_ap, dI_ap, yesC_ap, dCmp_int, setD, kill_nx, kill_rt, kill_bk, Option.bind_some, Option.map_some, Option.bind_none, Option.map_none, List.getElem?_cons_zero, List.getElem?_cons_succ, List.set_cons_zero, List.set_cons_succ, List.cons_append, List.nil_append, List.append_nil, List.replicate, List.length_cons, List.length_nil, Nat.reduceAdd, Nat.reduceSub, Nat.zero_add, wdat_no, wdat_d, wdat_town, wdat_ol, wdat_od, wfrz_no, wfrz_d, wfrz_town, wfrz_ol, wfrz_od, wval_no, wval_d, wval_town, wval_ol, wval_od, warg_no, warg_d, warg_town, warg_ol, warg_od, vals, gLen, gAbs, gMax2, gMin2, gInt, gTup, gList, wipeW, if_true, if_false, Bool.false_eq_true, Bool.not_true, Bool.not_false, reduceCtorEq, f1, f2, f3, rLt_t c1, rLt_t c2, c3]
        · simp -implicitDefEqProofs only [eVar_ap, dVar_ap, eC_ap, dOf_ap, eFrz_ap, eBin_ap, bTest_ap, bTru_ap, bAnd_ap, bOr_ap, bNot_ap, eIf_ap, eB_ap, eAnd_ap, eOr_ap, aNil_ap, aCons_ap, sNil_ap, sCons_ap, eTup_ap, eLst_ap, eCall_ap, eApp_ap, oNone_ap, oSome_ap, eSl_ap, sNil'_ap, sSeq_ap, sBrk_ap, sRet_ap, sRetN_ap, sRetO_ap, sDrop_ap, sIf_ap, sSet_ap, sApp_ap, sTown_ap, sExt_ap, sIns_ap, sSetIx_ap, sAsg_ap, sPar_ap, iOf_ap, iVal_ap, iRng1_ap, iRng2_ap, sFor_ap, eComp_ap, bYes_ap, frzAt_ap, eUn_ap, eNotD_ap, eOrD_ap, eChain_ap, eListRg1_ap, eIsa_ap, eMt_ap, iEnumV_ap, iEnumF_ap, iZipV_ap, iZipF_ap, eTLen_ap, iRng3D_ap, sEnd_ap, eSs_ap, sPar3_ap, xPop_ap, xTup1_ap, xCat_ap, sSetX_ap, sAppX_ap, sParO_ap, sForEI_ap, sForK_ap, runB_ap, gOne_ap, gMany_ap, dI_ap, yesC_ap, dCmp_int, setD, kill_nx, kill_rt, kill_bk, Option.bind_some, Option.map_some, Option.bind_none, Option.map_none, List.getElem?_cons_zero, List.getElem?_cons_succ, List.set_cons_zero, List.set_cons_succ, List.cons_append, List.nil_append, List.append_nil, List.replicate, List.length_cons, List.length_nil, Nat.reduceAdd, Nat.reduceSub, Nat.zero_add, wdat_no, wdat_d, wdat_town, wdat_ol, wdat_od, wfrz_no, wfrz_d, wfrz_town, wfrz_ol, wfrz_od, wval_no, wval_d, wval_town, wval_ol, wval_od, warg_no, warg_d, warg_town, warg_ol, warg_od, vals, gLen, gAbs, gMax2, gMin2, gInt, gTup, gList, wipeW, if_true, if_false, Bool.false_eq_true, Bool.not_true, Bool.not_false, reduceCtorEq, f1, f2, rLt_t c1, rLt_f c2]
      · simp -implicitDefEqProofs only [eVar_ap, dVar_ap, eC_ap, dOf_ap, eFrz_ap, eBin_ap, bTest_ap, bTru_ap, bAnd_ap, bOr_ap, bNot_ap, eIf_ap, eB_ap, eAnd_ap, eOr_ap, aNil_ap, aCons_ap, sNil_ap, sCons_ap, eTup_ap, eLst_ap, eCall_ap, eApp_ap, oNone_ap, oSome_ap, eSl_ap, sNil'_ap, sSeq_ap, sBrk_ap, sRet_ap, sRetN_ap, sRetO_ap, sDrop_ap, sIf_ap, sSet_ap, sApp_ap, sTown_ap, sExt_ap, sIns_ap, sSetIx_ap, sAsg_ap, sPar_ap, iOf_ap, iVal_ap, iRng1_ap, iRng2_ap, sFor_ap, eComp_ap, bYes_ap, frzAt_ap, eUn_ap, eNotD_ap, eOrD_ap, eChain_ap, eListRg1_ap, eIsa_ap, eMt_ap, iEnumV_ap, iEnumF_ap, iZipV_ap, iZipF_ap, eTLen_ap, iRng3D_ap, sEnd_ap, eSs_ap, sPar3_ap, xPop_ap, xTup1_ap, xCat_ap, sSetX_ap, sAppX_ap, sParO_ap, sForEI_ap, sForK_ap, runB_ap, gOne_ap, gMany_ap, dI_ap, yesC_ap, dCmp_int, setD, kill_nx, kill_rt, kill_bk, Option.bind_some, Option.map_some, Option.bind_none, Option.map_none, List.getElem?_cons_zero, List.getElem?_cons_succ, List.set_cons_zero, List.set_cons_succ, List.cons_append, List.nil_append, List.append_nil, List.replicate, List.length_cons, List.length_nil, Nat.reduceAdd, Nat.reduceSub, Nat.zero_add, wdat_no, wdat_d, wdat_town, wdat_ol, wdat_od, wfrz_no, wfrz_d, wfrz_town, wfrz_ol, wfrz_od, wval_no, wval_d, wval_town, wval_ol, wval_od, warg_no, warg_d, warg_town, warg_ol, warg_od, vals, gLen, gAbs, gMax2, gMin2, gInt, gTup, gList, wipeW, if_true, if_false, Bool.false_eq_true, Bool.not_true, Bool.not_false, reduceCtorEq, f1, rLt_f c1]⟩
  have e2 : ∀ a : List Th, loopF (gOne 3) l__law_goes_on_2 (ls.map tsD) [.d (rowD r), .d (.list (ls.map tsD)), .d (tsD a), .no, .no] n = some (.nx [.d (rowD r), .d (.list (ls.map tsD)), .d (tsD a), .no, .no] n) := fun a =>
    loopF_same tsD ls fun c _ => ⟨_, rfl, by
      have := e3 a c
      unfold l__law_goes_on_2
      simp -implicitDefEqProofs only [eVar_ap, dVar_ap, eC_ap, dOf_ap, eFrz_ap, eBin_ap, bTest_ap, bTru_ap, bAnd_ap, bOr_ap, bNot_ap, eIf_ap, eB_ap, eAnd_ap, eOr_ap, aNil_ap, aCons_ap, sNil_ap, sCons_ap, eTup_ap, eLst_ap, eCall_ap, eApp_ap, oNone_ap, oSome_ap, eSl_ap, sNil'_ap, sSeq_ap, sBrk_ap, sRet_ap, sRetN_ap, sRetO_ap, sDrop_ap, sIf_ap, sSet_ap, sApp_ap, sTown_ap, sExt_ap, sIns_ap, sSetIx_ap, sAsg_ap, sPar_ap, iOf_ap, iVal_ap, iRng1_ap, iRng2_ap, sFor_ap, eComp_ap, bYes_ap, frzAt_ap, eUn_ap, eNotD_ap, eOrD_ap, eChain_ap, eListRg1_ap, eIsa_ap, eMt_ap, iEnumV_ap, iEnumF_ap, iZipV_ap, iZipF_ap, eTLen_ap, iRng3D_ap, sEnd_ap, eSs_ap, sPar3_ap, xPop_ap, xTup1_ap, xCat_ap, sSetX_ap, sAppX_ap, sParO_ap, sForEI_ap, sForK_ap, runB_ap, gOne_ap, gMany_ap, dI_ap, yesC_ap, dCmp_int, setD, kill_nx, kill_rt, kill_bk, Option.bind_some, Option.map_some, Option.bind_none, Option.map_none, List.getElem?_cons_zero, List.getElem?_cons_succ, List.set_cons_zero, List.set_cons_succ, List.cons_append, List.nil_append, List.append_nil, List.replicate, List.length_cons, List.length_nil, Nat.reduceAdd, Nat.reduceSub, Nat.zero_add, wdat_no, wdat_d, wdat_town, wdat_ol, wdat_od, wfrz_no, wfrz_d, wfrz_town, wfrz_ol, wfrz_od, wval_no, wval_d, wval_town, wval_ol, wval_od, warg_no, warg_d, warg_town, warg_ol, warg_od, vals, gLen, gAbs, gMax2, gMin2, gInt, gTup, gList, wipeW, if_true, if_false, Bool.false_eq_true, Bool.not_true, Bool.not_false, reduceCtorEq, iSeq, this]⟩
  have e1 : loopF (gOne 2) l__law_goes_on_1 (ls.map tsD) [.d (rowD r), .d (.list (ls.map tsD)), .no, .no, .no] n = some (.nx [.d (rowD r), .d (.list (ls.map tsD)), .no, .no, .no] n) :=
    loopF_same tsD ls fun c _ => ⟨_, rfl, by
      have := e2 c
      unfold l__law_goes_on_1
      simp -implicitDefEqProofs only [eVar_ap, dVar_ap, eC_ap, dOf_ap, eFrz_ap, eBin_ap, bTest_ap, bTru_ap, bAnd_ap, bOr_ap, bNot_ap, eIf_ap, eB_ap, eAnd_ap, eOr_ap, aNil_ap, aCons_ap, sNil_ap, sCons_ap, eTup_ap, eLst_ap, eCall_ap, eApp_ap, oNone_ap, oSome_ap, eSl_ap, sNil'_ap, sSeq_ap, sBrk_ap, sRet_ap, sRetN_ap, sRetO_ap, sDrop_ap, sIf_ap, sSet_ap, sApp_ap, sTown_ap, sExt_ap, sIns_ap, sSetIx_ap, sAsg_ap, sPar_ap, iOf_ap, iVal_ap, iRng1_ap, iRng2_ap, sFor_ap, eComp_ap, bYes_ap, frzAt_ap, eUn_ap, eNotD_ap, eOrD_ap, eChain_ap, eListRg1_ap, eIsa_ap, eMt_ap, iEnumV_ap, iEnumF_ap, iZipV_ap, iZipF_ap, eTLen_ap, iRng3D_ap, sEnd_ap, eSs_ap, sPar3_ap, xPop_ap, xTup1_ap, xCat_ap, sSetX_ap, sAppX_ap, sParO_ap, sForEI_ap, sForK_ap, runB_ap, gOne_ap, gMany_ap, dI_ap, yesC_ap, dCmp_int, setD, kill_nx, kill_rt, kill_bk, Option.bind_some, Option.map_some, Option.bind_none, Option.map_none, List.getElem?_cons_zero, List.getElem?_cons_succ, List.set_cons_zero, List.set_cons_succ, List.cons_append, List.nil_append, List.append_nil, List.replicate, List.length_cons, List.length_nil, Nat.reduceAdd, Nat.reduceSub, Nat.zero_add, wdat_no, wdat_d, wdat_town, wdat_ol, wdat_od, wfrz_no, wfrz_d, wfrz_town, wfrz_ol, wfrz_od, wval_no, wval_d, wval_town, wval_ol, wval_od, warg_no, warg_d, warg_town, warg_ol, warg_od, vals, gLen, gAbs, gMax2, gMin2, gInt, gTup, gList, wipeW, if_true, if_false, Bool.false_eq_true, Bool.not_true, Bool.not_false, reduceCtorEq, iSeq, this]⟩
  unfold m__law_goes_on b__law_goes_on
  simp -implicitDefEqProofs only [eVar_ap, dVar_ap, eC_ap, dOf_ap, eFrz_ap, eBin_ap, bTest_ap, bTru_ap, bAnd_ap, bOr_ap, bNot_ap, eIf_ap, eB_ap, eAnd_ap, eOr_ap, aNil_ap, aCons_ap, sNil_ap, sCons_ap, eTup_ap, eLst_ap, eCall_ap, eApp_ap, oNone_ap, oSome_ap, eSl_ap, sNil'_ap, sSeq_ap, sBrk_ap, sRet_ap, sRetN_ap, sRetO_ap, sDrop_ap, sIf_ap, sSet_ap, sApp_ap, sTown_ap, sExt_ap, sIns_ap, sSetIx_ap, sAsg_ap, sPar_ap, iOf_ap, iVal_ap, iRng1_ap, iRng2_ap, sFor_ap, eComp_ap, bYes_ap, frzAt_ap, eUn_ap, eNotD_ap, eOrD_ap, eChain_ap, eListRg1_ap, eIsa_ap, eMt_ap, iEnumV_ap, iEnumF_ap, iZipV_ap, iZipF_ap, eTLen_ap, iRng3D_ap, sEnd_ap, eSs_ap, sPar3_ap, xPop_ap, xTup1_ap, xCat_ap, sSetX_ap, sAppX_ap, sParO_ap, sForEI_ap, sForK_ap, runB_ap, gOne_ap, gMany_ap, dI_ap, yesC_ap, dCmp_int, setD, kill_nx, kill_rt, kill_bk, Option.bind_some, Option.map_some, Option.bind_none, Option.map_none, List.getElem?_cons_zero, List.getElem?_cons_succ, List.set_cons_zero, List.set_cons_succ, List.cons_append, List.nil_append, List.append_nil, List.replicate, List.length_cons, List.length_nil, Nat.reduceAdd, Nat.reduceSub, Nat.zero_add, wdat_no, wdat_d, wdat_town, wdat_ol, wdat_od, wfrz_no, wfrz_d, wfrz_town, wfrz_ol, wfrz_od, wval_no, wval_d, wval_town, wval_ol, wval_od, warg_no, warg_d, warg_town, warg_ol, warg_od, vals, gLen, gAbs, gMax2, gMin2, gInt, gTup, gList, wipeW, if_true, if_false, Bool.false_eq_true, Bool.not_true, Bool.not_false, reduceCtorEq, iSeq, e1]
theorem one_turn (ns : List Int) (x : PyData) (n : Nat) (hn : n + 300 ≤ big) : ∃ n', l_law_1 [Sc ns, .town, .d x, .no, .no, .no, .no, .no, .no, .no, .no, .no, .no, .no] n = some (.nx [Sc ns, .town, .no, .no, .no, .no, .no, .no, .no, .no, .no, .no, .no, .no] n') ∧ n ≤ n' ∧ n' ≤ n + 300 := by
  obtain ⟨_, n1, k1, l1, l2, r, hr, hrl, rfl⟩ := keys_ok ns n 2 (by decide) (by omega)
  have k1 : m__law_keys [Sc ns, .town, I' 2] n = some (.d (rowD r), n1) := k1
  obtain ⟨_, n2, k2, l3, l4, q, hq, hql, rfl⟩ := keys_ok ns n1 2 (by decide) (by omega)
  have k2 : m__law_keys [Sc ns, .town, I' 2] n1 = some (.d (rowD q), n2) := k2
  obtain ⟨_, n3, k3, l5, l6, ts, hts, htl, rfl⟩ := list_ok ns n2 12 (by decide) (by omega)
  have k3 : m__law_list [Sc ns, .town, I' 12] n2 = some (.d (tsD ts), n3) := k3
  have hr' : r.length ≤ 1000000 := by omega
  have hq' : q.length ≤ 1000000 := by omega
  have hrq : Rw.ok (r ++ q) := fun k hk => (List.mem_append.mp hk).elim (hr k) (hq k)
  have ol := ordT_len r ts
  -- two rows
  have a1 := ordered_ok q hq hq' ts (by omega) n3
  have a2 := ordered_ok r hr hr' (ordT q ts) (by rw [ordT_len]; omega) n3
  rw [ordT_two] at a2
  have a3 : dAdd (rowD r) (rowD q) = some (.d (rowD (r ++ q))) := by
    rw [dAdd_tup _ _ (le_big (by simp; omega))]; simp
  have a4 := ordered_ok (r ++ q) hrq (by simp; omega) ts (by omega) n3
  have s1 := same_ok (nc_le (nc_ts (ts := ordT (r ++ q) ts) (by rw [ordT_len]; omega)) (show 3 ≤ 12 by decide)) n3
  -- the groups
  have b1 := groups_ok r hr hr' ts (by omega) n3
  have gf := (groupsT_flat r ts).1
  have gl : (groupsT r ts).flatten.length = ts.length := by rw [gf, ol]
  have e2 := flat_loop (p := 0) (q := 0) (g := gOne 8) (body := l_law_2) (env := fun a => [Sc ns, .town, .no, .d (rowD r), .no, .d (tsD ts), .d (tssD (groupsT r ts)), .d (tsD a), .no, .no, .no, .no, .no, .no]) (n := n3)
    (fun a l h => ⟨_, rfl, by unfold l_law_2; simp -implicitDefEqProofs only [eVar_ap, dVar_ap, eC_ap, dOf_ap, eFrz_ap, eBin_ap, bTest_ap, bTru_ap, bAnd_ap, bOr_ap, bNot_ap, eIf_ap, eB_ap, eAnd_ap, eOr_ap, aNil_ap, aCons_ap, sNil_ap, sCons_ap, eTup_ap, eLst_ap, eCall_ap, eApp_ap, oNone_ap, oSome_ap, eSl_ap, sNil'_ap, sSeq_ap, sBrk_ap, sRet_ap, sRetN_ap, sRetO_ap, sDrop_ap, sIf_ap, sSet_ap, sApp_ap, sTown_ap, sExt_ap, sIns_ap, sSetIx_ap, sAsg_ap, sPar_ap, iOf_ap, iVal_ap, iRng1_ap, iRng2_ap, sFor_ap, eComp_ap, bYes_ap, frzAt_ap, eUn_ap, eNotD_ap, eOrD_ap, eChain_ap, eListRg1_ap, eIsa_ap, eMt_ap, iEnumV_ap, iEnumF_ap, iZipV_ap, iZipF_ap, eTLen_ap, iRng3D_ap, sEnd_ap, eSs_ap, sPar3_ap, xPop_ap, xTup1_ap, xCat_ap, sSetX_ap, sAppX_ap, sParO_ap, sForEI_ap, sForK_ap, runB_ap, gOne_ap, gMany_ap, dI_ap, yesC_ap, dCmp_int, setD, kill_nx, kill_rt, kill_bk, Option.bind_some, Option.map_some, Option.bind_none, Option.map_none, List.getElem?_cons_zero, List.getElem?_cons_succ, List.set_cons_zero, List.set_cons_succ, List.cons_append, List.nil_append, List.append_nil, List.replicate, List.length_cons, List.length_nil, Nat.reduceAdd, Nat.reduceSub, Nat.zero_add, wdat_no, wdat_d, wdat_town, wdat_ol, wdat_od, wfrz_no, wfrz_d, wfrz_town, wfrz_ol, wfrz_od, wval_no, wval_d, wval_town, wval_ol, wval_od, warg_no, warg_d, warg_town, warg_ol, warg_od, vals, gLen, gAbs, gMax2, gMin2, gInt, gTup, gList, wipeW, if_true, if_false, Bool.false_eq_true, Bool.not_true, Bool.not_false, reduceCtorEq, dAdd_ts a l h]⟩) (groupsT r ts) [] (by rw [List.length_nil, gl]; omega)
  rw [List.nil_append, gf] at e2
  have e2 : loopF (gOne 8) l_law_2 ((groupsT r ts).map tsD) [Sc ns, .town, .no, .d (rowD r), .no, .d (tsD ts), .d (tssD (groupsT r ts)), .d (.tuple []), .no, .no, .no, .no, .no, .no] n3 = _ := e2
  have b2 := ordered_ok r hr hr' ts (by omega) n3
  have s2 := same_ok (nc_le (nc_ts (ts := ordT r ts) (by omega)) (show 3 ≤ 12 by decide)) n3
  have hrt : Rw.ok (r.map Ky.turn) := fun k hk => by
    obtain ⟨k', hk', rfl⟩ := List.mem_map.mp hk
    exact Ky.turn_ok (hr k' hk')
  have hrt' : (r.map Ky.turn).length ≤ 1000000 := by simp; omega
  have b3 := turned_ok r hr' n3
  have b4 := groups_ok (r.map Ky.turn) hrt hrt' ts (by omega) n3
  rw [groupsT_turn] at b4
  have gn := groups_nc r ts (by omega)
  have gnl : (groupsT r ts).length ≤ 1000 := by
    have : ∀ G : List (List Th), (∀ g ∈ G, g ≠ []) → G.length ≤ G.flatten.length := by
      intro G
      induction G with
      | nil => intro _; exact Nat.le_refl _
      | cons g G ih =>
        intro h
        have h1 := ih fun k hk => h k (List.mem_cons_of_mem _ hk)
        have h2 := List.length_pos_iff.mpr (h g (by simp))
        rw [List.flatten_cons, List.length_append, List.length_cons]; omega
    have := this _ (groupsT_flat r ts).2
    omega
  have b5 : dSs (tssD (groupsT r ts)) none none (-1) = some (.d (tssD (groupsT r ts).reverse)) := by
    rw [dSs_rev _ (by rw [List.length_map]; omega)]
    show some (W.d (.tuple ((groupsT r ts).map tsD).reverse)) = some (W.d (.tuple ((groupsT r ts).reverse.map tsD)))
    rw [List.map_reverse]
  have s3 := same_ok (x := tssD (groupsT r ts).reverse) (nc_le (nc_tup (k := 3) (by simp; omega) (fun x hx => by
    obtain ⟨l, hl, rfl⟩ := List.mem_map.mp hx
    have := mem_len (List.mem_reverse.mp hl)
    exact nc_ts (by omega))) (show 4 ≤ 12 by decide)) n3
  -- crossings
  have c1 := comp_mapA (g := gOne 8) (own := [8]) (elt := (eBin dDiv (dOf (eBin dMul (dOf (eApp gLen (sCons (dVar 8) sNil))) (dOf (eBin dSub (dOf (eApp gLen (sCons (dVar 8) sNil))) (dOf (eC (.int 1))))))) (dOf (eC (.int 2)))))
    (ρ := [Sc ns, .town, .no, .d (rowD r), .no, .d (tsD ts), .d (tssD (groupsT r ts)), .d (tsD (ordT r ts)), .no, .d (.int (ts.length : Nat)), .no, .no, .no, .no]) (n := n3) tsD (fun g => .int (tri g.length : Nat)) (groupsT r ts) fun g hg => ⟨_, rfl, by
      have := mem_len hg
      have m1 : mulC (g.length : Int) ((g.length : Int) - 1) = true := mulC_l (by omega) (by omega)
      have m2 : divC ((g.length : Int) * ((g.length : Int) - 1)) 2 = true := divC_ok (by decide) (by decide)
      simp -implicitDefEqProofs only [eVar_ap, dVar_ap, eC_ap, dOf_ap, eFrz_ap, eBin_ap, bTest_ap, bTru_ap, bAnd_ap, bOr_ap, bNot_ap, eIf_ap, eB_ap, eAnd_ap, eOr_ap, aNil_ap, aCons_ap, sNil_ap, sCons_ap, eTup_ap, eLst_ap, eCall_ap, eApp_ap, oNone_ap, oSome_ap, eSl_ap, sNil'_ap, sSeq_ap, sBrk_ap, sRet_ap, sRetN_ap, sRetO_ap, sDrop_ap, sIf_ap, sSet_ap, sApp_ap, sTown_ap, sExt_ap, sIns_ap, sSetIx_ap, sAsg_ap, sPar_ap, iOf_ap, iVal_ap, iRng1_ap, iRng2_ap, sFor_ap, eComp_ap, bYes_ap, frzAt_ap, eUn_ap, eNotD_ap, eOrD_ap, eChain_ap, eListRg1_ap, eIsa_ap, eMt_ap, iEnumV_ap, iEnumF_ap, iZipV_ap, iZipF_ap, eTLen_ap, iRng3D_ap, sEnd_ap, eSs_ap, sPar3_ap, xPop_ap, xTup1_ap, xCat_ap, sSetX_ap, sAppX_ap, sParO_ap, sForEI_ap, sForK_ap, runB_ap, gOne_ap, gMany_ap, dI_ap, yesC_ap, dCmp_int, setD, kill_nx, kill_rt, kill_bk, Option.bind_some, Option.map_some, Option.bind_none, Option.map_none, List.getElem?_cons_zero, List.getElem?_cons_succ, List.set_cons_zero, List.set_cons_succ, List.cons_append, List.nil_append, List.append_nil, List.replicate, List.length_cons, List.length_nil, Nat.reduceAdd, Nat.reduceSub, Nat.zero_add, wdat_no, wdat_d, wdat_town, wdat_ol, wdat_od, wfrz_no, wfrz_d, wfrz_town, wfrz_ol, wfrz_od, wval_no, wval_d, wval_town, wval_ol, wval_od, warg_no, warg_d, warg_town, warg_ol, warg_od, vals, gLen, gAbs, gMax2, gMin2, gInt, gTup, gList, wipeW, if_true, if_false, Bool.false_eq_true, Bool.not_true, Bool.not_false, reduceCtorEq, List.length_map, dSub_int, dMul, m1, dDiv, m2, tri_int]⟩
  have gb : (groupsT r ts).length ≤ big := le_big (by omega)
  have c2 : gSum [.list ((groupsT r ts).map fun g => PyData.int (tri g.length : Nat))] = some (.d (.int (tieT r ts : Nat))) := by
    have e1 : (groupsT r ts).map (fun g => PyData.int (tri g.length : Nat)) = ((groupsT r ts).map fun g => ((tri g.length : Nat) : Int)).map .int := by rw [List.map_map]; rfl
    have e2 : ∀ G : List (List Th), (G.map fun g => ((tri g.length : Nat) : Int)).sum = ((G.map fun g => tri g.length).sum : Nat) := by
      intro G
      induction G with
      | nil => rfl
      | cons g G ih => simp [ih]
    rw [e1]
    simp only [gSum, intsOf_map, Option.map_some]
    rw [e2, tie_groups]
  have c3 := crossings_ok r hr hr' ts (by omega) n3
  have c4 := crossings_ok (r.map Ky.turn) hrt hrt' ts (by omega) n3
  have c5 := cross_all r ts
  have c6 : (crossT r ts : Int) + (crossT (r.map Ky.turn) ts : Int) + (tieT r ts : Int) = (tri ts.length : Nat) := by rw [← c5]; simp
  have m1 : mulC (ts.length : Int) ((ts.length : Int) - 1) = true := mulC_l (by omega) (by omega)
  have m2 : divC ((ts.length : Int) * ((ts.length : Int) - 1)) 2 = true := divC_ok (by decide) (by decide)
  -- the best
  have d1 := best_ok r hr hr' ts (by omega) (ts.length : Nat) n3
  rw [best_all] at d1
  have d2 := best_ok r hr hr' ts (by omega) 0 n3
  have d3 : bestT 0 (groupsT r ts) = [] := bestT_none 0 _ _ (by simp)
  rw [d3] at d2
  have s4 := same_ok (x := .tuple []) (by rfl) n3
  have d2 : m_best [.d (rowD r), .d (tsD ts), .d (.int 0)] n3 = some (.d (.tuple []), n3) := d2
  -- places
  have f1 := places_ok r hr hr' ts (by omega) n3
  have f2 := gSorted_ints ((sE r ts).map fun p => (p.1 : Int))
  rw [places_srt] at f2
  have f3 : rangeD 0 ts.length = ((List.range ts.length).map fun (i : Nat) => (i : Int)).map .int := by rw [rangeD_map, List.map_map]; rfl
  have f4 : (0 : Int) ≤ (ts.length : Int) ∧ (ts.length : Int) ≤ big := ⟨by omega, by have : big = 16777216 := rfl; omega⟩
  have f5 := dNe_li
  -- halves
  have hh : ((ts.length : Int) / 2) = ((ts.length / 2 : Nat) : Int) := by omega
  have g1 : cutD (ts.map Th.d) none (some ((ts.length / 2 : Nat) : Int)) = (ts.take (ts.length / 2)).map Th.d := by rw [cutD_take', List.map_take]
  have g2 : cutD (ts.map Th.d) (some ((ts.length / 2 : Nat) : Int)) none = (ts.drop (ts.length / 2)).map Th.d := by
    rw [cutD_drop _ _ (by rw [List.length_map]; omega), List.map_drop]
  have g3 := ordered_ok r hr hr' (ts.take (ts.length / 2)) (by simp; omega) n3
  have g4 := ordered_ok r hr hr' (ts.drop (ts.length / 2)) (by simp; omega) n3
  have g5 := merged_ok r hr hr' (ordT r (ts.take (ts.length / 2))) (ordT r (ts.drop (ts.length / 2))) (by rw [ordT_len, ordT_len]; simp; omega) n3
  rw [mergeT_ord (ordT_pw r _) (ordT_pw r _), ordT_app r _ _ (ts.take (ts.length / 2)) (ts.drop (ts.length / 2)) (ordT_is r _).2 (ordT_is r _).2, List.take_append_drop] at g5
  have g6 : divC (ts.length : Int) 2 = true := divC_ok (by decide) (by decide)
  -- lists told
  obtain ⟨_, n4, k4, l7, l8, us, hus, hul, rfl⟩ := list_ok ns n3 4 (by decide) (by omega)
  have k4 : m__law_list [Sc ns, .town, I' 4] n3 = some (.d (tsD us), n4) := k4
  obtain ⟨d, d0, d1', k5⟩ := draw_ok ns n4 (by omega) 5 (by decide)
  have h1 : cutD (ts.map Th.d) none (some d) = (ts.take d.toNat).map Th.d := by
    obtain ⟨dn, rfl⟩ := Int.eq_ofNat_of_zero_le d0
    rw [cutD_take', List.map_take]; rfl
  obtain ⟨_, n5, k6, l9, l10, vs, hvs, hvl, rfl⟩ := list_ok ns (n4 + 1) 3 (by decide) (by omega)
  have k6 : m__law_list [Sc ns, .town, I' 3] (n4 + 1) = some (.d (tsD vs), n5) := k6
  have h2 := goes_on r hr hr' [ts, us, ts.take d.toNat, vs] n5
  have h2 : m__law_goes_on [.d (rowD r), .d (.list [tsD ts, tsD us, tsD (ts.take d.toNat), tsD vs])] n5 = _ := h2
  refine ⟨n5, ?_, by omega, by omega⟩
  unfold l_law_1
  by_cases hm : 1 < ts.length
  · have hm' : rGt (ts.length : Int) 1 = true := decide_eq_true (by omega)
    have hne : ordT r ts ≠ [] := fun e => by rw [e] at ol; simp at ol; omega
    obtain ⟨u, B, hB⟩ : ∃ u B, ordT r ts = u :: B := by
      cases h : ordT r ts with
      | nil => exact absurd h hne
      | cons u B => exact ⟨u, B, rfl⟩
    obtain ⟨C, v, hC⟩ : ∃ C v, ordT r ts = C ++ [v] := ⟨_, _, (List.dropLast_concat_getLast hne).symm⟩
    have i1 : dIx (tsD (ordT r ts)) (.int 0) = some (.d u.d) := by rw [hB]; exact hd0 u B
    have i2 : dIx (tsD (ordT r ts)) (.int (-1)) = some (.d v.d) := by rw [hC]; exact tLast C v
    have i3 := told_ok' r hr hr' u v n5
    have i4 : rGt (wrd r u v) 0 = false := decide_eq_false (by
      have hp := ordT_pw r ts
      have hv : v ∈ ordT r ts := by rw [hC]; simp
      rw [hB] at hp hv
      rcases List.mem_cons.mp hv with rfl | hv
      · rw [wrd_refl]; decide
      · have := (List.pairwise_cons.mp hp).1 v hv; omega)
    simp -implicitDefEqProofs only [eVar_ap, dVar_ap, eC_ap, dOf_ap, eFrz_ap, eBin_ap, bTest_ap, bTru_ap, bAnd_ap, bOr_ap, bNot_ap, eIf_ap, eB_ap, eAnd_ap, eOr_ap, aNil_ap, aCons_ap, sNil_ap, sCons_ap, eTup_ap, eLst_ap, eCall_ap, eApp_ap, oNone_ap, oSome_ap, eSl_ap, sNil'_ap, sSeq_ap, sBrk_ap, sRet_ap, sRetN_ap, sRetO_ap, sDrop_ap, sIf_ap, sSet_ap, sApp_ap, sTown_ap, sExt_ap, sIns_ap, sSetIx_ap, sAsg_ap, sPar_ap, iOf_ap, iVal_ap, iRng1_ap, iRng2_ap, sFor_ap, eComp_ap, bYes_ap, frzAt_ap, eUn_ap, eNotD_ap, eOrD_ap, eChain_ap, eListRg1_ap, eIsa_ap, eMt_ap, iEnumV_ap, iEnumF_ap, iZipV_ap, iZipF_ap, eTLen_ap, iRng3D_ap, sEnd_ap, eSs_ap, sPar3_ap, xPop_ap, xTup1_ap, xCat_ap, sSetX_ap, sAppX_ap, sParO_ap, sForEI_ap, sForK_ap, runB_ap, gOne_ap, gMany_ap, dI_ap, yesC_ap, dCmp_int, setD, kill_nx, kill_rt, kill_bk, Option.bind_some, Option.map_some, Option.bind_none, Option.map_none, List.getElem?_cons_zero, List.getElem?_cons_succ, List.set_cons_zero, List.set_cons_succ, List.cons_append, List.nil_append, List.append_nil, List.replicate, List.length_cons, List.length_nil, Nat.reduceAdd, Nat.reduceSub, Nat.zero_add, wdat_no, wdat_d, wdat_town, wdat_ol, wdat_od, wfrz_no, wfrz_d, wfrz_town, wfrz_ol, wfrz_od, wval_no, wval_d, wval_town, wval_ol, wval_od, warg_no, warg_d, warg_town, warg_ol, warg_od, vals, gLen, gAbs, gMax2, gMin2, gInt, gTup, gList, wipeW, if_true, if_false, Bool.false_eq_true, Bool.not_true, Bool.not_false, reduceCtorEq, k1, k2, k3, a1, a2, a3, a4, s1, dTru_bool, b1, iSeq, e2, b2, s2, b3, b4, b5, s3, dNeg, List.length_map, gb, c1, c2, c3, c4, dAdd_int, dSub_int, dMul, dDiv, m1, m2, tri_int, c6, dNe_int, beq_self_eq_true, d1, d2, s4, f1, f2, f4, and_self, Int.toNat_natCast, f3, f5, hh, g6, dSl, g1, g2, g3, g4, g5, k4, k5, h1, k6, h2, hm', i1, i2, i3, i4]
  · have hm' : rGt (ts.length : Int) 1 = false := decide_eq_false (by omega)
    simp -implicitDefEqProofs only [eVar_ap, dVar_ap, eC_ap, dOf_ap, eFrz_ap, eBin_ap, bTest_ap, bTru_ap, bAnd_ap, bOr_ap, bNot_ap, eIf_ap, eB_ap, eAnd_ap, eOr_ap, aNil_ap, aCons_ap, sNil_ap, sCons_ap, eTup_ap, eLst_ap, eCall_ap, eApp_ap, oNone_ap, oSome_ap, eSl_ap, sNil'_ap, sSeq_ap, sBrk_ap, sRet_ap, sRetN_ap, sRetO_ap, sDrop_ap, sIf_ap, sSet_ap, sApp_ap, sTown_ap, sExt_ap, sIns_ap, sSetIx_ap, sAsg_ap, sPar_ap, iOf_ap, iVal_ap, iRng1_ap, iRng2_ap, sFor_ap, eComp_ap, bYes_ap, frzAt_ap, eUn_ap, eNotD_ap, eOrD_ap, eChain_ap, eListRg1_ap, eIsa_ap, eMt_ap, iEnumV_ap, iEnumF_ap, iZipV_ap, iZipF_ap, eTLen_ap, iRng3D_ap, sEnd_ap, eSs_ap, sPar3_ap, xPop_ap, xTup1_ap, xCat_ap, sSetX_ap, sAppX_ap, sParO_ap, sForEI_ap, sForK_ap, runB_ap, gOne_ap, gMany_ap, dI_ap, yesC_ap, dCmp_int, setD, kill_nx, kill_rt, kill_bk, Option.bind_some, Option.map_some, Option.bind_none, Option.map_none, List.getElem?_cons_zero, List.getElem?_cons_succ, List.set_cons_zero, List.set_cons_succ, List.cons_append, List.nil_append, List.append_nil, List.replicate, List.length_cons, List.length_nil, Nat.reduceAdd, Nat.reduceSub, Nat.zero_add, wdat_no, wdat_d, wdat_town, wdat_ol, wdat_od, wfrz_no, wfrz_d, wfrz_town, wfrz_ol, wfrz_od, wval_no, wval_d, wval_town, wval_ol, wval_od, warg_no, warg_d, warg_town, warg_ol, warg_od, vals, gLen, gAbs, gMax2, gMin2, gInt, gTup, gList, wipeW, if_true, if_false, Bool.false_eq_true, Bool.not_true, Bool.not_false, reduceCtorEq, k1, k2, k3, a1, a2, a3, a4, s1, dTru_bool, b1, iSeq, e2, b2, s2, b3, b4, b5, s3, dNeg, List.length_map, gb, c1, c2, c3, c4, dAdd_int, dSub_int, dMul, dDiv, m1, m2, tri_int, c6, dNe_int, beq_self_eq_true, d1, d2, s4, f1, f2, f4, and_self, Int.toNat_natCast, f3, f5, hh, g6, dSl, g1, g2, g3, g4, g5, k4, k5, h1, k6, h2, hm']
theorem law_true (ns : List Int) (hns : ns.length ≤ 63) : ∃ n', b_law (.d (.list (ns.map .int)) :: .town :: List.replicate 12 .no) 0 = some (.rt (.d (.bool true)) n') := by
  have hr8 : rng1 (.int 8) = some (rangeD 0 8) := rng1_ok (by decide) (by decide)
  obtain ⟨n', e, _⟩ := loop_law (g := gOne 2) (body := l_law_1) (ρ := [Sc ns, .town, .no, .no, .no, .no, .no, .no, .no, .no, .no, .no, .no, .no]) 300 (fun x n hn => by
    obtain ⟨n', h1, h2, h3⟩ := one_turn ns x n hn
    exact ⟨_, n', rfl, h1, h2, h3⟩) (rangeD 0 8) 0 (by rw [rangeD_len]; unfold big; omega)
  refine ⟨n', ?_⟩
  unfold b_law
  simp -implicitDefEqProofs only [eVar_ap, dVar_ap, eC_ap, dOf_ap, eFrz_ap, eBin_ap, bTest_ap, bTru_ap, bAnd_ap, bOr_ap, bNot_ap, eIf_ap, eB_ap, eAnd_ap, eOr_ap, aNil_ap, aCons_ap, sNil_ap, sCons_ap, eTup_ap, eLst_ap, eCall_ap, eApp_ap, oNone_ap, oSome_ap, eSl_ap, sNil'_ap, sSeq_ap, sBrk_ap, sRet_ap, sRetN_ap, sRetO_ap, sDrop_ap, sIf_ap, sSet_ap, sApp_ap, sTown_ap, sExt_ap, sIns_ap, sSetIx_ap, sAsg_ap, sPar_ap, iOf_ap, iVal_ap, iRng1_ap, iRng2_ap, sFor_ap, eComp_ap, bYes_ap, frzAt_ap, eUn_ap, eNotD_ap, eOrD_ap, eChain_ap, eListRg1_ap, eIsa_ap, eMt_ap, iEnumV_ap, iEnumF_ap, iZipV_ap, iZipF_ap, eTLen_ap, iRng3D_ap, sEnd_ap, eSs_ap, sPar3_ap, xPop_ap, xTup1_ap, xCat_ap, sSetX_ap, sAppX_ap, sParO_ap, sForEI_ap, sForK_ap, runB_ap, gOne_ap, gMany_ap, dI_ap, yesC_ap, dCmp_int, setD, kill_nx, kill_rt, kill_bk, Option.bind_some, Option.map_some, Option.bind_none, Option.map_none, List.getElem?_cons_zero, List.getElem?_cons_succ, List.set_cons_zero, List.set_cons_succ, List.cons_append, List.nil_append, List.append_nil, List.replicate, List.length_cons, List.length_nil, Nat.reduceAdd, Nat.reduceSub, Nat.zero_add, wdat_no, wdat_d, wdat_town, wdat_ol, wdat_od, wfrz_no, wfrz_d, wfrz_town, wfrz_ol, wfrz_od, wval_no, wval_d, wval_town, wval_ol, wval_od, warg_no, warg_d, warg_town, warg_ol, warg_od, vals, gLen, gAbs, gMax2, gMin2, gInt, gTup, gList, wipeW, if_true, if_false, Bool.false_eq_true, Bool.not_true, Bool.not_false, reduceCtorEq, hr8, e]
end L2.Lv.K17
open PySem PySem.W PyProof.Rows
set_option maxHeartbeats 0 in
theorem PySem.Challenge.cw_keyorders_k17_whole_rules_of_lists_holds : PySem.Challenge.rw_keyorders_k17_whole_rules_of_lists.Holds := by
  w_on; o_law; k_head; (case hw => w_witness2)
  k_fill
  refine L2.walk_of (l := PySem.Challenge.rw_keyorders_k17_whole_rules_of_lists) (n := 63) (k := 13) (x := "_law_script") (CX := fun _ => L2.CX0) (sp := fun w => L2.Lv.spLaw _ 63) rfl (by decide) rfl ⟨rfl, by decide, by decide⟩ (fun w h Y => PySem.W.kIn_of Y) ?F (fun _ H a ns hl hO hS => ⟨a, ns, rfl, hO, hS, hl, fun _ => rfl⟩) (fun _ _ _ _ _ h => h)
  case F =>
    intro w mg fa h KX G hmg
    refine' L2.Lv.K17.all_mk KX G hmg 63 L2.Lv.K17.law_true ?a0 ?l0 ?c0 ?k0 ?a1 ?l1 ?c1 ?k1 ?a2 ?l2 ?c2 ?k2 ?a3 ?l3 ?c3 ?k3 ?a4 ?l4 ?c4 ?k4 ?a5 ?l5 ?c5 ?k5 ?a6 ?l6 ?c6 ?k6 ?a7 ?l7 ?c7 ?k7 ?a8 ?l8 ?c8 ?k8 ?a9 ?l9 ?c9 ?k9 ?a10 ?l10 ?c10 ?k10 ?a11 ?l11 ?c11 ?k11 ?a12 ?l12 ?c12 ?k12 ?a13 ?l13 ?c13 ?k13 ?a14 ?l14 ?c14 ?k14 ?a15 ?l15 ?c15 ?k15 ?a16 ?l16 ?c16 ?k16 ?a17 ?l17 ?c17 ?k17 ?a18 ?l18 ?c18 ?k18 ?a19 ?l19 ?c19 ?k19 ?a20 ?l20 ?c20 ?k20 ?a21 ?l21 ?c21 ?k21 ?z0 ?z1 ?z2 ?z3 ?z4 ?z5 ?z6 ?z7 ?z8 ?z9 ?z10 ?z11 ?z12 ?z13 ?z14
    (case a0 => k_is); (case l0 => k_is); (case c0 => k_is); (case k0 => k_is); (case a1 => k_is); (case l1 => k_is); (case c1 => k_is); (case k1 => k_is); (case a2 => k_is); (case l2 => k_is); (case c2 => k_is); (case k2 => k_is); (case a3 => k_is); (case l3 => k_is); (case c3 => k_is); (case k3 => k_is); (case a4 => k_is); (case l4 => k_is); (case c4 => k_is); (case k4 => k_is); (case a5 => k_is); (case l5 => k_is); (case c5 => k_is); (case k5 => k_is); (case a6 => k_is); (case l6 => k_is); (case c6 => k_is); (case k6 => k_is); (case a7 => k_is); (case l7 => k_is); (case c7 => k_is); (case k7 => k_is); (case a8 => k_is); (case l8 => k_is); (case c8 => k_is); (case k8 => k_is); (case a9 => k_is); (case l9 => k_is); (case c9 => k_is); (case k9 => k_is); (case a10 => k_is); (case l10 => k_is); (case c10 => k_is); (case k10 => k_is); (case a11 => k_is); (case l11 => k_is); (case c11 => k_is); (case k11 => k_is); (case a12 => k_is); (case l12 => k_is); (case c12 => k_is); (case k12 => k_is); (case a13 => k_is); (case l13 => k_is); (case c13 => k_is); (case k13 => k_is); (case a14 => k_is); (case l14 => k_is); (case c14 => k_is); (case k14 => k_is); (case a15 => k_is); (case l15 => k_is); (case c15 => k_is); (case k15 => k_is); (case a16 => k_is); (case l16 => k_is); (case c16 => k_is); (case k16 => k_is); (case a17 => k_is); (case l17 => k_is); (case c17 => k_is); (case k17 => k_is); (case a18 => k_is); (case l18 => k_is); (case c18 => k_is); (case k18 => k_is); (case a19 => k_is); (case l19 => k_is); (case c19 => k_is); (case k19 => k_is); (case a20 => k_is); (case l20 => k_is); (case c20 => k_is); (case k20 => k_is); (case a21 => k_is); (case l21 => k_is); (case c21 => k_is); (case k21 => k_is); (case z0 => k_is); (case z1 => k_is); (case z2 => k_is); (case z3 => k_is); (case z4 => k_is); (case z5 => k_is); (case z6 => k_is); (case z7 => k_is); (case z8 => k_is); (case z9 => k_is); (case z10 => k_is); (case z11 => k_is); (case z12 => k_is); (case z13 => k_is); (case z14 => k_is)

