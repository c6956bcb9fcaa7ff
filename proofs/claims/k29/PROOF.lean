import PyProof.Rows.All
import Wide.All
import OpenK.AllK
import Wide.FinOn
import HandS.ForMost
import HandS.Words
import HandS.Lambda
import KE.KNestM
import HandS.Flow
import HandS.TupAny
import HandS.Zip
import HandS.More
import HandS.Deep
import HandS.TupLe
import HandS.TupMul
import HandS.Conv
import HandS.IsInst
import HandS.SortInts
import KE.KIndexOf
import KE.DataFind
import KE.SortData
import KE.GoesNew
import HandS.Iter
import HandS.Style
import HandS.SetFor
import KE.DataAny
import HandS.Strs
import KE.DatumOrd
import ObjForm.LawKit
import HandS.TupSets
import HandS.TupLen
import KE.KDictPairs
import KE.DataMinMax
import HandS.ExcOwn
import HandS.TryOnly
import HandS.WordsExc
import KE.KSortAsk
import KE.KTupSum
import HandS.SetBool
import KE.KDictSum
import KE.KDictCopyH
import KE.KDictWalk
import KE.KeyNested
import KE.DataEq
import HandS.CallLocal
import HandS.EndTab
import PySem.Challenge.RW_keyorders_k29_whole_forms_and_classes
set_option Elab.async false
set_option linter.all false
set_option maxRecDepth 100000
set_option maxHeartbeats 4000000
namespace L2.Lv
open PySem PySem.Spec PyProof.Rows
/-- a lambda as it stands in the text -/
structure LamT where
  q : Str
  params : Arguments
  body : Expr
  scope : Scope
/-- what a slot holds, by value -/
inductive W where
  | no
  | d (x : PyData)
  | town
  | ol (xs : List PyData)
  | od (kvs : List (PyData × PyData))
  | oll (xss : List (List PyData))
  /-- a lambda of two ints, that tells a bool -/
  | fn (g : Int → Int → Bool)
abbrev Hz : Hp := fun _ => none
theorem rdz {a : Addr} {u : HO} : ¬ Rd Hz a u := by
  rintro (h | ⟨o, h⟩) <;> cases h
theorem sqLz {K : PySem.W.Frag} {H : Hp} {a : Addr} {xs : List V} (h : SqL K Hz a xs) : SqL K H a xs := by
  rcases h with h | h
  · exact (rdz h).elim
  · exact .inr h
theorem sqTz {K : PySem.W.Frag} {H : Hp} {a : Addr} {xs : List V} (h : SqT K Hz a xs) : SqT K H a xs := by
  rcases h with h | h
  · exact (rdz h).elim
  · exact .inr h
/-- a tuple, as it was made (it has no dict) -/
def TupAt (H : Hp) (a : Addr) (xs : List V) : Prop := ∃ o, H a = some (.frz o (.tup xs)) ∧ o.dict = none
def KTup (K : PySem.W.Frag) (a : Addr) (xs : List V) : Prop := SqT K Hz a xs ∧ ∃ o, K.lookup a = some o ∧ o.cls = .type "tuple" ∧ o.dict = none
theorem TupAt.sq {K : PySem.W.Frag} {H : Hp} {a : Addr} {xs : List V} (h : TupAt H a xs) : SqT K H a xs := by
  obtain ⟨o, h, _⟩ := h
  exact .inl (.inr ⟨o, h⟩)
theorem sqT_of {A : Addr → Prop} {K : PySem.W.Frag} {H : Hp} {a : Addr} {xs : List V} (h : (¬ A a ∧ TupAt H a xs) ∨ KTup K a xs) : SqT K H a xs := h.elim (fun z => z.2.sq) fun z => sqTz z.1
mutual
/-- v reads as the data d, by way of no address of A -/
inductive Dv (A : Addr → Prop) (K : PySem.W.Frag) (H : Hp) : V → PyData → Prop
  | non : Dv A K H .non .none
  | bl (b : Bool) : Dv A K H (.bl b) (.bool b)
  | int (i : Int) : Dv A K H (.int i) (.int i)
  | str (x : Str) : Dv A K H (.str x) (.str x)
  | lst {a : Addr} {xs : List V} {ds : List PyData} : (¬ A a ∧ Rd H a (.lst xs)) ∨ SqL K Hz a xs → DvAll A K H xs ds → Dv A K H (.ref a) (.list ds)
  | tup {a : Addr} {xs : List V} {ds : List PyData} : (¬ A a ∧ TupAt H a xs) ∨ KTup K a xs → DvAll A K H xs ds → Dv A K H (.ref a) (.tuple ds)
inductive DvAll (A : Addr → Prop) (K : PySem.W.Frag) (H : Hp) : List V → List PyData → Prop
  | nil : DvAll A K H [] []
  | cons {v : V} {vs : List V} {d : PyData} {ds : List PyData} : Dv A K H v d → DvAll A K H vs ds → DvAll A K H (v :: vs) (d :: ds)
end
/-- from A, H to A', H': what is read stays -/
def Keep (A A' : Addr → Prop) (H H' : Hp) : Prop := ∀ a o, ¬ A a → H a = some o → ¬ A' a ∧ H' a = some o
theorem Keep.rd {A A' : Addr → Prop} {H H' : Hp} (m : Keep A A' H H') {a : Addr} {u : HO} (n : ¬ A a) (r : Rd H a u) : ¬ A' a ∧ Rd H' a u := by
  rcases r with r | ⟨o, r⟩
  · exact ⟨(m a _ n r).1, .inl (m a _ n r).2⟩
  · exact ⟨(m a _ n r).1, .inr ⟨o, (m a _ n r).2⟩⟩
section
variable {A A' : Addr → Prop} {K : PySem.W.Frag} {H H' : Hp}
mutual
theorem Dv.keep (m : Keep A A' H H') : ∀ (d : PyData) (v : V), Dv A K H v d → Dv A' K H' v d
  | .none, _, h => by cases h; exact .non
  | .bool _, _, h => by cases h; exact .bl _
  | .int _, _, h => by cases h; exact .int _
  | .str _, _, h => by cases h; exact .str _
  | .list ds, _, h => by
    cases h with
    | lst hs ha => exact .lst (hs.imp (fun z => m.rd z.1 z.2) id) (DvAll.keep m ds _ ha)
  | .tuple ds, _, h => by
    cases h with
    | tup hs ha => exact .tup (hs.imp (fun ⟨n, o, r, d⟩ => ⟨(m _ _ n r).1, o, (m _ _ n r).2, d⟩) id) (DvAll.keep m ds _ ha)
  | .dict _, _, h => by cases h
theorem DvAll.keep (m : Keep A A' H H') : ∀ (ds : List PyData) (vs : List V), DvAll A K H vs ds → DvAll A' K H' vs ds
  | [], _, h => by cases h; exact .nil
  | d :: ds, _, h => by
    cases h with
    | cons h1 h2 => exact .cons (Dv.keep m d _ h1) (DvAll.keep m ds _ h2)
end
theorem Dv.mono (m : Keep A A' H H') {d : PyData} {v : V} (h : Dv A K H v d) : Dv A' K H' v d := Dv.keep m d v h
theorem DvAll.mono (m : Keep A A' H H') {ds : List PyData} {vs : List V} (h : DvAll A K H vs ds) : DvAll A' K H' vs ds := DvAll.keep m ds vs h
mutual
theorem Dv.dpK : ∀ (d : PyData) (v : V), Dv A K H v d → Dp K H v d
  | .none, _, h => by cases h; exact .non
  | .bool _, _, h => by cases h; exact .bl _
  | .int _, _, h => by cases h; exact .int _
  | .str _, _, h => by cases h; exact .str _
  | .list ds, _, h => by
    cases h with
    | lst hs ha => exact .lst (hs.elim (fun z => .inl z.2) sqLz) (DvAll.dpK ds _ ha)
  | .tuple ds, _, h => by
    cases h with
    | tup hs ha => exact .tup (sqT_of hs) (DvAll.dpK ds _ ha)
  | .dict _, _, h => by cases h
theorem DvAll.dpK : ∀ (ds : List PyData) (vs : List V), DvAll A K H vs ds → DpAll K H vs ds
  | [], _, h => by cases h; exact .nil
  | d :: ds, _, h => by
    cases h with
    | cons h1 h2 => exact .cons (Dv.dpK d _ h1) (DvAll.dpK ds _ h2)
end
theorem Dv.dp {d : PyData} {v : V} (h : Dv A K H v d) : Dp K H v d := Dv.dpK d v h
theorem DvAll.dp {d : List PyData} {v : List V} (h : DvAll A K H v d) : DpAll K H v d := DvAll.dpK d v h
theorem DvAll.length : ∀ {vs : List V} {ds : List PyData}, DvAll A K H vs ds → vs.length = ds.length
  | _, _, .nil => rfl
  | _, _, .cons _ t => congrArg (· + 1) (DvAll.length t)
theorem DvAll.append : ∀ {vs us : List V} {ds es : List PyData}, DvAll A K H vs ds → DvAll A K H us es → DvAll A K H (vs ++ us) (ds ++ es)
  | _, _, _, _, .nil, s => s
  | _, _, _, _, .cons r t, s => .cons r (DvAll.append t s)
theorem DvAll.take : ∀ (n : Nat) {vs : List V} {ds : List PyData}, DvAll A K H vs ds → DvAll A K H (vs.take n) (ds.take n)
  | 0, _, _, _ => by simpa using DvAll.nil
  | _ + 1, _, _, .nil => .nil
  | n + 1, _, _, .cons r t => .cons r (DvAll.take n t)
theorem DvAll.drop : ∀ (n : Nat) {vs : List V} {ds : List PyData}, DvAll A K H vs ds → DvAll A K H (vs.drop n) (ds.drop n)
  | 0, _, _, h => h
  | _ + 1, _, _, .nil => .nil
  | n + 1, _, _, .cons _ t => DvAll.drop n t
theorem DvAll.get : ∀ {vs : List V} {ds : List PyData} {i : Nat} {d : PyData}, DvAll A K H vs ds → ds[i]? = some d → ∃ v, vs[i]? = some v ∧ Dv A K H v d
  | _, _, _, _, .nil, e => by simp at e
  | _, _, 0, _, .cons r _, e => by simp at e; subst e; exact ⟨_, rfl, r⟩
  | _, _, i + 1, _, .cons _ t, e => by
    obtain ⟨v, h1, h2⟩ := DvAll.get (i := i) t (by simpa using e)
    exact ⟨v, by simpa using h1, h2⟩
theorem DvAll.set : ∀ {vs : List V} {ds : List PyData} {v : V} {d : PyData} (i : Nat), DvAll A K H vs ds → Dv A K H v d → DvAll A K H (vs.set i v) (ds.set i d)
  | _, _, _, _, _, .nil, _ => .nil
  | _, _, _, _, 0, .cons _ t, r => .cons r t
  | _, _, _, _, i + 1, .cons r t, q => .cons r (DvAll.set i t q)
theorem DvAll.eraseIdx : ∀ {vs : List V} {ds : List PyData} (i : Nat), DvAll A K H vs ds → DvAll A K H (vs.eraseIdx i) (ds.eraseIdx i)
  | _, _, _, .nil => .nil
  | _, _, 0, .cons _ t => t
  | _, _, i + 1, .cons r t => .cons r (DvAll.eraseIdx i t)
end
/-! ### dicts -/
inductive KeyD : Key → PyData → Prop
  | int (i : Int) : KeyD (.inl i) (.int i)
  | str (x : Str) : KeyD (.inr x) (.str x)
/-- the mark of a dict whose keys are tuples of ints -/
def markT : PyData × PyData := (.none, .none)
/-- the mark of a dict that is gone through: it is read alone -/
def markF : PyData × PyData := (.none, .bool true)
def DTat (h : Heap) (a : Addr) (xs : List (List Int × Addr × Value)) : Prop :=
  xs.length ≤ sizeLine ∧ (a == sysModules) = false ∧ ∃ (P : Program) (w : World) (o : Obj) (es : Array DictEntry) (ep : Nat), h.get? a = some o ∧ o.ExactDict ∧ o.data = .dict es ep ∧ es.toList = xs.map (entryOfKey (tupleKind (intKind P w))) ∧ (xs.map (·.1)).Nodup
def DO (a : Addr) (xs : List (List Int × Addr × Value)) : HO := .ext fun h => DTat h a xs
def DRel (A : Addr → Prop) (K : PySem.W.Frag) (H : Hp) (q : List Int × Addr × Value) (kv : PyData × PyData) : Prop :=
  kv.1 = .tuple (q.1.map .int) ∧ ((¬ A q.2.1 ∧ TupAt H q.2.1 (q.1.map V.int)) ∨ KTup K q.2.1 (q.1.map V.int)) ∧ ∃ v, RelV v q.2.2 ∧ Dv A K H v kv.2
def DctAt (A : Addr → Prop) (K : PySem.W.Frag) (H : Hp) (a : Addr) (kvs : List (PyData × PyData)) : Prop :=
  (∃ ks, H a = some (.dK ks) ∧ Paired (fun p q => KeyD p.1 q.1 ∧ Dv A K H p.2 q.2) ks kvs) ∨
  (∃ xs rest, kvs = markT :: rest ∧ H a = some (DO a xs) ∧ Paired (DRel A K H) xs rest) ∨
  (∃ ks rest o, kvs = markF :: rest ∧ H a = some (.frz o (.dK ks)) ∧ Paired (fun p q => KeyD p.1 q.1 ∧ Dv A K H p.2 q.2) ks rest)
theorem Paired.impl {α β : Type} {F G : α → β → Prop} (f : ∀ a b, F a b → G a b) : ∀ {l : List α} {m : List β}, Paired F l m → Paired G l m
  | _, _, .nil => .nil
  | _, _, .cons r t => .cons (f _ _ r) (Paired.impl f t)
theorem DRel.mono {A A' : Addr → Prop} {K : PySem.W.Frag} {H H' : Hp} (m : Keep A A' H H') {q : List Int × Addr × Value} {kv : PyData × PyData} (h : DRel A K H q kv) : DRel A' K H' q kv := by
  obtain ⟨h1, h2, v, h3, h4⟩ := h
  exact ⟨h1, h2.imp (fun ⟨n, o, r, d⟩ => ⟨(m _ _ n r).1, o, (m _ _ n r).2, d⟩) id, v, h3, h4.mono m⟩
theorem DctAt.mono {A A' : Addr → Prop} {K : PySem.W.Frag} {H H' : Hp} {a : Addr} {kvs : List (PyData × PyData)} (m : Keep A A' H H') (k : ∀ o, H a = some o → H' a = some o) (h : DctAt A K H a kvs) : DctAt A' K H' a kvs := by
  rcases h with ⟨ks, e, p⟩ | ⟨xs, rest, e0, e, p⟩ | ⟨ks, rest, o, e0, e, p⟩
  · exact .inl ⟨ks, k _ e, Paired.impl (fun x y z => ⟨z.1, z.2.mono m⟩) p⟩
  · exact .inr (.inl ⟨xs, rest, e0, k _ e, Paired.impl (fun x y z => z.mono m) p⟩)
  · exact .inr (.inr ⟨ks, rest, o, e0, k _ e, Paired.impl (fun x y z => ⟨z.1, z.2.mono m⟩) p⟩)
theorem DctAt.there {A : Addr → Prop} {K : PySem.W.Frag} {H : Hp} {a : Addr} {kvs : List (PyData × PyData)} (h : DctAt A K H a kvs) : H a ≠ none := by
  rcases h with ⟨ks, e, _⟩ | ⟨xs, rest, _, e, _⟩ | ⟨ks, rest, o, _, e, _⟩ <;> (rw [e]; simp)
/-! ### lambdas, and the tables of code objects of the defs that make them -/
def lamNames : List Str := ["tie", "parting", "unkept"]
def lamTab : Addr × Obj → Option (Addr × Str)
  | (_, ⟨.type "code", _, .fields vs, _⟩) => match (vs[1]? : Option Value), (vs[11]? : Option Value) with
    | some (.str q _), some (.ref P) => if lamNames.contains q then some (P, q ++ ".<locals>." ++ "<lambda>") else none
    | _, _ => none
  | _ => none
def tabsOf (K : PySem.W.Frag) : List (Addr × Str) := K.filterMap lamTab
def NT (o : HO) : Prop := ∀ ps, o ≠ .tbl ps
/-- the table at P, whose code objects bear the name q and are not in G -/
def TabN (G : Addr → Prop) (H : Hp) (P : Addr) (q : Str) : Prop :=
  ∃ ps : Array Value, H P = some (.tbl ps) ∧ TriplesOk ps.toList ∧ ∀ (pos : Pos) (cv : Value), codeAmong pos ps.toList = some cv → ∃ c, cv = .ref c ∧ ¬ G c ∧ H c = some (LamX.CodeO c q)
theorem TabN.go {G G' : Addr → Prop} {H H' : Hp} {P : Addr} {q : Str} (t : TabN G H P q) (p : ∀ ps, H P = some (.tbl ps) → H' P = some (.tbl ps)) (k : ∀ c, ¬ G c → H c = some (LamX.CodeO c q) → ¬ G' c ∧ H' c = some (LamX.CodeO c q)) : TabN G' H' P q := by
  obtain ⟨ps, h1, h2, h3⟩ := t
  refine ⟨ps, p ps h1, h2, fun pos cv e => ?_⟩
  obtain ⟨c, e1, e2, e3⟩ := h3 pos cv e
  exact ⟨c, e1, k c e2 e3⟩
/-- the function object of the lambda L at f, its code object at c -/
def LamO (L : LamT) (f c : Addr) : HO := .ext fun h => ∃ pm ctv, h.get? f = some (PySem.W.kla_obj "<lambda>" L.q L.params L.body L.scope [] pm c ctv)
/-! ### the state by value -/
/-- T: where the town stands; P: what others own; H0: the heap at the entry; B: the tables, and what their code objects are called -/
structure Cn where
  T : Option Addr
  P : Addr → Prop
  H0 : Hp
  B : Addr → Str → Prop
  bp : ∀ a q, B a q → P a
  bf : ∀ a q q', B a q → B a q' → q = q'
/-- what an expression may change: the town, the tables -/
def TX (C : Cn) : Addr → Prop := fun a => C.T = some a ∨ ∃ q, C.B a q
abbrev Ow := Nat → Option Addr
def Av (C : Cn) (O : Ow) : Addr → Prop := fun a => C.P a ∨ C.T = some a ∨ ∃ i, O i = some a
abbrev Ow0 : Ow := fun _ => none
def TownAt (C : Cn) (H : Hp) (n : Nat) : Prop := ∀ a, C.T = some a → H a = some (.lst (List.replicate n (.int 0)))
/-- what an expression does to the heap -/
structure Step (C : Cn) (H H' : Hp) : Prop where
  st0 : ∀ a o, H a = some o → C.T ≠ some a → ((∃ q, C.B a q) → NT o) → H' a = some o
  fr : ∀ a, H' a = none → H a = none
  tb : ∀ P q (G : Addr → Prop), C.B P q → (∀ c, G c → H c ≠ none) → TabN G H P q → TabN G H' P q
theorem Step.st {C : Cn} {H H' : Hp} (s : Step C H H') : ∀ a o, H a = some o → ¬ TX C a → H' a = some o := fun a o h n => s.st0 a o h (fun z => n (.inl z)) fun z => absurd (.inr z) n
theorem Step.stN {C : Cn} {H H' : Hp} (s : Step C H H') : ∀ a o, H a = some o → C.T ≠ some a → NT o → H' a = some o := fun a o h n t => s.st0 a o h n fun _ => t
def Grow (H H' : Hp) : Prop := ∀ a o, H a = some o → H' a = some o
theorem Grow.refl {H : Hp} : Grow H H := fun _ _ h => h
theorem Grow.trans {H H1 H2 : Hp} (a : Grow H H1) (b : Grow H1 H2) : Grow H H2 := fun x o h => b x o (a x o h)
theorem Grow.upd {H : Hp} {p : Addr} {o : HO} (h : H p = none) : Grow H (upd H p o) := fun a u e => by rw [upd_ne (ne_of_none e h)]; exact e
theorem Grow.step {C : Cn} {H H' : Hp} (g : Grow H H') : Step C H H' := ⟨fun a o h _ _ => g a o h, (fun a h => by
  cases e : H a with
  | none => rfl
  | some o => rw [g a o e] at h; cases h), fun P q G _ _ t => t.go (fun _ e => g _ _ e) fun c n e => ⟨n, g _ _ e⟩⟩
theorem Grow.town {C : Cn} {H H' : Hp} {n : Nat} (g : Grow H H') (t : TownAt C H n) : TownAt C H' n := fun a e => g _ _ (t a e)
theorem Step.refl {C : Cn} {H : Hp} : Step C H H := Grow.refl.step
theorem Step.trans {C : Cn} {H H1 H2 : Hp} (a : Step C H H1) (b : Step C H1 H2) : Step C H H2 := ⟨fun x o h n t => b.st0 x o (a.st0 x o h n t) n t, fun x h => a.fr x (b.fr x h), fun P q G h e t => b.tb P q G h (fun c z n => e c z (a.fr c n)) (a.tb P q G h e t)⟩
theorem Step.rd {C : Cn} {H H' : Hp} (s : Step C H H') {a : Addr} {u : HO} (n : ¬ TX C a) (r : Rd H a u) : Rd H' a u := by
  rcases r with r | ⟨o, r⟩
  · exact .inl (s.st _ _ r n)
  · exact .inr ⟨o, s.st _ _ r n⟩
theorem Grow.rd {H H' : Hp} (s : Grow H H') {a : Addr} {u : HO} (r : Rd H a u) : Rd H' a u := by
  rcases r with r | ⟨o, r⟩
  · exact .inl (s _ _ r)
  · exact .inr ⟨o, s _ _ r⟩
theorem Rd.there {H : Hp} {a : Addr} {u : HO} (r : Rd H a u) : H a ≠ none := by
  rcases r with r | ⟨o, r⟩ <;> (rw [r]; simp)
theorem Step.keep {C : Cn} {H H' : Hp} {A : Addr → Prop} (s : Step C H H') (t : ∀ a, TX C a → A a) : Keep A A H H' := fun a u n r => ⟨n, s.st a u r (fun e => n (t a e))⟩
theorem Grow.keep {H H' : Hp} {A : Addr → Prop} (s : Grow H H') : Keep A A H H' := fun a u n r => ⟨n, s a u r⟩
theorem Av.t {C : Cn} {O : Ow} : ∀ a, TX C a → Av C O a := fun a e => e.elim (fun e => .inr (.inl e)) fun ⟨q, e⟩ => .inl (C.bp a q e)
/-- the tables as they ought to be -/
def TabG (C : Cn) (O : Ow) (H : Hp) : Prop := ∀ P q, C.B P q → TabN (Av C O) H P q ∧ ∀ G : Addr → Prop, (∀ c, G c → C.H0 c ≠ none) → TabN G C.H0 P q → TabN G H P q
/-- called with two ints it tells g of them -/
def LamSem (L : LamT) (g : Int → Int → Bool) : Prop :=
  ∀ (P : Program) (w : World) (K : PySem.W.Frag) (mg : Str → Option Value) (base : Heap) (A : Around) (outer : List Env) (s : Shared) (C : Cn) (n : Nat) (f c : Addr) (i j : Int) (us : List Value) (Q : VK),
    Room 1 A → Env0 P w K mg base A outer s C.H0 → C.H0 f = some (LamO L f c) → C.H0 c = some (LamX.CodeO c L.q) → Vals [.int i, .int j] us →
    (∀ a, C.P a → C.H0 a ≠ none) → TownAt C C.H0 n → (∀ x ∈ tabsOf K, C.B x.1 x.2) → TabG C Ow0 C.H0 → (∀ H', Step C C.H0 H' → TownAt C H' n → Q (.bl (g i j)) H') →
    codeAny (model P w) A (.call (.ref f) ⟨us, []⟩) (CR CX0 outer P w C.H0 s Q E0) s
/-- v is a lambda that tells g -/
def FnV (A : Addr → Prop) (H : Hp) (v : V) (g : Int → Int → Bool) : Prop :=
  ∃ (L : LamT) (f c : Addr), v = .ref f ∧ ¬ A f ∧ H f = some (LamO L f c) ∧ ¬ A c ∧ H c = some (LamX.CodeO c L.q) ∧ LamSem L g
theorem FnV.mono {A A' : Addr → Prop} {H H' : Hp} {v : V} {g : Int → Int → Bool} (h : FnV A H v g) (k : Keep A A' H H') : FnV A' H' v g := by
  obtain ⟨L, f, c, h1, h2, h3, h4, h5, h6⟩ := h
  exact ⟨L, f, c, h1, (k f _ h2 h3).1, (k f _ h2 h3).2, (k c _ h4 h5).1, (k c _ h4 h5).2, h6⟩
/-- an expression's value: from the heap H ahead of it to H' -/
def Res (A : Addr → Prop) (T : Option Addr) (K : PySem.W.Frag) (H H' : Hp) (v : V) : W → Prop
  | .no => False
  | .d x => Dv A K H' v x
  | .town => ∃ a, T = some a ∧ v = .ref a
  | .ol xs => ∃ a vs, v = .ref a ∧ H a = none ∧ H' a = some (.lst vs) ∧ DvAll (fun b => A b ∨ b = a) K H' vs xs
  | .od kvs => ∃ a, v = .ref a ∧ H a = none ∧ DctAt (fun b => A b ∨ b = a) K H' a kvs
  | .oll _ => False
  | .fn g => FnV A H' v g
/-- a value that is looked at: it may be a list or a dict of one's own -/
def DvB (A : Addr → Prop) (T : Option Addr) (K : PySem.W.Frag) (H : Hp) (v : V) (x : PyData) : Prop :=
  Dv A K H v x ∨ (∃ a vs ds, v = .ref a ∧ x = .list ds ∧ T ≠ some a ∧ H a = some (.lst vs) ∧ DvAll A K H vs ds) ∨
  (∃ a kvs, v = .ref a ∧ x = .dict kvs ∧ T ≠ some a ∧ DctAt A K H a kvs)
def W.dat : W → Option PyData
  | .d x => some x
  | .ol xs => some (.list xs)
  | .od kvs => some (.dict kvs)
  | _ => none
/-- taken as it is, for ever -/
def W.frz : W → W
  | .ol xs => .d (.list xs)
  | w => w
/-- the lists in a list of one's own lists: hd tells where they stand -/
def NstAt (A : Addr → Prop) (K : PySem.W.Frag) (H : Hp) (hd : Nat → Option Addr) (xss : List (List PyData)) (bs : List Addr) : Prop :=
  bs.length = xss.length ∧ bs.length ≤ 1000 ∧ ∀ j b xs, bs[j]? = some b → xss[j]? = some xs → hd j = some b ∧ ∃ vs, H b = some (.lst vs) ∧ DvAll A K H vs xs
theorem NstAt.mono {A A' : Addr → Prop} {K : PySem.W.Frag} {H H' : Hp} {hd hd' : Nat → Option Addr} {xss : List (List PyData)} {bs : List Addr} (q : NstAt A K H hd xss bs) (m : Keep A A' H H') (e : ∀ j, j < bs.length → hd' j = hd j) (k : ∀ j b u, j < bs.length → hd j = some b → H b = some u → H' b = some u) : NstAt A' K H' hd' xss bs :=
  ⟨q.1, q.2.1, fun j b xs h1 h2 => by
    obtain ⟨h3, vs, h4, h5⟩ := q.2.2 j b xs h1 h2
    have hj := (List.getElem?_eq_some_iff.mp h1).1
    exact ⟨(e j hj).trans h3, vs, k j b _ hj h3 h4, h5.mono m⟩⟩
def SlOk (A : Addr → Prop) (T : Option Addr) (K : PySem.W.Frag) (H : Hp) (v : Option (Option V)) (o : Option Addr) (hd : Nat → Option Addr) : W → Prop
  | .no => True
  | .d x => ∃ u, v = some (some u) ∧ Dv A K H u x
  | .town => ∃ a, T = some a ∧ v = some (some (.ref a))
  | .ol xs => ∃ a vs, o = some a ∧ v = some (some (.ref a)) ∧ H a = some (.lst vs) ∧ DvAll A K H vs xs
  | .od kvs => ∃ a, o = some a ∧ v = some (some (.ref a)) ∧ DctAt A K H a kvs
  | .oll xss => ∃ a bs, o = some a ∧ v = some (some (.ref a)) ∧ H a = some (.lst (bs.map V.ref)) ∧ NstAt A K H hd xss bs
  | .fn g => ∃ u, v = some (some u) ∧ FnV A H u g
/-- where the lists of the list at the slot i stand -/
def hid (O : Ow) (l i : Nat) : Nat → Option Addr := fun j => O (l + 1000 * i + j)
theorem lt_of_get {ρ : List W} {i : Nat} {w : W} (h : ρ[i]? = some w) : i < ρ.length := (List.getElem?_eq_some_iff.mp h).1
structure EnvOk (C : Cn) (O : Ow) (K : PySem.W.Frag) (σ : St) (H : Hp) (ρ : List W) (n : Nat) : Prop where
  len : ρ.length = σ.length
  sl : ∀ i w, ρ[i]? = some w → SlOk (Av C O) C.T K H σ[i]? (O i) (hid O ρ.length i) w
  inj : ∀ i j a, O i = some a → O j = some a → i = j
  own : ∀ i a, O i = some a → ¬ TX C a ∧ C.H0 a = none ∧ H a ≠ none
  town : TownAt C H n
  base : ∀ a o, C.H0 a = some o → ¬ TX C a → H a = some o
  ptr : ∀ a, C.P a → H a ≠ none
  fr : ∀ a, H a = none → C.H0 a = none
  tk : ∀ x ∈ tabsOf K, C.B x.1 x.2
  tb : TabG C O H
section
variable {C : Cn} {O O' : Ow} {K : PySem.W.Frag} {σ : St} {H H' H1 H2 : Hp} {ρ : List W} {n n' : Nat} {A A' : Addr → Prop} {T : Option Addr} {v : V} {w : W} {x : PyData}
theorem EnvOk.av (E : EnvOk C O K σ H ρ n) : ∀ a, Av C O a → H a ≠ none := by
  rintro a (h | h | ⟨i, h⟩)
  · exact E.ptr a h
  · rw [E.town a h]; simp
  · exact (E.own i a h).2.2
theorem EnvOk.ta (E : EnvOk C O K σ H ρ n) : ∀ a, TX C a → H a ≠ none := fun a h => E.av a (Av.t a h)
theorem EnvOk.ntx {a : Addr} {o : HO} (E : EnvOk C O K σ H ρ n) (t : C.T ≠ some a) (h : H a = some o) (nt : NT o) : ¬ TX C a := fun z => z.elim t fun ⟨q, z⟩ => by
  obtain ⟨⟨ps, e1, _⟩, _⟩ := E.tb a q z
  rw [h] at e1
  exact nt ps (Option.some.inj e1)
theorem TabG.step (g : TabG C O H) (S : Step C H H') (av : ∀ a, Av C O a → H a ≠ none) (fr : ∀ a, H a = none → C.H0 a = none) : TabG C O H' := fun P q h =>
  ⟨S.tb P q _ h av (g P q h).1, fun G e t => S.tb P q G h (fun c z y => e c z (fr c y)) ((g P q h).2 G e t)⟩
/-- what is ours may be another; all else stays -/
theorem TabG.to {C' : Cn} (g : TabG C O H) (hB : C'.B = C.B) (hH : C'.H0 = C.H0) (k : ∀ a o, ¬ Av C O a → H a = some o → H' a = some o) (kp : ∀ a q, C.B a q → H' a = H a) (m : ∀ a, Av C' O' a → Av C O a ∨ ∀ q, H' a ≠ some (LamX.CodeO a q)) : TabG C' O' H' := fun P q h => by
  rw [hB] at h
  obtain ⟨⟨ps, h1, h2, h3⟩, h4⟩ := g P q h
  refine ⟨⟨ps, by rw [kp P q h]; exact h1, h2, fun pos cv e => ?_⟩, fun G e t => ?_⟩
  · obtain ⟨c, e1, e2, e3⟩ := h3 pos cv e
    exact ⟨c, e1, fun z => (m c z).elim e2 fun z => z q (k c _ e2 e3), k c _ e2 e3⟩
  · rw [hH] at e t
    obtain ⟨ps', g1, g2, g3⟩ := h4 G e t
    rw [h1] at g1
    cases g1
    refine ⟨ps, by rw [kp P q h]; exact h1, h2, fun pos cv e => ?_⟩
    obtain ⟨c, e1, e2, e3⟩ := h3 pos cv e
    obtain ⟨c', e4, e5, _⟩ := g3 pos cv e
    rw [e1] at e4
    cases e4
    exact ⟨c, e1, e5, k c _ e2 e3⟩
theorem TabG.sub {C' : Cn} (g : TabG C O H) (hB : C'.B = C.B) (hH : C'.H0 = C.H0) (m : ∀ a, Av C' O' a → Av C O a ∨ ∀ q, H a ≠ some (LamX.CodeO a q)) : TabG C' O' H := g.to hB hH (fun _ _ _ e => e) (fun _ _ _ => rfl) m
theorem codeO_lst {c : Addr} {q : Str} {xs : List V} : HO.lst xs ≠ LamX.CodeO c q := fun z => by unfold LamX.CodeO at z; cases z
theorem codeO_dK {c : Addr} {q : Str} {xs : List (Key × V)} : HO.dK xs ≠ LamX.CodeO c q := fun z => by unfold LamX.CodeO at z; cases z
theorem codeO_frz {c : Addr} {q : Str} {o : Obj} {u : HO} : HO.frz o u ≠ LamX.CodeO c q := fun z => by unfold LamX.CodeO at z; cases z
theorem codeO_DO {c : Addr} {q : Str} {xs : List (List Int × Addr × Value)} : DO c xs ≠ LamX.CodeO c q := fun z => by
  unfold LamX.CodeO DO at z
  have z := congrFun (HO.ext.inj z)
  have y : ∃ (h : Heap) (oc : Obj) (vs : Array Value) (t : Tok), h.get? c = some oc ∧ oc.data = .fields vs ∧ vs[1]? = some (.str q t) := ⟨{ objs := Array.replicate (c + 1) { cls := .none, data := .fields #[.none, .str q default] } }, { cls := .none, data := .fields #[.none, .str q default] }, _, _, by simp [Heap.get?], rfl, rfl⟩
  obtain ⟨h, oc, vs, t, e1, e2, e3⟩ := y
  have d : DTat h c xs := (z h).mpr ⟨oc, vs, t, e1, e2, e3⟩
  obtain ⟨_, _, P, w, o, es, ep, k1, _, k2, _⟩ := d
  rw [e1] at k1
  cases k1
  rw [e2] at k2
  cases k2
theorem DctAt.nc {A : Addr → Prop} {K : PySem.W.Frag} {H : Hp} {a : Addr} {kvs : List (PyData × PyData)} (h : DctAt A K H a kvs) : ∀ q, H a ≠ some (LamX.CodeO a q) := fun q e => by
  rcases h with ⟨ks, e1, _⟩ | ⟨xs, rest, _, e1, _⟩ | ⟨ks, rest, o, _, e1, _⟩ <;> rw [e1] at e
  · exact codeO_dK (Option.some.inj e)
  · exact codeO_DO (Option.some.inj e)
  · exact codeO_frz (Option.some.inj e)
theorem DctAt.monoN {A A' : Addr → Prop} {K : PySem.W.Frag} {H H' : Hp} {a : Addr} {kvs : List (PyData × PyData)} (m : Keep A A' H H') (k : ∀ o, H a = some o → NT o → H' a = some o) (h : DctAt A K H a kvs) : DctAt A' K H' a kvs := by
  refine DctAt.mono m (fun o e => k o e ?_) h
  rcases h with ⟨ks, e1, _⟩ | ⟨xs, rest, _, e1, _⟩ | ⟨ks, rest, o, _, e1, _⟩ <;> rw [e1] at e <;> cases e <;> exact fun ps z => nomatch z
theorem EnvOk.step (E : EnvOk C O K σ H ρ n) (S : Step C H H') (t : TownAt C H' n') : EnvOk C O K σ H' ρ n' := by
  have k : Keep (Av C O) (Av C O) H H' := S.keep Av.t
  have nn : ∀ a, H a ≠ none → H' a ≠ none := fun a h e => h (S.fr a e)
  refine ⟨E.len, fun i w hw => ?_, E.inj, fun i a h => ⟨(E.own i a h).1, (E.own i a h).2.1, nn a (E.own i a h).2.2⟩, t, fun a o h hn => S.st a o (E.base a o h hn) hn, fun a h => nn a (E.ptr a h), fun a h => E.fr a (S.fr a h), E.tk, E.tb.step S E.av E.fr⟩
  have q := E.sl i w hw
  cases w with
  | no => trivial
  | d x => obtain ⟨u, h1, h2⟩ := q; exact ⟨u, h1, h2.mono k⟩
  | town => exact q
  | ol xs =>
    obtain ⟨a, vs, h1, h2, h3, h4⟩ := q
    exact ⟨a, vs, h1, h2, S.st _ _ h3 (E.own i a h1).1, h4.mono k⟩
  | od kvs =>
    obtain ⟨a, h1, h2, h3⟩ := q
    exact ⟨a, h1, h2, h3.mono k fun o e => S.st _ _ e (E.own i a h1).1⟩
  | oll xss =>
    obtain ⟨a, bs, h1, h2, h3, h4⟩ := q
    exact ⟨a, bs, h1, h2, S.st _ _ h3 (E.own i a h1).1, h4.mono k (fun _ _ => rfl) fun j b u _ h e => S.st _ _ e (E.own _ b h).1⟩
  | fn g => obtain ⟨u, h1, h2⟩ := q; exact ⟨u, h1, h2.mono k⟩
theorem DvB.step (S : Step C H H') (t : ∀ a, TX C a → A a) (h : DvB A C.T K H v x) : DvB A C.T K H' v x := by
  rcases h with h | ⟨a, vs, ds, h1, h2, h3, h4, h5⟩ | ⟨a, kvs, h1, h2, h3, h4⟩
  · exact .inl (h.mono (S.keep t))
  · exact .inr (.inl ⟨a, vs, ds, h1, h2, h3, S.stN _ _ h4 h3 (fun ps z => nomatch z), h5.mono (S.keep t)⟩)
  · exact .inr (.inr ⟨a, kvs, h1, h2, h3, h4.monoN (S.keep t) fun o e => S.stN _ _ e h3⟩)
theorem Res.dat (tr : ∀ a, T = some a → H a ≠ none) (h : Res A T K H H' v w) (e : w.dat = some x) : DvB A T K H' v x := by
  cases w with
  | no => cases e
  | d y => cases e; exact .inl h
  | town => cases e
  | ol xs =>
    cases e
    obtain ⟨a, vs, h1, h2, h3, h4⟩ := h
    exact .inr (.inl ⟨a, vs, xs, h1, rfl, fun z => tr a z h2, h3, h4.mono fun b u nb r => ⟨fun z => nb (.inl z), r⟩⟩)
  | od kvs =>
    cases e
    obtain ⟨a, h1, h2, h3⟩ := h
    exact .inr (.inr ⟨a, kvs, h1, rfl, fun z => tr a z h2, h3.mono (fun b u nb r => ⟨fun z => nb (.inl z), r⟩) fun o e => e⟩)
  | oll _ => cases e
  | fn _ => cases e
theorem Res.frz (tr : ∀ a, A a → H a ≠ none) (h : Res A T K H H' v w) : Res A T K H H' v w.frz := by
  cases w with
  | ol xs =>
    obtain ⟨a, vs, h1, h2, h3, h4⟩ := h
    subst h1
    exact .lst (.inl ⟨fun z => tr a z h2, .inl h3⟩) (h4.mono fun b u nb r => ⟨fun z => nb (.inl z), r⟩)
  | no => exact h
  | d _ => exact h
  | town => exact h
  | od _ => exact h
  | oll _ => exact h
  | fn _ => exact h
end
end L2.Lv
namespace L2.Lv
open PySem PySem.Spec PyProof.Rows
abbrev Fe := List W → Nat → Option (W × Nat)
abbrev Fd := List W → Nat → Option (PyData × Nat)
abbrev Ft := List W → Nat → Option (Bool × Nat)
abbrev Fa := List W → Nat → Option (List W × Nat)
def tV (K : PySem.W.Frag) (f : Fe) : TE := fun σ H Q => ∃ C O ρ n w n', f ρ n = some (w, n') ∧ EnvOk C O K σ H ρ n ∧ ∀ v H', Step C H H' → TownAt C H' n' → Res (Av C O) C.T K H H' v w → Q v H'
def tVB (K : PySem.W.Frag) (f : Fd) : TE := fun σ H Q => ∃ C O ρ n x n', f ρ n = some (x, n') ∧ EnvOk C O K σ H ρ n ∧ ∀ v H', Step C H H' → TownAt C H' n' → DvB (Av C O) C.T K H' v x → Q v H'
def tVT (K : PySem.W.Frag) (f : Ft) : TT := fun σ H Q => ∃ C O ρ n b n', f ρ n = some (b, n') ∧ EnvOk C O K σ H ρ n ∧ ∀ H', Step C H H' → TownAt C H' n' → Q b H'
/-- an argument: data that stays, or the town -/
def ArgOk (A : Addr → Prop) (T : Option Addr) (K : PySem.W.Frag) (H : Hp) (v : V) : W → Prop
  | .d x => Dv A K H v x
  | .town => ∃ a, T = some a ∧ v = .ref a
  | .fn g => FnV A H v g
  | _ => False
abbrev ArgsOk (A : Addr → Prop) (T : Option Addr) (K : PySem.W.Frag) (H : Hp) : List V → List W → Prop := Paired (ArgOk A T K H)
def tVA (K : PySem.W.Frag) (f : Fa) : TA := fun σ H Q => ∃ C O ρ n ws n', f ρ n = some (ws, n') ∧ EnvOk C O K σ H ρ n ∧ ∀ vs H', Step C H H' → TownAt C H' n' → ArgsOk (Av C O) C.T K H' vs ws → Q vs H'
abbrev EvE (X : Cx) (e : Expr) (f : Fe) : Prop := PE X e (tV X.K f)
abbrev EvB (X : Cx) (e : Expr) (f : Fd) : Prop := PE X e (tVB X.K f)
abbrev EvT (X : Cx) (e : Expr) (f : Ft) : Prop := PT X e (tVT X.K f)
abbrev EvW (X : Cx) (e : Expr) (f : Ft) : Prop := PW X e (tVT X.K f)
theorem peI {X : Cx} {e : Expr} {t t' : TE} (h : PE X e t) (w : ∀ σ H Q, t' σ H Q → t σ H Q) : PE X e t' := ⟨fun pins s σ H Q I q => h.run pins s σ H Q I (w σ H Q q)⟩
theorem ptI {X : Cx} {e : Expr} {t t' : TT} (h : PT X e t) (w : ∀ σ H Q, t' σ H Q → t σ H Q) : PT X e t' := ⟨fun pins s σ H Q I q => h.run pins s σ H Q I (w σ H Q q)⟩
theorem pwI {X : Cx} {e : Expr} {t t' : TT} (h : PW X e t) (w : ∀ σ H Q, t' σ H Q → t σ H Q) : PW X e t' := ⟨fun wh pins s σ H Q I q => h.run wh pins s σ H Q I (w σ H Q q)⟩
theorem paI {X : Cx} {e : List Expr} {t t' : TA} (h : PA X e t) (w : ∀ σ H Q, t' σ H Q → t σ H Q) : PA X e t' := ⟨fun p pins s σ H Q I q => h.run p pins s σ H Q I (w σ H Q q)⟩
section
variable {X : Cx} {e a b : Expr} {f fa fb : Fe} {da db : Fd} {pos : Pos}
theorem EnvOk.tr {C : Cn} {O : Ow} {K : PySem.W.Frag} {σ : St} {H : Hp} {ρ : List W} {n : Nat} (E : EnvOk C O K σ H ρ n) : ∀ a, C.T = some a → H a ≠ none := fun a e => E.av a (.inr (.inl e))
/-! names, constants -/
def eVar (i : Nat) : Fe := fun ρ n => match ρ[i]? with
  | some (.d x) => some (.d x, n)
  | some .town => some (.town, n)
  | some (.fn g) => some (.fn g, n)
  | _ => none
theorem ev_var {i : Nat} (h : PE X e (tVar i)) : EvE X e (eVar i) := peI h (by
  rintro σ H Q ⟨C, O, ρ, n, w, n', hf, E, q⟩
  unfold eVar at hf
  split at hf
  · rename_i x hx
    cases hf
    obtain ⟨u, h1, h2⟩ := E.sl _ _ hx
    exact ⟨u, h1, q _ _ Step.refl E.town h2⟩
  · rename_i hx
    cases hf
    obtain ⟨u, h1, h2⟩ := E.sl _ _ hx
    exact ⟨_, h2, q _ _ Step.refl E.town ⟨u, h1, rfl⟩⟩
  · rename_i hx
    cases hf
    obtain ⟨u, h1, h2⟩ := E.sl _ _ hx
    exact ⟨_, h1, q _ _ Step.refl E.town h2⟩
  · cases hf)
/-- a name, looked at -/
def dVar (i : Nat) : Fd := fun ρ n => (ρ[i]?.bind W.dat).map (·, n)
theorem eb_var {i : Nat} (h : PE X e (tVar i)) : EvB X e (dVar i) := peI h (by
  rintro σ H Q ⟨C, O, ρ, n, x, n', hf, E, q⟩
  unfold dVar at hf
  cases hx : ρ[i]? with
  | none => rw [hx] at hf; cases hf
  | some w =>
    rw [hx] at hf
    have sl := E.sl _ _ hx
    cases w with
    | no => cases hf
    | town => cases hf
    | d y =>
      cases hf
      obtain ⟨u, h1, h2⟩ := sl
      exact ⟨u, h1, q _ _ Step.refl E.town (.inl h2)⟩
    | ol xs =>
      cases hf
      obtain ⟨a, vs, h1, h2, h3, h4⟩ := sl
      exact ⟨_, h2, q _ _ Step.refl E.town (.inr (.inl ⟨a, vs, xs, rfl, rfl, fun z => (E.own i a h1).1 (.inl z), h3, h4⟩))⟩
    | od kvs =>
      cases hf
      obtain ⟨a, h1, h2, h3⟩ := sl
      exact ⟨_, h2, q _ _ Step.refl E.town (.inr (.inr ⟨a, kvs, rfl, rfl, fun z => (E.own i a h1).1 (.inl z), h3⟩))⟩
    | oll _ => cases hf
    | fn _ => cases hf)
def eC (x : PyData) : Fe := fun _ n => some (.d x, n)
theorem ev_c {v : V} {x : PyData} (h : PE X e (tC v)) (r : ∀ A H, Dv A X.K H v x) : EvE X e (eC x) := peI h (by
  rintro σ H Q ⟨C, O, ρ, n, w, n', hf, E, q⟩
  cases hf
  exact q _ _ Step.refl E.town (r _ _))
theorem ev_int {i j pos} : EvE X (.Constant (.int i) j pos) (eC (.int i)) := ev_c pe_int fun _ _ => .int _
theorem ev_bl {i j pos} : EvE X (.Constant (.bool i) j pos) (eC (.bool i)) := ev_c pe_bl fun _ _ => .bl _
theorem ev_non {j pos} : EvE X (.Constant .none j pos) (eC .none) := ev_c pe_non fun _ _ => .non
theorem ev_str {i j pos} : EvE X (.Constant (.str i) j pos) (eC (.str i)) := ev_c pe_str fun _ _ => .str _
/-- a value that is looked at -/
def dOf (f : Fe) : Fd := fun ρ n => (f ρ n).bind fun p => p.1.dat.map (·, p.2)
theorem eb_of (h : EvE X e f) : EvB X e (dOf f) := peI h (by
  rintro σ H Q ⟨C, O, ρ, n, x, n', hf, E, q⟩
  unfold dOf at hf
  obtain ⟨⟨w, n1⟩, h1, h2⟩ := Option.bind_eq_some_iff.mp hf
  obtain ⟨y, h3, h4⟩ := Option.map_eq_some_iff.mp h2
  cases h4
  exact ⟨C, O, ρ, n, w, n1, h1, E, fun v H' st t r => q v H' st t (r.dat E.tr h3)⟩)
/-- .. kept as it is for ever -/
def eFrz (f : Fe) : Fe := fun ρ n => (f ρ n).map fun p => (p.1.frz, p.2)
theorem ev_frz (h : EvE X e f) : EvE X e (eFrz f) := peI h (by
  rintro σ H Q ⟨C, O, ρ, n, x, n', hf, E, q⟩
  unfold eFrz at hf
  obtain ⟨⟨w, n1⟩, h1, h2⟩ := Option.map_eq_some_iff.mp hf
  cases h2
  exact ⟨C, O, ρ, n, w, n1, h1, E, fun v H' st t r => q v H' st t (r.frz E.av)⟩)
/-! operators -/
def OpV (X : Cx) (f : Value → Value → Sem Value) (g : PyData → PyData → Option W) : Prop := ∃ r : R2, OpR X f r ∧
  ∀ (A : Addr → Prop) (T : Option Addr) (x y : V) (dx dy : PyData) (w : W) (H : Hp) (Q : VK), (∀ a, A a → H a ≠ none) → DvB A T X.K H x dx → DvB A T X.K H y dy → g dx dy = some w →
    (∀ v H', Grow H H' → Res A none X.K H H' v w → Q v H') → r x y H Q
theorem OpV.or {f : Value → Value → Sem Value} {g h : PyData → PyData → Option W} (hg : OpV X f g) (hh : OpV X f h) : OpV X f (fun x y => (g x y).or (h x y)) := by
  obtain ⟨r, h1, h2⟩ := hg
  obtain ⟨r', h1', h2'⟩ := hh
  refine ⟨_, h1.or h1', fun A T x y dx dy w H Q tr rx ry e q => ?_⟩
  have e : (g dx dy).or (h dx dy) = some w := e
  cases hx : g dx dy with
  | none =>
    rw [hx] at e
    exact .inr (h2' A T x y dx dy w H Q tr rx ry (by simpa using e) q)
  | some w' =>
    rw [hx] at e
    exact .inl (h2 A T x y dx dy w H Q tr rx ry (hx.trans (by simpa using e)) q)
def eBin (g : PyData → PyData → Option W) (fa fb : Fd) : Fe := fun ρ n => (fa ρ n).bind fun p => (fb ρ p.2).bind fun q => (g p.1 q.1).map (·, q.2)
theorem Res.none_any {A : Addr → Prop} {T : Option Addr} {K : PySem.W.Frag} {H H' : Hp} {v : V} {w : W} (h : Res A none K H H' v w) : Res A T K H H' v w := by
  cases w with
  | town => obtain ⟨a, e, _⟩ := h; cases e
  | no => exact h
  | d _ => exact h
  | ol _ => exact h
  | od _ => exact h
  | oll _ => exact h
  | fn _ => exact h
theorem Res.back {A : Addr → Prop} {T : Option Addr} {K : PySem.W.Frag} {H0 H H' : Hp} {v : V} {w : W} (b : ∀ a, H a = none → H0 a = none) (h : Res A T K H H' v w) : Res A T K H0 H' v w := by
  cases w with
  | no => exact h
  | d _ => exact h
  | town => exact h
  | ol xs => obtain ⟨a, vs, h1, h2, h3⟩ := h; exact ⟨a, vs, h1, b a h2, h3⟩
  | od xs => obtain ⟨a, h1, h2, h3⟩ := h; exact ⟨a, h1, b a h2, h3⟩
  | oll _ => exact h
  | fn _ => exact h
theorem op_run {fo : Value → Value → Sem Value} {g : PyData → PyData → Option W} {r : R2} {σ : St} {H : Hp} {Q : VK}
    (h2 : ∀ (A : Addr → Prop) (T : Option Addr) (x y : V) (dx dy : PyData) (w : W) (H : Hp) (Q : VK), (∀ a, A a → H a ≠ none) → DvB A T X.K H x dx → DvB A T X.K H y dy → g dx dy = some w → (∀ v H', Grow H H' → Res A none X.K H H' v w → Q v H') → r x y H Q)
    (h : tV X.K (eBin g da db) σ H Q) : tOp r (tVB X.K da) (tVB X.K db) σ H Q := by
  obtain ⟨C, O, ρ, n, w, n', hf, E, q⟩ := h
  unfold eBin at hf
  obtain ⟨⟨x, n1⟩, e1, hf⟩ := Option.bind_eq_some_iff.mp hf
  obtain ⟨⟨y, n2⟩, e2, hf⟩ := Option.bind_eq_some_iff.mp hf
  obtain ⟨z, e3, hf⟩ := Option.map_eq_some_iff.mp hf
  cases hf
  refine ⟨C, O, ρ, n, x, n1, e1, E, fun vx H1 s1 t1 r1 => ?_⟩
  have E1 := E.step s1 t1
  refine ⟨C, O, ρ, n1, y, n2, e2, E1, fun vy H2 s2 t2 r2 => ?_⟩
  have E2 := E1.step s2 t2
  refine h2 (Av C O) C.T vx vy x y w H2 Q E2.av (r1.step s2 Av.t) r2 e3 fun v H3 g3 r3 => ?_
  exact q v H3 ((s1.trans s2).trans g3.step) (g3.town t2) (r3.none_any.back fun a ha => s1.fr a (s2.fr a ha))
theorem ev_bin {op : Operator} {g : PyData → PyData → Option W} (ho : OpV X (binaryOp op) g) (ha : EvB X a da) (hb : EvB X b db) : EvE X (.BinOp a op b pos) (eBin g da db) := by
  obtain ⟨r, h1, h2⟩ := ho
  exact peI (pe_op h1 ha hb) fun σ H Q h => op_run (fo := binaryOp op) h2 h
theorem ev_cmp {op : CmpOp} {g : PyData → PyData → Option W} (ho : OpV X (compareOp op) g) (ha : EvB X a da) (hb : EvB X b db) (hm : behindInMarks op b = false) : EvE X (.Compare a [op] [b] pos) (eBin g da db) := by
  obtain ⟨r, h1, h2⟩ := ho
  exact peI (pe_cmpR h1 ha hb hm) fun σ H Q h => op_run (fo := compareOp op) h2 h
/-- a comparison's truth -/
def bTest (f : Fe) : Ft := fun ρ n => (f ρ n).bind fun p => match p.1 with
  | .d (.bool c) => some (c, p.2)
  | _ => none
theorem tV_bool {K : PySem.W.Frag} {f : Fe} {σ : St} {H : Hp} {Q : Bool → Hp → Prop} (h : tVT K (bTest f) σ H Q) : tV K f σ H (fun x H' => ∃ k, x = .bl k ∧ Q k H') := by
  obtain ⟨C, O, ρ, n, c, n', hf, E, q⟩ := h
  unfold bTest at hf
  obtain ⟨⟨x, n1⟩, e1, hf⟩ := Option.bind_eq_some_iff.mp hf
  cases x with
  | d y =>
    cases y with
    | bool c' =>
      cases hf
      refine ⟨C, O, ρ, n, _, _, e1, E, fun v H' s t r => ?_⟩
      have r : Dv (Av C O) K H' v (.bool c) := r
      cases r
      exact ⟨c, rfl, q H' s t⟩
    | _ => cases hf
  | _ => cases hf
theorem et_cmp {op : CmpOp} {g : PyData → PyData → Option W} (ho : OpV X (compareOp op) g) (ha : EvB X a da) (hb : EvB X b db) (hm : behindInMarks op b = false) : EvT X (.Compare a [op] [b] pos) (bTest (eBin g da db)) := by
  obtain ⟨r, h1, h2⟩ := ho
  exact ptI (pt_cmpR h1 ha hb hm) fun σ H Q h => op_run (fo := compareOp op) h2 (tV_bool h)
/-! truth -/
def dTru : PyData → Option Bool
  | .none => some false
  | .bool b => some b
  | .int i => some (i != 0)
  | .str y => if y.length ≤ sizeLine then some ((y.length : Int) != 0) else none
  | .list xs => some (!xs.isEmpty)
  | .tuple xs => some (!xs.isEmpty)
  | .dict _ => none
def bTru (f : Fd) : Ft := fun ρ n => (f ρ n).bind fun p => (dTru p.1).map (·, p.2)
theorem DvAll.empty {A : Addr → Prop} {K : PySem.W.Frag} {H : Hp} {vs : List V} {ds : List PyData} (h : DvAll A K H vs ds) : vs.isEmpty = ds.isEmpty := by cases h <;> rfl
theorem DvB.tup {A : Addr → Prop} {T : Option Addr} {K : PySem.W.Frag} {H : Hp} {v : V} {ds : List PyData} (h : DvB A T K H v (.tuple ds)) : ∃ a xs, v = .ref a ∧ SqT K H a xs ∧ DvAll A K H xs ds ∧ Dv A K H v (.tuple ds) := by
  rcases h with h | ⟨a, vs, ds, h1, h2, _⟩ | ⟨a, kvs, h1, h2, _⟩
  · cases id h with
    | tup hs ha => exact ⟨_, _, rfl, sqT_of hs, ha, h⟩
  · cases h2
  · cases h2
theorem DvB.lst {A : Addr → Prop} {T : Option Addr} {K : PySem.W.Frag} {H : Hp} {v : V} {ds : List PyData} (h : DvB A T K H v (.list ds)) : ∃ a xs, v = .ref a ∧ SqL K H a xs ∧ DvAll A K H xs ds := by
  rcases h with h | ⟨a, vs, ds, h1, h2, h3, h4, h5⟩ | ⟨a, kvs, h1, h2, _⟩
  · cases h with
    | lst hs ha => exact ⟨_, _, rfl, hs.elim (fun z => .inl z.2) sqLz, ha⟩
  · cases h2
    exact ⟨a, vs, h1, SqL.of h4, h5⟩
  · cases h2
theorem DvB.int {A : Addr → Prop} {T : Option Addr} {K : PySem.W.Frag} {H : Hp} {v : V} {i : Int} (h : DvB A T K H v (.int i)) : v = .int i := by
  rcases h with h | ⟨a, vs, ds, h1, h2, _⟩ | ⟨a, kvs, h1, h2, _⟩
  · cases h; rfl
  · cases h2
  · cases h2
theorem DvB.str {A : Addr → Prop} {T : Option Addr} {K : PySem.W.Frag} {H : Hp} {v : V} {i : Str} (h : DvB A T K H v (.str i)) : v = .str i := by
  rcases h with h | ⟨a, vs, ds, h1, h2, _⟩ | ⟨a, kvs, h1, h2, _⟩
  · cases h; rfl
  · cases h2
  · cases h2
theorem DvB.bl {A : Addr → Prop} {T : Option Addr} {K : PySem.W.Frag} {H : Hp} {v : V} {i : Bool} (h : DvB A T K H v (.bool i)) : v = .bl i := by
  rcases h with h | ⟨a, vs, ds, h1, h2, _⟩ | ⟨a, kvs, h1, h2, _⟩
  · cases h; rfl
  · cases h2
  · cases h2
theorem DvB.non {A : Addr → Prop} {T : Option Addr} {K : PySem.W.Frag} {H : Hp} {v : V} (h : DvB A T K H v .none) : v = .non := by
  rcases h with h | ⟨a, vs, ds, h1, h2, _⟩ | ⟨a, kvs, h1, h2, _⟩
  · cases h; rfl
  · cases h2
  · cases h2
theorem DvB.dct {A : Addr → Prop} {T : Option Addr} {K : PySem.W.Frag} {H : Hp} {v : V} {kvs : List (PyData × PyData)} (h : DvB A T K H v (.dict kvs)) : ∃ a, v = .ref a ∧ DctAt A K H a kvs := by
  rcases h with h | ⟨a, vs, ds, h1, h2, _⟩ | ⟨a, kvs, h1, h2, h3, h4⟩
  · cases h
  · cases h2
  · cases h2; exact ⟨a, h1, h4⟩
theorem dTru_ok {A : Addr → Prop} {T : Option Addr} {K : PySem.W.Frag} {H : Hp} {v : V} {x : PyData} {c : Bool} (h : DvB A T K H v x) (e : dTru x = some c) : TruV K v H c := by
  cases x with
  | none => have := h.non; subst this; cases e; rfl
  | bool b => have := h.bl; subst this; cases e; rfl
  | int i => have := h.int; subst this; cases e; rfl
  | str y =>
    have := h.str; subst this
    simp only [dTru] at e
    split at e
    · rename_i hy
      cases e; exact ⟨hy, rfl⟩
    · cases e
  | list xs =>
    obtain ⟨a, vs, rfl, h1, h2⟩ := h.lst
    cases e
    exact .inl ⟨vs, h1, by rw [h2.empty]⟩
  | tuple xs =>
    obtain ⟨a, vs, rfl, h1, h2, _⟩ := h.tup
    cases e
    exact .inr (.inl ⟨vs, h1, by rw [h2.empty]⟩)
  | dict _ => cases e
theorem et_tru (ha : EvB X a da) (he : ∀ whole, isTrue a X.env whole = (do let v ← whole; standAt a.pos; holding [v] (truthy v))) : EvT X a (bTru da) := ptI (pt_truth ha he) (by
  rintro σ H Q ⟨C, O, ρ, n, c, n', hf, E, q⟩
  unfold bTru at hf
  obtain ⟨⟨x, n1⟩, e1, hf⟩ := Option.bind_eq_some_iff.mp hf
  obtain ⟨z, e3, hf⟩ := Option.map_eq_some_iff.mp hf
  cases hf
  exact ⟨C, O, ρ, n, x, n1, e1, E, fun v H' s t r => ⟨c, dTru_ok r e3, q H' s t⟩⟩)
/-! and, or, not, if -/
variable {ta tb tc : Ft} {rest : List Expr} {c : Expr}
def bAnd (ta tb : Ft) : Ft := fun ρ n => (ta ρ n).bind fun p => if p.1 then tb ρ p.2 else some (false, p.2)
def bOr (ta tb : Ft) : Ft := fun ρ n => (ta ρ n).bind fun p => if p.1 then some (true, p.2) else tb ρ p.2
def bNot (ta : Ft) : Ft := fun ρ n => (ta ρ n).map fun p => (!p.1, p.2)
theorem ew_and1 (ha : EvT X a ta) : EvW X (.BoolOp .And [a] pos) ta := pw_and1 ha
theorem ew_or1 (ha : EvT X a ta) : EvW X (.BoolOp .Or [a] pos) ta := pw_or1 ha
theorem ew_and (ha : EvT X a ta) (hb : EvW X (.BoolOp .And (b :: rest) pos) tb) : EvW X (.BoolOp .And (a :: b :: rest) pos) (bAnd ta tb) := pwI (pw_and ha hb) (by
  rintro σ H Q ⟨C, O, ρ, n, c, n', hf, E, q⟩
  unfold bAnd at hf
  obtain ⟨⟨x, n1⟩, e1, hf⟩ := Option.bind_eq_some_iff.mp hf
  refine ⟨C, O, ρ, n, x, n1, e1, E, fun H1 s1 t1 => ?_⟩
  cases x with
  | true =>
    rw [if_pos rfl]
    exact ⟨C, O, ρ, n1, c, n', by simpa using hf, E.step s1 t1, fun H2 s2 t2 => q H2 (s1.trans s2) t2⟩
  | false =>
    rw [if_neg (by simp)]
    simp at hf
    obtain ⟨rfl, rfl⟩ := hf
    exact q H1 s1 t1)
theorem ew_or (ha : EvT X a ta) (hb : EvW X (.BoolOp .Or (b :: rest) pos) tb) : EvW X (.BoolOp .Or (a :: b :: rest) pos) (bOr ta tb) := pwI (pw_or ha hb) (by
  rintro σ H Q ⟨C, O, ρ, n, c, n', hf, E, q⟩
  unfold bOr at hf
  obtain ⟨⟨x, n1⟩, e1, hf⟩ := Option.bind_eq_some_iff.mp hf
  refine ⟨C, O, ρ, n, x, n1, e1, E, fun H1 s1 t1 => ?_⟩
  cases x with
  | false =>
    rw [if_neg (by simp)]
    exact ⟨C, O, ρ, n1, c, n', by simpa using hf, E.step s1 t1, fun H2 s2 t2 => q H2 (s1.trans s2) t2⟩
  | true =>
    rw [if_pos rfl]
    simp at hf
    obtain ⟨rfl, rfl⟩ := hf
    exact q H1 s1 t1)
theorem et_w (h : EvW X a ta) : EvT X a ta := h.pt
theorem et_not (ha : EvT X a ta) : EvT X (.UnaryOp .Not a pos) (bNot ta) := ptI (pt_not ha) (by
  rintro σ H Q ⟨C, O, ρ, n, c, n', hf, E, q⟩
  unfold bNot at hf
  obtain ⟨⟨x, n1⟩, e1, hf⟩ := Option.map_eq_some_iff.mp hf
  cases hf
  exact ⟨C, O, ρ, n, x, n1, e1, E, fun H1 s1 t1 => q H1 s1 t1⟩)
def eIf (tc : Ft) (fa fb : Fe) : Fe := fun ρ n => (tc ρ n).bind fun p => if p.1 then fa ρ p.2 else fb ρ p.2
theorem Res.step0 {A : Addr → Prop} {T : Option Addr} {K : PySem.W.Frag} {C : Cn} {H H1 H' : Hp} {v : V} {w : W} (s : Step C H H1) (h : Res A T K H1 H' v w) : Res A T K H H' v w := h.back s.fr
theorem ev_ife (hc : EvT X c tc) (ha : EvE X a fa) (hb : EvE X b fb) : EvE X (.IfExp c a b pos) (eIf tc fa fb) := peI (pe_ifExp hc ha hb) (by
  rintro σ H Q ⟨C, O, ρ, n, w, n', hf, E, q⟩
  unfold eIf at hf
  obtain ⟨⟨x, n1⟩, e1, hf⟩ := Option.bind_eq_some_iff.mp hf
  refine ⟨C, O, ρ, n, x, n1, e1, E, fun H1 s1 t1 => ?_⟩
  cases x with
  | true => exact ⟨C, O, ρ, n1, w, n', by simpa using hf, E.step s1 t1, fun v H2 s2 t2 r => q v H2 (s1.trans s2) t2 (r.step0 s1)⟩
  | false => exact ⟨C, O, ρ, n1, w, n', by simpa using hf, E.step s1 t1, fun v H2 s2 t2 r => q v H2 (s1.trans s2) t2 (r.step0 s1)⟩)
/-- and, or, not as values (bools) -/
def eB (t : Ft) : Fe := fun ρ n => (t ρ n).map fun p => (.d (.bool p.1), p.2)
/-- and as a value: all but the last are truths -/
def eAnd (fa fb : Fe) : Fe := fun ρ n => (fa ρ n).bind fun p => match p.1 with
  | .d (.bool true) => fb ρ p.2
  | .d (.bool false) => some (.d (.bool false), p.2)
  | _ => none
def eOr (fa fb : Fe) : Fe := fun ρ n => (fa ρ n).bind fun p => match p.1 with
  | .d (.bool false) => fb ρ p.2
  | .d (.bool true) => some (.d (.bool true), p.2)
  | _ => none
theorem ev_one {op : BoolOp} (ha : EvE X a fa) : EvE X (.BoolOp op [a] pos) fa := pe_one ha
theorem ev_and (ha : EvE X a fa) (hb : EvE X (.BoolOp .And (b :: rest) pos) fb) : EvE X (.BoolOp .And (a :: b :: rest) pos) (eAnd fa fb) := peI (pe_and ha hb) (by
  rintro σ H Q ⟨C, O, ρ, n, w, n', hf, E, q⟩
  unfold eAnd at hf
  obtain ⟨⟨x, n1⟩, e1, hf⟩ := Option.bind_eq_some_iff.mp hf
  refine ⟨C, O, ρ, n, x, n1, e1, E, fun v H1 s1 t1 r => ?_⟩
  simp only at hf
  split at hf
  · have r : Dv (Av C O) X.K H1 v (.bool true) := r
    cases r
    exact ⟨true, rfl, C, O, ρ, n1, w, n', hf, E.step s1 t1, fun v H2 s2 t2 r => q v H2 (s1.trans s2) t2 (r.step0 s1)⟩
  · have r : Dv (Av C O) X.K H1 v (.bool false) := r
    cases r
    cases hf
    exact ⟨false, rfl, q _ _ s1 t1 (.bl _)⟩
  · cases hf)
end
end L2.Lv
namespace L2.Lv
open PySem PySem.Spec PyProof.Rows
abbrev Fds := List W → Nat → Option (List PyData × Nat)
abbrev DvBs (A : Addr → Prop) (T : Option Addr) (K : PySem.W.Frag) (H : Hp) : List V → List PyData → Prop := Paired (DvB A T K H)
def tVD (K : PySem.W.Frag) (f : Fds) : TA := fun σ H Q => ∃ C O ρ n xs n', f ρ n = some (xs, n') ∧ EnvOk C O K σ H ρ n ∧ ∀ vs H', Step C H H' → TownAt C H' n' → DvBs (Av C O) C.T K H' vs xs → Q vs H'
structure EvA (X : Cx) (es : List Expr) (f : Fa) : Prop where
  pa : PA X es (tVA X.K f)
  len : ∀ ρ n ws n', f ρ n = some (ws, n') → ws.length = es.length
abbrev EvD (X : Cx) (es : List Expr) (f : Fds) : Prop := PA X es (tVD X.K f)
section
variable {X : Cx} {e a b : Expr} {es : List Expr} {f fa fb : Fe} {d da db : Fd} {fs : Fa} {ds : Fds} {pos : Pos}
/-! arguments -/
def aNil : Fa := fun _ n => some ([], n)
def W.arg : W → Option W
  | .d x => some (.d x)
  | .ol xs => some (.d (.list xs))
  | .town => some .town
  | .fn g => some (.fn g)
  | _ => none
def aCons (f : Fe) (fs : Fa) : Fa := fun ρ n => (f ρ n).bind fun p => p.1.arg.bind fun w => (fs ρ p.2).map fun q => (w :: q.1, q.2)
theorem ArgOk.step {C : Cn} {A : Addr → Prop} {K : PySem.W.Frag} {H H' : Hp} {v : V} {w : W} (s : Step C H H') (t : ∀ a, TX C a → A a) (h : ArgOk A C.T K H v w) : ArgOk A C.T K H' v w := by
  cases w with
  | d x => exact Dv.mono (s.keep t) h
  | town => exact h
  | no => exact h
  | ol _ => exact h
  | od _ => exact h
  | oll _ => exact h
  | fn _ => exact FnV.mono h (s.keep t)
theorem Res.arg {A : Addr → Prop} {T : Option Addr} {K : PySem.W.Frag} {H H' : Hp} {v : V} {w w' : W} (tr : ∀ a, A a → H a ≠ none) (h : Res A T K H H' v w) (e : w.arg = some w') : ArgOk A T K H' v w' := by
  have q := h.frz tr
  cases w with
  | d x => cases e; exact q
  | ol x => cases e; exact q
  | town => cases e; exact q
  | no => cases e
  | od _ => cases e
  | oll _ => cases e
  | fn _ => cases e; exact q
theorem ea_nil : EvA X [] aNil := ⟨paI pa_nil (by
  rintro σ H Q ⟨C, O, ρ, n, w, n', hf, E, q⟩
  cases hf
  exact q _ _ Step.refl E.town .nil), by rintro ρ n ws n' h; cases h; rfl⟩
theorem ea_cons (ha : EvE X e f) (hr : EvA X es fs) (hs : starEach (e :: es) X.env = (false, eval e X.env) :: starEach es X.env := by rfl) : EvA X (e :: es) (aCons f fs) := by
  refine ⟨paI (pa_cons ha hr.pa hs) ?_, ?_⟩
  · rintro σ H Q ⟨C, O, ρ, n, w, n', hf, E, q⟩
    unfold aCons at hf
    obtain ⟨⟨x, n1⟩, e1, hf⟩ := Option.bind_eq_some_iff.mp hf
    obtain ⟨x', e2, hf⟩ := Option.bind_eq_some_iff.mp hf
    obtain ⟨⟨ws, n2⟩, e3, hf⟩ := Option.map_eq_some_iff.mp hf
    cases hf
    refine ⟨C, O, ρ, n, x, n1, e1, E, fun v H1 s1 t1 r1 => ?_⟩
    refine ⟨C, O, ρ, n1, ws, n2, e3, E.step s1 t1, fun vs H2 s2 t2 r2 => ?_⟩
    exact q _ _ (s1.trans s2) t2 (.cons ((r1.arg E.av e2).step s2 Av.t) r2)
  · intro ρ n ws n' h
    unfold aCons at h
    obtain ⟨⟨x, n1⟩, e1, h⟩ := Option.bind_eq_some_iff.mp h
    obtain ⟨x', e2, h⟩ := Option.bind_eq_some_iff.mp h
    obtain ⟨⟨ws, n2⟩, e3, h⟩ := Option.map_eq_some_iff.mp h
    cases h
    simp [hr.len _ _ _ _ e3]
def sNil : Fds := fun _ n => some ([], n)
def sCons (f : Fd) (fs : Fds) : Fds := fun ρ n => (f ρ n).bind fun p => (fs ρ p.2).map fun q => (p.1 :: q.1, q.2)
theorem ed_nil : EvD X [] sNil := paI pa_nil (by
  rintro σ H Q ⟨C, O, ρ, n, w, n', hf, E, q⟩
  cases hf
  exact q _ _ Step.refl E.town .nil)
theorem DvBs.step {C : Cn} {A : Addr → Prop} {K : PySem.W.Frag} {H H' : Hp} (s : Step C H H') (t : ∀ a, TX C a → A a) {vs : List V} {xs : List PyData} (h : DvBs A C.T K H vs xs) : DvBs A C.T K H' vs xs := Paired.impl (fun _ _ z => DvB.step s t z) h
theorem ed_cons (ha : EvB X e d) (hr : EvD X es ds) (hs : starEach (e :: es) X.env = (false, eval e X.env) :: starEach es X.env := by rfl) : EvD X (e :: es) (sCons d ds) := paI (pa_cons ha hr hs) (by
  rintro σ H Q ⟨C, O, ρ, n, w, n', hf, E, q⟩
  unfold sCons at hf
  obtain ⟨⟨x, n1⟩, e1, hf⟩ := Option.bind_eq_some_iff.mp hf
  obtain ⟨⟨ws, n2⟩, e3, hf⟩ := Option.map_eq_some_iff.mp hf
  cases hf
  refine ⟨C, O, ρ, n, x, n1, e1, E, fun v H1 s1 t1 r1 => ?_⟩
  refine ⟨C, O, ρ, n1, ws, n2, e3, E.step s1 t1, fun vs H2 s2 t2 r2 => ?_⟩
  exact q _ _ (s1.trans s2) t2 (.cons (r1.step s2 Av.t) r2))
/-! displays -/
def W.val : W → Option PyData
  | .d x => some x
  | _ => none
def vals : List W → Option (List PyData)
  | [] => some []
  | w :: ws => w.val.bind fun x => (vals ws).map (x :: ·)
theorem vals_ok {A : Addr → Prop} {T : Option Addr} {K : PySem.W.Frag} {H : Hp} : ∀ {ws : List W} {vs : List V} {xs : List PyData}, ArgsOk A T K H vs ws → vals ws = some xs → DvAll A K H vs xs ∧ xs.length = ws.length
  | _, _, _, .nil, e => by cases e; exact ⟨.nil, rfl⟩
  | w :: ws, _, _, .cons r t, e => by
    unfold vals at e
    obtain ⟨x, e1, e⟩ := Option.bind_eq_some_iff.mp e
    obtain ⟨ys, e2, e⟩ := Option.map_eq_some_iff.mp e
    cases e
    obtain ⟨q1, q2⟩ := vals_ok t e2
    cases w with
    | d y => cases e1; exact ⟨.cons r q1, by simp [q2]⟩
    | _ => cases e1
def eTup (fs : Fa) : Fe := fun ρ n => (fs ρ n).bind fun p => (vals p.1).map fun xs => (.d (.tuple xs), p.2)
def eLst (fs : Fa) : Fe := fun ρ n => (fs ρ n).bind fun p => (vals p.1).map fun xs => (.ol xs, p.2)
theorem small_line {n : Nat} (h : n ≤ 1000) : n ≤ sizeLine := Nat.le_of_lt (small1000 h)
theorem new_tup {A : Addr → Prop} {K : PySem.W.Frag} {H : Hp} {p : Addr} {vs : List V} {xs : List PyData} {o : Obj} (hp : H p = none) (tr : ∀ a, A a → H a ≠ none) (ho : o.dict = none) (h : DvAll A K H vs xs) : Dv A K (upd H p (.frz o (.tup vs))) (.ref p) (.tuple xs) :=
  .tup (.inl ⟨fun z => tr p z hp, o, upd_same, ho⟩) (h.mono (Grow.upd hp).keep)
/-! tuples as they are made -/
def rNewT (xs : List V) (H : Hp) (Q : VK) : Prop := ∀ p o, o.dict = none → H p = none → Q (.ref p) (upd H p (.frz o (.tup xs)))
theorem Inv.newT {pins : List (Addr × Obj)} {σ : St} {H : Hp} {s : Shared} {Q : VK} {xs : List V} {us : List Value} (I : Inv X pins σ H s) (r : Vals xs us) (hz : xs.length ≤ sizeLine) (q : rNewT xs H Q) :
    EP X pins σ Q (.ref s.heap.objs.size) { s with heap := s.heap.push { cls := .type "tuple", data := .seq us.toArray } } :=
  ⟨.ref s.heap.objs.size, _, I.laid (t' := s.toks) (o := .frz { cls := .type "tuple", data := .seq us.toArray } (.tup xs)) (fun b u e => Heap.get?_push_of_some _ e) (Nat.le_refl _) ⟨Heap.get?_push_size _ rfl, hz, us, r, IsTup.new _ _⟩, rfl,
    q _ _ rfl (I.hok.fresh (Nat.le_refl _))⟩
def tTupF (t : L2.TA) : TE := fun σ H Q => t σ H fun xs H1 => xs.length ≤ sizeLine ∧ rNewT xs H1 Q
theorem pe_tupF {t : L2.TA} {x1} (h : PA X es t) : PE X (.Tuple es x1 pos) (tTupF t) := ⟨fun pins s σ H Q I hq =>
  wpAny_Tuple_spliced (thn (h.run pos pins s σ H _ I hq) fun us s1 ⟨xs, H1, I1, r, z, q⟩ => ⟨by rw [← r.length]; exact z, Inv.newT I1 r z q⟩)⟩
/-- t + u -/
def rCatF (K : PySem.W.Frag) : R2 := fun x y H Q => ∃ a b xs ys, x = .ref a ∧ y = .ref b ∧ SqT K H a xs ∧ SqT K H b ys ∧ xs.length + ys.length ≤ sizeLine ∧
  (xs = [] → Q (.ref b) H) ∧ (ys = [] → Q (.ref a) H) ∧ rNewT (xs ++ ys) H Q
theorem op_catF : OpR X (binaryOp .Add) (rCatF X.K) := by
  rintro pins s σ H x y v u Q I rx ry ⟨a, b, xs, ys, rfl, rfl, ha, hb, hz, q0, q1, q2⟩
  have hv : v = .ref a := rx
  have hu : u = .ref b := ry
  subst hv hu
  obtain ⟨its, r1, p1, _⟩ := I.tuple ha
  obtain ⟨its2, r2, p2, _⟩ := I.tuple hb
  by_cases hx : xs = []
  · subst hx
    cases r1
    exact cat_tup0 p1 p2 ⟨.ref b, H, I, rfl, q0 rfl⟩
  · refine HT.cat_tup p1 p2 (fun z => hx (r1.nil_iff.mp z)) (fun z => ⟨.ref a, H, I, rfl, q1 (r2.nil_iff.mp z)⟩) (fun _ => ?_) (by rw [← r1.length, ← r2.length]; exact hz)
    exact Inv.newT I (r1.append r2) (by rw [List.length_append]; exact hz) q2
/-- t[lo:hi] -/
def rSlF (K : PySem.W.Frag) : V → Option Int → Option Int → Hp → VK → Prop := fun x lo hi H Q => ∃ a xs, x = .ref a ∧ SqT K H a xs ∧
  (HT.sIx xs.length 0 lo = 0 ∧ HT.sIx xs.length xs.length hi = xs.length → Q (.ref a) H) ∧ rNewT (cutV xs lo hi) H Q
theorem sl_tupF : SlR X (rSlF X.K) := by
  rintro pins s σ H x v vl vu lo hi sl Q I rx hs pl pu ⟨a, xs, rfl, hx, q1, q2⟩
  by_cases hw : HT.sIx xs.length 0 lo = 0 ∧ HT.sIx xs.length xs.length hi = xs.length
  · exact sl_tupA pins s σ H _ v vl vu lo hi sl Q I rx hs pl pu ⟨a, xs, rfl, hx, q1, fun z => (z hw).elim⟩
  · have hv : v = .ref a := rx
    subst hv
    obtain ⟨its, r, ht, hz⟩ := I.tuple hx
    have hlen : its.toArray.size = xs.length := by rw [List.size_toArray]; exact r.length.symm
    refine ⟨"tuple", _, PyProof.Rows.slot_tuple_getitem.lookup, ht.typeIs, HT.getItem_tuple_cut ht hs pl pu (by rw [hlen]; exact hw) ?_ (by rw [hlen]; exact hz)⟩
    rw [hlen]
    exact Inv.newT I ((r.drop _).take _) (Nat.le_trans (cutV_length xs lo hi) hz) q2
/-- tuple(x) -/
theorem call_tupF : CallR X (.type "tuple") (fun xs H Q => ∃ p ys, xs = [.ref p] ∧ ((SqL X.K H p ys ∧ rNewT ys H Q) ∨ (SqT X.K H p ys ∧ Q (.ref p) H))) := by
  rintro pins s σ H xs us Q I r ⟨p, ys, rfl, h⟩
  obtain ⟨u, rfl, rx⟩ := vals1 r
  have hu : u = .ref p := rx
  subst hu
  rcases h with ⟨hq, q⟩ | ⟨hq, q⟩
  · obtain ⟨its, r', pl, hz⟩ := I.list hq
    have hlen := r'.length
    refine call_tuple_list pl.isList (fun h' kp => ?_) (by simp only [List.size_toArray] <;> omega)
    exact Inv.newT (I.kept (t' := s.toks) kp) r' hz q
  · obtain ⟨its, r', pl, hz⟩ := I.tuple hq
    exact call_tuple_same pl ⟨.ref p, H, I, rfl, q⟩
theorem new_lst {A : Addr → Prop} {T : Option Addr} {K : PySem.W.Frag} {H : Hp} {p : Addr} {vs : List V} {xs : List PyData} (hp : H p = none) (h : DvAll A K H vs xs) : Res A T K H (upd H p (.lst vs)) (.ref p) (.ol xs) :=
  ⟨p, vs, rfl, hp, upd_same, h.mono fun a u n r => ⟨fun z => z.elim n fun e => (by rw [e, hp] at r; cases r), Grow.upd hp _ _ r⟩⟩
theorem ev_tup {x1} (h : EvA X es fs) (hz : es.length ≤ 1000 := by decide) : EvE X (.Tuple es x1 pos) (eTup fs) := peI (pe_tupF h.pa) (by
  rintro σ H Q ⟨C, O, ρ, n, w, n', hf, E, q⟩
  unfold eTup at hf
  obtain ⟨⟨ws, n1⟩, e1, hf⟩ := Option.bind_eq_some_iff.mp hf
  obtain ⟨xs, e2, hf⟩ := Option.map_eq_some_iff.mp hf
  cases hf
  refine ⟨C, O, ρ, n, ws, _, e1, E, fun vs H1 s1 t1 r1 => ?_⟩
  obtain ⟨d1, d2⟩ := vals_ok r1 e2
  have hl := h.len _ _ _ _ e1
  refine ⟨by rw [d1.length]; exact small_line (by omega), fun p o ho hp => ?_⟩
  exact q _ _ (s1.trans (Grow.upd hp).step) ((Grow.upd hp).town t1) (new_tup hp (E.step s1 t1).av ho d1))
theorem ev_lst (h : EvA X es fs) (hz : es.length ≤ 1000 := by decide) : EvE X (.List es pos) (eLst fs) := peI (pe_lst h.pa) (by
  rintro σ H Q ⟨C, O, ρ, n, w, n', hf, E, q⟩
  unfold eLst at hf
  obtain ⟨⟨ws, n1⟩, e1, hf⟩ := Option.bind_eq_some_iff.mp hf
  obtain ⟨xs, e2, hf⟩ := Option.map_eq_some_iff.mp hf
  cases hf
  refine ⟨C, O, ρ, n, ws, _, e1, E, fun vs H1 s1 t1 r1 => ?_⟩
  obtain ⟨d1, d2⟩ := vals_ok r1 e2
  have hl := h.len _ _ _ _ e1
  refine ⟨by rw [d1.length]; exact small_line (by omega), fun p hp => ?_⟩
  exact q _ _ (s1.trans (Grow.upd hp).step) ((Grow.upd hp).town t1) ((new_lst hp d1).back s1.fr))
/-! calls of a def -/
abbrev Fn := List W → Nat → Option (W × Nat)
/-- the promise: by value -/
def spOf (K : PySem.W.Frag) (k : Nat) (F : Fn) : Sp := fun vs H Q E => ∃ (C : Cn) (ws : List W) (n : Nat) (w : W) (n' : Nat), C.H0 = H ∧
  (∀ a, C.P a → H a ≠ none) ∧ TownAt C H n ∧ ws.length = k ∧ ArgsOk (Av C Ow0) C.T K H vs ws ∧ F ws n = some (w, n') ∧ (∀ x ∈ tabsOf K, C.B x.1 x.2) ∧ TabG C Ow0 H ∧
  ∀ v H', Step C H H' → TownAt C H' n' → Res (Av C Ow0) C.T K H H' v w → Q v H'
theorem spOf.len {K : PySem.W.Frag} {k : Nat} {F : Fn} : ∀ vs H Q E, spOf K k F vs H Q E → vs.length = k := by
  rintro vs H Q E ⟨C, ws, n, w, n', _, _, _, hl, ha, _⟩
  rw [← hl]
  exact Paired.length ha
def eCall (F : Fn) (fs : Fa) : Fe := fun ρ n => (fs ρ n).bind fun p => F p.1 p.2
theorem Res.av {A A' : Addr → Prop} {T : Option Addr} {K : PySem.W.Frag} {H H' : Hp} {v : V} {w : W} (i : ∀ a, A' a → A a) (h : Res A T K H H' v w) : Res A' T K H H' v w := by
  cases w with
  | no => exact h
  | d _ => exact Dv.mono (fun a u n r => ⟨fun z => n (i a z), r⟩) h
  | town => exact h
  | ol xs => obtain ⟨a, vs, h1, h2, h3, h4⟩ := h; exact ⟨a, vs, h1, h2, h3, h4.mono fun b u n r => ⟨fun z => n (z.imp (i b) id), r⟩⟩
  | od xs => obtain ⟨a, h1, h2, h3⟩ := h; exact ⟨a, h1, h2, h3.mono (fun b u n r => ⟨fun z => n (z.imp (i b) id), r⟩) fun o e => e⟩
  | oll _ => exact h
  | fn _ => exact FnV.mono h (fun a u n r => ⟨fun z => n (i a z), r⟩)
/-- what the called one is told -/
def callC (C : Cn) (O : Ow) (H1 : Hp) : Cn := ⟨C.T, fun a => C.P a ∨ ∃ i, O i = some a, H1, C.B, fun a q h => .inl (C.bp a q h), C.bf⟩
theorem EnvOk.callT {C : Cn} {O : Ow} {K : PySem.W.Frag} {σ : St} {H1 : Hp} {ρ : List W} {n : Nat} (E : EnvOk C O K σ H1 ρ n) (av1 : ∀ a, Av (callC C O H1) Ow0 a → Av C O a) : TabG (callC C O H1) Ow0 H1 := fun P q h =>
  ⟨(E.tb P q h).1.go (fun _ e => e) fun c n e => ⟨fun z => n (av1 c z), e⟩, fun G _ t => t⟩
theorem call_run {k : Nat} {F : Fn} (h0 : EvA X es fs) (hk : es.length = k) {σ : St} {H : Hp} {Q : VK} (h : tV X.K (eCall F fs) σ H Q) : tCall (spOf X.K k F) [] E0 (tVA X.K fs) σ H Q := by
  obtain ⟨C, O, ρ, n, w, n', hf, E, q⟩ := h
  unfold eCall at hf
  obtain ⟨⟨ws, n1⟩, e1, hf⟩ := Option.bind_eq_some_iff.mp hf
  refine ⟨C, O, ρ, n, ws, n1, e1, E, fun vs H1 s1 t1 r1 => ?_⟩
  have E1 := E.step s1 t1
  have av1 : ∀ a, Av (callC C O H1) Ow0 a → Av C O a := by
    rintro a ((z | z) | z | ⟨i, z⟩)
    · exact .inl z
    · exact .inr (.inr z)
    · exact .inr (.inl z)
    · cases z
  have av2 : ∀ a, Av C O a → Av (callC C O H1) Ow0 a := by
    rintro a (z | z | z)
    · exact .inl (.inl z)
    · exact .inr (.inl z)
    · exact .inl (.inr z)
  show spOf X.K k F (vs ++ []) H1 Q E0
  rw [List.append_nil]
  refine ⟨callC C O H1, ws, n1, w, n', rfl, fun a z => E1.av a (z.elim .inl fun z => .inr (.inr z)), t1, ?_, ?_, hf, E1.tk, E1.callT av1, fun v H2 s2 t2 r2 => ?_⟩
  · rw [h0.len _ _ _ _ e1, hk]
  · refine Paired.impl (fun v w z => ?_) r1
    cases w with
    | d x => exact Dv.mono (fun a u n r => ⟨fun z => n (av1 a z), r⟩) z
    | town => exact z
    | no => exact z
    | ol _ => exact z
    | od _ => exact z
    | oll _ => exact z
    | fn _ => exact FnV.mono z (fun a u n r => ⟨fun z => n (av1 a z), r⟩)
  · have s2' : Step C H1 H2 := ⟨s2.st0, s2.fr, s2.tb⟩
    exact q v H2 (s1.trans s2') t2 ((r2.av av2).back s1.fr)
section
variable {k j : Nat} {F : Fn} {g : Addr} {fd : FuncData} {ps : List Str} {x : Str} {p : Pos}
theorem ev_call (G : FnOk X.prog X.w X.K X.mg X.base CX0 j g fd ps (spOf X.K k F)) (hr : Room j X.A) (hg : Gl X x) (hm : X.mg x = some (.ref g)) (hk : PySem.W.keepIn X.K (.ref g) = true) (hb : Binds X.K fd ps []) (ha : EvA X (e :: es) fs)
    (hl : (e :: es).length = k := by rfl) (hdb : (x == ("__debug__" : Str)) = false := by decide) (he : starEach (e :: es) X.env = (false, eval e X.env) :: starEach es X.env := by rfl) (hpl : (backTo pos (starEach es X.env)).any (·.1) = false := by rfl) :
    EvE X (.Call (.Name x p) (e :: es) [] pos) (eCall F fs) := peI (pe_call G hr hg hm hk hb .nil pass0 ha.pa hdb he hpl) fun σ H Q h => call_run ha hl h
theorem ev_call0 (G : FnOk X.prog X.w X.K X.mg X.base CX0 j g fd ps (spOf X.K 0 F)) (hr : Room j X.A) (hg : Gl X x) (hm : X.mg x = some (.ref g)) (hk : PySem.W.keepIn X.K (.ref g) = true) (hb : Binds X.K fd ps [])
    (hdb : (x == ("__debug__" : Str)) = false := by decide) : EvE X (.Call (.Name x p) [] [] pos) (eCall F aNil) := peI (pe_call0 G hr hg hm hk hb .nil pass0 hdb) fun σ H Q h => by
  obtain ⟨C, O, ρ, n, w, n', hf, E, q⟩ := h
  obtain ⟨C', O', ρ', n0, ws, n1, e1, E1, h1⟩ := call_run (fs := aNil) (F := F) ea_nil rfl ⟨C, O, ρ, n, w, n', hf, E, q⟩
  cases e1
  exact h1 [] H Step.refl E1.town .nil
end
/-! calls of built-ins, by values -/
def CallV (X : Cx) (f : Value) (g : List PyData → Option W) : Prop := ∃ r, CallR X f r ∧
  ∀ (A : Addr → Prop) (T : Option Addr) (vs : List V) (xs : List PyData) (w : W) (H : Hp) (Q : VK), (∀ a, A a → H a ≠ none) → DvBs A T X.K H vs xs → g xs = some w →
    (∀ v H', Grow H H' → Res A none X.K H H' v w → Q v H') → r vs H Q
def eApp (g : List PyData → Option W) (ds : Fds) : Fe := fun ρ n => (ds ρ n).bind fun p => (g p.1).map (·, p.2)
theorem app_run {g : List PyData → Option W} {r : List V → Hp → VK → Prop} {σ : St} {H : Hp} {Q : VK}
    (h2 : ∀ (A : Addr → Prop) (T : Option Addr) (vs : List V) (xs : List PyData) (w : W) (H : Hp) (Q : VK), (∀ a, A a → H a ≠ none) → DvBs A T X.K H vs xs → g xs = some w →
      (∀ v H', Grow H H' → Res A none X.K H H' v w → Q v H') → r vs H Q)
    (h : tV X.K (eApp g ds) σ H Q) : tCB r (tVD X.K ds) σ H Q := by
  obtain ⟨C, O, ρ, n, w, n', hf, E, q⟩ := h
  unfold eApp at hf
  obtain ⟨⟨xs, n1⟩, e1, hf⟩ := Option.bind_eq_some_iff.mp hf
  obtain ⟨z, e2, hf⟩ := Option.map_eq_some_iff.mp hf
  cases hf
  refine ⟨C, O, ρ, n, xs, _, e1, E, fun vs H1 s1 t1 r1 => ?_⟩
  exact h2 (Av C O) C.T vs xs _ H1 Q (E.step s1 t1).av r1 e2 fun v H2 g2 r2 => q v H2 (s1.trans g2.step) (g2.town t1) (r2.none_any.back s1.fr)
section
variable {x : Str} {p : Pos} {id T : String} {g g' : List PyData → Option W}
theorem ev_callB (hc : CallV X (.builtin id) g) (hg : Gl X x) (hm : X.mg x = none) (hv : bootBuiltins x = some (.builtin id)) (ha : EvD X (e :: es) ds) (hn : x ≠ "__name__" := by decide) (hdb : (x == ("__debug__" : Str)) = false := by decide)
    (he : starEach (e :: es) X.env = (false, eval e X.env) :: starEach es X.env := by rfl) (hpl : (backTo pos (starEach es X.env)).any (·.1) = false := by rfl) : EvE X (.Call (.Name x p) (e :: es) [] pos) (eApp g ds) := by
  obtain ⟨r, h1, h2⟩ := hc
  exact peI (pe_callB h1 hg hm hv ha hn hdb he hpl) fun σ H Q h => app_run h2 h
theorem ev_callTy (hc : CallV X (.type T) g) (hg : Gl X x) (hm : X.mg x = none) (hv : bootBuiltins x = some (.type T)) (ha : EvD X (e :: es) ds) (hn : x ≠ "__name__" := by decide) (hdb : (x == ("__debug__" : Str)) = false := by decide)
    (he : starEach (e :: es) X.env = (false, eval e X.env) :: starEach es X.env := by rfl) (hpl : (backTo pos (starEach es X.env)).any (·.1) = false := by rfl) : EvE X (.Call (.Name x p) (e :: es) [] pos) (eApp g ds) := by
  obtain ⟨r, h1, h2⟩ := hc
  exact peI (pe_callTy h1 hg hm hv ha hn hdb he hpl) fun σ H Q h => app_run h2 h
theorem CallV.or {f : Value} (hg : CallV X f g) (hh : CallV X f g') : CallV X f (fun xs => (g xs).or (g' xs)) := by
  obtain ⟨r, h1, h2⟩ := hg
  obtain ⟨r', h1', h2'⟩ := hh
  refine ⟨_, h1.or h1', fun A T vs xs w H Q tr rx e q => ?_⟩
  have e : (g xs).or (g' xs) = some w := e
  cases hx : g xs with
  | none =>
    rw [hx] at e
    exact .inr (h2' A T vs xs w H Q tr rx (by simpa using e) q)
  | some w' =>
    rw [hx] at e
    exact .inl (h2 A T vs xs w H Q tr rx (hx.trans (by simpa using e)) q)
end
/-! subscripts, slices -/
def IxV (X : Cx) (g : PyData → PyData → Option W) : Prop := ∃ r : R2, IxR X r ∧
  ∀ (A : Addr → Prop) (T : Option Addr) (x y : V) (dx dy : PyData) (w : W) (H : Hp) (Q : VK), (∀ a, A a → H a ≠ none) → DvB A T X.K H x dx → DvB A T X.K H y dy → g dx dy = some w →
    (∀ v H', Grow H H' → Res A none X.K H H' v w → Q v H') → r x y H Q
theorem ev_ix {g : PyData → PyData → Option W} (ho : IxV X g) (ha : EvB X a da) (hb : EvB X b db) (hs : PlainIx b) : EvE X (.Subscript a b pos) (eBin g da db) := by
  obtain ⟨r, h1, h2⟩ := ho
  exact peI (pe_ix h1 ha hb hs) fun σ H Q h => op_run (fo := binaryOp .Add) h2 h
def dIx : PyData → PyData → Option W
  | .list xs, .int i => (atI xs i).map .d
  | .tuple xs, .int i => (atI xs i).map .d
  | _, _ => none
theorem DvAll.at {A : Addr → Prop} {K : PySem.W.Frag} {H : Hp} {vs : List V} {xs : List PyData} {i : Int} {x : PyData} (h : DvAll A K H vs xs) (e : atI xs i = some x) : ∃ v, atI vs i = some v ∧ Dv A K H v x := by
  unfold atI at e ⊢
  rw [h.length]
  cases hj : ixN xs.length i with
  | none => rw [hj] at e; cases e
  | some j =>
    rw [hj] at e
    obtain ⟨v, h1, h2⟩ := h.get e
    exact ⟨v, h1, h2⟩
theorem ixv : IxV X dIx := ⟨_, ix_list.or ix_tup, fun A T x y dx dy w H Q tr rx ry e q => by
  cases dy with
  | int i =>
    have := ry.int; subst this
    cases dx with
    | list xs =>
      obtain ⟨z, e1, rfl⟩ := Option.map_eq_some_iff.mp (show (atI xs i).map W.d = some w from e)
      obtain ⟨a, vs, rfl, h1, h2⟩ := rx.lst
      obtain ⟨v, h3, h4⟩ := h2.at e1
      exact .inl ⟨a, vs, i, v, rfl, rfl, h1, h3, q _ _ Grow.refl h4⟩
    | tuple xs =>
      obtain ⟨z, e1, rfl⟩ := Option.map_eq_some_iff.mp (show (atI xs i).map W.d = some w from e)
      obtain ⟨a, vs, rfl, h1, h2, _⟩ := rx.tup
      obtain ⟨v, h3, h4⟩ := h2.at e1
      exact .inr ⟨a, vs, i, v, rfl, rfl, h1, h3, q _ _ Grow.refl h4⟩
    | _ => cases e
  | _ => cases dx <;> cases e⟩
abbrev Fo := List W → Nat → Option (Option Int × Nat)
def tVO (K : PySem.W.Frag) (f : Fo) : TO := fun σ H Q => ∃ C O ρ n o n', f ρ n = some (o, n') ∧ EnvOk C O K σ H ρ n ∧ ∀ H', Step C H H' → TownAt C H' n' → Q o H'
structure EvO (X : Cx) (e : Option Expr) (f : Fo) : Prop where
  ex : ∃ t, PO X e t ∧ ∀ σ H Q, tVO X.K f σ H Q → t σ H Q
def oNone : Fo := fun _ n => some (none, n)
def oSome (d : Fd) : Fo := fun ρ n => (d ρ n).bind fun p => match p.1 with
  | .int i => some (some i, p.2)
  | _ => none
theorem eo_none : EvO X none oNone := ⟨_, po_none, by
  rintro σ H Q ⟨C, O, ρ, n, w, n', hf, E, q⟩
  cases hf
  exact q _ Step.refl E.town⟩
theorem eo_some (h : EvB X e d) : EvO X (some e) (oSome d) := ⟨_, po_some h, by
  rintro σ H Q ⟨C, O, ρ, n, w, n', hf, E, q⟩
  unfold oSome at hf
  obtain ⟨⟨x, n1⟩, e1, hf⟩ := Option.bind_eq_some_iff.mp hf
  cases x with
  | int i =>
    cases hf
    refine ⟨C, O, ρ, n, _, _, e1, E, fun v H1 s1 t1 r1 => ?_⟩
    exact ⟨i, r1.int, q _ s1 t1⟩
  | _ => cases hf⟩
def SlV (X : Cx) (g : PyData → Option Int → Option Int → Option W) : Prop := ∃ r, SlR X r ∧
  ∀ (A : Addr → Prop) (T : Option Addr) (x : V) (dx : PyData) (lo hi : Option Int) (w : W) (H : Hp) (Q : VK), (∀ a, A a → H a ≠ none) → DvB A T X.K H x dx → g dx lo hi = some w →
    (∀ v H', Grow H H' → Res A none X.K H H' v w → Q v H') → r x lo hi H Q
def eSl (g : PyData → Option Int → Option Int → Option W) (d : Fd) (o o' : Fo) : Fe := fun ρ n => (d ρ n).bind fun p => (o ρ p.2).bind fun q => (o' ρ q.2).bind fun r => (g p.1 q.1 r.1).map (·, r.2)
theorem ev_slice {g : PyData → Option Int → Option Int → Option W} {lo hi : Option Expr} {o o' : Fo} {p2 : Pos} (hs : SlV X g) (ha : EvB X a d) (hl : EvO X lo o) (hu : EvO X hi o') : EvE X (.Subscript a (.Slice lo hi none p2) pos) (eSl g d o o') := by
  obtain ⟨r, h1, h2⟩ := hs
  obtain ⟨t, p1, w1⟩ := hl.ex
  obtain ⟨t', p1', w1'⟩ := hu.ex
  refine peI (pe_slice h1 ha p1 p1') ?_
  rintro σ H Q ⟨C, O, ρ, n, w, n', hf, E, q⟩
  unfold eSl at hf
  obtain ⟨⟨x, n1⟩, e1, hf⟩ := Option.bind_eq_some_iff.mp hf
  obtain ⟨⟨i, n2⟩, e2, hf⟩ := Option.bind_eq_some_iff.mp hf
  obtain ⟨⟨j, n3⟩, e3, hf⟩ := Option.bind_eq_some_iff.mp hf
  obtain ⟨z, e4, hf⟩ := Option.map_eq_some_iff.mp hf
  cases hf
  refine ⟨C, O, ρ, n, x, _, e1, E, fun v H1 s1 t1 r1 => ?_⟩
  have E1 := E.step s1 t1
  refine w1 σ H1 _ ⟨C, O, ρ, n1, i, n2, e2, E1, fun H2 s2 t2 => ?_⟩
  have E2 := E1.step s2 t2
  refine w1' σ H2 _ ⟨C, O, ρ, n2, j, _, e3, E2, fun H3 s3 t3 => ?_⟩
  refine h2 (Av C O) C.T v x i j _ H3 Q (E2.step s3 t3).av ((r1.step s2 Av.t).step s3 Av.t) e4 fun v H4 g4 r4 => ?_
  exact q v H4 (((s1.trans s2).trans s3).trans g4.step) (g4.town t3) (r4.none_any.back fun a ha => s1.fr a (s2.fr a (s3.fr a ha)))
/-- what stands from lo to ahead of hi -/
def cutD (xs : List PyData) (lo hi : Option Int) : List PyData := (xs.drop (HT.sIx xs.length 0 lo)).take (HT.sIx xs.length xs.length hi - HT.sIx xs.length 0 lo)
def dSl : PyData → Option Int → Option Int → Option W
  | .list xs, lo, hi => some (.ol (cutD xs lo hi))
  | .tuple xs, lo, hi => some (.d (.tuple (cutD xs lo hi)))
  | _, _, _ => none
theorem DvAll.cut {A : Addr → Prop} {K : PySem.W.Frag} {H : Hp} {vs : List V} {xs : List PyData} {lo hi : Option Int} (h : DvAll A K H vs xs) : DvAll A K H (cutV vs lo hi) (cutD xs lo hi) := by
  unfold cutV cutD
  rw [h.length]
  exact (h.drop _).take _
theorem slv : SlV X dSl := ⟨_, sl_list.or sl_tupF, fun A T x dx lo hi w H Q tr rx e q => by
  cases dx with
  | list xs =>
    cases e
    obtain ⟨a, vs, rfl, h1, h2⟩ := rx.lst
    exact .inl ⟨a, vs, rfl, h1, fun p hp => q _ _ (Grow.upd hp) (new_lst hp h2.cut)⟩
  | tuple xs =>
    cases e
    obtain ⟨a, vs, rfl, h1, h2, h3⟩ := rx.tup
    refine .inr ⟨a, vs, rfl, h1, fun hw => ?_, fun p o ho hp => q _ _ (Grow.upd hp) (new_tup hp tr ho h2.cut)⟩
    have e : cutD xs lo hi = xs := by
      rw [h2.length] at hw
      unfold cutD
      rw [hw.1, hw.2, List.drop_zero, Nat.sub_zero, List.take_length]
    rw [e] at q
    exact q _ _ Grow.refl h3
  | _ => cases e⟩
end
end L2.Lv
namespace L2.Lv
open PySem PySem.Spec PyProof.Rows
inductive Out where
  | nx (ρ : List W) (n : Nat)
  | rt (w : W) (n : Nat)
  | bk (ρ : List W) (n : Nat)
abbrev Fs := List W → Nat → Option Out
/-- what statements do to the heap -/
structure StepS (C : Cn) (O O' : Ow) (H H' : Hp) : Prop where
  st : ∀ a o, H a = some o → ¬ TX C a → (∀ i, O i ≠ some a) → H' a = some o
  fr : ∀ a, H' a = none → H a = none
  ow : ∀ i a, O' i = some a → (∃ j, O j = some a) ∨ H a = none
section
variable {C : Cn} {O O' O1 O2 : Ow} {K : PySem.W.Frag} {σ : St} {H H' H1 H2 : Hp} {ρ : List W} {n n' : Nat} {v : V} {w : W} {x : PyData}
theorem Step.stepS (s : Step C H H') (h : ∀ i a, O' i = some a → (∃ j, O j = some a) ∨ H a = none) : StepS C O O' H H' := ⟨fun a o e t _ => s.st a o e t, s.fr, h⟩
theorem Step.stepS0 (s : Step C H H') : StepS C O O H H' := s.stepS fun i a h => .inl ⟨i, h⟩
theorem StepS.trans (a : StepS C O O1 H H1) (b : StepS C O1 O2 H1 H2) : StepS C O O2 H H2 := by
  refine ⟨fun x o e t ne => b.st x o (a.st x o e t ne) t fun i z => ?_, fun x h => a.fr x (b.fr x h), fun i x h => ?_⟩
  · rcases a.ow i x z with ⟨j, q⟩ | q
    · exact ne j q
    · rw [q] at e; cases e
  · rcases b.ow i x h with ⟨j, q⟩ | q
    · exact a.ow j x q
    · exact .inr (a.fr x q)
/-- what is read by no way of ours stays -/
theorem StepS.keep (s : StepS C O O' H H') : Keep (Av C O) (Av C O') H H' := fun a u na r => by
  have nt : ¬ TX C a := fun e => na (Av.t _ e)
  have no : ∀ i, O i ≠ some a := fun i e => na (.inr (.inr ⟨i, e⟩))
  refine ⟨?_, ?_⟩
  · rintro (z | z | ⟨i, z⟩)
    · exact na (.inl z)
    · exact nt (.inl z)
    · rcases s.ow i a z with ⟨j, q⟩ | q
      · exact no j q
      · rw [q] at r; cases r
  · exact s.st _ _ r nt no
structure EndRt (C : Cn) (K : PySem.W.Frag) (H' : Hp) (n' : Nat) (v : V) (w : W) : Prop where
  base : ∀ a o, C.H0 a = some o → ¬ TX C a → H' a = some o
  fr : ∀ a, H' a = none → C.H0 a = none
  tb : TabG C Ow0 H'
  town : TownAt C H' n'
  res : Res (Av C Ow0) C.T K C.H0 H' v w
def EndOk (C : Cn) (O : Ow) (K : PySem.W.Frag) (H : Hp) (D : Ends) : Out → Prop
  | .nx ρ' n' => ∀ O' σ' H', StepS C O O' H H' → EnvOk C O' K σ' H' ρ' n' → D.nx σ' H'
  | .rt w n' => ∀ v H', EndRt C K H' n' v w → D.rt v H'
  | .bk ρ' n' => ∀ O' σ' H', StepS C O O' H H' → EnvOk C O' K σ' H' ρ' n' → D.bk σ' H'
/-- what is ours is no one else's -/
def OwnP (C : Cn) (O : Ow) : Prop := ∀ i a, O i = some a → ¬ C.P a
theorem OwnP.step (h : OwnP C O) (E : EnvOk C O K σ H ρ n) (s : StepS C O O' H H') : OwnP C O' := fun i a e z => by
  rcases s.ow i a e with ⟨j, q⟩ | q
  · exact h j a q z
  · exact E.ptr a z q
def tVS (K : PySem.W.Frag) (f : Fs) : TS := fun D σ H => ∃ C O ρ n out, f ρ n = some out ∧ EnvOk C O K σ H ρ n ∧ OwnP C O ∧ EndOk C O K H D out
abbrev EvS (X : Cx) (st : Stmt) (f : Fs) : Prop := PS X st (tVS X.K f)
abbrev EvSs (X : Cx) (st : List Stmt) (f : Fs) : Prop := PSs X st (tVS X.K f)
theorem EndOk.after {D : Ends} {out : Out} (s : StepS C O O' H H') (h : EndOk C O K H D out) : EndOk C O' K H' D out := by
  cases out with
  | nx ρ n => exact fun O2 σ2 H2 s2 E2 => h O2 σ2 H2 (s.trans s2) E2
  | bk ρ n => exact fun O2 σ2 H2 s2 E2 => h O2 σ2 H2 (s.trans s2) E2
  | rt w n => exact h
end
section
variable {X : Cx} {e a b : Expr} {es : List Expr} {f fa fb : Fe} {d da db : Fd} {fs : Fa} {ds : Fds} {pos : Pos} {st : Stmt} {rest sts sts' : List Stmt} {g h : Fs}
theorem psI {t t' : TS} (h : PS X st t) (w : ∀ D σ H, t' D σ H → t D σ H) : PS X st t' := ⟨fun pins s σ H D I q => h.run pins s σ H D I (w D σ H q)⟩
theorem pssI {t t' : TS} (h : PSs X sts t) (w : ∀ D σ H, t' D σ H → t D σ H) : PSs X sts t' := ⟨fun pins s σ H D I q => h.run pins s σ H D I (w D σ H q)⟩
def sNil' : Fs := fun ρ n => some (.nx ρ n)
def sSeq (g h : Fs) : Fs := fun ρ n => (g ρ n).bind fun o => match o with
  | .nx ρ' n' => h ρ' n'
  | o => some o
theorem ss_nil : EvSs X [] sNil' := pssI pss_nil (by
  rintro D σ H ⟨C, O, ρ, n, out, hf, E, np, q⟩
  cases hf
  exact q O σ H Step.refl.stepS0 E)
theorem ss_cons (h1 : EvS X st g) (h2 : EvSs X rest h) : EvSs X (st :: rest) (sSeq g h) := pssI (pss_cons h1 h2) (by
  rintro D σ H ⟨C, O, ρ, n, out, hf, E, np, q⟩
  unfold sSeq at hf
  obtain ⟨o, e1, hf⟩ := Option.bind_eq_some_iff.mp hf
  refine ⟨C, O, ρ, n, o, e1, E, np, ?_⟩
  cases o with
  | nx ρ' n' => exact fun O' σ' H' s E' => ⟨C, O', ρ', n', out, hf, E', np.step E s, q.after s⟩
  | rt w n' => cases hf; exact q
  | bk ρ' n' => cases hf; exact q)
theorem ss_one (h1 : EvS X st g) : EvSs X [st] g := pss_one h1
def sBrk : Fs := fun ρ n => some (.bk ρ n)
/-! what is handed back -/
theorem Av.any {C : Cn} {O : Ow} : ∀ a, Av C Ow0 a → Av C O a := by
  rintro a (z | z | ⟨i, z⟩)
  · exact .inl z
  · exact .inr (.inl z)
  · cases z
theorem EndRt.toStep {C : Cn} {K : PySem.W.Frag} {H' : Hp} {n' : Nat} {v : V} {w : W} (t0 : TabG C Ow0 C.H0) (r : EndRt C K H' n' v w) : Step C C.H0 H' :=
  ⟨fun a o e n h => r.base a o e fun z => z.elim n fun ⟨q, z⟩ => by
    obtain ⟨⟨ps, e1, _⟩, _⟩ := t0 a q z
    rw [e] at e1
    exact h ⟨q, z⟩ ps (Option.some.inj e1), r.fr, fun P q G h e t => (r.tb P q h).2 G e t⟩
theorem EnvOk.toStep {C : Cn} {O : Ow} {K : PySem.W.Frag} {σ : St} {H' : Hp} {ρ : List W} {n : Nat} (t0 : TabG C Ow0 C.H0) (E : EnvOk C O K σ H' ρ n) : Step C C.H0 H' :=
  ⟨fun a o e n h => E.base a o e fun z => z.elim n fun ⟨q, z⟩ => by
    obtain ⟨⟨ps, e1, _⟩, _⟩ := t0 a q z
    rw [e] at e1
    exact h ⟨q, z⟩ ps (Option.some.inj e1), E.fr, fun P q G h e t => (E.tb P q h).2 G e t⟩
theorem EnvOk.endRt {C : Cn} {O : Ow} {K : PySem.W.Frag} {σ : St} {H H1 : Hp} {ρ : List W} {n n' : Nat} {v : V} {w : W} (E : EnvOk C O K σ H ρ n) (s : Step C H H1) (t : TownAt C H1 n') (r : Res (Av C O) C.T K H H1 v w) : EndRt C K H1 n' v w := by
  have E1 := E.step s t
  refine ⟨E1.base, E1.fr, E1.tb.sub rfl rfl (fun a z => .inl (Av.any a z)), t, (r.av (A' := Av C Ow0) ?_).back E.fr⟩
  rintro a (z | z | ⟨i, z⟩)
  · exact .inl z
  · exact .inr (.inl z)
  · cases z
def sRet (f : Fe) : Fs := fun ρ n => (f ρ n).map fun p => .rt p.1 p.2
theorem ss_ret (ha : EvE X e f) : EvS X (.Return (some e) pos) (sRet f) := psI (ps_ret ha) (by
  rintro D σ H ⟨C, O, ρ, n, out, hf, E, np, q⟩
  unfold sRet at hf
  obtain ⟨⟨w, n1⟩, e1, hf⟩ := Option.map_eq_some_iff.mp hf
  cases hf
  exact ⟨C, O, ρ, n, w, n1, e1, E, fun v H1 s t r => q v H1 (E.endRt s t r)⟩)
def sRetN : Fs := fun _ n => some (.rt (.d .none) n)
/-- a list or dict of one's own -/
def sRetO (i : Nat) : Fs := fun ρ n => match ρ[i]? with
  | some (.ol xs) => some (.rt (.ol xs) n)
  | some (.od xs) => some (.rt (.od xs) n)
  | _ => none
def sDrop (f : Fe) : Fs := fun ρ n => (f ρ n).map fun p => .nx ρ p.2
def sIf (c : Ft) (g h : Fs) : Fs := fun ρ n => (c ρ n).bind fun p => if p.1 then g ρ p.2 else h ρ p.2
theorem ss_if {c : Expr} {tc : Ft} (hc : EvT X c tc) (ha : EvSs X sts g) (hb : EvSs X sts' h) : EvS X (.If c sts sts' pos) (sIf tc g h) := psI (ps_if hc ha hb) (by
  rintro D σ H ⟨C, O, ρ, n, out, hf, E, np, q⟩
  unfold sIf at hf
  obtain ⟨⟨x, n1⟩, e1, hf⟩ := Option.bind_eq_some_iff.mp hf
  refine ⟨C, O, ρ, n, x, n1, e1, E, fun H1 s t => ?_⟩
  cases x with
  | true => exact ⟨C, O, ρ, n1, out, by simpa using hf, E.step s t, np, q.after s.stepS0⟩
  | false => exact ⟨C, O, ρ, n1, out, by simpa using hf, E.step s t, np, q.after s.stepS0⟩)
/-! stores -/
def owSet (O : Ow) (i : Nat) (o : Option Addr) : Ow := fun j => if j = i then o else O j
theorem owSet_at {O : Ow} {i : Nat} {o : Option Addr} : owSet O i o i = o := if_pos rfl
theorem owSet_of {O : Ow} {i j : Nat} {o : Option Addr} (h : j ≠ i) : owSet O i o j = O j := if_neg h
theorem EnvOk.assign {C : Cn} {O : Ow} {K : PySem.W.Frag} {σ : St} {H H1 : Hp} {ρ : List W} {n n' : Nat} {v : V} {w : W} {i : Nat} (E : EnvOk C O K σ H ρ n) (s : Step C H H1) (t : TownAt C H1 n') (r : Res (Av C O) C.T K H H1 v w) :
    ∃ O', EnvOk C O' K (σ.set i (some v)) H1 (ρ.set i w) n' ∧ StepS C O O' H H1 := by
  have E1 := E.step s t
  by_cases hi : i < ρ.length
  · have hj : ∀ j w', (ρ.set i w)[j]? = some w' → (j = i ∧ w' = w) ∨ (j ≠ i ∧ ρ[j]? = some w') := fun j w' e => by
      by_cases h : j = i
      · subst h
        rw [List.getElem?_set_self hi] at e
        cases e
        exact .inl ⟨rfl, rfl⟩
      · rw [List.getElem?_set_ne (Ne.symm h)] at e
        exact .inr ⟨h, e⟩
    have hσ : i < σ.length := by rw [← E.len]; exact hi
    -- the address that is new, if any
    have key : ∀ o : Option Addr, (∀ a, o = some a → H a = none ∧ ¬ TX C a ∧ H1 a ≠ none ∧ ∀ q, H1 a ≠ some (LamX.CodeO a q)) →
        SlOk (Av C (owSet O i o)) C.T K H1 (some (some v)) o (hid (owSet O i o) ρ.length i) w →
        ∃ O', EnvOk C O' K (σ.set i (some v)) H1 (ρ.set i w) n' ∧ StepS C O O' H H1 := by
      intro o ho hw
      have kp : Keep (Av C O) (Av C (owSet O i o)) H H1 := fun a u na r => by
        refine ⟨?_, s.st _ _ r (fun e => na (Av.t _ e))⟩
        rintro (z | z | ⟨j, z⟩)
        · exact na (.inl z)
        · exact na (.inr (.inl z))
        · by_cases h : j = i
          · rw [h, owSet_at] at z
            rw [(ho a z).1] at r; cases r
          · rw [owSet_of h] at z
            exact na (.inr (.inr ⟨j, z⟩))
      refine ⟨owSet O i o, ⟨by simpa using E.len, fun j w' e => ?_, fun j k a h1 h2 => ?_, fun j a h => ?_, t, E1.base, E1.ptr, E1.fr, E1.tk, ?_⟩, s.stepS fun j a h => ?_⟩
      · rw [List.length_set]
        rcases hj j w' e with ⟨rfl, rfl⟩ | ⟨ne, e⟩
        · rw [List.getElem?_set_self hσ, owSet_at]
          exact hw
        · rw [List.getElem?_set_ne (Ne.symm ne), owSet_of ne]
          have q := E.sl j w' e
          cases w' with
          | no => trivial
          | d x => obtain ⟨u, h1, h2⟩ := q; exact ⟨u, h1, h2.mono kp⟩
          | town => exact q
          | ol xs =>
            obtain ⟨a, vs, h1, h2, h3, h4⟩ := q
            exact ⟨a, vs, h1, h2, s.st _ _ h3 (E.own j a h1).1, h4.mono kp⟩
          | od kvs =>
            obtain ⟨a, h1, h2, h3⟩ := q
            exact ⟨a, h1, h2, h3.mono kp fun o e => s.st _ _ e (E.own j a h1).1⟩
          | oll xss =>
            obtain ⟨a, bs, h1, h2, h3, h4⟩ := q
            exact ⟨a, bs, h1, h2, s.st _ _ h3 (E.own j a h1).1, h4.mono kp (fun x hx => owSet_of (by omega)) fun x b u _ h e => s.st _ _ e (E.own _ b h).1⟩
          | fn g => obtain ⟨u, h1, h2⟩ := q; exact ⟨u, h1, h2.mono kp⟩
      · by_cases hj : j = i
        · rw [hj, owSet_at] at h1
          by_cases hk : k = i
          · rw [hj, hk]
          · rw [owSet_of hk] at h2
            exact absurd (ho a h1).1 (E.own k a h2).2.2
        · rw [owSet_of hj] at h1
          by_cases hk : k = i
          · rw [hk, owSet_at] at h2
            exact absurd (ho a h2).1 (E.own j a h1).2.2
          · rw [owSet_of hk] at h2
            exact E.inj j k a h1 h2
      · skip
        by_cases hj : j = i
        · rw [hj, owSet_at] at h
          exact ⟨(ho a h).2.1, E.fr a (ho a h).1, (ho a h).2.2.1⟩
        · rw [owSet_of hj] at h
          exact E1.own j a h
      · skip
        refine E1.tb.sub rfl rfl ?_
        rintro b (z | z | ⟨j, z⟩)
        · exact .inl (.inl z)
        · exact .inl (.inr (.inl z))
        · by_cases h : j = i
          · rw [h, owSet_at] at z; exact .inr (ho b z).2.2.2
          · rw [owSet_of h] at z; exact .inl (.inr (.inr ⟨j, z⟩))
      · skip
        by_cases hj : j = i
        · rw [hj, owSet_at] at h
          exact .inr (ho a h).1
        · rw [owSet_of hj] at h
          exact .inl ⟨j, h⟩
    have avn : ∀ b, Av C (owSet O i none) b → Av C O b := by
      rintro b (z | z | ⟨j, z⟩)
      · exact .inl z
      · exact .inr (.inl z)
      · by_cases h : j = i
        · rw [h, owSet_at] at z; cases z
        · rw [owSet_of h] at z; exact .inr (.inr ⟨j, z⟩)
    have avs : ∀ a b, Av C (owSet O i (some a)) b → Av C O b ∨ b = a := by
      rintro a b (z | z | ⟨j, z⟩)
      · exact .inl (.inl z)
      · exact .inl (.inr (.inl z))
      · by_cases h : j = i
        · rw [h, owSet_at] at z; cases z; exact .inr rfl
        · rw [owSet_of h] at z; exact .inl (.inr (.inr ⟨j, z⟩))
    cases w with
    | no => exact False.elim r
    | d x => exact key none (fun a e => by cases e) ⟨v, rfl, Dv.mono (fun a u na r => ⟨fun z => na (avn a z), r⟩) r⟩
    | town =>
      obtain ⟨a, h1, h2⟩ := r
      exact key none (fun a e => by cases e) ⟨a, h1, by rw [h2]⟩
    | ol xs =>
      obtain ⟨a, vs, h1, h2, h3, h4⟩ := r
      subst h1
      exact key (some a) (fun b e => by cases e; exact ⟨h2, fun z => E.ta a z h2, by rw [h3]; simp, fun q z => codeO_lst (Option.some.inj (h3.symm.trans z))⟩) ⟨a, vs, rfl, rfl, h3, h4.mono fun b u nb r => ⟨fun z => nb (avs a b z), r⟩⟩
    | oll _ => exact False.elim r
    | fn g => exact key none (fun a e => by cases e) ⟨v, rfl, FnV.mono r (fun a u na r => ⟨fun z => na (avn a z), r⟩)⟩
    | od kvs =>
      obtain ⟨a, h1, h2, h3⟩ := r
      subst h1
      exact key (some a) (fun b e => by cases e; exact ⟨h2, fun z => E.ta a z h2, h3.there, h3.nc⟩) ⟨a, rfl, rfl, h3.mono (fun b u nb r => ⟨fun z => nb (avs a b z), r⟩) fun o e => e⟩
  · have e1 : ρ.set i w = ρ := List.set_eq_of_length_le (by omega)
    have e2 : σ.set i (some v) = σ := List.set_eq_of_length_le (by rw [← E.len]; omega)
    rw [e1, e2]
    exact ⟨O, E1, s.stepS0⟩
def sSet (i : Nat) (f : Fe) : Fs := fun ρ n => (f ρ n).map fun p => .nx (ρ.set i p.1) p.2
theorem ss_set {i : Nat} {x : Str} {pos' : Pos} (hN : X.N.Nodup) (hi : X.N[i]? = some x) (hx : Loc X.env.scope x) (ha : EvE X e f) (hs : swapsWith e (some (.Name x pos')) pos.line X.env = pure false := by rfl) (hf : X.fn x = true ∨ X.env.scope.names.lookup x = some .local := by first | exact .inl rfl | exact .inr rfl | assumption) :
    EvS X (.Assign [.Name x pos'] e pos) (sSet i f) := psI (ps_set hN hi hx ha hs hf) (by
  rintro D σ H ⟨C, O, ρ, n, out, hf, E, np, q⟩
  unfold sSet at hf
  obtain ⟨⟨w, n1⟩, e1, hf⟩ := Option.map_eq_some_iff.mp hf
  cases hf
  refine ⟨C, O, ρ, n, w, n1, e1, E, fun v H1 s t r => ?_⟩
  obtain ⟨O', E', s'⟩ := E.assign (i := i) s t r
  exact q O' _ H1 s' E')
end
end L2.Lv
namespace L2.Lv
open PySem PySem.Spec PyProof.Rows
def big : Nat := 16777216
theorem big_eq : sizeLine = big := sizeLine_eq
section
variable {C : Cn} {O : Ow} {K : PySem.W.Frag} {σ : St} {H H1 : Hp} {ρ : List W} {n n' i : Nat} {v : V} {w' : W} {a : Addr} {o : HO}
/-- an object of one's own is changed -/
theorem EnvOk.write (E : EnvOk C O K σ H ρ n) (hi : i < ρ.length) (ho : O i = some a) (hw : SlOk (Av C O) C.T K (upd H a o) σ[i]? (some a) (hid O ρ.length i) w') : EnvOk C O K σ (upd H a o) (ρ.set i w') n ∧ StepS C O O H (upd H a o) := by
  have hav : Av C O a := .inr (.inr ⟨i, ho⟩)
  obtain ⟨t1, t2, t3⟩ := E.own i a ho
  have kp : Keep (Av C O) (Av C O) H (upd H a o) := fun b u nb r => by
    have ne : b ≠ a := fun e => nb (by rw [e]; exact hav)
    exact ⟨nb, by rw [upd_ne ne]; exact r⟩
  have nn : ∀ b, upd H a o b = none → H b = none := fun b e => by
    by_cases h : b = a
    · rw [h, upd_same] at e; cases e
    · rw [upd_ne h] at e; exact e
  refine ⟨⟨by simpa using E.len, fun j w e => ?_, E.inj, fun j b h => ⟨(E.own j b h).1, (E.own j b h).2.1, fun e => (E.own j b h).2.2 (nn b e)⟩, fun b e => ?_, fun b u h t => ?_, fun b h e => E.ptr b h (nn b e), fun b e => E.fr b (nn b e), E.tk, ?_⟩, fun b u e t no => ?_, nn, fun j b h => .inl ⟨j, h⟩⟩
  · rw [List.length_set]
    by_cases h : j = i
    · subst h
      by_cases hl : j < ρ.length
      · rw [List.getElem?_set_self hl] at e
        cases e
        rw [ho]
        exact hw
      · rw [List.getElem?_eq_none (by simpa using hl)] at e; cases e
    · rw [List.getElem?_set_ne (Ne.symm h)] at e
      have q := E.sl j w e
      cases w with
      | no => trivial
      | d x => obtain ⟨u, h1, h2⟩ := q; exact ⟨u, h1, h2.mono kp⟩
      | town => exact q
      | ol xs =>
        obtain ⟨b, vs, h1, h2, h3, h4⟩ := q
        have ne : b ≠ a := fun e => h (E.inj j i b h1 (by rw [ho, e]))
        exact ⟨b, vs, h1, h2, by rw [upd_ne ne]; exact h3, h4.mono kp⟩
      | od kvs =>
        obtain ⟨b, h1, h2, h3⟩ := q
        have ne : b ≠ a := fun e => h (E.inj j i b h1 (by rw [ho, e]))
        exact ⟨b, h1, h2, h3.mono kp fun u e => by rw [upd_ne ne]; exact e⟩
      | oll xss =>
        obtain ⟨b, bs, h1, h2, h3, h4⟩ := q
        have ne : b ≠ a := fun e => h (E.inj j i b h1 (by rw [ho, e]))
        exact ⟨b, bs, h1, h2, by rw [upd_ne ne]; exact h3, h4.mono kp (fun _ _ => rfl) fun x c u hx g e => by
          have ne : c ≠ a := fun e => by
            have := E.inj _ i c g (by rw [ho, e])
            omega
          rw [upd_ne ne]; exact e⟩
      | fn g => obtain ⟨u, h1, h2⟩ := q; exact ⟨u, h1, h2.mono kp⟩
  · rw [upd_ne (fun z => t1 (.inl (by rw [← z]; exact e)))]
    exact E.town b e
  · rw [upd_ne (fun z => by rw [z, t2] at h; cases h)]
    exact E.base b u h t
  · exact E.tb.to rfl rfl (fun b u nb r => (kp b u nb r).2) (fun b q h => upd_ne fun z => t1 (.inr ⟨q, by rw [← z]; exact h⟩)) fun b z => .inl z
  · rw [upd_ne (fun z => no i (by rw [z]; exact ho))]
    exact e
theorem keep_upd (hav : Av C O a) : Keep (Av C O) (Av C O) H (upd H a o) := fun b u nb r => by
  have ne : b ≠ a := fun e => nb (by rw [e]; exact hav)
  exact ⟨nb, by rw [upd_ne ne]; exact r⟩
end
section
variable {X : Cx} {e a b : Expr} {es : List Expr} {f fa fb : Fe} {d da db : Fd} {fs : Fa} {ds : Fds} {pos : Pos} {st : Stmt} {rest sts sts' : List Stmt} {g h : Fs}
/-! x.append(e) -/
def sApp (i : Nat) (f : Fe) : Fs := fun ρ n => (f ρ n).bind fun p => p.1.frz.val.bind fun x => match ρ[i]? with
  | some (.ol xs) => if xs.length < big then some (.nx (ρ.set i (.ol (xs ++ [x]))) p.2) else none
  | _ => none
theorem Res.val {A : Addr → Prop} {T : Option Addr} {K : PySem.W.Frag} {H H' : Hp} {v : V} {w : W} {x : PyData} (h : Res A T K H H' v w) (e : w.val = some x) : Dv A K H' v x := by
  cases w with
  | d y => cases e; exact h
  | _ => cases e
/-- the town grows -/
def sTown (i : Nat) : Fs := fun ρ n => match ρ[i]? with
  | some .town => if n < big then some (.nx ρ (n + 1)) else none
  | _ => none
theorem ss_town {i : Nat} {j : Nat} {p2 p3 p4 : Pos} (hb : PE X b (tVar i)) (hbase : attributeBase b "append" X.env (eval b X.env) = eval b X.env := by rfl)
    (hfew : ((backTo p3 (starEach [.Constant (.int 0) j p4] X.env)).all (fun x => !x.1) && (backToKw p3 (keywordEach [] X.env)).all (fun x => x.1.isSome)
      && decide ([Expr.Constant (.int 0) j p4].length + ([] : List Keyword).length + (if ([] : List Keyword).isEmpty then 0 else 1) < 30)) = true := by rfl)
    (hline : (p2.endLine == p3.line) = true := by rfl)
    (hsw : swapsWith (.Call (.Attribute b "append" p2) [.Constant (.int 0) j p4] [] p3) none pos.line X.env = pure false := by rfl) :
    EvS X (.Expr (.Call (.Attribute b "append" p2) [.Constant (.int 0) j p4] [] p3) pos) (sTown i) := psI (ps_expr (pe_bm PySem.F.plainAttrs_list PySem.F.slot_list_append PySem.F.type_list_append mt_append hb (pa_cons pe_int pa_nil) hbase hfew hline rfl rfl) hsw) (by
  rintro D σ H ⟨C, O, ρ, n, out, hf, E, np, q⟩
  unfold sTown at hf
  split at hf
  · rename_i hx
    split at hf
    · rename_i hz
      cases hf
      obtain ⟨l, h1, h2⟩ := E.sl _ _ hx
      have h3 := E.town l h1
      refine ⟨_, h2, .inl ⟨rfl, _, SqL.of h3⟩, ?_⟩
      refine ⟨l, _, .int 0, rfl, rfl, h3, by rw [List.length_replicate, big_eq]; exact hz, ?_⟩
      have ne : ∀ b, b ≠ l → upd H l (.lst (List.replicate n (V.int 0) ++ [.int 0])) b = H b := fun b hb => upd_ne hb
      have st : Step C H (upd H l (.lst (List.replicate n (V.int 0) ++ [.int 0]))) := ⟨fun b o e t _ => by rw [ne b (fun z => t (by rw [z]; exact h1))]; exact e, (fun b e => by
        by_cases hb : b = l
        · rw [hb, upd_same] at e; cases e
        · rw [ne b hb] at e; exact e), fun P q G _ _ t => t.go (fun ps e => by rw [ne P (fun z => by rw [z, h3] at e; cases e)]; exact e) fun c n e => ⟨n, by rw [ne c (fun z => by rw [z, h3] at e; exact codeO_lst (Option.some.inj e))]; exact e⟩⟩
      have tw : TownAt C (upd H l (.lst (List.replicate n (V.int 0) ++ [.int 0]))) (n + 1) := fun b e => by
        have : b = l := Option.some.inj (e.symm.trans h1)
        rw [this, upd_same, List.replicate_succ']
      exact q O σ _ st.stepS0 (E.step st tw)
    · cases hf
  · cases hf)
/-- x.extend(a new list) -/
def sExt (i : Nat) (f : Fe) : Fs := fun ρ n => (f ρ n).bind fun p => match p.1, ρ[i]? with
  | .ol ys, some (.ol xs) => if xs.length + ys.length ≤ big then some (.nx (ρ.set i (.ol (xs ++ ys))) p.2) else none
  | _, _ => none
theorem ss_extend {i : Nat} {p2 p3 : Pos} (hb : PE X b (tVar i)) (ha : EvE X e f) (hbase : attributeBase b "extend" X.env (eval b X.env) = eval b X.env := by rfl)
    (hfew : ((backTo p3 (starEach [e] X.env)).all (fun x => !x.1) && (backToKw p3 (keywordEach [] X.env)).all (fun x => x.1.isSome)
      && decide ([e].length + ([] : List Keyword).length + (if ([] : List Keyword).isEmpty then 0 else 1) < 30)) = true := by rfl)
    (hline : (p2.endLine == p3.line) = true := by rfl) (hs : starEach [e] X.env = (false, eval e X.env) :: starEach [] X.env := by rfl)
    (hsw : swapsWith (.Call (.Attribute b "extend" p2) [e] [] p3) none pos.line X.env = pure false := by rfl) :
    EvS X (.Expr (.Call (.Attribute b "extend" p2) [e] [] p3) pos) (sExt i f) := psI (ps_expr (pe_bm PySem.F.plainAttrs_list PySem.F.slot_list_extend PySem.F.type_list_extend mt_extend hb (pa_cons ha pa_nil hs) hbase hfew hline hs rfl) hsw) (by
  rintro D σ H ⟨C, O, ρ, n, out, hf, E, np, q⟩
  unfold sExt at hf
  obtain ⟨⟨w, n1⟩, e1, hf⟩ := Option.bind_eq_some_iff.mp hf
  simp only at hf
  split at hf
  · rename_i ys xs hx
    split at hf
    · rename_i hz
      cases hf
      obtain ⟨l, vs, h1, h2, h3, h4⟩ := E.sl _ _ hx
      refine ⟨_, h2, .inl ⟨rfl, vs, SqL.of h3⟩, C, O, ρ, n, _, n1, e1, E, fun v H1 s t r => ?_⟩
      have E1 := E.step s t
      have h3' : H1 l = some (.lst vs) := s.st _ _ h3 (E.own i l h1).1
      obtain ⟨m, us, rfl, r1, r2, r3⟩ := r
      have r3' : DvAll (Av C O) X.K H1 us ys := r3.mono fun b u nb r => ⟨fun z => nb (.inl z), r⟩
      refine ⟨l, m, vs, us, rfl, rfl, h3', r2, by rw [h4.length, r3.length, big_eq]; exact hz, ?_⟩
      have hav : Av C O l := .inr (.inr ⟨i, h1⟩)
      obtain ⟨E2, s2⟩ := E1.write (o := .lst (vs ++ us)) (w' := .ol (xs ++ ys)) (lt_of_get (by assumption)) h1 ⟨l, vs ++ us, rfl, h2, upd_same, ((h4.mono (s.keep Av.t)).append r3').mono (keep_upd hav)⟩
      exact q O σ _ (s.stepS0.trans s2) E2
    · cases hf
  · cases hf)
/-- x.insert(k, e) -/
def sIns (i : Nat) (d : Fd) (f : Fe) : Fs := fun ρ n => (d ρ n).bind fun k => (f ρ k.2).bind fun p => p.1.frz.val.bind fun x => match k.1, ρ[i]? with
  | .int z, some (.ol xs) => if xs.length < big ∧ 0 ≤ z ∧ z ≤ xs.length then some (.nx (ρ.set i (.ol (xs.take z.toNat ++ x :: xs.drop z.toNat))) p.2) else none
  | _, _ => none
/-! x[k] = e -/
def sSetIx (i : Nat) (d : Fd) (f : Fe) : Fs := fun ρ n => (f ρ n).bind fun p => p.1.frz.val.bind fun x => (d ρ p.2).bind fun k => match k.1, ρ[i]? with
  | .int z, some (.ol xs) => (ixN xs.length z).map fun j => .nx (ρ.set i (.ol (xs.set j x))) k.2
  | _, _ => none
/-! targets -/
abbrev Fg := PyData → List W → Option (List W)
def setV : List Nat → List V → St → St
  | i :: is, v :: vs, σ => setV is vs (σ.set i (some v))
  | _, _, σ => σ
def setD : List Nat → List PyData → List W → Option (List W)
  | [], [], ρ => some ρ
  | i :: is, x :: xs, ρ => setD is xs (ρ.set i (.d x))
  | _, _, _ => none
/-- one name, or several -/
def gOne (i : Nat) : Fg := fun x ρ => some (ρ.set i (.d x))
def gMany (is : List Nat) : Fg := fun x ρ => match x with
  | .tuple xs => setD is xs ρ
  | _ => none
/-- what a walk gives out: data, or (p) a new pair -/
def DvI (p : Bool) (A : Addr → Prop) (K : PySem.W.Frag) (H : Hp) (v : V) (x : PyData) : Prop := Dv A K H v x ∨ (p = true ∧ ∃ a vs ds, v = .ref a ∧ x = .tuple ds ∧ SqT K H a vs ∧ DvAll A K H vs ds)
theorem DvI.dv {A : Addr → Prop} {K : PySem.W.Frag} {H : Hp} {v : V} {x : PyData} (h : DvI false A K H v x) : Dv A K H v x := h.elim id fun z => nomatch z.1
def tVG (p : Bool) (K : PySem.W.Frag) (is : List Nat) (g : Fg) : TG := fun v σ H Q => ∃ C O ρ n x ρ', g x ρ = some ρ' ∧ EnvOk C O K σ H ρ n ∧ DvI p (Av C O) K H v x ∧
  ∀ O' vs, StepS C O O' H H → EnvOk C O' K (setV is vs σ) H ρ' n → Q (setV is vs σ) H
def tVGs (K : PySem.W.Frag) (is : List Nat) : TGs := fun vs σ H Q => ∃ C O ρ n xs ρ', setD is xs ρ = some ρ' ∧ EnvOk C O K σ H ρ n ∧ DvAll (Av C O) K H vs xs ∧
    ∀ O' us, StepS C O O' H H → EnvOk C O' K (setV is us σ) H ρ' n → Q (setV is us σ) H
abbrev EvG (X : Cx) (p : Bool) (e : Expr) (is : List Nat) (g : Fg) : Prop := PG X e (tVG p X.K is g)
structure EvGs (X : Cx) (es : List Expr) (is : List Nat) : Prop where
  ex : PGs X es (tVGs X.K is)
  len : is.length = es.length
theorem pgI {t t' : TG} (h : PG X e t) (w : ∀ v σ H Q, t' v σ H Q → t v σ H Q) : PG X e t' := ⟨fun pins s σ H v u Q I r q => h.run pins s σ H v u Q I r (w v σ H Q q)⟩
theorem pgsI {t t' : TGs} (h : PGs X es t) (w : ∀ v σ H Q, t' v σ H Q → t v σ H Q) : PGs X es t' := ⟨fun pins s σ H v u Q I r q => h.run pins s σ H v u Q I r (w v σ H Q q)⟩
theorem eg_one {i : Nat} {x : Str} {p : Pos} (hg : PG X (.Name x p) (gName i)) : EvG X false (.Name x p) [i] (gOne i) := pgI hg (by
  rintro v σ H Q ⟨C, O, ρ, n, x, ρ', hf, E, r, q⟩
  cases hf
  obtain ⟨O', E', s'⟩ := E.assign (i := i) (w := .d x) (v := v) (n' := n) (H1 := H) Step.refl E.town r.dv
  exact q O' [v] s' E')
theorem egs_nil : EvGs X [] [] := ⟨pgsI pgs_nil (by
  rintro vs σ H Q ⟨C, O, ρ, n, xs, ρ', hf, E, r, q⟩
  cases r with
  | nil =>
    cases hf
    exact ⟨rfl, q O [] Step.refl.stepS0 E⟩
  | cons r1 r2 => cases hf), rfl⟩
theorem egs_cons {i : Nat} {is : List Nat} {x : Str} {p : Pos} (hg : PG X (.Name x p) (gName i)) (hr : EvGs X es is) (hs : (assignEach (.Name x p :: es) X.env).map (·.2) = assign (.Name x p) X.env :: (assignEach es X.env).map (·.2) := by rfl) : EvGs X (.Name x p :: es) (i :: is) := by
  refine ⟨pgsI (pgs_cons hg hr.ex hs) ?_, by simp [hr.len]⟩
  rintro vs σ H Q ⟨C, O, ρ, n, xs, ρ', hf, E, r, q⟩
  cases r with
  | nil => cases hf
  | cons r1 r2 =>
    rename_i v vs' x xs'
    refine ⟨v, vs', rfl, ?_⟩
    obtain ⟨O1, E1, s1⟩ := E.assign (i := i) (w := .d x) (v := v) (n' := n) (H1 := H) Step.refl E.town r1
    exact ⟨C, O1, _, n, xs', ρ', hf, E1, r2.mono s1.keep, fun O' us s2 E2 => q O' (v :: us) (s1.trans s2) E2⟩
theorem setD_len : ∀ {is : List Nat} {xs : List PyData} {ρ ρ' : List W}, setD is xs ρ = some ρ' → xs.length = is.length
  | [], [], _, _, _ => rfl
  | [], _ :: _, _, _, h => by cases h
  | _ :: _, [], _, _, h => by cases h
  | i :: is, x :: xs, ρ, ρ', h => by
    have := setD_len (is := is) (xs := xs) h
    simp [this]
theorem eg_many {p : Bool} {k : Nat} {is : List Nat} (hc : X.calm = true) (h : EvGs X es is) (hn : (assignEach es X.env).length = es.length := by rfl) (hst : (assignEach es X.env).findIdx? (·.1) = none := by rfl) : EvG X p (.Tuple es k pos) is (gMany is) := pgI (pg_tup hc h.ex hn hst) (by
  rintro v σ H Q ⟨C, O, ρ, n, x, ρ', hf, E, r, q⟩
  have key : ∀ a vs ds, v = .ref a → x = .tuple ds → SqT X.K H a vs → DvAll (Av C O) X.K H vs ds → gTup X.K es.length (tVGs X.K is) v σ H Q := by
    rintro a vs ds rfl rfl r1 r2
    refine ⟨a, vs, rfl, r1, ?_, C, O, ρ, n, ds, ρ', hf, E, r2, q⟩
    rw [r2.length, setD_len hf, h.len]
  cases x with
  | tuple xs =>
    rcases r with r | ⟨_, a, vs, ds, h1, h2, h3, h4⟩
    · obtain ⟨a, vs, h1, r1, r2, _⟩ := DvB.tup (T := none) (.inl r)
      exact key a vs xs h1 rfl r1 r2
    · exact key a vs ds h1 h2 h3 h4
  | _ => cases hf)
/-- target = value -/
def sAsg (g : Fg) (f : Fe) : Fs := fun ρ n => (f ρ n).bind fun p => p.1.frz.val.bind fun x => (g x ρ).map fun ρ' => .nx ρ' p.2
theorem ss_asg {tg : Expr} {is : List Nat} {g : Fg} (ha : EvE X e f) (hg : EvG X false tg is g) (hs : swapsWithSole [tg] e pos.line X.env = pure false := by rfl) (hw : swappedStores [tg] e X.env = pure none := by rfl)
    (h1 : (assignEach [tg] X.env).map (·.2) = [assign tg X.env] := by rfl) : EvS X (.Assign [tg] e pos) (sAsg g f) := psI (ps_asg ha hg hs hw h1) (by
  rintro D σ H ⟨C, O, ρ, n, out, hf, E, np, q⟩
  unfold sAsg at hf
  obtain ⟨⟨w, n1⟩, e1, hf⟩ := Option.bind_eq_some_iff.mp hf
  obtain ⟨x, e2, hf⟩ := Option.bind_eq_some_iff.mp hf
  obtain ⟨ρ', e3, hf⟩ := Option.map_eq_some_iff.mp hf
  cases hf
  exact ⟨C, O, ρ, n, w, n1, e1, E, fun v H1 s t r => ⟨C, O, ρ, n1, x, ρ', e3, E.step s t, .inl ((r.frz E.av).val e2), fun O' vs s' E' => q O' _ H1 (s.stepS0.trans s') E'⟩⟩)
/-- a, b = x, y -/
def sPar (i j : Nat) (fs : Fa) : Fs := fun ρ n => (fs ρ n).bind fun p => match p.1 with
  | [w, w'] => some (.nx ((ρ.set i w).set j w') p.2)
  | _ => none
theorem ss_par {i j : Nat} {x y : Str} {px py pt : Pos} {kt k2 pt2} (hc : X.calm = true) (hN : X.N.Nodup) (hi : X.N[i]? = some x) (hj : X.N[j]? = some y) (hij : i ≠ j)
    (hx : X.env.scope.names.lookup x = some .local) (hy : X.env.scope.names.lookup y = some .local) (ha : EvA X [a, b] fs)
    (hw : swappedStores [.Tuple [.Name x px, .Name y py] kt pt] (.Tuple [a, b] k2 pt2) X.env = pure (some [x, y]))
    (hs : swapsWithSole [.Tuple [.Name x px, .Name y py] kt pt] (.Tuple [a, b] k2 pt2) pos.line X.env = pure false := by rfl) :
    EvS X (.Assign [.Tuple [.Name x px, .Name y py] kt pt] (.Tuple [a, b] k2 pt2) pos) (sPar i j fs) := psI (ps_par hc hN hi hj hij hx hy ha.pa hw hs) (by
  rintro D σ H ⟨C, O, ρ, n, out, hf, E, np, q⟩
  unfold sPar at hf
  obtain ⟨⟨ws, n1⟩, e1, hf⟩ := Option.bind_eq_some_iff.mp hf
  simp only at hf
  split at hf
  · rename_i w w'
    cases hf
    refine ⟨C, O, ρ, n, _, n1, e1, E, fun vs H1 s t r => ?_⟩
    cases r with
    | cons r1 r2 =>
      cases r2 with
      | cons r2 r3 =>
        cases r3
        rename_i v1 v2
        have E1 := E.step s t
        have toR : ∀ {v : V} {w : W} {O' : Ow}, ArgOk (Av C O') C.T X.K H1 v w → Res (Av C O') C.T X.K H1 H1 v w := fun {v w O'} z => by
          cases w with
          | d x => exact z
          | town => exact z
          | no => exact z
          | ol _ => exact False.elim z
          | od _ => exact False.elim z
          | oll _ => exact False.elim z
          | fn _ => exact z
        obtain ⟨O2, E2, s2⟩ := E1.assign (i := i) (n' := n1) (H1 := H1) Step.refl E1.town (toR r1)
        have r2' : ArgOk (Av C O2) C.T X.K H1 v2 w' := by
          cases w' with
          | d x => exact Dv.mono s2.keep r2
          | town => exact r2
          | no => exact r2
          | ol _ => exact r2
          | od _ => exact r2
          | oll _ => exact r2
          | fn _ => exact FnV.mono r2 s2.keep
        obtain ⟨O3, E3, s3⟩ := E2.assign (i := j) (n' := n1) (H1 := H1) Step.refl E2.town (toR r2')
        exact ⟨_, _, rfl, q O3 _ H1 ((s.stepS0.trans s2).trans s3) E3⟩
  · cases hf)
/-! what is walked -/
abbrev Fi := List W → Nat → Option (List PyData × Nat)
/-- it walks xs, as long as what A leaves out stands -/
def ItOk (p : Bool) (K : PySem.W.Frag) (J : It) (xs : List PyData) (A B : Addr → Prop) (H1 : Hp) : Prop :=
  ∀ H2, (∀ a o, H1 a = some o → ¬ A a → H2 a = some o) → (∀ a, H2 a = none → H1 a = none) →
    (∀ i x, xs[i]? = some x → J.go i H2 ∧ ∀ v H', J.yld i H2 v H' → Grow H2 H' ∧ ∀ B', Keep B B' H1 H2 → (∀ a, B' a → H2 a ≠ none) → DvI p B' K H' v x) ∧ J.stop xs.length H2
/-- of a for: what is walked is not ours -/
def tVI (p : Bool) (K : PySem.W.Frag) (f : Fi) : TI := fun σ H R => ∃ C O ρ n xs n', f ρ n = some (xs, n') ∧ EnvOk C O K σ H ρ n ∧ ∀ J H', Step C H H' → TownAt C H' n' → ItOk p K J xs (Av C O) (Av C O) H' → R J H'
/-- of a comprehension -/
def tVJ (p : Bool) (K : PySem.W.Frag) (f : Fi) : TI := fun σ H R => ∃ C O ρ n xs n', f ρ n = some (xs, n') ∧ EnvOk C O K σ H ρ n ∧ ∀ J H', Step C H H' → TownAt C H' n' → ItOk p K J xs (TX C) (Av C O) H' → R J H'
abbrev EvI (X : Cx) (p : Bool) (tg e : Expr) (f : Fi) : Prop := PI X tg e (tVI p X.K f)
abbrev EvJ (X : Cx) (p : Bool) (tg e : Expr) (f : Fi) : Prop := PI X tg e (tVJ p X.K f)
theorem piI {tg : Expr} {t t' : TI} (h : PI X tg e t) (w : ∀ σ H R, t' σ H R → t σ H R) : PI X tg e t' := ⟨fun pins s σ H R I q => h.run pins s σ H R I (w σ H R q)⟩
theorem ItOk.less {p : Bool} {K : PySem.W.Frag} {J : It} {xs : List PyData} {A A' B : Addr → Prop} {H1 : Hp} (i : ∀ a, A' a → A a) (h : ItOk p K J xs A B H1) : ItOk p K J xs A' B H1 := fun H2 k f => h H2 (fun a o e n => k a o e fun z => n (i a z)) f
theorem ej_of {p : Bool} {tg : Expr} {f : Fi} (h : EvI X p tg e f) : EvJ X p tg e f := piI h (by
  rintro σ H R ⟨C, O, ρ, n, xs, n', hf, E, q⟩
  exact ⟨C, O, ρ, n, xs, n', hf, E, fun J H' s t k => q J H' s t (k.less Av.t)⟩)
def iSeq : PyData → Option (List PyData)
  | .list xs => some xs
  | .tuple xs => some xs
  | _ => none
def iOf (d : Fd) : Fi := fun ρ n => (d ρ n).bind fun p => (iSeq p.1).map (·, p.2)
/-- a list or a tuple -/
def iLT (K : PySem.W.Frag) (tl : TE) : TI := fun σ H R => tl σ H fun x H1 => ∃ a, x = .ref a ∧ (((∃ xs, SqL K H1 a xs) ∧ R (Itl K a) H1) ∨ ((∃ xs, SqT K H1 a xs) ∧ R (Itt K a) H1))
theorem pi_seq {tg : Expr} {tl : TE} (hl : PE X e tl) : PI X tg e (iLT X.K tl) := by
  refine ⟨fun pins s σ H R I h => thn (hl.run pins s σ H _ I h) fun v s1 ⟨x, H1, I1, r1, q1⟩ => ?_⟩
  obtain ⟨a, hx, q⟩ := q1
  subst hx
  have hv : v = Value.ref a := r1
  subst hv
  have young : ∀ b ∈ [s1.heap.objs.size], FpOk X pins H1 b := fun b hb => by
    rw [List.mem_singleton.mp hb]
    exact I1.fpOk (Nat.le_refl _) (I1.hok.fresh (Nat.le_refl _))
  rcases q with ⟨⟨xs, hq⟩, q⟩ | ⟨⟨xs, hq⟩, q⟩
  · obtain ⟨its, _, p, _⟩ := I1.list hq
    exact wpAny_pyIter_list p.isList ⟨_, _, _, _, H1, rfl, I1.kept (t' := s1.toks) fun b o e => Heap.get?_push_of_some _ e, turn_list a _, ⟨_, Heap.get?_push_size _ rfl, rfl, rfl⟩, young, q⟩
  · obtain ⟨its, _, p, _⟩ := I1.tuple hq
    exact wpAny_pyIter_tuple (items := its.toArray) p ⟨_, _, _, _, H1, rfl, I1.kept (t' := s1.toks) fun b o e => Heap.get?_push_of_some _ e, turn_tuple a _, ⟨_, Heap.get?_push_size _ rfl, rfl, rfl⟩, young, q⟩
section
variable {K : PySem.W.Frag} {A B : Addr → Prop} {H H1 H2 : Hp} {vs : List V} {xs : List PyData} {l : Addr}
theorem it_list (hs : (¬ A l ∧ Rd H1 l (.lst vs)) ∨ SqL K Hz l vs) (hd : DvAll B K H1 vs xs) : ItOk false K (Itl K l) xs A B H1 := fun H2 k f => by
  have h2 : SqL K H2 l vs := hs.elim (fun ⟨na, r⟩ => .inl (r.imp (fun z => k _ _ z na) fun ⟨o, z⟩ => ⟨o, k _ _ z na⟩)) sqLz
  refine ⟨fun i x hx => ?_, vs, h2, by rw [hd.length]; exact Nat.le_refl _⟩
  obtain ⟨v, e1, e2⟩ := hd.get hx
  refine ⟨⟨vs, v, h2, e1⟩, ?_⟩
  rintro v' H' ⟨rfl, y⟩
  refine ⟨Grow.refl, fun B' kp _ => ?_⟩
  have := y vs h2
  rw [e1] at this
  cases this
  exact .inl (e2.mono kp)
theorem it_tup (hs : (¬ A l ∧ Rd H1 l (.tup vs)) ∨ SqT K Hz l vs) (hd : DvAll B K H1 vs xs) : ItOk false K (Itt K l) xs A B H1 := fun H2 k f => by
  have h2 : SqT K H2 l vs := hs.elim (fun ⟨na, r⟩ => .inl (r.imp (fun z => k _ _ z na) fun ⟨o, z⟩ => ⟨o, k _ _ z na⟩)) sqTz
  refine ⟨fun i x hx => ?_, vs, h2, by rw [hd.length]; exact Nat.le_refl _⟩
  obtain ⟨v, e1, e2⟩ := hd.get hx
  refine ⟨⟨vs, v, h2, e1⟩, ?_⟩
  rintro v' H' ⟨rfl, y⟩
  refine ⟨Grow.refl, fun B' kp _ => ?_⟩
  have := y vs h2
  rw [e1] at this
  cases this
  exact .inl (e2.mono kp)
end
/-- walked data, kept for ever -/
def iVal (f : Fe) : Fi := fun ρ n => (f ρ n).bind fun p => p.1.frz.val.bind fun x => (iSeq x).map (·, p.2)
theorem ei_seq {tg : Expr} (h : EvE X e f) : EvI X false tg e (iVal f) := piI (pi_seq h) (by
  rintro σ H R ⟨C, O, ρ, n, xs, n', hf, E, q⟩
  unfold iVal at hf
  obtain ⟨⟨w, n1⟩, e1, hf⟩ := Option.bind_eq_some_iff.mp hf
  obtain ⟨x, e2, hf⟩ := Option.bind_eq_some_iff.mp hf
  obtain ⟨ys, e3, hf⟩ := Option.map_eq_some_iff.mp hf
  cases hf
  refine ⟨C, O, ρ, n, w, n1, e1, E, fun v H1 s t r => ?_⟩
  have r' : Dv (Av C O) X.K H1 v x := (r.frz E.av).val e2
  cases x with
  | list zs =>
    cases e3
    cases r' with
    | lst hs ha => exact ⟨_, rfl, .inl ⟨⟨_, hs.elim (fun z => .inl z.2) sqLz⟩, q _ H1 s t (it_list hs ha)⟩⟩
  | tuple zs =>
    cases e3
    cases r' with
    | tup hs ha => exact ⟨_, rfl, .inr ⟨⟨_, sqT_of hs⟩, q _ H1 s t (it_tup (hs.imp (fun z => ⟨z.1, let ⟨o, z, _⟩ := z.2; .inr ⟨o, z⟩⟩) (·.1)) ha)⟩⟩
  | _ => cases e3)
/-- in a comprehension a list of one's own may be walked -/
theorem ej_seq {tg : Expr} (h : EvB X e d) : EvJ X false tg e (iOf d) := piI (pi_seq h) (by
  rintro σ H R ⟨C, O, ρ, n, xs, n', hf, E, q⟩
  unfold iOf at hf
  obtain ⟨⟨x, n1⟩, e1, hf⟩ := Option.bind_eq_some_iff.mp hf
  obtain ⟨ys, e3, hf⟩ := Option.map_eq_some_iff.mp hf
  cases hf
  refine ⟨C, O, ρ, n, x, n1, e1, E, fun v H1 s t r => ?_⟩
  have tn : ∀ a, ¬ Av C O a → ¬ TX C a := fun a h z => h (Av.t a z)
  cases x with
  | list zs =>
    cases e3
    rcases r with r | ⟨l, vs, ds, rfl, h2, h3, h4, h5⟩ | ⟨l, kvs, _, h2, _⟩
    · cases r with
      | lst hs ha => exact ⟨_, rfl, .inl ⟨⟨_, hs.elim (fun z => .inl z.2) sqLz⟩, q _ H1 s t (it_list (hs.imp (fun z => ⟨tn _ z.1, z.2⟩) id) ha)⟩⟩
    · cases h2
      exact ⟨_, rfl, .inl ⟨⟨_, SqL.of h4⟩, q _ H1 s t (it_list (.inl ⟨(E.step s t).ntx h3 h4 (fun ps z => nomatch z), .inl h4⟩) h5)⟩⟩
    · cases h2
  | tuple zs =>
    cases e3
    rcases r with r | ⟨l, vs, ds, rfl, h2, h3, h4, h5⟩ | ⟨l, kvs, _, h2, _⟩
    · cases r with
      | tup hs ha => exact ⟨_, rfl, .inr ⟨⟨_, sqT_of hs⟩, q _ H1 s t (it_tup (hs.imp (fun z => ⟨tn _ z.1, let ⟨o, z, _⟩ := z.2; .inr ⟨o, z⟩⟩) (·.1)) ha)⟩⟩
    · cases h2
    · cases h2
  | _ => cases e3)
/-! ranges -/
def rangeD (lo : Int) (n : Nat) : List PyData := (List.range n).map fun (i : Nat) => .int (lo + i)
def rng1 : PyData → Option (List PyData)
  | .int j => if -(2 ^ 62) ≤ j ∧ j < 2 ^ 62 then some (rangeD 0 j.toNat) else none
  | _ => none
def rng2 : PyData → PyData → Option (List PyData)
  | .int i, .int j => if -(2 ^ 62) ≤ i ∧ i < 2 ^ 62 ∧ -(2 ^ 62) ≤ j ∧ j < 2 ^ 62 then some (rangeD i (j - i).toNat) else none
  | _, _ => none
def iRng1 (d : Fd) : Fi := fun ρ n => (d ρ n).bind fun p => (rng1 p.1).map (·, p.2)
def iRng2 (da db : Fd) : Fi := fun ρ n => (da ρ n).bind fun p => (db ρ p.2).bind fun q => (rng2 p.1 q.1).map (·, q.2)
theorem it_rng {K : PySem.W.Frag} {A B : Addr → Prop} {H1 : Hp} {lo : Int} {n : Nat} : ItOk false K (Itr lo n) (rangeD lo n) A B H1 := fun H2 k f => by
  have hl : (rangeD lo n).length = n := by simp [rangeD]
  refine ⟨fun i x hx => ?_, by rw [hl]; exact Nat.le_refl _⟩
  have hi : i < n := by rw [← hl]; exact (List.getElem?_eq_some_iff.mp hx).1
  refine ⟨hi, ?_⟩
  rintro v H' ⟨rfl, rfl⟩
  refine ⟨Grow.refl, fun B' _ _ => ?_⟩
  have e : (rangeD lo n)[i]? = some (.int (lo + i)) := by simp [rangeD, hi]
  rw [e] at hx
  cases hx
  exact .inl (.int _)
theorem ei_range1 {tg : Expr} {p : Pos} (hg : Gl X "range") (hm : X.mg "range" = none) (ha : EvB X a d) (hs : starEach [a] X.env = [(false, eval a X.env)] := by rfl) : EvI X false tg (.Call (.Name "range" p) [a] [] pos) (iRng1 d) := piI (pi_range1 hg hm (pa_cons ha pa_nil hs) hs) (by
  rintro σ H R ⟨C, O, ρ, n, xs, n', hf, E, q⟩
  unfold iRng1 at hf
  obtain ⟨⟨y, n1⟩, e1, hf⟩ := Option.bind_eq_some_iff.mp hf
  obtain ⟨zs, e3, hf⟩ := Option.map_eq_some_iff.mp hf
  cases hf
  refine ⟨C, O, ρ, n, y, n1, e1, E, fun v H1 s t r => ?_⟩
  cases y with
  | int j =>
    simp only [rng1] at e3
    split at e3
    · rename_i hj
      cases e3
      exact ⟨j, by rw [r.int], hj.1, hj.2, q _ H1 s t it_rng⟩
    · cases e3
  | _ => cases e3)
theorem ei_range2 {tg : Expr} {p : Pos} (hg : Gl X "range") (hm : X.mg "range" = none) (ha : EvB X a da) (hb : EvB X b db) (hs : starEach [a, b] X.env = [(false, eval a X.env), (false, eval b X.env)] := by rfl) (hs2 : starEach [b] X.env = [(false, eval b X.env)] := by rfl) :
    EvI X false tg (.Call (.Name "range" p) [a, b] [] pos) (iRng2 da db) := piI (pi_range2 hg hm (pa_cons ha (pa_cons hb pa_nil hs2) (by rw [hs, hs2])) hs hs2) (by
  rintro σ H R ⟨C, O, ρ, n, xs, n', hf, E, q⟩
  unfold iRng2 at hf
  obtain ⟨⟨y, n1⟩, e1, hf⟩ := Option.bind_eq_some_iff.mp hf
  obtain ⟨⟨z, n2⟩, e2, hf⟩ := Option.bind_eq_some_iff.mp hf
  obtain ⟨zs, e3, hf⟩ := Option.map_eq_some_iff.mp hf
  cases hf
  refine ⟨C, O, ρ, n, y, n1, e1, E, fun v H1 s t r => ⟨C, O, ρ, n1, z, n2, e2, E.step s t, fun u H2 s2 t2 r2 => ?_⟩⟩
  cases y with
  | int i =>
    cases z with
    | int j =>
      simp only [rng2] at e3
      split at e3
      · rename_i hj
        cases e3
        exact ⟨i, j, by rw [r.int, r2.int], hj, q _ H2 (s.trans s2) t2 it_rng⟩
      · cases e3
    | _ => cases e3
  | _ => cases e3)
end
end L2.Lv
namespace L2.Lv
open PySem PySem.Spec PyProof.Rows
def loopF (g : Fg) (body : Fs) : List PyData → Fs
  | [], ρ, n => some (.nx ρ n)
  | x :: xs, ρ, n => (g x ρ).bind fun ρ1 => (body ρ1 n).bind fun o => match o with
    | .nx ρ' n' => loopF g body xs ρ' n'
    | .bk ρ' n' => some (.nx ρ' n')
    | .rt w n' => some (.rt w n')
def sFor (fi : Fi) (g : Fg) (body : Fs) : Fs := fun ρ n => (fi ρ n).bind fun p => loopF g body p.1 ρ p.2
def loopW (c : Ft) (body : Fs) : Nat → Fs
  | 0, _, _ => none
  | k + 1, ρ, n => (c ρ n).bind fun p => if p.1 then (body ρ p.2).bind fun o => match o with
    | .nx ρ' n' => loopW c body k ρ' n'
    | .bk ρ' n' => some (.nx ρ' n')
    | .rt w n' => some (.rt w n')
    else some (.nx ρ p.2)
def wipeW (ρ : List W) : List Nat → List W
  | [] => ρ
  | v :: vs => (wipeW ρ vs).set v .no
def loopC (g : Fg) (own : List Nat) (tst : Ft) (elt : Fe) (ρ : List W) : List PyData → Nat → Option (List PyData × Nat)
  | [], n => some ([], n)
  | x :: xs, n => (g x (wipeW ρ own)).bind fun ρ1 => (tst ρ1 n).bind fun b => if b.1 then
      (elt ρ1 b.2).bind fun w => w.1.frz.val.bind fun y => (loopC g own tst elt ρ xs w.2).map fun r => (y :: r.1, r.2)
    else loopC g own tst elt ρ xs b.2
def eComp (fi : Fi) (g : Fg) (own : List Nat) (tst : Ft) (elt : Fe) : Fe := fun ρ n => (fi ρ n).bind fun p => if p.1.length ≤ big then (loopC g own tst elt ρ p.1 p.2).map fun q => (.ol q.1, q.2) else none
section
variable {X : Cx} {e a b : Expr} {es : List Expr} {f fa fb : Fe} {d da db : Fd} {fs : Fa} {ds : Fds} {pos : Pos} {st : Stmt} {rest sts sts' : List Stmt} {gs h : Fs}
theorem ss_for {p : Bool} {tg : Expr} {fi : Fi} {is : List Nat} {g : Fg} {body : Fs} (hp : PassesOwn (model X.prog X.w) X.A X.env X.xe) (hc : X.calm = true) (hi : EvI X p tg e fi) (hg : EvG X p tg is g) (hb : EvSs X sts body)
    (hs : ∀ x, foldedSetIterable e X.env x = pure x := by intro _; rfl) : EvS X (.For tg e sts [] pos) (sFor fi g body) := psI (ps_for hp hc hi hg hb hs) (by
  rintro D σ H ⟨C, O, ρ, n, out, hf, E, np, q⟩
  unfold sFor at hf
  obtain ⟨⟨xs, n1⟩, e1, hf⟩ := Option.bind_eq_some_iff.mp hf
  refine ⟨C, O, ρ, n, xs, n1, e1, E, fun J H1 s t it => ?_⟩
  refine ⟨fun i m σ' H' => ∃ O' ρ' n', m = xs.length - i ∧ i ≤ xs.length ∧ StepS C O O' H1 H' ∧ EnvOk C O' X.K σ' H' ρ' n' ∧ loopF g body (xs.drop i) ρ' n' = some out,
    ⟨_, O, ρ, n1, rfl, Nat.zero_le _, Step.refl.stepS0, E.step s t, hf⟩, ?_⟩
  rintro i m σ' H' ⟨O', ρ', n', rfl, hi, S', E', hl⟩
  obtain ⟨items, stop⟩ := it H' (fun a o e na => S'.st a o e (fun z => na (Av.t _ z)) fun j z => na (.inr (.inr ⟨j, z⟩))) S'.fr
  by_cases hlt : i < xs.length
  · obtain ⟨go, yl⟩ := items i xs[i] (List.getElem?_eq_getElem hlt)
    rw [List.drop_eq_getElem_cons hlt] at hl
    unfold loopF at hl
    obtain ⟨ρ1, e2, hl⟩ := Option.bind_eq_some_iff.mp hl
    obtain ⟨o, e3, hl⟩ := Option.bind_eq_some_iff.mp hl
    refine .inr ⟨go, fun σ'' H'' => ∃ O'' ρ'' n'', StepS C O O'' H1 H'' ∧ EnvOk C O'' X.K σ'' H'' ρ'' n'' ∧ loopF g body (xs.drop (i + 1)) ρ'' n'' = some out, ?_, fun v H2 y => ?_⟩
    · rintro σ'' H'' ⟨O'', ρ'', n'', S'', E'', hl''⟩
      exact ⟨xs.length - (i + 1), by omega, O'', ρ'', n'', rfl, hlt, S'', E'', hl''⟩
    · obtain ⟨gr, it2⟩ := yl v H2 y
      have r := it2 (Av C O') S'.keep E'.av
      have E2 := E'.step gr.step (gr.town E'.town)
      have S2 : StepS C O O' H1 H2 := S'.trans gr.step.stepS0
      refine ⟨C, O', ρ', n', xs[i], ρ1, e2, E2, r, fun O3 vs s3 E3 => ⟨C, O3, ρ1, n', o, e3, E3, np.step E (s.stepS0.trans (S2.trans s3)), ?_⟩⟩
      cases o with
      | nx ρ4 n4 => exact fun O4 σ4 H4 s4 E4 => ⟨O4, ρ4, n4, (S2.trans s3).trans s4, E4, hl⟩
      | bk ρ4 n4 =>
        cases hl
        exact fun O4 σ4 H4 s4 E4 => q O4 σ4 H4 (s.stepS0.trans ((S2.trans s3).trans s4)) E4
      | rt w n4 =>
        cases hl
        exact q
  · have hie : i = xs.length := by omega
    subst hie
    rw [List.drop_length] at hl
    cases hl
    exact .inl ⟨stop, q O' σ' H' (s.stepS0.trans S') E'⟩)
/-! comprehensions -/
theorem wipe_get (σ : St) : ∀ (vs : List Nat) (j : Nat), (wipe σ vs)[j]? = if j ∈ vs ∧ j < σ.length then some none else σ[j]?
  | [], j => by simp [wipe]
  | v :: vs, j => by
    unfold wipe
    by_cases hv : v = j
    · subst hv
      by_cases hl : v < σ.length
      · rw [List.getElem?_set_self (by rw [wipe_length]; exact hl), if_pos ⟨List.mem_cons_self, hl⟩]
      · rw [List.getElem?_eq_none (by rw [List.length_set, wipe_length]; omega), if_neg (fun z => hl z.2), List.getElem?_eq_none (by omega)]
    · rw [List.getElem?_set_ne hv, wipe_get σ vs j]
      simp [Ne.symm hv]
theorem wipe_set {σ : St} {vs : List Nat} {i : Nat} {x : Option V} (h : i ∈ vs) : wipe (σ.set i x) vs = wipe σ vs := by
  apply List.ext_getElem?
  intro j
  rw [wipe_get, wipe_get, List.length_set]
  by_cases hj : j ∈ vs ∧ j < σ.length
  · rw [if_pos hj, if_pos hj]
  · rw [if_neg hj, if_neg hj]
    by_cases hi : i = j
    · subst hi
      have : ¬ i < σ.length := fun z => hj ⟨h, z⟩
      rw [List.getElem?_eq_none (by simpa using this), List.getElem?_eq_none (by omega)]
    · rw [List.getElem?_set_ne hi]
theorem wipe_wipe {σ : St} {vs : List Nat} : wipe (wipe σ vs) vs = wipe σ vs := by
  apply List.ext_getElem?
  intro j
  rw [wipe_get, wipe_length, wipe_get]
  split <;> rfl
theorem wipe_setV {vs : List Nat} : ∀ {is : List Nat} {us : List V} {σ : St}, (∀ i ∈ is, i ∈ vs) → wipe (setV is us σ) vs = wipe σ vs
  | [], _, _, _ => by unfold setV; rfl
  | _ :: _, [], _, _ => by unfold setV; rfl
  | i :: is, u :: us, σ, h => by
    unfold setV
    rw [wipe_setV (fun j hj => h j (List.mem_cons_of_mem _ hj)), wipe_set (h i List.mem_cons_self)]
theorem wipeW_length (ρ : List W) : ∀ vs : List Nat, (wipeW ρ vs).length = ρ.length
  | [] => rfl
  | v :: vs => by unfold wipeW; rw [List.length_set, wipeW_length ρ vs]
theorem wipeW_get (ρ : List W) : ∀ (vs : List Nat) (j : Nat), (wipeW ρ vs)[j]? = if j ∈ vs ∧ j < ρ.length then some .no else ρ[j]?
  | [], j => by simp [wipeW]
  | v :: vs, j => by
    unfold wipeW
    by_cases hv : v = j
    · subst hv
      by_cases hl : v < ρ.length
      · rw [List.getElem?_set_self (by rw [wipeW_length]; exact hl), if_pos ⟨List.mem_cons_self, hl⟩]
      · rw [List.getElem?_eq_none (by rw [List.length_set, wipeW_length]; omega), if_neg (fun z => hl z.2), List.getElem?_eq_none (by omega)]
    · rw [List.getElem?_set_ne hv, wipeW_get ρ vs j]
      simp [Ne.symm hv]
/-- in a block all that is ours, and the new list at D, is as others' -/
def blkC (C : Cn) (O : Ow) (D : Addr) : Cn := ⟨C.T, fun a => C.P a ∨ (∃ i, O i = some a) ∨ a = D, C.H0, C.B, fun a q h => .inl (C.bp a q h), C.bf⟩
theorem blkC_av {C : Cn} {O O' : Ow} {D : Addr} : ∀ a, Av C O a ∨ a = D → Av (blkC C O D) O' a := by
  rintro a ((z | z | z) | z)
  · exact .inl (.inl z)
  · exact .inr (.inl z)
  · exact .inl (.inr (.inl z))
  · exact .inl (.inr (.inr z))
theorem blkC_va {C : Cn} {O : Ow} {D : Addr} : ∀ a, Av (blkC C O D) O a → Av C O a ∨ a = D := by
  rintro a ((z | z | z) | z | z)
  · exact .inl (.inl z)
  · exact .inl (.inr (.inr z))
  · exact .inr z
  · exact .inl (.inr (.inl z))
  · exact .inl (.inr (.inr z))
/-- the block's state -/
theorem EnvOk.blk {C : Cn} {O : Ow} {K : PySem.W.Frag} {σ : St} {H1 H' : Hp} {ρ : List W} {n n' : Nat} {D : Addr} {vs : List Nat} (E : EnvOk C O K σ H1 ρ n) (hD : H1 D = none) (s : Step C H1 H') (t : TownAt C H' n') (hD' : ∃ o, H' D = some o ∧ ∀ q, o ≠ LamX.CodeO D q) :
    EnvOk (blkC C O D) O K (wipe σ vs) H' (wipeW ρ vs) n' := by
  have E1 := E.step s t
  have kp : Keep (Av C O) (Av (blkC C O D) O) H1 H' := fun a u na r => by
    refine ⟨fun z => ?_, s.st _ _ r (fun e => na (Av.t _ e))⟩
    rcases blkC_va a z with z | z
    · exact na z
    · rw [z, hD] at r; cases r
  refine ⟨by rw [wipeW_length, wipe_length]; exact E.len, fun i w e => ?_, E.inj, E1.own, t, E1.base, fun a z => z.elim (E1.ptr a) fun z => z.elim (fun ⟨i, z⟩ => (E1.own i a z).2.2) fun z => by rw [z]; obtain ⟨o, e, _⟩ := hD'; rw [e]; simp, E1.fr, E1.tk, E1.tb.sub rfl rfl fun a z => (blkC_va a z).imp id fun z q e => by
    obtain ⟨o, e1, e2⟩ := hD'
    rw [z] at e
    rw [e1] at e
    exact e2 q (Option.some.inj e)⟩
  rw [wipeW_get] at e
  rw [wipe_get]
  split at e
  · cases e
    trivial
  · rename_i hn
    rw [if_neg (by rw [← E.len]; exact hn)]
    have q := E.sl i w e
    cases w with
    | no => trivial
    | d x => obtain ⟨u, h1, h2⟩ := q; exact ⟨u, h1, h2.mono kp⟩
    | town => exact q
    | ol xs =>
      obtain ⟨a, us, h1, h2, h3, h4⟩ := q
      exact ⟨a, us, h1, h2, s.st _ _ h3 (E.own i a h1).1, h4.mono kp⟩
    | od kvs =>
      obtain ⟨a, h1, h2, h3⟩ := q
      exact ⟨a, h1, h2, h3.mono kp fun o e => s.st _ _ e (E.own i a h1).1⟩
    | oll xss =>
      obtain ⟨a, bs, h1, h2, h3, h4⟩ := q
      exact ⟨a, bs, h1, h2, s.st _ _ h3 (E.own i a h1).1, h4.mono kp (fun _ _ => by rw [wipeW_length]) fun x b u _ h e => s.st _ _ e (E.own _ b h).1⟩
    | fn g => obtain ⟨u, h1, h2⟩ := q; exact ⟨u, h1, h2.mono kp⟩
def bYes : Ft := fun _ n => some (true, n)
abbrev EvTs (X : Cx) (es : List Expr) (f : Ft) : Prop := PTs X es (tVT X.K f)
theorem ptsI {t t' : TT} (h : PTs X es t) (w : ∀ σ H Q, t' σ H Q → t σ H Q) : PTs X es t' := ⟨fun pins s σ H Q I q => h.run pins s σ H Q I (w σ H Q q)⟩
theorem ets_nil : EvTs X [] bYes := ptsI pts_nil (by
  rintro σ H Q ⟨C, O, ρ, n, c, n', hf, E, q⟩
  cases hf
  exact q H Step.refl E.town)
theorem comp_run {p : Bool} {K : PySem.W.Frag} {fi : Fi} {is own : List Nat} {g : Fg} {tst : Ft} {elt : Fe} (ho : ∀ i ∈ is, i ∈ own) {σ : St} {H : Hp} {Q : VK} (h : tV K (eComp fi g own tst elt) σ H Q) :
    tLc (tVJ p K fi) (tVG p K is g) (tVT K tst) (tV K elt) own σ H Q := by
  obtain ⟨C, O, ρ, n, w, n', hf, E, q⟩ := h
  unfold eComp at hf
  obtain ⟨⟨xs, n1⟩, e1, hf⟩ := Option.bind_eq_some_iff.mp hf
  simp only at hf
  split at hf
  case isFalse => cases hf
  rename_i hz
  obtain ⟨⟨ys, nf⟩, e2, hf⟩ := Option.map_eq_some_iff.mp hf
  cases hf
  refine ⟨C, O, ρ, n, xs, n1, e1, E, fun J H1 s t it D hD => ?_⟩
  have E1 := E.step s t
  have hDH : H D = none := s.fr D hD
  let Inv1 : Nat → Hp → Prop := fun i H' => ∃ n2 acc vs r, Step C H1 H' ∧ TownAt C H' n2 ∧ H' D = some (.lst vs) ∧ DvAll (fun b => Av C O b ∨ b = D) K H' vs acc ∧ acc.length ≤ i ∧ loopC g own tst elt ρ (xs.drop i) n2 = some (r, nf) ∧ acc ++ r = ys
  refine ⟨fun i m H' => m = xs.length - i ∧ i ≤ xs.length ∧ Inv1 i H', ⟨_, rfl, Nat.zero_le _, n1, [], [], ys, (Grow.upd hD).step, (Grow.upd hD).town t, upd_same, .nil, Nat.le_refl _, e2, rfl⟩, ?_⟩
  rintro i m H' ⟨rfl, hi, n2, acc, vs, r, S', T', hD', hacc, hlen, hl, hys⟩
  obtain ⟨items, stop⟩ := it H' (fun a o e na => S'.st a o e na) S'.fr
  have EB : EnvOk (blkC C O D) O K (wipe σ own) H' (wipeW ρ own) n2 := E1.blk hD S' T' ⟨_, hD', fun q => codeO_lst⟩
  by_cases hlt : i < xs.length
  · obtain ⟨go, yl⟩ := items i xs[i] (List.getElem?_eq_getElem hlt)
    rw [List.drop_eq_getElem_cons hlt] at hl
    unfold loopC at hl
    obtain ⟨ρ1, e3, hl⟩ := Option.bind_eq_some_iff.mp hl
    obtain ⟨⟨c, n3⟩, e4, hl⟩ := Option.bind_eq_some_iff.mp hl
    refine .inr ⟨go, Inv1 (i + 1), fun H'' z => ⟨xs.length - (i + 1), by omega, rfl, hlt, z⟩, fun v H2 y => ?_⟩
    obtain ⟨gr, it2⟩ := yl v H2 y
    have rx : DvI p (Av (blkC C O D) O) K H2 v xs[i] := it2 _ (fun a u na rd => by
      refine ⟨fun z => ?_, S'.st _ _ rd (fun e => na (Av.t _ e))⟩
      rcases blkC_va a z with z | z
      · exact na z
      · rw [z, hD] at rd; cases rd) EB.av
    have E2 := EB.step gr.step (gr.town EB.town)
    refine ⟨_, O, wipeW ρ own, n2, xs[i], ρ1, e3, E2, rx, fun O3 us s3 E3 => ⟨by rw [wipe_setV ho, wipe_wipe], ?_⟩⟩
    refine ⟨_, O3, ρ1, n2, c, n3, e4, E3, fun H3 s4 t4 => ?_⟩
    have E4 := E3.step s4 t4
    have toC : ∀ {Ha Hb : Hp}, Step ((blkC C O D) : Cn) Ha Hb → Step C Ha Hb := fun {Ha Hb} z => ⟨z.st0, z.fr, z.tb⟩
    have S3 : Step C H1 H3 := (S'.trans gr.step).trans (toC s4)
    have TD : ¬ TX C D := fun z => E1.ta D z hD
    have hD3 : H3 D = some (.lst vs) := s4.st _ _ (gr _ _ hD') TD
    have hacc3 : DvAll (fun b => Av C O b ∨ b = D) K H3 vs acc := (hacc.mono gr.keep).mono ((toC s4).keep fun a z => .inl (Av.t a z))
    cases c with
    | false =>
      simp only [Bool.false_eq_true, if_false] at hl ⊢
      exact ⟨n3, acc, vs, r, S3, t4, hD3, hacc3, by omega, hl, hys⟩
    | true =>
      simp only [if_true] at hl ⊢
      obtain ⟨⟨wy, n4⟩, e5, hl⟩ := Option.bind_eq_some_iff.mp hl
      obtain ⟨y', e6, hl⟩ := Option.bind_eq_some_iff.mp hl
      obtain ⟨⟨r', n5⟩, e7, hl⟩ := Option.map_eq_some_iff.mp hl
      cases hl
      refine ⟨_, O3, ρ1, n3, wy, n4, e5, E4, fun vy H4 s5 t5 ry => ?_⟩
      have ry' : Dv (Av (blkC C O D) O3) K H4 vy y' := (ry.frz E4.av).val e6
      have hD4 : H4 D = some (.lst vs) := s5.st _ _ hD3 TD
      have hacc4 := hacc3.mono ((toC s5).keep fun a z => .inl (Av.t a z))
      have S4 : Step C H1 H4 := S3.trans (toC s5)
      have ne : ∀ b u, b ≠ D → upd H4 D u b = H4 b := fun b u hb => upd_ne hb
      have kp : Keep (fun b => Av C O b ∨ b = D) (fun b => Av C O b ∨ b = D) H4 (upd H4 D (.lst (vs ++ [vy]))) := fun a u na rd => ⟨na, by
        rw [upd_ne (fun z => na (.inr z))]
        exact rd⟩
      have kq : Keep (Av (blkC C O D) O3) (fun b => Av C O b ∨ b = D) H4 H4 := fun a u na rd => ⟨fun z => na (blkC_av a z), rd⟩
      have nn : ∀ b, upd H4 D (.lst (vs ++ [vy])) b = none → H4 b = none := fun b z => by
        by_cases h : b = D
        · rw [h, upd_same] at z; cases z
        · rw [upd_ne h] at z; exact z
      refine ⟨vs, hD4, by rw [hacc.length, big_eq]; omega, n4, acc ++ [y'], vs ++ [vy], r', ⟨fun a o z t tt => ?_, fun a z => S4.fr a (nn a z), fun P q G h e t => (S4.tb P q G h e t).go (fun ps e => by rw [upd_ne (fun z => TD (.inr ⟨q, by rw [← z]; exact h⟩))]; exact e) fun c n e => ⟨n, by rw [upd_ne (fun z => by rw [z, hD4] at e; exact codeO_lst (Option.some.inj e))]; exact e⟩⟩, fun a z => ?_, upd_same, (hacc4.append (.cons (ry'.mono kq) .nil)).mono kp, by rw [List.length_append]; simp; omega, e7, ?_⟩
      · rw [upd_ne (fun h => by rw [h, hD] at z; cases z)]
        exact S4.st0 a o z t tt
      · rw [upd_ne (fun h => TD (.inl (by rw [← h]; exact z)))]
        exact t5 a z
      · rw [List.append_assoc]
        exact hys
  · have hie : i = xs.length := by omega
    subst hie
    rw [List.drop_length] at hl
    cases hl
    rw [List.append_nil] at hys
    subst hys
    exact .inl ⟨stop, q _ _ (s.trans S') T' ⟨D, vs, rfl, hDH, hD', hacc⟩⟩
end
end L2.Lv
namespace L2.Lv
open PySem PySem.Spec PyProof.Rows
/-! comprehensions as expressions -/
section
variable {X : Cx} {e a b : Expr} {es : List Expr} {f fa fb : Fe} {d da db : Fd} {fs : Fa} {ds : Fds} {pos : Pos} {st : Stmt} {rest sts sts' : List Stmt} {gs h : Fs}
theorem ev_lc {elt tg iter : Expr} {ifs : List Expr} {scope : Scope} {own : List (Str × Nat)} {p : Bool} {fi : Fi} {is : List Nat} {g : Fg} {tst : Ft} {fe : Fe} (hc : X.calm = true) (hN : X.N.Nodup) (hi : EvJ X p tg iter fi) (ok : BlkOk X.N X.env.scope scope own)
    (hg : ∀ (s : Shared) (H : Hp) (C : Addr) (cl : List (Str × Addr)) (fp : List Addr), EvG (X.blk s H scope (compEnvC scope cl C X.env) fp) p tg is g)
    (ht : ∀ (s : Shared) (H : Hp) (C : Addr) (cl : List (Str × Addr)) (fp : List Addr), EvTs (X.blk s H scope (compEnvC scope cl C X.env) fp) ifs tst)
    (he : ∀ (s : Shared) (H : Hp) (C : Addr) (cl : List (Str × Addr)) (fp : List Addr), EvE (X.blk s H scope (compEnvC scope cl C X.env) fp) elt fe)
    (ho : ∀ i ∈ is, i ∈ own.map (·.2) := by decide) (hs : ∀ x, foldedSetIterable iter X.env x = pure x := by intro _; rfl) :
    EvE X (.ListComp elt [⟨tg, iter, ifs, 0⟩] scope pos) (eComp fi g (own.map (·.2)) tst fe) :=
  peI (pe_lc hc hN hi ok hg ht he hs) fun σ H Q h => comp_run ho h
theorem ss_setLcF {i : Nat} {y : Str} {py : Pos} {elt tg iter : Expr} {ifs : List Expr} {scope : Scope} {own : List (Str × Nat)} {spos : Pos} {p : Bool} {fi : Fi} {is : List Nat} {g : Fg} {tst : Ft} {fe : Fe} (hc : X.calm = true) (hN : X.N.Nodup) (hy : X.N[i]? = some y) (hyl : X.env.scope.names.lookup y = some .local)
    (hsw : swapsWith (.ListComp elt [⟨tg, iter, ifs, 0⟩] scope pos) (some (.Name y py)) spos.line X.env = pure true) (hi : EvJ X p tg iter fi) (ok : BlkOk X.N X.env.scope scope own)
    (hg : ∀ (s : Shared) (H : Hp) (C : Addr) (cl : List (Str × Addr)) (fp : List Addr), EvG (X.blk s H scope (compEnvC scope cl C X.env) fp) p tg is g)
    (ht : ∀ (s : Shared) (H : Hp) (C : Addr) (cl : List (Str × Addr)) (fp : List Addr), EvTs (X.blk s H scope (compEnvC scope cl C X.env) fp) ifs tst)
    (he : ∀ (s : Shared) (H : Hp) (C : Addr) (cl : List (Str × Addr)) (fp : List Addr), EvE (X.blk s H scope (compEnvC scope cl C X.env) fp) elt fe)
    (ho : ∀ i ∈ is, i ∈ own.map (·.2) := by decide) (hs : ∀ x, foldedSetIterable iter X.env x = pure x := by intro _; rfl) :
    EvS X (.Assign [.Name y py] (.ListComp elt [⟨tg, iter, ifs, 0⟩] scope pos) spos) (sSet i (eFrz (eComp fi g (own.map (·.2)) tst fe))) :=
  psI (ps_setLc hc hN hy hyl hsw hi ok hg ht he hs) (by
    rintro D σ H ⟨C, O, ρ, n, out, hf, E, np, q⟩
    unfold sSet at hf
    obtain ⟨⟨w, n1⟩, e1, hf⟩ := Option.map_eq_some_iff.mp hf
    cases hf
    unfold eFrz at e1
    obtain ⟨⟨w0, n2⟩, e0, e1⟩ := Option.map_eq_some_iff.mp e1
    cases e1
    refine comp_run ho ⟨C, O, ρ, n, w0, _, e0, E, fun v H1 s t r => ?_⟩
    obtain ⟨O', E', s'⟩ := E.assign (i := i) s t (r.frz E.av)
    exact q O' _ H1 s' E')
/-- a list of one's own is given away -/
def frzAt (i : Nat) (g : Fs) : Fs := fun ρ n => match ρ[i]? with
  | some w => g (ρ.set i w.frz) n
  | none => none
theorem EnvOk.frzAt {C : Cn} {O : Ow} {K : PySem.W.Frag} {σ : St} {H : Hp} {ρ : List W} {n i : Nat} {w : W} (E : EnvOk C O K σ H ρ n) (np : OwnP C O) (e : ρ[i]? = some w) : ∃ O', EnvOk C O' K σ H (ρ.set i w.frz) n ∧ StepS C O O' H H := by
  have same : ∀ w', w' = w → ∃ O', EnvOk C O' K σ H (ρ.set i w') n ∧ StepS C O O' H H := by
    rintro w' rfl
    have h : ρ.set i w' = ρ := by
      apply List.ext_getElem?
      intro j
      by_cases h : i = j
      · subst h
        rw [List.getElem?_set_self (List.getElem?_eq_some_iff.mp e).1, e]
      · rw [List.getElem?_set_ne h]
    rw [h]
    exact ⟨O, E, Step.refl.stepS0⟩
  cases w with
  | no => exact same _ rfl
  | d x => exact same _ rfl
  | town => exact same _ rfl
  | od x => exact same _ rfl
  | oll x => exact same _ rfl
  | fn _ => exact same _ rfl
  | ol xs =>
    obtain ⟨a, vs, h1, h2, h3, h4⟩ := E.sl i _ e
    have hi : i < σ.length := (List.getElem?_eq_some_iff.mp h2).1
    have hs : σ.set i (some (.ref a)) = σ := by
      apply List.ext_getElem?
      intro j
      by_cases h : i = j
      · subst h
        rw [List.getElem?_set_self hi, h2]
      · rw [List.getElem?_set_ne h]
    have kp : Keep (Av C O) (Av C (owSet O i none)) H H := fun b u nb r => ⟨fun z => nb (by
      rcases z with z | z | ⟨j, z⟩
      · exact .inl z
      · exact .inr (.inl z)
      · by_cases h : j = i
        · rw [h, owSet_at] at z; cases z
        · rw [owSet_of h] at z; exact .inr (.inr ⟨j, z⟩)), r⟩
    have na : ¬ Av C (owSet O i none) a := by
      rintro (z | z | ⟨j, z⟩)
      · exact np i a h1 z
      · exact (E.own i a h1).1 (.inl z)
      · by_cases h : j = i
        · rw [h, owSet_at] at z; cases z
        · rw [owSet_of h] at z; exact h (E.inj j i a z h1)
    refine ⟨owSet O i none, ⟨by simpa using E.len, fun j w' e' => ?_, fun j k b h h' => ?_, fun j b h => ?_, E.town, E.base, E.ptr, E.fr, E.tk, ?_⟩, Step.refl.stepS fun j b h => ?_⟩
    · by_cases h : j = i
      · subst h
        rw [List.getElem?_set_self (List.getElem?_eq_some_iff.mp e).1] at e'
        cases e'
        exact ⟨_, h2, .lst (.inl ⟨na, .inl h3⟩) (h4.mono kp)⟩
      · rw [List.getElem?_set_ne (Ne.symm h)] at e'
        rw [owSet_of h]
        have q := E.sl j w' e'
        cases w' with
        | no => trivial
        | d x => obtain ⟨u, h1, h2⟩ := q; exact ⟨u, h1, h2.mono kp⟩
        | town => exact q
        | ol xs => obtain ⟨b, us, h1, h2, h3, h4⟩ := q; exact ⟨b, us, h1, h2, h3, h4.mono kp⟩
        | od kvs => obtain ⟨b, h1, h2, h3⟩ := q; exact ⟨b, h1, h2, h3.mono kp fun o e => e⟩
        | oll xss => obtain ⟨b, bs, h1, h2, h3, h4⟩ := q; exact ⟨b, bs, h1, h2, h3, h4.mono kp (fun x hx => by rw [List.length_set]; exact owSet_of (by have := (List.getElem?_eq_some_iff.mp e).1; omega)) fun _ _ _ _ _ e => e⟩
        | fn g => obtain ⟨u, h1, h2⟩ := q; exact ⟨u, h1, h2.mono kp⟩
    · by_cases hj : j = i
      · rw [hj, owSet_at] at h; cases h
      · by_cases hk : k = i
        · rw [hk, owSet_at] at h'; cases h'
        · rw [owSet_of hj] at h; rw [owSet_of hk] at h'; exact E.inj j k b h h'
    · by_cases hj : j = i
      · rw [hj, owSet_at] at h; cases h
      · rw [owSet_of hj] at h; exact E.own j b h
    · refine E.tb.sub rfl rfl ?_
      rintro b (z | z | ⟨j, z⟩)
      · exact .inl (.inl z)
      · exact .inl (.inr (.inl z))
      · by_cases h : j = i
        · rw [h, owSet_at] at z; cases z
        · rw [owSet_of h] at z; exact .inl (.inr (.inr ⟨j, z⟩))
    · by_cases hj : j = i
      · rw [hj, owSet_at] at h; cases h
      · rw [owSet_of hj] at h; exact .inl ⟨j, h⟩
/-! a def by its body -/
def runB (m : Nat) (g : Fs) : Fn := fun ws n => (g (ws ++ List.replicate (m - ws.length) .no) n).bind fun o => match o with
  | .rt w n' => some (w, n')
  | .nx _ n' => some (.d .none, n')
  | .bk _ _ => none
theorem start_env {C : Cn} {K : PySem.W.Frag} {N : List Str} {H : Hp} {ws : List W} {vs : List V} {n : Nat} (h0 : C.H0 = H) (hP : ∀ a, C.P a → H a ≠ none) (t : TownAt C H n) (ha : ArgsOk (Av C Ow0) C.T K H vs ws) (tk : ∀ x ∈ tabsOf K, C.B x.1 x.2) (tg : TabG C Ow0 H) :
    EnvOk C Ow0 K (start N vs) H (ws ++ List.replicate (N.length - ws.length) .no) n := by
  have hl : vs.length = ws.length := Paired.length ha
  refine ⟨by simp [start, hl], fun i w e => ?_, fun i j a h => (nomatch h), fun i a h => (nomatch h), t, fun a o h _ => by rw [← h0]; exact h, hP, fun a h => by rw [h0]; exact h, tk, tg⟩
  by_cases hi : i < ws.length
  · rw [List.getElem?_append_left hi] at e
    have get : ∀ {vs : List V} {ws : List W} {i : Nat} {w : W}, ArgsOk (Av C Ow0) C.T K H vs ws → ws[i]? = some w → ∃ v, vs[i]? = some v ∧ ArgOk (Av C Ow0) C.T K H v w := by
      intro vs ws i w h e
      induction h generalizing i with
      | nil => simp at e
      | cons r t ih =>
        cases i with
        | zero => simp at e; subst e; exact ⟨_, rfl, r⟩
        | succ i =>
          obtain ⟨v, h1, h2⟩ := ih (i := i) (by simpa using e)
          exact ⟨v, by simpa using h1, h2⟩
    obtain ⟨v, h1, h2⟩ := get ha e
    have hs : (start N vs)[i]? = some (some v) := by
      unfold start
      rw [List.getElem?_append_left (by rw [List.length_map, hl]; exact hi), List.getElem?_map, h1]
      rfl
    rw [hs]
    cases w with
    | d x => exact ⟨v, rfl, h2⟩
    | town => obtain ⟨a, z1, z2⟩ := h2; exact ⟨a, z1, by rw [z2]⟩
    | no => trivial
    | ol _ => exact False.elim h2
    | od _ => exact False.elim h2
    | oll _ => exact False.elim h2
    | fn _ => exact ⟨v, rfl, h2⟩
  · rw [List.getElem?_append_right (by omega), List.getElem?_replicate] at e
    split at e
    · cases e
      trivial
    · cases e
theorem fn_val {P : Program} {w : World} {K : PySem.W.Frag} {mg : Str → Option Value} {base : Heap} {x qual : Str} {st : Stmt} {f : Addr} {fd : FuncData} {N ps : List Str} {k : Nat} {g : Fs} (F : Fun K x qual st f fd) (S : FnScope N ps (defScope st))
    (hb : ∀ (cdv : Value) (A : Around) (outer : List Env) (s : Shared) (H : Hp) (E : XK), Room k (A.deeper (envOfC qual (defScope st) s.heap.objs.size f cdv)) →
      EvSs (cxOf CX0 P w K mg base N qual (defScope st) f cdv A outer s H E).nox (defBody st) g) : FnOk P w K mg base CX0 (k + 1) f fd ps (spOf K ps.length (runB N.length g)) := by
  refine F.ok S spOf.len fun cdv A outer s H vs Q E hr h => ⟨_, hb cdv A outer s H E hr, ?_⟩
  obtain ⟨C, ws, n, w, n', rfl, hP, t, hl, ha, hf, tk, tg, q⟩ := h
  unfold runB at hf
  obtain ⟨o, e1, hf⟩ := Option.bind_eq_some_iff.mp hf
  refine ⟨C, Ow0, _, n, o, e1, start_env rfl hP t ha tk tg, fun i a z => (nomatch z), ?_⟩
  cases o with
  | rt w1 n1 =>
    cases hf
    exact fun v H' r => q v H' (r.toStep tg) r.town r.res
  | nx ρ1 n1 =>
    cases hf
    exact fun O' σ' H' s E' => q .non H' (E'.toStep tg) E'.town .non
  | bk ρ1 n1 => cases hf
end
end L2.Lv
namespace L2.Lv
open PySem PySem.Spec PyProof.Rows
section
variable {X : Cx} {e a b : Expr} {es : List Expr} {f fa fb : Fe} {d da db : Fd} {fs : Fa} {ds : Fds} {pos : Pos}
/-! ints -/
def dI (C : Int → Int → Bool) (g : Int → Int → Int) : PyData → PyData → Option W
  | .int i, .int j => if C i j then some (.d (.int (g i j))) else none
  | _, _ => none
theorem opv_I {f : Value → Value → Sem Value} {Cp : Int → Int → Prop} {C : Int → Int → Bool} {g : Int → Int → Int} (h : OpR X f (rI Cp fun i j => .int (g i j))) (hc : ∀ i j, C i j = true → Cp i j) : OpV X f (dI C g) := ⟨_, h, fun A T x y dx dy w H Q tr rx ry e q => by
  cases dx with
  | int i =>
    cases dy with
    | int j =>
      simp only [dI] at e
      split at e
      · rename_i hC
        cases e
        exact ⟨i, j, rx.int, ry.int, hc i j hC, q _ _ Grow.refl (.int _)⟩
      · cases e
    | _ => cases e
  | _ => cases e⟩
def yesC : Int → Int → Bool := fun _ _ => true
theorem rI_of {f : Value → Value → Sem Value} {g : Int → Int → V} (h : OpR X f (rI0 g)) : OpR X f (rI (fun _ _ => True) g) := fun pins s σ H x y v u Q I rx ry ⟨i, j, h1, h2, _, q⟩ => h pins s σ H x y v u Q I rx ry ⟨i, j, h1, h2, q⟩
abbrev dAddI := dI yesC (· + ·)
abbrev dSub := dI yesC (· - ·)
def mulC (i j : Int) : Bool := decide ((-(2 ^ 64) < i ∧ i < 2 ^ 64) ∨ (-(2 ^ 64) < j ∧ j < 2 ^ 64))
abbrev dMul := dI mulC (· * ·)
def divC (_ j : Int) : Bool := decide (0 < j ∧ j < 1073741824)
abbrev dDiv := dI divC (· / ·)
def modC (_ j : Int) : Bool := decide (0 < j)
abbrev dMod := dI modC (· % ·)
theorem ov_addI : OpV X (binaryOp .Add) dAddI := opv_I (rI_of op_add) fun _ _ _ => trivial
theorem ov_sub : OpV X (binaryOp .Sub) dSub := opv_I (rI_of op_sub) fun _ _ _ => trivial
theorem ov_mul : OpV X (binaryOp .Mult) dMul := opv_I op_mul fun i j h => of_decide_eq_true (p := (-(2 ^ 64) < i ∧ i < 2 ^ 64) ∨ (-(2 ^ 64) < j ∧ j < 2 ^ 64)) h
theorem ov_div : OpV X (binaryOp .FloorDiv) dDiv := opv_I op_fdiv fun i j h => of_decide_eq_true (p := 0 < j ∧ j < 1073741824) h
theorem ov_mod : OpV X (binaryOp .Mod) dMod := opv_I op_mod fun _ _ h => of_decide_eq_true h
/-! t + u, xs + ys, s + t -/
def dCatT : PyData → PyData → Option W
  | .tuple xs, .tuple ys => if xs.length + ys.length ≤ big then some (.d (.tuple (xs ++ ys))) else none
  | _, _ => none
theorem ov_catT : OpV X (binaryOp .Add) dCatT := ⟨_, op_catF, fun A T x y dx dy w H Q tr rx ry e q => by
  cases dx with
  | tuple xs =>
    cases dy with
    | tuple ys =>
      simp only [dCatT] at e
      split at e
      · rename_i hz
        cases e
        obtain ⟨a, vs, rfl, h1, h2, h3⟩ := rx.tup
        obtain ⟨b, us, rfl, k1, k2, k3⟩ := ry.tup
        refine ⟨a, b, vs, us, rfl, rfl, h1, k1, by rw [h2.length, k2.length, big_eq]; exact hz, fun z => ?_, fun z => ?_, fun p o ho hp => q _ _ (Grow.upd hp) (new_tup hp tr ho (h2.append k2))⟩
        · subst z
          cases h2
          exact q _ _ Grow.refl k3
        · subst z
          cases k2
          rw [List.append_nil] at q
          exact q _ _ Grow.refl h3
      · cases e
    | _ => cases e
  | _ => cases e⟩
def rCatR (K : PySem.W.Frag) : R2 := fun x y H Q => ∃ l b xs zs, x = .ref l ∧ y = .ref b ∧ SqL K H l xs ∧ SqL K H b zs ∧ xs.length + zs.length ≤ sizeLine ∧ ∀ p, H p = none → Q (.ref p) (upd H p (.lst (xs ++ zs)))
theorem op_catR : OpR X (binaryOp .Add) (rCatR X.K) := by
  rintro pins s σ H x y v u Q I rx ry ⟨l, b, xs, zs, rfl, rfl, hH, hB, hz, q⟩
  have hv : v = .ref l := rx
  have hu : u = .ref b := ry
  subst hv hu
  obtain ⟨its, r, ⟨⟨cls, dd, data, sl⟩, n, e, hc, hdd, hd⟩, z⟩ := I.list hH
  obtain ⟨its2, r2, ⟨⟨cls2, dd2, data2, sl2⟩, n2, e2, hc2, hdd2, hd2⟩, z2⟩ := I.list hB
  simp only at hc hd hc2 hd2
  subst hc hd hc2 hd2
  have l1 := r.length
  have l2 := r2.length
  refine concat_meets ⟨_, e, rfl⟩ ⟨_, e2, rfl⟩ noFill_list_add seq_list_add PySem.F.slot_list_add PySem.F.entry_list_add (PySem.F.args_list_add_2 _ _) (list_addW l b its.toArray its2.toArray n n2 dd dd2 sl sl2 (by rw [List.size_toArray, List.size_toArray]; omega)) ⟨e, e2, ?_⟩
  rw [show its.toArray ++ its2.toArray = (its ++ its2).toArray by simp]
  exact ⟨.ref _, _, I.lnew (t' := s.toks) (r.append r2) (by rw [List.length_append]; omega), rfl, q _ I.fresh⟩
def dCatL : PyData → PyData → Option W
  | .list xs, .list ys => if xs.length + ys.length ≤ big then some (.ol (xs ++ ys)) else none
  | _, _ => none
theorem ov_catL : OpV X (binaryOp .Add) dCatL := ⟨_, op_catR, fun A T x y dx dy w H Q tr rx ry e q => by
  cases dx with
  | list xs =>
    cases dy with
    | list ys =>
      simp only [dCatL] at e
      split at e
      · rename_i hz
        cases e
        obtain ⟨a, vs, rfl, h1, h2⟩ := rx.lst
        obtain ⟨b, us, rfl, k1, k2⟩ := ry.lst
        exact ⟨a, b, vs, us, rfl, rfl, h1, k1, by rw [h2.length, k2.length, big_eq]; exact hz, fun p hp => q _ _ (Grow.upd hp) (new_lst hp (h2.append k2))⟩
      · cases e
    | _ => cases e
  | _ => cases e⟩
def dCatS : PyData → PyData → Option W
  | .str xs, .str ys => if xs.length + ys.length ≤ big then some (.d (.str (xs ++ ys))) else none
  | _, _ => none
theorem ov_catS : OpV X (binaryOp .Add) dCatS := ⟨_, op_add_str, fun A T x y dx dy w H Q tr rx ry e q => by
  cases dx with
  | str xs =>
    cases dy with
    | str ys =>
      simp only [dCatS] at e
      split at e
      · rename_i hz
        cases e
        exact ⟨xs, ys, rx.str, ry.str, by rw [big_eq]; exact hz, q _ _ Grow.refl (.str _)⟩
      · cases e
    | _ => cases e
  | _ => cases e⟩
/-- + of ints, tuples, lists -/
def dAdd : PyData → PyData → Option W := fun x y => match x, y with
  | .int i, .int j => some (.d (.int (i + j)))
  | .tuple xs, .tuple ys => if xs.length + ys.length ≤ big then some (.d (.tuple (xs ++ ys))) else none
  | .list xs, .list ys => if xs.length + ys.length ≤ big then some (.ol (xs ++ ys)) else none
  | .str xs, .str ys => if xs.length + ys.length ≤ big then some (.d (.str (xs ++ ys))) else none
  | _, _ => none
theorem OpV.cast {f : Value → Value → Sem Value} {g g' : PyData → PyData → Option W} (h : OpV X f g) (e : ∀ x y, g' x y = g x y) : OpV X f g' := by
  have : g' = g := funext fun x => funext fun y => e x y
  rw [this]; exact h
theorem ov_add : OpV X (binaryOp .Add) dAdd := (((ov_addI.or ov_catT).or ov_catL).or ov_catS).cast fun x y => by
  cases x <;> cases y <;> simp [dAdd, dI, yesC, dCatT, dCatL, dCatS]
/-! == and != -/
def shp (x : PyData) : Bool := SeqAt.shaped x
def dEq (x y : PyData) : Option W := if shp x && shp y then some (.d (.bool (PyData.eqv x y))) else none
def dNe (x y : PyData) : Option W := if shp x && shp y then some (.d (.bool (!PyData.eqv x y))) else none
theorem DvB.dp {A : Addr → Prop} {T : Option Addr} {K : PySem.W.Frag} {H : Hp} {v : V} {x : PyData} (h : DvB A T K H v x) (hs : shp x = true) : Dp K H v x := by
  rcases h with h | ⟨a, vs, ds, rfl, rfl, _, h4, h5⟩ | ⟨a, kvs, _, rfl, _⟩
  · exact h.dp
  · exact .lst (SqL.of h4) h5.dp
  · exact absurd hs (by simp [shp, SeqAt.shaped, PyData.canLay0])
theorem ov_eq (hu : X.A.units + 64 < cLine) : OpV X (compareOp .Eq) dEq := ⟨_, op_eqD hu, fun A T x y dx dy w H Q tr rx ry e q => by
  unfold dEq at e
  split at e
  · rename_i hs
    rw [Bool.and_eq_true] at hs
    cases e
    exact ⟨dx, dy, rx.dp hs.1, ry.dp hs.2, hs.1, hs.2, q _ _ Grow.refl (.bl _)⟩
  · cases e⟩
theorem ov_ne (hu : X.A.units + 64 < cLine) : OpV X (compareOp .NotEq) dNe := ⟨_, op_neD hu, fun A T x y dx dy w H Q tr rx ry e q => by
  unfold dNe at e
  split at e
  · rename_i hs
    rw [Bool.and_eq_true] at hs
    cases e
    exact ⟨dx, dy, rx.dp hs.1, ry.dp hs.2, hs.1, hs.2, q _ _ Grow.refl (.bl _)⟩
  · cases e⟩
/-! is None -/
def isNo : PyData → Bool
  | .none => true
  | _ => false
def dIsN : PyData → PyData → Option W
  | x, .none => some (.d (.bool (isNo x)))
  | _, _ => none
def dNotN : PyData → PyData → Option W
  | x, .none => some (.d (.bool (!isNo x)))
  | _, _ => none
theorem DvB.isN {A : Addr → Prop} {T : Option Addr} {K : PySem.W.Frag} {H : Hp} {v : V} {x : PyData} (h : DvB A T K H v x) : decide (v = .non) = isNo x := by
  cases x with
  | none => rw [h.non]; rfl
  | bool b => rw [h.bl]; rfl
  | int b => rw [h.int]; rfl
  | str b => rw [h.str]; rfl
  | list b => obtain ⟨a, vs, rfl, _⟩ := h.lst; rfl
  | tuple b => obtain ⟨a, vs, rfl, _⟩ := h.tup; rfl
  | dict b => obtain ⟨a, rfl, _⟩ := h.dct; rfl
theorem ov_isN : OpV X (compareOp .Is) dIsN := ⟨_, op_isN, fun A T x y dx dy w H Q tr rx ry e q => by
  cases dy with
  | none =>
    cases e
    exact ⟨ry.non, by rw [rx.isN]; exact q _ _ Grow.refl (.bl _)⟩
  | _ => cases e⟩
theorem ov_notN : OpV X (compareOp .IsNot) dNotN := ⟨_, op_notN, fun A T x y dx dy w H Q tr rx ry e q => by
  cases dy with
  | none =>
    cases e
    exact ⟨ry.non, by rw [rx.isN]; exact q _ _ Grow.refl (.bl _)⟩
  | _ => cases e⟩
/-! order -/
def intsOf : List PyData → Option (List Int)
  | [] => some []
  | .int i :: xs => (intsOf xs).map (i :: ·)
  | _ :: _ => none
theorem intsOf_ok : ∀ {xs : List PyData} {ns : List Int}, intsOf xs = some ns → xs = ns.map .int
  | [], _, h => by cases h; rfl
  | x :: xs, ns, h => by
    cases x with
    | int i =>
      obtain ⟨ms, h1, h2⟩ := Option.map_eq_some_iff.mp (show (intsOf xs).map (i :: ·) = some ns from h)
      subst h2
      rw [intsOf_ok h1]
      rfl
    | _ => cases h
@[simp] theorem intsOf_map : ∀ (ns : List Int), intsOf (ns.map .int) = some ns
  | [] => rfl
  | n :: ns => by show (intsOf (ns.map .int)).map (n :: ·) = _; rw [intsOf_map ns]; rfl
theorem DvAll.ints {A : Addr → Prop} {K : PySem.W.Frag} {H : Hp} : ∀ {ns : List Int} {vs : List V}, DvAll A K H vs (ns.map .int) → vs = ns.map V.int
  | [], _, h => by cases h; rfl
  | n :: ns, _, h => by
    cases h with
    | cons h1 h2 => cases h1; rw [DvAll.ints h2]; rfl
def lexB (r : Int → Int → Bool) (z : Nat → Nat → Bool) : List Int → List Int → Bool
  | x :: xs, y :: ys => if x = y then lexB r z xs ys else r x y
  | xs, ys => z xs.length ys.length
theorem lexB_cons {r : Int → Int → Bool} {z : Nat → Nat → Bool} {x y : Int} {xs ys : List Int} : lexB r z (x :: xs) (y :: ys) = if x = y then lexB r z xs ys else r x y := rfl
theorem lexB_at {r : Int → Int → Bool} {z : Nat → Nat → Bool} (hz : ∀ i j, z (i + 1) (j + 1) = z i j) (ns ms : List Int) : ∀ (k i : Nat), i + k = min ns.length ms.length →
    Ob.lexAt (fun j => decide (ns.getD j 0 = ms.getD j 0)) (fun j => r (ns.getD j 0) (ms.getD j 0)) (z ns.length ms.length) i k = lexB r z (ns.drop i) (ms.drop i) := by
  have hzz : ∀ i n m, i ≤ n → i ≤ m → z (n - i) (m - i) = z n m := by
    intro i
    induction i with
    | zero => intro n m _ _; rfl
    | succ i ih =>
      intro n m h1 h2
      obtain ⟨n, rfl⟩ : ∃ n', n = n' + 1 := ⟨n - 1, by omega⟩
      obtain ⟨m, rfl⟩ : ∃ m', m = m' + 1 := ⟨m - 1, by omega⟩
      rw [Nat.add_sub_add_right, Nat.add_sub_add_right, ih n m (by omega) (by omega), hz]
  intro k
  induction k with
  | zero =>
    intro i h
    rw [Ob.lexAt_zero]
    have : lexB r z (ns.drop i) (ms.drop i) = z (ns.drop i).length (ms.drop i).length := by
      rcases Nat.le_total ns.length ms.length with g | g
      · rw [List.drop_eq_nil_of_le (show ns.length ≤ i by omega)]; unfold lexB; rfl
      · rw [List.drop_eq_nil_of_le (show ms.length ≤ i by omega)]
        cases ns.drop i <;> (unfold lexB; rfl)
    rw [this, List.length_drop, List.length_drop]
    exact (hzz i _ _ (by omega) (by omega)).symm
  | succ k ih =>
    intro i h
    rw [Ob.lexAt_succ, ih (i + 1) (by omega)]
    have h1 : i < ns.length := by omega
    have h2 : i < ms.length := by omega
    rw [List.drop_eq_getElem_cons h1, List.drop_eq_getElem_cons h2]
    have g1 : ns.getD i 0 = ns[i] := by simp [h1]
    have g2 : ms.getD i 0 = ms[i] := by simp [h2]
    rw [g1, g2, lexB_cons]
    by_cases he : ns[i] = ms[i]
    · simp [he]
    · simp [he]
def dCmpT (r : Int → Int → Bool) (z : Nat → Nat → Bool) : PyData → PyData → Option W
  | .tuple xs, .tuple ys => (intsOf xs).bind fun ns => (intsOf ys).map fun ms => .d (.bool (lexB r z ns ms))
  | _, _ => none
theorem cmpT {op : CmpOp} {r : Int → Int → Bool} {z : Nat → Nat → Bool} (hz : ∀ i j, z (i + 1) (j + 1) = z i j) (hc : ∀ a b, compareOp op a b = richCompare op a b)
    (hi : ∀ (A : Around) (s : Shared) (i j : Int) (t u : Tok), Ob.RcOp op A s (.int i t) (.int j u) (r i j))
    (ht : ∀ {A : Around} {s : Shared} {l b : Addr} {items items2 : Array Value} {e r : Nat → Bool}, s.heap.IsTuple l items → s.heap.IsTuple b items2 → A.units < cLine →
      (∀ j (h1 : j < items.size) (h2 : j < items2.size), SeqAt.EqAt A.in1 s items[j] items2[j] (e j)) → (∀ j (h1 : j < items.size) (h2 : j < items2.size), e j = false → Ob.RcOp op A.in1 s items[j] items2[j] (r j)) →
      Ob.RcOp op A s (.ref l) (.ref b) (Ob.lexAt e r (z items.size items2.size) 0 (min items.size items2.size)))
    (hu : X.A.units < cLine) : OpV X (compareOp op) (dCmpT r z) := by
  refine ⟨fun x y H Q => ∃ (a b : Addr) (ns ms : List Int), x = .ref a ∧ y = .ref b ∧ SqT X.K H a (ns.map V.int) ∧ SqT X.K H b (ms.map V.int) ∧ Q (.bl (lexB r z ns ms)) H, ?_, ?_⟩
  · rintro pins s σ H x y v u Q I rx ry ⟨a, b, ns, ms, rfl, rfl, ha, hb, q⟩
    have hv : v = .ref a := rx
    have hw : u = .ref b := ry
    subst hv hw
    obtain ⟨its, r1, p1, _⟩ := I.tuple ha
    obtain ⟨its2, r2, p2, _⟩ := I.tuple hb
    have i1 : IntsAre its ns := Vals.ints r1
    have i2 : IntsAre its2 ms := Vals.ints r2
    have e1 : its.toArray.size = ns.length := by rw [List.size_toArray]; exact i1.length
    have e2 : its2.toArray.size = ms.length := by rw [List.size_toArray]; exact i2.length
    have at1 : ∀ j (h1 : j < its.toArray.size), ∃ t, its.toArray[j] = .int (ns.getD j 0) t := fun j h1 => IntsAre.int_at i1 _ _ (by simp at h1; simp [h1])
    have at2 : ∀ j (h1 : j < its2.toArray.size), ∃ t, its2.toArray[j] = .int (ms.getD j 0) t := fun j h1 => IntsAre.int_at i2 _ _ (by simp at h1; simp [h1])
    have R := ht (A := X.A) (s := s) (e := fun j => decide (ns.getD j 0 = ms.getD j 0)) (r := fun j => r (ns.getD j 0) (ms.getD j 0)) p1 p2 hu (fun j h1 h2 => by
      obtain ⟨t, et⟩ := at1 j h1
      obtain ⟨t', et'⟩ := at2 j h2
      have hb : decide (ns.getD j 0 = ms.getD j 0) = (ns.getD j 0 == ms.getD j 0) := by
        by_cases g : ns.getD j 0 = ms.getD j 0
        · rw [decide_eq_true g, g]; simp
        · rw [decide_eq_false g]; exact (beq_eq_false_iff_ne.mpr g).symm
      rw [et, et']
      show SeqAt.EqAt _ _ _ _ (decide (ns.getD j 0 = ms.getD j 0))
      rw [hb]
      exact SeqAt.EqAt.int_int _ _ _ _) (fun j h1 h2 _ => by
      obtain ⟨t, et⟩ := at1 j h1
      obtain ⟨t', et'⟩ := at2 j h2
      rw [et, et']
      exact hi _ _ _ _ _ _)
    rw [e1, e2, lexB_at hz ns ms _ 0 (by omega), List.drop_zero, List.drop_zero] at R
    rw [hc]
    exact R _ _ _ _ ⟨.bl _, H, I, rfl, q⟩
  · intro A T x y dx dy w H Q tr rx ry e q
    cases dx with
    | tuple xs =>
      cases dy with
      | tuple ys =>
        simp only [dCmpT] at e
        obtain ⟨ns, h1, e⟩ := Option.bind_eq_some_iff.mp e
        obtain ⟨ms, h2, e⟩ := Option.map_eq_some_iff.mp e
        subst e
        obtain ⟨a, vs, rfl, k1, k2, _⟩ := rx.tup
        obtain ⟨b, us, rfl, j1, j2, _⟩ := ry.tup
        rw [intsOf_ok h1] at k2
        rw [intsOf_ok h2] at j2
        rw [k2.ints] at k1
        rw [j2.ints] at j1
        exact ⟨a, b, ns, ms, rfl, rfl, k1, j1, q _ _ Grow.refl (.bl _)⟩
      | _ => cases e
    | _ => cases e
def rLt (i j : Int) : Bool := decide (i < j)
def rLe (i j : Int) : Bool := decide (i ≤ j)
def rGt (i j : Int) : Bool := decide (j < i)
def rGe (i j : Int) : Bool := decide (j ≤ i)
def zLt (i j : Nat) : Bool := decide (i < j)
def zLe (i j : Nat) : Bool := decide (i ≤ j)
def zGt (i j : Nat) : Bool := decide (j < i)
def zGe (i j : Nat) : Bool := decide (j ≤ i)
/-- <, <=, >, >= of ints, of tuples of ints -/
def dCmp (r : Int → Int → Bool) (z : Nat → Nat → Bool) : PyData → PyData → Option W
  | .int i, .int j => some (.d (.bool (r i j)))
  | .tuple xs, .tuple ys => (intsOf xs).bind fun ns => (intsOf ys).map fun ms => .d (.bool (lexB r z ns ms))
  | _, _ => none
def dCmpI (r : Int → Int → Bool) : PyData → PyData → Option W
  | .int i, .int j => some (.d (.bool (r i j)))
  | _, _ => none
theorem opv_B {f : Value → Value → Sem Value} {r : Int → Int → Bool} (h : OpR X f (rI0 fun i j => .bl (r i j))) : OpV X f (dCmpI r) := ⟨_, h, fun A T x y dx dy w H Q tr rx ry e q => by
  cases dx with
  | int i =>
    cases dy with
    | int j =>
      cases e
      exact ⟨i, j, rx.int, ry.int, q _ _ Grow.refl (.bl _)⟩
    | _ => cases e
  | _ => cases e⟩
theorem dCmp_eq {r : Int → Int → Bool} {z : Nat → Nat → Bool} (x y : PyData) : dCmp r z x y = (dCmpI r x y).or (dCmpT r z x y) := by
  cases x <;> cases y <;> simp [dCmp, dCmpI, dCmpT]
theorem ov_lt (hu : X.A.units < cLine) : OpV X (compareOp .Lt) (dCmp rLt zLt) := ((opv_B (r := rLt) op_lt).or (cmpT (fun i j => by simp [zLt]) (fun _ _ => rfl) (fun _ _ _ _ _ _ => Ob.RcOp.lt_int _ _ _ _) (fun h1 h2 h3 h4 h5 => Ob.RcOp.tuples_lt h1 h2 h3 h4 h5) hu)).cast dCmp_eq
theorem ov_gt (hu : X.A.units < cLine) : OpV X (compareOp .Gt) (dCmp rGt zGt) := ((opv_B (r := rGt) op_gt).or (cmpT (fun i j => by simp [zGt]) (fun _ _ => rfl) (fun _ _ _ _ _ _ => Ob.RcOp.gt_int _ _ _ _) (fun h1 h2 h3 h4 h5 => Ob.RcOp.tuples_gt h1 h2 h3 h4 h5) hu)).cast dCmp_eq
theorem ov_ge (hu : X.A.units < cLine) : OpV X (compareOp .GtE) (dCmp rGe zGe) := ((opv_B (r := rGe) op_ge).or (cmpT (fun i j => by simp [zGe]) (fun _ _ => rfl) (fun _ _ _ _ _ _ => Ob.RcOp.ge_int _ _ _ _) (fun h1 h2 h3 h4 h5 => Ob.RcOp.tuples_ge h1 h2 h3 h4 h5) hu)).cast dCmp_eq
end
end L2.Lv
namespace L2.Lv
open PySem PySem.Spec PyProof.Rows
section
variable {X : Cx} {e a b c : Expr} {es rest : List Expr} {f fa fb : Fe} {d da db dc : Fd} {fs : Fa} {ds : Fds} {pos : Pos}
/-! in, not in -/
def seqOf : PyData → Option (List PyData)
  | .list xs => some xs
  | .tuple xs => some xs
  | _ => none
def memD (x : PyData) (xs : List PyData) : Bool := xs.any fun y => PyData.eqv y x
def dIn (x y : PyData) : Option W := (seqOf y).bind fun xs => if shp x && shp y then some (.d (.bool (memD x xs))) else none
def dNotIn (x y : PyData) : Option W := (seqOf y).bind fun xs => if shp x && shp y then some (.d (.bool (!memD x xs))) else none
theorem room_shp {A : Around} {xs : List PyData} {d : PyData} (hd : SeqAt.shaped d = true) (hu : A.units + 65 < cLine) : A.units + 1 + min (PyData.depthAll xs) d.depth < cLine := by
  have h1 := SeqAt.depth_of_shaped hd
  have h2 : min (PyData.depthAll xs) d.depth ≤ d.depth := Nat.min_le_right _ _
  omega
theorem ov_inG {op : CmpOp} {neg : Bool} (hu : X.A.units + 65 < cLine)
    (rl : ∀ {s : Shared} {c x : Value} {xs : List PyData} {d : PyData} {as bs : List Addr} {Q : Value → Shared → Prop} {E : Value → Shared → Prop}, Reads s.heap c (.list xs) as → Reads s.heap x d bs → PyData.canLayAll0 xs = true → d.canLay0 = true →
      X.A.units + 1 + min (PyData.depthAll xs) d.depth < cLine → Q (.bool (xor neg (memD d xs))) s → wpAny (model X.prog X.w) X.A (compareOp op x c) Q E s)
    (rt : ∀ {s : Shared} {c x : Value} {xs : List PyData} {d : PyData} {as bs : List Addr} {Q : Value → Shared → Prop} {E : Value → Shared → Prop}, Reads s.heap c (.tuple xs) as → Reads s.heap x d bs → PyData.canLayAll0 xs = true → d.canLay0 = true →
      X.A.units + 1 + min (PyData.depthAll xs) d.depth < cLine → Q (.bool (xor neg (memD d xs))) s → wpAny (model X.prog X.w) X.A (compareOp op x c) Q E s) :
    OpV X (compareOp op) (fun x y => (seqOf y).bind fun xs => if shp x && shp y then some (.d (.bool (xor neg (memD x xs)))) else none) := by
  refine ⟨fun x y H Q => ∃ d y', Dp X.K H x d ∧ Dp X.K H y y' ∧ shp d = true ∧ shp y' = true ∧ ∃ xs, seqOf y' = some xs ∧ Q (.bl (xor neg (memD d xs))) H, ?_, ?_⟩
  · rintro pins s σ H x y v u Q I rx ry ⟨d, y', hd, hy, sd, sy, xs, hs, q⟩
    obtain ⟨as, r1⟩ := Dp.reads I d x v hd rx
    obtain ⟨bs, r2⟩ := Dp.reads I y' y u hy ry
    cases y' with
    | list ys => cases hs; exact rl r2 r1 (SeqAt.canLay_of_shaped sy) (SeqAt.canLay_of_shaped sd) (room_shp sd hu) ⟨.bl _, H, I, rfl, q⟩
    | tuple ys => cases hs; exact rt r2 r1 (SeqAt.canLay_of_shaped sy) (SeqAt.canLay_of_shaped sd) (room_shp sd hu) ⟨.bl _, H, I, rfl, q⟩
    | _ => cases hs
  · intro A T x y dx dy w H Q tr rx ry e q
    obtain ⟨xs, h1, e⟩ := Option.bind_eq_some_iff.mp e
    split at e
    · rename_i hs
      rw [Bool.and_eq_true] at hs
      cases e
      exact ⟨dx, dy, rx.dp hs.1, ry.dp hs.2, hs.1, hs.2, xs, h1, q _ _ Grow.refl (.bl _)⟩
    · cases e
theorem ov_in (hu : X.A.units + 65 < cLine) : OpV X (compareOp .In) dIn := (ov_inG (neg := false) hu (fun h1 h2 h3 h4 h5 h6 => SeqAt.in_list_reads h1 h2 h3 h4 h5 (by simpa [memD] using h6)) (fun h1 h2 h3 h4 h5 h6 => SeqAt.in_tuple_reads h1 h2 h3 h4 h5 (by simpa [memD] using h6))).cast fun x y => by simp [dIn]
theorem ov_notIn (hu : X.A.units + 65 < cLine) : OpV X (compareOp .NotIn) dNotIn := (ov_inG (neg := true) hu (fun h1 h2 h3 h4 h5 h6 => SeqAt.notIn_list_reads h1 h2 h3 h4 h5 (by simpa [memD] using h6)) (fun h1 h2 h3 h4 h5 h6 => SeqAt.notIn_tuple_reads h1 h2 h3 h4 h5 (by simpa [memD] using h6))).cast fun x y => by simp [dNotIn]
/-! -x -/
def dNeg : PyData → Option W
  | .int i => some (.d (.int (-i)))
  | _ => none
def eUn (g : PyData → Option W) (d : Fd) : Fe := fun ρ n => (d ρ n).bind fun p => (g p.1).map (·, p.2)
/-- not x as a value -/
def eNotD (d : Fd) : Fe := fun ρ n => (d ρ n).bind fun p => (dTru p.1).map fun c => (.d (.bool (!c)), p.2)
theorem ev_notD (ha : EvB X a d) : EvE X (.UnaryOp .Not a pos) (eNotD d) := peI (pe_notT ha) (by
  rintro σ H Q ⟨C, O, ρ, n, w, n', hf, E, q⟩
  unfold eNotD at hf
  obtain ⟨⟨x, n1⟩, e1, hf⟩ := Option.bind_eq_some_iff.mp hf
  obtain ⟨z, e2, hf⟩ := Option.map_eq_some_iff.mp hf
  cases hf
  exact ⟨C, O, ρ, n, x, _, e1, E, fun v H1 s t r => ⟨z, dTru_ok r e2, q _ H1 s t (.bl _)⟩⟩)
/-- x or y by truth -/
def eOrD (fa fb : Fe) : Fe := fun ρ n => (fa ρ n).bind fun p => p.1.val.bind fun x => (dTru x).bind fun c => if c then some (.d x, p.2) else fb ρ p.2
/-! a op b op' c -/
def eChain (g g' : PyData → PyData → Option W) (da db dc : Fd) : Fe := fun ρ n => (da ρ n).bind fun p => (db ρ p.2).bind fun q => (g p.1 q.1).bind fun w => match w with
  | .d (.bool true) => (dc ρ q.2).bind fun r => (g' q.1 r.1).map (·, r.2)
  | .d (.bool false) => some (.d (.bool false), q.2)
  | _ => none
/-! built-ins -/
theorem DvBs.one {A : Addr → Prop} {T : Option Addr} {K : PySem.W.Frag} {H : Hp} {vs : List V} {x : PyData} (h : DvBs A T K H vs [x]) : ∃ v, vs = [v] ∧ DvB A T K H v x := by
  cases h with
  | cons h t => cases t; exact ⟨_, rfl, h⟩
theorem DvBs.two {A : Addr → Prop} {T : Option Addr} {K : PySem.W.Frag} {H : Hp} {vs : List V} {x y : PyData} (h : DvBs A T K H vs [x, y]) : ∃ v u, vs = [v, u] ∧ DvB A T K H v x ∧ DvB A T K H u y := by
  cases h with
  | cons h t =>
    cases t with
    | cons h' t => cases t; exact ⟨_, _, rfl, h, h'⟩
def gLen : List PyData → Option W
  | [.list xs] => some (.d (.int xs.length))
  | [.tuple xs] => some (.d (.int xs.length))
  | _ => none
theorem cv_len : CallV X (.builtin "len") gLen := ⟨_, call_len_seq, fun A T vs xs w H Q tr rx e q => by
  unfold gLen at e
  split at e
  · cases e
    obtain ⟨v, rfl, r⟩ := rx.one
    obtain ⟨a, us, rfl, h1, h2⟩ := r.lst
    exact ⟨a, us, rfl, .inl h1, by rw [h2.length]; exact q _ _ Grow.refl (.int _)⟩
  · cases e
    obtain ⟨v, rfl, r⟩ := rx.one
    obtain ⟨a, us, rfl, h1, h2, _⟩ := r.tup
    exact ⟨a, us, rfl, .inr h1, by rw [h2.length]; exact q _ _ Grow.refl (.int _)⟩
  · cases e⟩
def gAbs : List PyData → Option W
  | [.int i] => some (.d (.int (if i < 0 then -i else i)))
  | _ => none
theorem cv_abs : CallV X (.builtin "abs") gAbs := ⟨_, call_abs, fun A T vs xs w H Q tr rx e q => by
  unfold gAbs at e
  split at e
  · cases e
    obtain ⟨v, rfl, r⟩ := rx.one
    exact ⟨_, by rw [r.int], q _ _ Grow.refl (.int _)⟩
  · cases e⟩
def gMax2 : List PyData → Option W
  | [.int i, .int j] => some (.d (.int (if j > i then j else i)))
  | _ => none
theorem cv_max2 (hc : X.calm = true) : CallV X (.builtin "max") gMax2 := ⟨_, call_max2 hc, fun A T vs xs w H Q tr rx e q => by
  unfold gMax2 at e
  split at e
  · cases e
    obtain ⟨v, u, rfl, r, r'⟩ := rx.two
    exact ⟨_, _, by rw [r.int, r'.int], q _ _ Grow.refl (.int _)⟩
  · cases e⟩
def gMin2 : List PyData → Option W
  | [.int i, .int j] => some (.d (.int (if j < i then j else i)))
  | _ => none
def gInt : List PyData → Option W
  | [.int i] => some (.d (.int i))
  | [.bool b] => some (.d (.int (if b then 1 else 0)))
  | _ => none
theorem cv_int : CallV X (.type "int") gInt := ⟨_, call_int1, fun A T vs xs w H Q tr rx e q => by
  unfold gInt at e
  split at e
  · cases e
    obtain ⟨v, rfl, r⟩ := rx.one
    exact .inl ⟨_, by rw [r.int], q _ _ Grow.refl (.int _)⟩
  · cases e
    obtain ⟨v, rfl, r⟩ := rx.one
    exact .inr ⟨_, by rw [r.bl], q _ _ Grow.refl (.int _)⟩
  · cases e⟩
def gTup : List PyData → Option W
  | [.list xs] => some (.d (.tuple xs))
  | [.tuple xs] => some (.d (.tuple xs))
  | _ => none
theorem cv_tup : CallV X (.type "tuple") gTup := ⟨_, call_tupF, fun A T vs xs w H Q tr rx e q => by
  unfold gTup at e
  split at e
  · cases e
    obtain ⟨v, rfl, r⟩ := rx.one
    obtain ⟨a, us, rfl, h1, h2⟩ := r.lst
    exact ⟨a, us, rfl, .inl ⟨h1, fun p o ho hp => q _ _ (Grow.upd hp) (new_tup hp tr ho h2)⟩⟩
  · cases e
    obtain ⟨v, rfl, r⟩ := rx.one
    obtain ⟨a, us, rfl, h1, h2, h3⟩ := r.tup
    exact ⟨a, us, rfl, .inr ⟨h1, q _ _ Grow.refl h3⟩⟩
  · cases e⟩
def gList : List PyData → Option W
  | [.list xs] => some (.ol xs)
  | [.tuple xs] => some (.ol xs)
  | _ => none
def boolsOf : List PyData → Option (List Bool)
  | [] => some []
  | .bool i :: xs => (boolsOf xs).map (i :: ·)
  | _ :: _ => none
theorem boolsOf_ok : ∀ {xs : List PyData} {ns : List Bool}, boolsOf xs = some ns → xs = ns.map .bool
  | [], _, h => by cases h; rfl
  | x :: xs, ns, h => by
    cases x with
    | bool i =>
      obtain ⟨ms, h1, h2⟩ := Option.map_eq_some_iff.mp (show (boolsOf xs).map (i :: ·) = some ns from h)
      subst h2
      rw [boolsOf_ok h1]
      rfl
    | _ => cases h
@[simp] theorem boolsOf_map : ∀ (ns : List Bool), boolsOf (ns.map .bool) = some ns
  | [] => rfl
  | n :: ns => by show (boolsOf (ns.map .bool)).map (n :: ·) = _; rw [boolsOf_map ns]; rfl
theorem DvAll.bools {A : Addr → Prop} {K : PySem.W.Frag} {H : Hp} : ∀ {ns : List Bool} {vs : List V}, DvAll A K H vs (ns.map .bool) → vs = ns.map V.bl
  | [], _, h => by cases h; rfl
  | n :: ns, _, h => by
    cases h with
    | cons h1 h2 => cases h1; rw [DvAll.bools h2]; rfl
def gAll : List PyData → Option W
  | [.list xs] => (boolsOf xs).map fun bs => .d (.bool (bs.all id))
  | _ => none
def gAny : List PyData → Option W
  | [.list xs] => (boolsOf xs).map fun bs => .d (.bool (bs.any id))
  | _ => none
theorem cv_any (hc : X.calm = true) : CallV X (.builtin "any") gAny := ⟨_, cr_any hc, fun A T vs xs w H Q tr rx e q => by
  unfold gAny at e
  split at e
  · rename_i ys
    obtain ⟨bs, h, e⟩ := Option.map_eq_some_iff.mp e
    subst e
    obtain ⟨v, rfl, r⟩ := rx.one
    obtain ⟨a, us, rfl, h1, h2⟩ := r.lst
    rw [boolsOf_ok h] at h2
    rw [h2.bools] at h1
    exact ⟨a, bs, rfl, h1, q _ _ Grow.refl (.bl _)⟩
  · cases e⟩
def gSum : List PyData → Option W
  | [.list xs] => (intsOf xs).map fun bs => .d (.int bs.sum)
  | _ => none
theorem cv_sum (hc : X.calm = true) : CallV X (.builtin "sum") gSum := ⟨_, cr_sum hc, fun A T vs xs w H Q tr rx e q => by
  unfold gSum at e
  split at e
  · rename_i ys
    obtain ⟨bs, h, e⟩ := Option.map_eq_some_iff.mp e
    subst e
    obtain ⟨v, rfl, r⟩ := rx.one
    obtain ⟨a, us, rfl, h1, h2⟩ := r.lst
    rw [intsOf_ok h] at h2
    rw [h2.ints] at h1
    exact ⟨a, bs, rfl, h1, q _ _ Grow.refl (.int _)⟩
  · cases e⟩
/-! list(range(..)) -/
def eListRg1 (d : Fd) : Fe := fun ρ n => (d ρ n).bind fun p => match p.1 with
  | .int j => if 0 ≤ j ∧ j ≤ big then some (.ol (rangeD 0 j.toNat), p.2) else none
  | _ => none
theorem DvAll.rg {A : Addr → Prop} {K : PySem.W.Frag} {H : Hp} {a b : Int} : DvAll A K H (rgV a b) (rangeD a (b - a).toNat) := by
  unfold rgV rangeD
  generalize List.range (b - a).toNat = l
  induction l with
  | nil => exact .nil
  | cons x xs ih => exact .cons (.int _) ih
theorem ev_listRg1 {p p2 p3 : Pos} (hc : X.calm = true) (hg : Gl X "list") (hm : X.mg "list" = none) (hg2 : Gl X "range") (hm2 : X.mg "range" = none) (ha : EvB X a d) (na : starEach [a] X.env = (false, eval a X.env) :: starEach [] X.env := by rfl)
    (nb : starEach [Expr.Call (.Name "range" p2) [a] [] p3] X.env = (false, eval (.Call (.Name "range" p2) [a] [] p3) X.env) :: starEach [] X.env := by rfl) :
    EvE X (.Call (.Name "list" p) [.Call (.Name "range" p2) [a] [] p3] [] pos) (eListRg1 d) := peI (pe_listRg hc hg hm (prg_1 hg2 hm2 ha na) nb) (by
  rintro σ H Q ⟨C, O, ρ, n, w, n', hf, E, q⟩
  unfold eListRg1 at hf
  obtain ⟨⟨x, n1⟩, e1, hf⟩ := Option.bind_eq_some_iff.mp hf
  refine ⟨C, O, ρ, n, x, n1, e1, E, fun v H1 s t r => ?_⟩
  cases x with
  | int j =>
    simp only at hf
    split at hf
    · rename_i hj
      cases hf
      unfold big at hj
      refine ⟨j, r.int, ⟨by omega, by omega, by omega, by omega, by omega⟩, fun p hp => ?_⟩
      have := DvAll.rg (A := Av C O) (K := X.K) (H := H1) (a := 0) (b := j)
      rw [Int.sub_zero] at this
      exact q _ _ (s.trans (Grow.upd hp).step) ((Grow.upd hp).town t) ((new_lst hp this).back s.fr)
    · cases hf
  | _ => cases hf)
/-! isinstance -/
def tyN : PyData → String
  | .none => "NoneType"
  | .bool _ => "bool"
  | .int _ => "int"
  | .str _ => "str"
  | .list _ => "list"
  | .tuple _ => "tuple"
  | .dict _ => "dict"
/-- whether a thing is of one of the five types asked here -/
def isa (T : String) (x : PyData) : Bool := T == tyN x || (T == "int" && tyN x == "bool")
def eIsa (T : String) (d : Fd) : Fe := fun ρ n => (d ρ n).bind fun p => match p.1 with
  | .dict _ => none
  | x => some (.d (.bool (isa T x)), p.2)
end
end L2.Lv
namespace L2.Lv
open PySem PySem.Spec PyProof.Rows
/-! sorted of a list or a tuple, at the library's level -/
section
variable {prog : Program} {w : World} {A : Around} {E : Value → Shared → Prop} {s : Shared}
theorem collect_tup {l : Addr} {vs : List Value} {Q : List Value → Shared → Prop} (ht : IsTup s.heap l vs.toArray) (hz : vs.length ≤ sizeLine)
    (h : Q vs { s with heap := (s.heap.push (seqObj "list" #[] 0)).update s.heap.objs.size (Obj.mapSeq (· ++ vs.toArray)) }) : wpAny (model prog w) A (collect (.ref l)) Q E s := by
  obtain ⟨o, ho, hcl, n, hd⟩ := id ht
  have ho' : (s.heap.push (seqObj "list" #[] 0)).get? l = some o := Heap.get?_push_of_some _ ho
  have hnew : (s.heap.push (seqObj "list" #[] 0)).get? s.heap.objs.size = some (seqObj "list" #[] 0) := Heap.get?_push_size _ rfl
  unfold collect
  refine wpAny_bind (wpAny_runValue (codeAny_builtin entry_proto_collect' ?_))
  show wpAny _ _ (do again (.builtin "list.__iadd__" ⟨[← newList [], .ref l], []⟩)) _ _ s
  refine wpAny_bind (wpAny_newList (wpAny_pure ⟨Code.quiet_builtin _ (by decide +kernel), codeAny_builtin entry_list_iadd' ?_⟩))
  show wpAny _ _ (Builtin.List.listExtendWith (.ref s.heap.objs.size) (.ref l) (.ref s.heap.objs.size)) _ _ { s with heap := s.heap.push (seqObj "list" #[] 0) }
  unfold Builtin.List.listExtendWith
  refine wpAny_bind (wpAny_typeOf (T := "tuple") ⟨o, ho', hcl⟩ ?_)
  rw [if_pos (by rw [show (Value.type "tuple" == Value.type "tuple") = true from rfl, Bool.or_true])]
  refine wpAny_bind (listItems_at ho' hd (wpAny_bind (listItems_at (xs := #[]) (n := 0) hnew rfl ?_)))
  rw [if_neg (by simp)]
  refine wpAny_bind (listUpdate_at (xs := #[]) (n := 0) hnew rfl ?_ (Nat.zero_le _) (by show (#[] ++ vs.toArray).size ≤ sizeLine + 1; simp only [Array.size_append, List.size_toArray, List.length_nil]; omega))
  refine wpAny_pure ?_
  show wpAny (model prog w) A (do
      let x ← load s.heap.objs.size
      match x.data with
      | .seq ys _ => pure ys.toList
      | _ => unsupported "internal:collect") Q E _
  refine wpAny_bind (wpAny_load (get?_update_seq hnew _) ?_)
  show wpAny _ _ (pure ((#[] : Array Value) ++ vs.toArray).toList) Q E _
  rw [show ((#[] : Array Value) ++ vs.toArray).toList = vs by simp]
  exact wpAny_pure h
open PySem.W in
theorem sorted_tup {l : Addr} {vs : List Value} {κ : PyProof.Rows.KeyKind} {Q : Value → Shared → Prop} (ht : IsTup s.heap l vs.toArray) (hz : vs.length ≤ sizeLine)
    (S : SortsAt prog w A.in1.in1 { s with heap := sortingHeap (copyHeap s.heap vs) (s.heap.objs.size + 1) vs } κ vs)
    (h : Q (.ref (s.heap.objs.size + 1)) { s with heap := sortedAll s.heap vs (sortVals κ false vs vs).toArray }) : wpAny (model prog w) A (call (.builtin "sorted") [.ref l]) Q E s := by
  refine call_function_entry_kw kind_sorted plain_sorted entry_sorted (args_sorted1 _) ?_
  unfold Builtin.«sorted»
  refine wpAny_bind (m := checkCount "sorted" 1 1 _) (wpAny_pure (wpAny_bind (collect_tup ht hz (wpAny_bind (wpAny_newList ?_ hz)))))
  have hsz : ((s.heap.push (seqObj "list" #[] 0)).update s.heap.objs.size (Obj.mapSeq (· ++ vs.toArray))).objs.size = s.heap.objs.size + 1 := by
    rw [Heap.size_update, size_push']
  show wpAny _ _ _ _ _ { s with heap := copyHeap s.heap vs }
  rw [hsz]
  refine wpAny_bind (wpAny_holding (wpAny_call_entry_kw slot_list_sort ⟨_, copyHeap_at s.heap vs, rfl⟩ entry_list_sort ?body (args_list_sort _)))
  case body =>
    show wpAny (model prog w) A.in1.in1 (Builtin.«list.sort» ⟨[.ref (s.heap.objs.size + 1)], []⟩) _ _ _
    exact list_sort_vals (s := { s with heap := copyHeap s.heap vs }) (copyHeap_at s.heap vs) S hz ⟨_, rfl, wpAny_pure ⟨_, rfl, h⟩⟩
end
section
open PySem.W
/-- what sorted can put in order here -/
def srtOk (xs : List PyData) : Bool := (xs.all fun x => xs.all fun y => alike x y) && ((xs.all fun x => match x with | .tuple (_ :: _) => true | _ => false) || (xs.all fun x => match x with | .none => false | .tuple _ => false | _ => true)) && xs.all fun x => decide (x.depth ≤ 64)
def srt (xs : List PyData) : List PyData := xs.mergeSort (dataLe false fun x => x)
def gSorted : List PyData → Option W
  | [x] => (seqOf x).bind fun xs => if srtOk xs then some (.ol (srt xs)) else none
  | _ => none
theorem srtOk_alike {xs : List PyData} (h : srtOk xs = true) : AllAlike (xs.map fun x => x) := by
  unfold srtOk at h
  simp only [Bool.and_eq_true, List.all_eq_true] at h
  intro d hd d' hd'
  rw [List.map_id'] at hd hd'
  exact h.1.1 d hd d' hd'
theorem srtOk_sortable {xs : List PyData} (h : srtOk xs = true) : Sortable (xs.map fun x => x) := by
  unfold srtOk at h
  simp only [Bool.and_eq_true, Bool.or_eq_true, List.all_eq_true] at h
  rcases h.1.2 with h | h
  · refine .inl fun d hd => ?_
    rw [List.map_id'] at hd
    have := h d hd
    split at this
    · exact ⟨_, _, rfl⟩
    · cases this
  · refine .inr fun d hd => ?_
    rw [List.map_id'] at hd
    have := h d hd
    refine ⟨fun e => ?_, fun ys e => ?_⟩ <;> (subst e; cases this)
theorem srtOk_depth {xs : List PyData} (h : srtOk xs = true) : ∀ d ∈ xs, d.depth ≤ 64 := by
  unfold srtOk at h
  simp only [Bool.and_eq_true, List.all_eq_true] at h
  intro d hd
  exact of_decide_eq_true (h.2 d hd)
variable {X : Cx}
def RvD (A : Addr → Prop) (K : PySem.W.Frag) (H : Hp) (u : Value) (d : PyData) : Prop := ∃ v, RelV v u ∧ Dv A K H v d
theorem each_of {A : Addr → Prop} {K : PySem.W.Frag} {H : Hp} : ∀ {ds : List PyData} {vs : List V} {us : List Value}, DvAll A K H vs ds → Vals vs us → EachIs (RvD A K H) us ds
  | [], _, _, h, r => by cases h; cases r; exact .nil
  | d :: ds, _, _, h, r => by
    cases h with
    | cons h1 h2 =>
      cases r with
      | cons r1 r2 => exact .cons ⟨_, r1, h1⟩ (each_of h2 r2)
theorem of_each {A : Addr → Prop} {K : PySem.W.Frag} {H : Hp} : ∀ {ds : List PyData} {us : List Value}, EachIs (RvD A K H) us ds → ∃ vs, DvAll A K H vs ds ∧ Vals vs us
  | [], _, h => by cases h; exact ⟨[], .nil, .nil⟩
  | d :: ds, _, h => by
    cases h with
    | cons h1 h2 =>
      obtain ⟨v, r1, q1⟩ := h1
      obtain ⟨vs, q2, r2⟩ := of_each h2
      exact ⟨v :: vs, .cons q1 q2, .cons r1 r2⟩
theorem eachIs_len {α β : Type} {R : α → β → Prop} : ∀ {as : List α} {bs : List β}, EachIs R as bs → as.length = bs.length
  | _, _, .nil => rfl
  | _, _, .cons _ t => congrArg (· + 1) (eachIs_len t)
def rSortedV (K : PySem.W.Frag) : List V → Hp → VK → Prop := fun vs H Q => ∃ (A : Addr → Prop) (a : Addr) (us : List V) (xs : List PyData), vs = [V.ref a] ∧ (SqL K H a us ∨ SqT K H a us) ∧ DvAll A K H us xs ∧ srtOk xs = true ∧
  ∀ p us', H p = none → DvAll A K H us' (srt xs) → Q (.ref p) (upd H p (.lst us'))
theorem cr_sortedV (hu : X.A.units + 100 < cLine) : CallR X (.builtin "sorted") (rSortedV X.K) := by
  rintro pins s σ H vs us Q I r ⟨A, a, zs, xs, rfl, hs, hd, hok, q⟩
  rw [Vals.ref1 r]
  have fin : ∀ (its out : List Value), out.length = xs.length → xs.length ≤ sizeLine → EachIs (RvD A X.K H) out (srt xs) → EP X pins σ Q (.ref (s.heap.objs.size + 1)) { s with heap := sortedAll s.heap its out.toArray } := by
    intro its out h1 hz h2
    obtain ⟨us', k1, k2⟩ := of_each h2
    obtain ⟨ep, he'⟩ := PyProof.Rows.sortedAll_at s.heap its out.toArray
    exact ⟨.ref _, upd H (s.heap.objs.size + 1) (.lst us'), I.laid (t' := s.toks) (fun _ _ => PyProof.Rows.sortedAll_old) (Nat.le_succ _) ⟨by rw [k2.length, h1]; exact hz, out, ep, k2, he'⟩, rfl, q _ us' (I.hok.fresh (Nat.le_succ _)) k1⟩
  rcases hs with hs | hs
  · obtain ⟨its, rv, hl, hz⟩ := I.list hs
    have e1 := each_of hd rv
    obtain ⟨as, hr⟩ := Dp.readsAll I xs zs its hd.dp rv
    have hlen : xs.length ≤ sizeLine := by rw [← hd.length]; exact hz
    refine sorted_data (enc := fun x => x) hl.isList e1 (readsAll_each (fun x => x) (as := as) (by rw [List.map_id']; exact hr)) (srtOk_alike hok) (srtOk_sortable hok) hlen (fun b hb => ?_) fun out h1 h2 => fin its out h1 hlen h2
    have := srtOk_depth hok b hb
    omega
  · obtain ⟨its, rv, hl, hz⟩ := I.tuple hs
    have e1 := each_of hd rv
    obtain ⟨as, hr⟩ := Dp.readsAll I xs zs its hd.dp rv
    have hlen : xs.length ≤ sizeLine := by rw [← hd.length]; exact hz
    have er : EachIs (fun v b => ∃ as, Reads s.heap v ((fun x => x) b) as) its xs := readsAll_each (fun x => x) (as := as) (by rw [List.map_id']; exact hr)
    have er' : EachIs (fun v b => ∃ as, Reads (sortingHeap (copyHeap s.heap its) (s.heap.objs.size + 1) its) v ((fun x => x) b) as) its xs := er.mono fun _ _ ⟨as, r⟩ => ⟨as, PyProof.Rows.Reads.keeps (fun _ _ => sorting_copy_old) r⟩
    have hb : ∀ d, d ∈ xs.map (fun x => x) → X.A.in1.in1.units + d.depth < cLine := fun d hd => by
      rw [List.map_id'] at hd
      have := srtOk_depth hok d hd
      show X.A.units + 1 + 1 + _ < _
      omega
    refine sorted_tup hl (by rw [← rv.length]; exact hz) (SortsAt.data (s := { s with heap := sortingHeap (copyHeap s.heap its) (s.heap.objs.size + 1) its }) (each_map (R := fun v d => ∃ as, Reads (sortingHeap (copyHeap s.heap its) (s.heap.objs.size + 1) its) v d as) (fun x => x) er') (srtOk_alike hok) (srtOk_sortable hok) hb) ?_
    exact fin its _ (by rw [sortVals_length false rfl]; exact eachIs_len e1) hlen (sortVals_data false e1 er' (srtOk_alike hok))
theorem cv_sorted (hu : X.A.units + 100 < cLine) : CallV X (.builtin "sorted") gSorted := ⟨_, cr_sortedV hu, fun A T vs xs w H Q tr rx e q => by
  unfold gSorted at e
  split at e
  · rename_i x
    obtain ⟨ys, h1, e⟩ := Option.bind_eq_some_iff.mp e
    split at e
    · rename_i hok
      cases e
      obtain ⟨v, rfl, r⟩ := rx.one
      have key : ∀ a us, v = .ref a → (SqL X.K H a us ∨ SqT X.K H a us) → DvAll A X.K H us ys → rSortedV X.K [v] H Q := by
        rintro a us rfl hs hd
        exact ⟨A, a, us, ys, rfl, hs, hd, hok, fun p us' hp hd' => q _ _ (Grow.upd hp) (new_lst hp hd')⟩
      cases x with
      | list zs => cases h1; obtain ⟨a, us, h1, h2, h3⟩ := r.lst; exact key a us h1 (.inl h2) h3
      | tuple zs => cases h1; obtain ⟨a, us, h1, h2, h3, _⟩ := r.tup; exact key a us h1 (.inr h2) h3
      | _ => cases h1
    · cases e
  · cases e⟩
end
/-! methods of tuples -/
section
variable {X : Cx} {o e a b : Expr} {es : List Expr} {d da db : Fd} {ds : Fds} {name : Str} {apos cpos : Pos} {id : String}
def isTupV (K : PySem.W.Frag) (x : V) (H : Hp) : Prop := ∃ a xs, x = .ref a ∧ (TupAt H a xs ∨ KTup K a xs)
def tTM (K : PySem.W.Frag) (r : V → List V → Hp → VK → Prop) (to : TE) (t : L2.TA) : TE := fun σ H Q => to σ H fun x H1 => isTupV K x H1 ∧ t σ H1 fun xs H2 => r x xs H2 Q
theorem pe_tm {to : TE} {t : L2.TA} {r : V → List V → Hp → VK → Prop} (slot : Slot "tuple" name id) (hty : typeOf (.builtin id) = pure (.type "method_descriptor")) (hm : MtR X id r) (ho : PE X o to) (ha : PA X (e :: es) t)
    (hbase : attributeBase o name X.env (eval o X.env) = eval o X.env := by rfl)
    (hfew : ((backTo cpos (starEach (e :: es) X.env)).all (fun x => !x.1) && (backToKw cpos (keywordEach [] X.env)).all (fun x => x.1.isSome)
      && decide ((e :: es).length + ([] : List Keyword).length + (if ([] : List Keyword).isEmpty then 0 else 1) < 30)) = true := by rfl)
    (hline : (apos.endLine == cpos.line) = true := by rfl) (hs : starEach (e :: es) X.env = (false, eval e X.env) :: starEach es X.env := by rfl) (hplain : (backTo cpos (starEach es X.env)).any (·.1) = false := by rfl) :
    PE X (.Call (.Attribute o name apos) (e :: es) [] cpos) (tTM X.K r to t) := ⟨fun pins s σ H Q I h => by
  refine wpAny_Call_method_late hbase hfew hline rfl (thn (ho.run pins s σ H _ I h) fun v s1 ⟨x, H1, I1, r1, ⟨p, xs, hx, ty⟩, q1⟩ => ?_)
  subst hx
  have hv : v = .ref p := r1
  subst hv
  obtain ⟨ob, g1, g2, g3⟩ : ∃ ob, s1.heap.get? p = some ob ∧ ob.cls = .type "tuple" ∧ ob.dict = none := by
    rcases ty with ⟨ob, z, hd⟩ | ⟨z, ob, hk, hc, hd⟩
    · obtain ⟨z1, z2⟩ := I1.hok p _ z
      obtain ⟨_, _, _, ob', z3, z4, _⟩ := z2
      rw [z1] at z3
      cases z3
      exact ⟨ob, z1, z4, hd⟩
    · exact ⟨ob, I1.kIn p ob hk, hc, hd⟩
  refine ⟨"tuple", id, PySem.F.plainAttrs_tuple, slot, hty, ⟨ob, g1, g2⟩, fun c hc => ?_, ?_⟩
  · cases hc
    exact ⟨ob, g1, g3⟩
  · have hA := ha.run cpos pins s1 σ H1 _ I1 q1
    rw [hs] at hA ⊢
    refine Calls.callWith_builtin (by show (false || (backTo cpos (starEach es X.env)).any (·.1)) = false; rw [hplain] <;> rfl) (Calls.evalArgs_plain ?_)
    exact thn hA fun us s2 ⟨vs, H2, I2, r2, q2⟩ => hm pins s2 σ H2 (.ref p) vs (.ref p) us Q I2 rfl r2 q2⟩
theorem dv_isTup {A : Addr → Prop} {T : Option Addr} {K : PySem.W.Frag} {H : Hp} {v : V} {xs : List PyData} (h : DvB A T K H v (.tuple xs)) : isTupV K v H := by
  rcases h with h | ⟨a, vs, ds, _, h2, _⟩ | ⟨a, kvs, _, h2, _⟩
  · cases h with
    | tup hs ha => exact ⟨_, _, rfl, hs.imp (·.2) fun z => z⟩
  · cases h2
  · cases h2
/-- a method that looks: by values -/
def MtV (X : Cx) (id : String) (g : PyData → List PyData → Option W) : Prop := ∃ r, MtR X id r ∧
  ∀ (A : Addr → Prop) (T : Option Addr) (x : V) (vs : List V) (dx : PyData) (xs : List PyData) (w : W) (H : Hp) (Q : VK), (∀ a, A a → H a ≠ none) → DvB A T X.K H x dx → DvBs A T X.K H vs xs → g dx xs = some w →
    (∀ v H', Grow H H' → Res A none X.K H H' v w → Q v H') → r x vs H Q
def eMt (p : PyData → Bool) (g : PyData → List PyData → Option W) (d : Fd) (ds : Fds) : Fe := fun ρ n => (d ρ n).bind fun x => if p x.1 then (ds ρ x.2).bind fun q => (g x.1 q.1).map (·, q.2) else none
def isTupD : PyData → Bool
  | .tuple _ => true
  | _ => false
def isLstD : PyData → Bool
  | .list _ => true
  | _ => false
theorem ev_tm {g : PyData → List PyData → Option W} (slot : Slot "tuple" name id) (hty : typeOf (.builtin id) = pure (.type "method_descriptor")) (hm : MtV X id g) (ho : EvB X o d) (ha : EvD X (e :: es) ds)
    (hbase : attributeBase o name X.env (eval o X.env) = eval o X.env := by rfl)
    (hfew : ((backTo cpos (starEach (e :: es) X.env)).all (fun x => !x.1) && (backToKw cpos (keywordEach [] X.env)).all (fun x => x.1.isSome)
      && decide ((e :: es).length + ([] : List Keyword).length + (if ([] : List Keyword).isEmpty then 0 else 1) < 30)) = true := by rfl)
    (hline : (apos.endLine == cpos.line) = true := by rfl) (hs : starEach (e :: es) X.env = (false, eval e X.env) :: starEach es X.env := by rfl) (hplain : (backTo cpos (starEach es X.env)).any (·.1) = false := by rfl) :
    EvE X (.Call (.Attribute o name apos) (e :: es) [] cpos) (eMt isTupD g d ds) := by
  obtain ⟨r, h1, h2⟩ := hm
  refine peI (pe_tm slot hty h1 ho ha hbase hfew hline hs hplain) ?_
  rintro σ H Q ⟨C, O, ρ, n, w, n', hf, E, q⟩
  unfold eMt at hf
  obtain ⟨⟨x, n1⟩, e1, hf⟩ := Option.bind_eq_some_iff.mp hf
  simp only at hf
  split at hf
  case isFalse => cases hf
  rename_i hp
  obtain ⟨⟨xs, n2⟩, e2, hf⟩ := Option.bind_eq_some_iff.mp hf
  obtain ⟨z, e3, hf⟩ := Option.map_eq_some_iff.mp hf
  cases hf
  refine ⟨C, O, ρ, n, x, n1, e1, E, fun v H1 s t rx => ?_⟩
  have E1 := E.step s t
  refine ⟨?_, C, O, ρ, n1, xs, n2, e2, E1, fun vs H2 s2 t2 r2 => ?_⟩
  · cases x with
    | tuple ys => exact dv_isTup rx
    | _ => cases hp
  · refine h2 (Av C O) C.T v vs x xs _ H2 Q (E1.step s2 t2).av (rx.step s2 Av.t) r2 e3 fun v H3 g3 r3 => ?_
    exact q v H3 ((s.trans s2).trans g3.step) (g3.town t2) (r3.none_any.back fun a ha => s.fr a (s2.fr a ha))
/-- x.index(k), ints -/
def gIndexT (x : PyData) (ys : List PyData) : Option W := match x, ys with
  | .tuple xs, [.int k] => (intsOf xs).bind fun ns => if k ∈ ns then some (.d (.int (ns.idxOf k : Nat))) else none
  | _, _ => none
theorem mv_tindex : MtV X "tuple.index" gIndexT := by
  refine ⟨fun x xs H Q => ∃ (p : Addr) (ns : List Int) (k : Int), x = .ref p ∧ xs = [.int k] ∧ SqT X.K H p (ns.map V.int) ∧ k ∈ ns ∧ Q (.int (ns.idxOf k : Nat)) H, ?_, ?_⟩
  · rintro pins s σ H x xs v us Q I rx rxs ⟨p, ns, k, rfl, rfl, hs, hk, q⟩
    have hv : v = .ref p := rx
    subst hv
    obtain ⟨u, rfl, t, rfl⟩ := rxs.one
    obtain ⟨its, rv, pl, hz⟩ := I.tuple hs
    exact SeqAt.tuple_index_ints (s := s) pl rv.ints hk ⟨.int (ns.idxOf k : Nat), H, I.tok _, ⟨_, rfl⟩, q⟩
  · intro A T x vs dx xs w H Q tr rx rxs e q
    unfold gIndexT at e
    split at e
    · rename_i zs k
      obtain ⟨ns, h2, e⟩ := Option.bind_eq_some_iff.mp e
      split at e
      · rename_i hk
        cases e
        obtain ⟨v, rfl, r⟩ := rxs.one
        obtain ⟨a, us, rfl, k1, k2, _⟩ := rx.tup
        rw [intsOf_ok h2] at k2
        rw [k2.ints] at k1
        exact ⟨a, ns, k, rfl, by rw [r.int], k1, hk, q _ _ Grow.refl (.int _)⟩
      · cases e
    · cases e
def gIndexL (x : PyData) (ys : List PyData) : Option W := match x, ys with
  | .list xs, [.int k] => (intsOf xs).bind fun ns => if k ∈ ns then some (.d (.int (ns.idxOf k : Nat))) else none
  | _, _ => none
end
end L2.Lv
namespace L2.Lv
open PySem PySem.Spec PyProof.Rows
/-! enumerate of a tuple -/
theorem meets_enum1 {v : Value} {o : Obj} {Hs : Heap → Prop} (B : Begins v o Hs) :
    Meets (Builtin.«enumerate.__new__» ⟨[.type "enumerate", v], []⟩) (fun _ R s => Hs s.heap ∧
      R (.ok (.ret (.ref (s.heap.push o).objs.size))) { s with heap := (s.heap.push o).push { cls := .type "enumerate", data := .fields #[.none, .bool false, .ref s.heap.objs.size, rawInt 0, .none, .none] } }) :=
  .of_wp fun prog w A R s h => by
    obtain ⟨hp, g, d, tk, os⟩ := s
    obtain ⟨h1, h⟩ := h
    have hsub := sub_enumerate
    have q1 : ∀ {A' : Around} {E : Value → Shared → Prop} {Q : Value → Shared → Prop}, Q (.ref hp.objs.size) ⟨hp.push o, g, d, tk, os⟩ → wpAny (model prog w) A' (pyIter v) Q E ⟨hp, g, d, tk, os⟩ :=
      fun q => B.iter prog w _ _ ⟨hp, g, d, tk, os⟩ _ h1 q
    wp_walk using q1
    refine wpAny_stack_any fun st => wpAny_pure ?_
    split
    · rename_i c _ _ _ _ _
      cases (c == Value.type "enumerate")
      · wp_walk using q1
        exact ⟨_, rfl, h⟩
      · wp_walk using q1
        exact ⟨_, rfl, h⟩
    · wp_walk using q1
      exact ⟨_, rfl, h⟩
theorem enum1_begins {prog : Program} {w : World} {A : Around} {E : Value → Shared → Prop} {s : Shared} {v : Value} {o : Obj} {Hs : Heap → Prop} {Q : Value → Shared → Prop} (B : Begins v o Hs) (h1 : Hs s.heap)
    (h : ∀ h', IsEnum h' (s.heap.objs.size + 1) s.heap.objs.size 0 .none → h'.get? s.heap.objs.size = some o → h'.objs.size = s.heap.objs.size + 2 →
      (∀ b o, s.heap.get? b = some o → h'.get? b = some o) → Q (.ref (s.heap.objs.size + 1)) { s with heap := h' }) : wpAny (model prog w) A (call (.type "enumerate") [v]) Q E s := by
  refine callType_new F.called_enumerate (by decide) (F.typeCall_enumerate_1 _) (F.newCall_enumerate_1 _) (fun obj => F.args_object_init_2 obj _) F.entry_enumerate_new (meets_enum1 B) ⟨h1, ?_⟩
  have hz : (s.heap.push o).objs.size = s.heap.objs.size + 1 := Heap.size_push ..
  show _ ∧ _
  rw [hz]
  have he : IsEnum ((s.heap.push o).push { cls := .type "enumerate", data := .fields #[.none, .bool false, .ref s.heap.objs.size, rawInt 0, .none, .none] }) (s.heap.objs.size + 1) s.heap.objs.size 0 .none := by
    have := Heap.get?_push_size (s.heap.push o) (o := { cls := .type "enumerate", data := .fields #[.none, .bool false, .ref s.heap.objs.size, rawInt 0, .none, .none] }) rfl
    rw [hz] at this
    exact this
  exact ⟨⟨_, he, rfl⟩, h _ he (Heap.get?_push_of_some _ (Heap.get?_push_size _ B.free)) (by rw [Heap.size_push, hz]) fun b u x => Heap.get?_push_of_some _ (Heap.get?_push_of_some _ x)⟩
/-- each item of the tuple at a in a new pair -/
def IteT (K : PySem.W.Frag) (a : Addr) : It :=
  ⟨fun i H => ∃ (xs : List V) (x : V), SqT K H a xs ∧ xs[i]? = some x, fun i H v H' => ∃ T x, v = .ref T ∧ H T = none ∧ H' = upd H T (.tup [.int (i : Nat), x]) ∧ ∀ xs, SqT K H a xs → xs[i]? = some x, fun i H => ∃ xs : List V, SqT K H a xs ∧ xs.length = i⟩
theorem turn_enumT {P : Program} {w : World} {K : PySem.W.Frag} {elts : List Expr} {kk : Nat} {tpos : Pos} (a e it : Addr) :
    Turn P w K (.Tuple elts kk tpos) (IteT K a) [e, it] e (fun i h => (∃ old, IsEnum h e it ((i : Nat) : Int) old) ∧ h.IsTupleIter it a i ∧ e ≠ it) where
  mem := by simp
  obj := fun i h st b hb => by
    obtain ⟨⟨old, he⟩, ⟨o, ho, _, hd⟩, _⟩ := st
    rcases List.mem_cons.mp hb with z | hb
    · rw [z]; exact ⟨_, he, fun v q => nomatch q⟩
    · rw [List.mem_singleton.mp hb]; exact ⟨o, ho, fun v q => by rw [hd] at q; cases q⟩
  keep := fun i h h' st k => let ⟨⟨old, he⟩, hi, hne⟩ := st; ⟨⟨old, k e (by simp) _ he⟩, hi.at fun o q => k it (by simp) o q, hne⟩
  item := by
    intro X hP hw hK hc i pins s σ H E I hf st hg
    subst hP hw hK
    obtain ⟨⟨old, he⟩, hit, hne⟩ := st
    obtain ⟨xs, x, hq, hx⟩ := hg
    obtain ⟨its, rv, p, hz⟩ := I.tuple hq
    obtain ⟨u, hu, ru⟩ := rv.get hx
    have hal : a ≠ it := fun z => by
      obtain ⟨o, h1, h2, _⟩ := p
      obtain ⟨o', g1, g2, _⟩ := hit
      rw [z, g1] at h1
      cases h1
      rw [g2] at h2
      simp at h2
    have hae : e ∉ [it, a] := fun z => by
      rcases List.mem_cons.mp z with z | z
      · exact hne z
      · obtain ⟨o, h1, h2, _⟩ := p
        have z := List.mem_singleton.mp z
        rw [← z, show s.heap.get? e = some _ from he] at h1
        cases h1
        simp at h2
    have G := GoesN.enumFrom (prog := X.prog) (w := X.w) (A := X.A) (elts := elts) (x1 := kk) (pos := tpos) 0 (Draws.tuple (prog := X.prog) (w := X.w) (A := X.A.in1) (show X.A.in1.handled = none from I.ok.hd hc) it a hal its.toArray) e hne hae (by simp)
    have hlt : i < its.toArray.size := by
      rw [List.size_toArray]
      exact (List.getElem?_eq_some_iff.mp hu).1
    refine G.goes i s _ E hlt ⟨⟨old, by rw [Int.zero_add]; exact he⟩, hit, p⟩ fun v h' tk ⟨T, t, y, ev, hT, hy, hTup⟩ st' hk _ => ?_
    subst ev
    have ey : y = u := by
      rw [List.getElem?_toArray, hu] at hy
      exact (Option.some.inj hy).symm
    subst ey
    have new : ObjOk X.prog X.w (upd H T (.tup [.int (i : Nat), x])) h' T (.tup [.int (i : Nat), x]) :=
      ⟨by show 2 ≤ sizeLine; decide, [.int (0 + (i : Int)) t, y], .cons ⟨t, by rw [Int.zero_add]⟩ (.cons ru .nil), hTup⟩
    have I1 : Inv X pins σ (upd H T (.tup [.int (i : Nat), x])) { s with heap := h', toks := tk } :=
      I.turnedNew (ch := [e, it]) (fun b ob hb q => hk b ob hb q) hf hT new
    obtain ⟨⟨old', he'⟩, hit', _⟩ := st'
    refine ⟨.ref T, _, I1, rfl, ⟨T, x, rfl, I.hok.fresh hT, rfl, fun ys hy => by rw [I.tuple_inj hy hq]; exact hx⟩, ⟨⟨old', by rw [Int.zero_add] at he'; exact he'⟩, hit', hne⟩, fun b hb => ?_⟩
    have hb' : b < s.heap.objs.size := by
      rcases List.mem_cons.mp hb with z | z
      · rw [z]; exact Heap.lt_size he
      · rw [List.mem_singleton.mp z]; obtain ⟨o, h1, _⟩ := hit; exact Heap.lt_size h1
    rw [upd_ne (Nat.ne_of_lt (Nat.lt_of_lt_of_le hb' hT))]
    exact (hf b hb).1
  done := by
    intro X hP hw hK hc i pins s σ H E I hf st hg
    subst hP hw hK
    obtain ⟨⟨old, he⟩, hit, hne⟩ := st
    obtain ⟨xs, hq, hx⟩ := hg
    obtain ⟨its, rv, p, hz⟩ := I.tuple hq
    have hl := rv.length
    have hal : a ≠ it := fun z => by
      obtain ⟨o, h1, h2, _⟩ := p
      obtain ⟨o', g1, g2, _⟩ := hit
      rw [z, g1] at h1
      cases h1
      rw [g2] at h2
      simp at h2
    have hs : its.toArray.size = i := by rw [List.size_toArray]; omega
    have D := Draws.tuple (prog := X.prog) (w := X.w) (A := X.A.in1) (show X.A.in1.handled = none from I.ok.hd hc) it a hal its.toArray
    rw [hs] at D
    obtain ⟨f0, f1, f2, f3, f4, f5⟩ := hf it (by simp)
    exact wpAny_pyNext_enum_endD D he ⟨hit, p⟩ fun h' hx => ⟨rfl, I.turned (t' := s.toks) (fun b o hb q => hx b o hb q) f0 f1 f3 f4 f5⟩
  self := fun A i s Q E st h => let ⟨⟨_, he⟩, _⟩ := st; wpAny_pyIter_enum he h
def iEnumA (K : PySem.W.Frag) (te : TE) : TI := fun σ H R => te σ H fun v H1 => ∃ a xs, v = .ref a ∧ ((SqL K H1 a xs ∧ R (Ite K a) H1) ∨ (SqT K H1 a xs ∧ R (IteT K a) H1))
section
variable {X : Cx} {e a b : Expr} {d da db : Fd} {pos : Pos}
theorem pi_enumA {te : TE} {p tpos : Pos} {elts : List Expr} {kk : Nat} (hg : Gl X "enumerate") (hm : X.mg "enumerate" = none) (he : PE X e te) (hs : starEach [e] X.env = (false, eval e X.env) :: starEach [] X.env := by rfl) :
    PI X (.Tuple elts kk tpos) (.Call (.Name "enumerate" p) [e] [] pos) (iEnumA X.K te) := ⟨fun pins s σ H R I h => by
  have two : ∀ {H1 : Hp} {s1 : Shared}, Inv X pins σ H1 s1 → ∀ b ∈ [s1.heap.objs.size + 1, s1.heap.objs.size], FpOk X pins H1 b := fun {H1 s1} I1 b hb => by
    have hle : s1.heap.objs.size ≤ b := by
      rcases List.mem_cons.mp hb with z | z
      · rw [z]; exact Nat.le_succ _
      · rw [List.mem_singleton.mp z]; exact Nat.le_refl _
    exact I1.fpOk hle (I1.hok.fresh hle)
  refine Call_ (ld_blt I hg hm boot_enumerate (PyProof.Rows.callWith_type1 (thn ((pa_cons he pa_nil hs).run pos pins s σ H (fun vs H1 => match vs with | [v] => ∃ a xs, v = V.ref a ∧ ((SqL X.K H1 a xs ∧ R (Ite X.K a) H1) ∨ (SqT X.K H1 a xs ∧ R (IteT X.K a) H1)) | _ => False) I ?_) fun us s1 ⟨vs, H1, I1, r1, q0⟩ => ?_) hs rfl))
  · exact h
  · obtain ⟨a, xs, hv, q1⟩ : ∃ a xs, vs = [V.ref a] ∧ ((SqL X.K H1 a xs ∧ R (Ite X.K a) H1) ∨ (SqT X.K H1 a xs ∧ R (IteT X.K a) H1)) := by
      match vs, q0 with
      | [v], ⟨a, xs, hv, q⟩ => exact ⟨a, xs, by rw [hv], q⟩
    subst hv
    rw [Vals.ref1 r1]
    rcases q1 with ⟨hq, q⟩ | ⟨hq, q⟩
    · obtain ⟨its, rv, p', hz⟩ := I1.list hq
      exact call_enumerate_list p'.isList fun h' he hit hsz hk => wpAny_pyIter_enum he ⟨s1.heap.objs.size + 1, [s1.heap.objs.size + 1, s1.heap.objs.size], _, _, H1, rfl, I1.kept (t' := s1.toks) hk, turn_enum a (s1.heap.objs.size + 1) s1.heap.objs.size, ⟨⟨.none, he⟩, hit, Nat.succ_ne_self _⟩, two I1, q⟩
    · obtain ⟨its, rv, p', hz⟩ := I1.tuple hq
      exact enum1_begins (begins_tuple a its.toArray) p' fun h' he hit hsz hk => wpAny_pyIter_enum he ⟨s1.heap.objs.size + 1, [s1.heap.objs.size + 1, s1.heap.objs.size], _, _, H1, rfl, I1.kept (t' := s1.toks) hk, turn_enumT a (s1.heap.objs.size + 1) s1.heap.objs.size, ⟨⟨.none, he⟩, ⟨_, hit, rfl, rfl⟩, Nat.succ_ne_self _⟩, two I1, q⟩⟩
/-! enumerate, zip: by values -/
def enumD (xs : List PyData) : List PyData := xs.mapIdx fun i x => .tuple [.int i, x]
def zipD : List PyData → List PyData → List PyData
  | x :: xs, y :: ys => .tuple [x, y] :: zipD xs ys
  | _, _ => []
def iEnumV (d : Fd) : Fi := fun ρ n => (d ρ n).bind fun p => (seqOf p.1).map fun xs => (enumD xs, p.2)
theorem enumD_get {xs : List PyData} {i : Nat} {x : PyData} (h : (enumD xs)[i]? = some x) : ∃ y, xs[i]? = some y ∧ x = .tuple [.int i, y] := by
  unfold enumD at h
  rw [List.getElem?_mapIdx] at h
  obtain ⟨y, h1, h2⟩ := Option.map_eq_some_iff.mp h
  exact ⟨y, h1, h2.symm⟩
theorem pair_ok {A : Addr → Prop} {K : PySem.W.Frag} {H : Hp} {T : Addr} {vs : List V} {ds : List PyData} (hT : H T = none) (h : DvAll A K H vs ds) : DvI true A K (upd H T (.tup vs)) (.ref T) (.tuple ds) :=
  .inr ⟨rfl, T, vs, ds, rfl, rfl, .inl (.inl upd_same), h.mono (Grow.upd hT).keep⟩
section
variable {K : PySem.W.Frag} {A B : Addr → Prop} {H1 : Hp} {vs us : List V} {xs ys : List PyData} {l m : Addr}
theorem sqL_keep {H2 : Hp} (hs : (¬ A l ∧ Rd H1 l (.lst vs)) ∨ SqL K Hz l vs) (k : ∀ a o, H1 a = some o → ¬ A a → H2 a = some o) : SqL K H2 l vs := hs.elim (fun ⟨na, r⟩ => .inl (r.imp (fun z => k _ _ z na) fun ⟨o, z⟩ => ⟨o, k _ _ z na⟩)) sqLz
theorem sqT_keep {H2 : Hp} (hs : (¬ A l ∧ Rd H1 l (.tup vs)) ∨ SqT K Hz l vs) (k : ∀ a o, H1 a = some o → ¬ A a → H2 a = some o) : SqT K H2 l vs := hs.elim (fun ⟨na, r⟩ => .inl (r.imp (fun z => k _ _ z na) fun ⟨o, z⟩ => ⟨o, k _ _ z na⟩)) sqTz
theorem it_enumL (hs : (¬ A l ∧ Rd H1 l (.lst vs)) ∨ SqL K Hz l vs) (hd : DvAll B K H1 vs xs) : ItOk true K (Ite K l) (enumD xs) A B H1 := fun H2 k f => by
  have h2 : SqL K H2 l vs := sqL_keep hs k
  refine ⟨fun i x hx => ?_, vs, h2, by rw [hd.length]; simp [enumD]⟩
  obtain ⟨y, hy, rfl⟩ := enumD_get hx
  obtain ⟨v, e1, e2⟩ := hd.get hy
  refine ⟨⟨vs, v, h2, e1⟩, ?_⟩
  rintro v' H' ⟨T, z, rfl, hT, rfl, fz⟩
  refine ⟨Grow.upd hT, fun B' kp _ => ?_⟩
  have := fz vs h2
  rw [e1] at this
  cases this
  exact pair_ok hT (.cons (.int _) (.cons (e2.mono kp) .nil))
theorem it_enumT (hs : (¬ A l ∧ Rd H1 l (.tup vs)) ∨ SqT K Hz l vs) (hd : DvAll B K H1 vs xs) : ItOk true K (IteT K l) (enumD xs) A B H1 := fun H2 k f => by
  have h2 : SqT K H2 l vs := sqT_keep hs k
  refine ⟨fun i x hx => ?_, vs, h2, by rw [hd.length]; simp [enumD]⟩
  obtain ⟨y, hy, rfl⟩ := enumD_get hx
  obtain ⟨v, e1, e2⟩ := hd.get hy
  refine ⟨⟨vs, v, h2, e1⟩, ?_⟩
  rintro v' H' ⟨T, z, rfl, hT, rfl, fz⟩
  refine ⟨Grow.upd hT, fun B' kp _ => ?_⟩
  have := fz vs h2
  rw [e1] at this
  cases this
  exact pair_ok hT (.cons (.int _) (.cons (e2.mono kp) .nil))
end
theorem dv_seqA {A : Addr → Prop} {K : PySem.W.Frag} {H : Hp} {v : V} {x : PyData} {xs : List PyData} (h : Dv A K H v x) (e : seqOf x = some xs) :
    ∃ a vs, v = .ref a ∧ DvAll A K H vs xs ∧ ((x = .list xs ∧ ((¬ A a ∧ Rd H a (.lst vs)) ∨ SqL K Hz a vs)) ∨ (x = .tuple xs ∧ ((¬ A a ∧ Rd H a (.tup vs)) ∨ SqT K Hz a vs))) := by
  cases x with
  | list zs =>
    cases e
    cases h with
    | lst hs ha => exact ⟨_, _, rfl, ha, .inl ⟨rfl, hs⟩⟩
  | tuple zs =>
    cases e
    cases h with
    | tup hs ha => exact ⟨_, _, rfl, ha, .inr ⟨rfl, hs.imp (fun z => ⟨z.1, let ⟨o, z, _⟩ := z.2; .inr ⟨o, z⟩⟩) (·.1)⟩⟩
  | _ => cases e
theorem sqL_of {A : Addr → Prop} {K : PySem.W.Frag} {H : Hp} {l : Addr} {vs : List V} (hs : (¬ A l ∧ Rd H l (.lst vs)) ∨ SqL K Hz l vs) : SqL K H l vs := hs.elim (fun z => .inl z.2) sqLz
theorem sqT_of' {A : Addr → Prop} {K : PySem.W.Frag} {H : Hp} {l : Addr} {vs : List V} (hs : (¬ A l ∧ Rd H l (.tup vs)) ∨ SqT K Hz l vs) : SqT K H l vs := hs.elim (fun z => .inl z.2) sqTz
def iEnumF (f : Fe) : Fi := fun ρ n => (f ρ n).bind fun p => p.1.frz.val.bind fun x => (seqOf x).map fun xs => (enumD xs, p.2)
theorem ei_enum {f : Fe} {p tpos : Pos} {elts : List Expr} {kk : Nat} (hg : Gl X "enumerate") (hm : X.mg "enumerate" = none) (he : EvE X e f) (hs : starEach [e] X.env = (false, eval e X.env) :: starEach [] X.env := by rfl) :
    EvI X true (.Tuple elts kk tpos) (.Call (.Name "enumerate" p) [e] [] pos) (iEnumF f) := piI (pi_enumA hg hm he hs) (by
  rintro σ H R ⟨C, O, ρ, n, xs, n', hf, E, q⟩
  unfold iEnumF at hf
  obtain ⟨⟨w, n1⟩, e1, hf⟩ := Option.bind_eq_some_iff.mp hf
  obtain ⟨x, e2, hf⟩ := Option.bind_eq_some_iff.mp hf
  obtain ⟨ys, e3, hf⟩ := Option.map_eq_some_iff.mp hf
  cases hf
  refine ⟨C, O, ρ, n, w, _, e1, E, fun v H1 s t r => ?_⟩
  obtain ⟨a, vs, hv, hd, ⟨_, hs⟩ | ⟨_, hs⟩⟩ := dv_seqA ((r.frz E.av).val e2) e3
  · exact ⟨a, vs, hv, .inl ⟨sqL_of hs, q _ H1 s t (it_enumL hs hd)⟩⟩
  · exact ⟨a, vs, hv, .inr ⟨sqT_of' hs, q _ H1 s t (it_enumT hs hd)⟩⟩)
/-- both lists, or both tuples -/
def zipOk : PyData → PyData → Option (List PyData)
  | .list xs, .list ys => some (zipD xs ys)
  | .tuple xs, .tuple ys => some (zipD xs ys)
  | _, _ => none
def iZipV (da db : Fd) : Fi := fun ρ n => (da ρ n).bind fun p => (db ρ p.2).bind fun q => (zipOk p.1 q.1).map (·, q.2)
def iZipF (fa fb : Fe) : Fi := fun ρ n => (fa ρ n).bind fun p => p.1.frz.val.bind fun x => (fb ρ p.2).bind fun q => q.1.frz.val.bind fun y => (zipOk x y).map (·, q.2)
end
end L2.Lv
namespace L2.Lv
open PySem PySem.Spec PyProof.Rows
/-! what a module's name is -/
theorem bt_len : bootBuiltins "len" = some (.builtin "len") := by decide +kernel
theorem bt_abs : bootBuiltins "abs" = some (.builtin "abs") := by decide +kernel
theorem bt_max : bootBuiltins "max" = some (.builtin "max") := by decide +kernel
theorem bt_any : bootBuiltins "any" = some (.builtin "any") := by decide +kernel
theorem bt_sum : bootBuiltins "sum" = some (.builtin "sum") := by decide +kernel
theorem bt_sorted : bootBuiltins "sorted" = some (.builtin "sorted") := by decide +kernel
theorem bt_int : bootBuiltins "int" = some (.type "int") := by decide +kernel
theorem bt_tuple : bootBuiltins "tuple" = some (.type "tuple") := by decide +kernel
theorem bt_dict : bootBuiltins "dict" = some (.type "dict") := by decide +kernel
structure DF (K : PySem.W.Frag) (mg : Str → Option Value) (x : Str) (st : Stmt) (ps : List Str) where
  f : Addr
  fd : FuncData
  F : Fun K x x st f fd
  b : Binds K fd ps []
  g : mg x = some (.ref f)
section
variable {X : Cx} {e a b : Expr} {es : List Expr} {f fa fb : Fe} {d da db : Fd} {fs : Fa} {ds : Fds} {pos : Pos} {st : Stmt} {rest sts sts' : List Stmt} {gs h : Fs} {ps : List Str}
theorem ev_callD {k j l : Nat} {F : Fn} {x : Str} {p : Pos} (D : DF X.K X.mg x st ps) (G : FnOk X.prog X.w X.K X.mg X.base CX0 j D.f D.fd ps (spOf X.K k F)) (hr : Room l X.A) (hj : j ≤ l) (hg : Gl X x) (ha : EvA X (e :: es) fs)
    (hl : (e :: es).length = k := by rfl) (hdb : (x == ("__debug__" : Str)) = false := by decide) (he : starEach (e :: es) X.env = (false, eval e X.env) :: starEach es X.env := by rfl) (hpl : (backTo pos (starEach es X.env)).any (·.1) = false := by rfl) :
    EvE X (.Call (.Name x p) (e :: es) [] pos) (eCall F fs) := ev_call G (hr.mono hj) hg D.g D.F.kp D.b ha hl hdb he hpl
theorem ev_callD0 {j l : Nat} {F : Fn} {x : Str} {p : Pos} (D : DF X.K X.mg x st ps) (G : FnOk X.prog X.w X.K X.mg X.base CX0 j D.f D.fd ps (spOf X.K 0 F)) (hr : Room l X.A) (hj : j ≤ l) (hg : Gl X x)
    (hdb : (x == ("__debug__" : Str)) = false := by decide) : EvE X (.Call (.Name x p) [] [] pos) (eCall F aNil) := ev_call0 G (hr.mono hj) hg D.g D.F.kp D.b hdb
theorem ev_gint {x : Str} {i : Int} (hg : Gl X x) (hm : ∃ t, X.mg x = some (.int i t)) (hd : (x == ("__debug__" : Str)) = false := by decide) : EvE X (.Name x pos) (eC (.int i)) := by
  obtain ⟨t, hm⟩ := hm
  exact ev_c (pe_glob hg hm (v := .int i) ⟨t, rfl⟩ hd) fun _ _ => .int _
/-- len of the town -/
def eTLen (i : Nat) : Fe := fun ρ n => match ρ[i]? with
  | some .town => some (.d (.int n), n)
  | _ => none
theorem ev_tlen {i : Nat} {p : Pos} (hg : Gl X "len") (hm : X.mg "len" = none) (hb : PE X a (tVar i)) (he : starEach [a] X.env = (false, eval a X.env) :: starEach [] X.env := by rfl) (hpl : (backTo pos (starEach [] X.env)).any (·.1) = false := by rfl) :
    EvE X (.Call (.Name "len" p) [a] [] pos) (eTLen i) := peI (pe_callB call_len_seq hg hm bt_len (pa_cons hb pa_nil he) (by decide) (by decide) he hpl) (by
  rintro σ H Q ⟨C, O, ρ, n, w, n', hf, E, q⟩
  unfold eTLen at hf
  split at hf
  · rename_i hx
    cases hf
    obtain ⟨l, h1, h2⟩ := E.sl _ _ hx
    have h3 := E.town l h1
    refine ⟨_, h2, l, _, rfl, .inl (SqL.of h3), ?_⟩
    rw [List.length_replicate]
    exact q _ _ Step.refl E.town (.int _)
  · cases hf)
theorem hu64 {l : Nat} {A : Around} (r : Room l A) : A.units + 64 < cLine := by have := r.un; omega
theorem hu65 {l : Nat} {A : Around} (r : Room l A) : A.units + 65 < cLine := by have := r.un; omega
theorem hu100 {l : Nat} {A : Around} (r : Room l A) : A.units + 100 < cLine := by have := r.un; omega
theorem hu0 {l : Nat} {A : Around} (r : Room l A) : A.units < cLine := by have := r.un; omega
end
theorem fn_none {P : Program} {w : World} {K : PySem.W.Frag} {mg : Str → Option Value} {base : Heap} {f : Addr} {fd : FuncData} {ps : List Str} {j : Nat} : FnOk P w K mg base CX0 j f fd ps (spOf K ps.length fun _ _ => none) :=
  ⟨spOf.len, fun A outer s H args us vs Q E _ _ _ _ h => by obtain ⟨C, ws, n, w, n', _, _, _, _, _, hf, _⟩ := h; cases hf⟩
/-! the law -/
def spLaw (K : PySem.W.Frag) (m : Nat) : Sp := fun vs H Q _ => ∃ (a : Addr) (ns : List Int), vs = [.ref a] ∧ ((∀ x ∈ tabsOf K, H x.1 = some (.tbl #[])) ∧ ∀ a q q', (a, q) ∈ tabsOf K → (a, q') ∈ tabsOf K → q = q') ∧ SqL K H a (ns.map V.int) ∧ ns.length ≤ m ∧ ∀ H', Q (.bl true) H'
theorem dv_ints {A : Addr → Prop} {K : PySem.W.Frag} {H : Hp} : ∀ ns : List Int, DvAll A K H (ns.map V.int) (ns.map PyData.int)
  | [] => .nil
  | n :: ns => .cons (.int n) (dv_ints ns)
theorem fn_law {P : Program} {w : World} {K : PySem.W.Frag} {mg : Str → Option Value} {base : Heap} {st : Stmt} {f : Addr} {fd : FuncData} {N : List Str} {x y : Str} {k m : Nat} {g : Fs} {p p2 p3 : Pos} {rest : List Stmt} (F : Fun K "law" "law" st f fd) (S : FnScope N [x] (defScope st))
    (hbd : defBody st = .Assign [.Name y p] (.List [] p2) p3 :: rest) (hy : N[1]? = some y) (hyl : Loc (defScope st) y)
    (hb : ∀ (cdv : Value) (A : Around) (outer : List Env) (s : Shared) (H : Hp) (E : XK), Room k (A.deeper (envOfC "law" (defScope st) s.heap.objs.size f cdv)) →
      EvSs (cxOf CX0 P w K mg base N "law" (defScope st) f cdv A outer s H E).nox rest g)
    (hm : ∀ ns : List Int, ns.length ≤ m → ∃ n', g (.d (.list (ns.map .int)) :: .town :: List.replicate (N.length - 2) .no) 0 = some (.rt (.d (.bool true)) n')) :
    FnOk P w K mg base CX0 (k + 1) f fd [x] (spLaw K m) := by
  refine F.ok S (fun vs H Q E h => by obtain ⟨a, ns, rfl, _⟩ := h; rfl) fun cdv A outer s H vs Q E hr h => ?_
  obtain ⟨a, ns, rfl, ⟨hO, hF⟩, hS, hlen, q⟩ := h
  rw [hbd]
  have hN : ∃ N', N = x :: y :: N' := by
    have h1 := S.pre
    match N, h1, hy with
    | [], h1, _ => simp at h1
    | [_], _, hy => simp at hy
    | x' :: y' :: N', h1, hy =>
      simp at h1 hy
      exact ⟨N', by rw [h1, hy]⟩
  obtain ⟨N', rfl⟩ := hN
  refine ⟨_, pss_cons (ps_set (i := 1) S.nd rfl hyl (pe_lst pa_nil)) (hb cdv A outer s H E hr), Nat.zero_le _, fun p np => ?_⟩
  obtain ⟨n', e⟩ := hm ns hlen
  have hT : ∀ P q, (P, q) ∈ tabsOf K → upd H p (.lst []) P = some (.tbl #[]) := fun P q z => by
    have z := hO _ z
    rw [upd_ne (fun y => by rw [y, np] at z; cases z)]
    exact z
  refine ⟨⟨some p, fun b => ∃ q, (b, q) ∈ tabsOf K, upd H p (.lst []), fun b q => (b, q) ∈ tabsOf K, fun b q z => ⟨q, z⟩, hF⟩, Ow0, _, 0, _, e, ⟨by simp [start], fun i w hw => ?_, fun _ _ _ z => (nomatch z), fun _ _ z => (nomatch z), fun b z => ?_, fun _ _ z _ => z, fun P ⟨q, z⟩ => by rw [hT P q z]; simp, fun _ z => z, fun x hx => hx,
    fun P q z => ⟨⟨#[], hT P q z, True.intro, fun pos cv hc => by have z : codeAmong pos [] = some cv := hc; simp [codeAmong] at z⟩, fun G _ t => t⟩⟩, fun _ _ z => (nomatch z), fun v H' r => ?_⟩
  · match i with
    | 0 =>
      cases hw
      refine ⟨.ref a, rfl, .lst ?_ (dv_ints ns)⟩
      rcases hS with hS | hS
      · have ne : a ≠ p := fun z => by subst z; exact Rd.there hS np
        refine .inl ⟨?_, ?_⟩
        · rintro (⟨q, z⟩ | z | ⟨_, z⟩)
          · have z := hO _ z
            rcases hS with hS | ⟨o, hS⟩ <;> rw [hS] at z <;> cases z
          · exact ne (Option.some.inj z).symm
          · cases z
        · rcases hS with hS | ⟨o, hS⟩
          · exact .inl (by rw [upd_ne ne]; exact hS)
          · exact .inr ⟨o, by rw [upd_ne ne]; exact hS⟩
      · exact .inr (.inr hS)
    | 1 =>
      cases hw
      exact ⟨p, rfl, rfl⟩
    | i + 2 =>
      simp only [List.getElem?_cons_succ, List.getElem?_replicate] at hw
      split at hw
      · cases hw; trivial
      · cases hw
  · cases z
    exact upd_same
  · have r' : Dv _ K H' v (.bool true) := r.res
    cases r'
    exact q H'
end L2.Lv
namespace L2.Lv
open PySem PySem.Spec PyProof.Rows
/-! ranges with a step -/
def rangeC (lo c : Int) (n : Nat) : List PyData := (List.range n).map fun (i : Nat) => .int (lo + (i : Nat) * c)
def rng3 : PyData → PyData → PyData → Option (List PyData)
  | .int i, .int j, .int c => if c ≠ 0 ∧ c.natAbs < 1073741824 ∧ Builtin.Range.small i j c = true ∧ 0 ≤ Builtin.Range.rangeSize i j c then some (rangeC i c (Builtin.Range.rangeSize i j c).toNat) else none
  | _, _, _ => none
def iRng3D (da db dc : Fd) : Fi := fun ρ n => (da ρ n).bind fun p => (db ρ p.2).bind fun q => (dc ρ q.2).bind fun r => (rng3 p.1 q.1 r.1).map (·, r.2)
section
variable {X : Cx} {a b c : Expr} {da db dc : Fd} {pos : Pos}
end
end L2.Lv
namespace HT
open PySem PySem.Spec PyProof.Rows
section
variable {prog : Program} {w : World} {A : Around} {E : Value → Shared → Prop} {s : Shared}
end
end HT
namespace L2.Lv
open PySem PySem.Spec PyProof.Rows
/-! what no one reads any more is forgotten -/
def Out.kill (is : List Nat) : Out → Out
  | .nx ρ n => .nx (wipeW ρ is) n
  | o => o
def sEnd (is : List Nat) (g : Fs) : Fs := fun ρ n => (g ρ n).map (Out.kill is)
theorem EnvOk.wipe {C : Cn} {O : Ow} {K : PySem.W.Frag} {σ : St} {H : Hp} {ρ : List W} {n : Nat} (is : List Nat) (E : EnvOk C O K σ H ρ n) : EnvOk C O K σ H (wipeW ρ is) n := by
  refine ⟨by rw [wipeW_length]; exact E.len, fun i w hw => ?_, E.inj, E.own, E.town, E.base, E.ptr, E.fr, E.tk, E.tb⟩
  rw [wipeW_get] at hw
  split at hw
  · cases hw; trivial
  · have q := E.sl i w hw
    rw [wipeW_length]
    exact q
theorem ss_end {X : Cx} {st : Stmt} {g : Fs} (is : List Nat) (h : EvS X st g) : EvS X st (sEnd is g) := psI h (by
  rintro D σ H ⟨C, O, ρ, n, out, hf, E, np, q⟩
  obtain ⟨o, e1, e2⟩ := Option.map_eq_some_iff.mp hf
  refine ⟨C, O, ρ, n, o, e1, E, np, ?_⟩
  cases o with
  | nx ρ1 n1 => cases e2; exact fun O' σ' H' s E' => q O' σ' H' s (E'.wipe is)
  | bk ρ1 n1 => cases e2; exact q
  | rt w n1 => cases e2; exact q)
/-! slices with a step -/
section
variable {X : Cx} {e a b : Expr} {d da : Fd} {pos p2 : Pos}
def eSs (g : PyData → Option Int → Option Int → Int → Option W) (d : Fd) (o o' o'' : Fo) : Fe := fun ρ n => (d ρ n).bind fun p => (o ρ p.2).bind fun q => (o' ρ q.2).bind fun r => (o'' ρ r.2).bind fun s => s.1.bind fun c => (g p.1 q.1 r.1 c).map (·, s.2)
/-! x.count(k), ints -/
def gCountT (x : PyData) (ys : List PyData) : Option W := match x, ys with
  | .tuple xs, [.int k] => (intsOf xs).map fun ns => .d (.int (ns.count k : Nat))
  | _, _ => none
theorem mv_tcount : MtV X "tuple.count" gCountT := by
  refine ⟨fun x xs H Q => ∃ (p : Addr) (ns : List Int) (k : Int), x = .ref p ∧ xs = [.int k] ∧ SqT X.K H p (ns.map V.int) ∧ Q (.int (ns.count k : Nat)) H, ?_, ?_⟩
  · rintro pins s σ H x xs v us Q I rx rxs ⟨p, ns, k, rfl, rfl, hs, q⟩
    have hv : v = .ref p := rx
    subst hv
    obtain ⟨u, rfl, t, rfl⟩ := rxs.one
    obtain ⟨its, rv, pl, hz⟩ := I.tuple hs
    obtain ⟨⟨cls, dd, data, sl⟩, ho, hc, n, hd⟩ := id pl
    simp only at hc hd
    subst hc hd
    have hi := ints_of_vals rv
    refine call_meets PySem.F.slot_tuple_count ⟨_, ho, rfl⟩ PySem.F.entry_tuple_count (PySem.F.args_tuple_count_2 _ _)
      (SeqAt.tuple_countAt p its.toArray n dd sl (.int k t) (eqk k)) ⟨ho, fun y hy => (eqk_gives hi y (by simpa using hy)).at _ _, ?_⟩
    have ec : its.toArray.toList.countP (eqk k) = ns.count k := eqk_count hi
    refine ⟨.int (ns.count k : Nat), H, I.tok _, ⟨s.toks, ?_⟩, q⟩
    show Value.int ((its.toArray.toList.countP (eqk k) : Nat) : Int) s.toks = Value.int ((ns.count k : Nat) : Int) s.toks
    rw [ec]
  · intro A T x vs dx xs w H Q tr rx rxs e q
    unfold gCountT at e
    split at e
    · rename_i zs k
      obtain ⟨ns, h2, e⟩ := Option.map_eq_some_iff.mp e
      cases e
      obtain ⟨v, rfl, r⟩ := rxs.one
      obtain ⟨a, us, rfl, k1, k2, _⟩ := rx.tup
      rw [intsOf_ok h2] at k2
      rw [k2.ints] at k1
      exact ⟨a, ns, k, rfl, by rw [r.int], k1, q _ _ Grow.refl (.int _)⟩
    · cases e
end
end L2.Lv
namespace L2.Lv
open PySem PySem.Spec PyProof.Rows
section
variable {X : Cx} {e a b c : Expr} {es : List Expr} {f fa fb fc : Fe} {d da db : Fd} {fs : Fa} {ds : Fds} {pos : Pos} {st : Stmt} {rest sts sts' : List Stmt} {g h : Fs}
/-! x.insert(k, e) -/
/-! is True, is not True -/
/-! a, b, c = x, y, z -/
def sPar3 (i j l : Nat) (fs : Fa) : Fs := fun ρ n => (fs ρ n).bind fun p => match p.1 with
  | [w, w', w''] => some (.nx (((ρ.set i w).set j w').set l w'') p.2)
  | _ => none
/-! an expression that takes an item out of a list of ours -/
abbrev Fx := List W → Nat → Option (PyData × List W × Nat)
def tVX (K : PySem.W.Frag) (f : Fx) : TE := fun σ H Q => ∃ C O ρ n x ρ' n', f ρ n = some (x, ρ', n') ∧ EnvOk C O K σ H ρ n ∧ OwnP C O ∧ ∀ v H', StepS C O O H H' → EnvOk C O K σ H' ρ' n' → Dv (Av C O) K H' v x → Q v H'
abbrev EvX (X : Cx) (e : Expr) (f : Fx) : Prop := PE X e (tVX X.K f)
def xPop (i : Nat) (d : Fd) : Fx := fun ρ n => (d ρ n).bind fun k => match k.1, ρ[i]? with
  | .int z, some (.ol xs) => if xs.length ≤ big then (ixN xs.length z).bind fun j => (xs[j]?).map fun x => (x, ρ.set i (.ol (xs.eraseIdx j)), k.2) else none
  | _, _ => none
theorem ex_pop {i : Nat} {p2 p3 : Pos} (hb : PE X b (tVar i)) (hk : EvB X a d) (hbase : attributeBase b "pop" X.env (eval b X.env) = eval b X.env := by rfl)
    (hfew : ((backTo p3 (starEach [a] X.env)).all (fun x => !x.1) && (backToKw p3 (keywordEach [] X.env)).all (fun x => x.1.isSome)
      && decide ([a].length + ([] : List Keyword).length + (if ([] : List Keyword).isEmpty then 0 else 1) < 30)) = true := by rfl)
    (hline : (p2.endLine == p3.line) = true := by rfl) (hs : starEach [a] X.env = (false, eval a X.env) :: starEach [] X.env := by rfl) :
    EvX X (.Call (.Attribute b "pop" p2) [a] [] p3) (xPop i d) := peI (pe_bm PySem.F.plainAttrs_list PySem.F.slot_list_pop PySem.F.type_list_pop mt_popAt hb (pa_cons hk pa_nil hs) hbase hfew hline hs rfl) (by
  rintro σ H Q ⟨C, O, ρ, n, x, ρ', n', hf, E, np, q⟩
  unfold xPop at hf
  obtain ⟨⟨k, n1⟩, e1, hf⟩ := Option.bind_eq_some_iff.mp hf
  simp only at hf
  split at hf
  · rename_i z xs hx
    split at hf
    · rename_i hz
      obtain ⟨j, e2, hf⟩ := Option.bind_eq_some_iff.mp hf
      obtain ⟨y, e3, hf⟩ := Option.map_eq_some_iff.mp hf
      cases hf
      obtain ⟨l, vs, h1, h2, h3, h4⟩ := E.sl _ _ hx
      refine ⟨_, h2, .inl ⟨rfl, vs, SqL.of h3⟩, C, O, ρ, n, _, _, e1, E, fun u H1 s t r => ?_⟩
      have E1 := E.step s t
      have h3' : H1 l = some (.lst vs) := s.st _ _ h3 (E.own i l h1).1
      have h5 := h4.mono (s.keep Av.t)
      obtain ⟨v, g1, g2⟩ := h5.get e3
      obtain ⟨k1, k2, k3, k4⟩ := ixN_seq e2
      have hbg : big = 16777216 := rfl
      have : ((2 : Int) ^ 63) = 9223372036854775808 := by decide
      refine ⟨l, vs, z, j, v, rfl, by rw [r.int], h3', by omega, by omega, by rw [h4.length]; exact k1, g1, ?_⟩
      have hav : Av C O l := .inr (.inr ⟨i, h1⟩)
      obtain ⟨E3, s3⟩ := E1.write (o := .lst (vs.eraseIdx j)) (w' := .ol (xs.eraseIdx j)) (lt_of_get (by assumption)) h1 ⟨l, _, rfl, h2, upd_same, (h5.eraseIdx j).mono (keep_upd hav)⟩
      exact q v _ (s.stepS0.trans s3) E3 (g2.mono s3.keep)
    · cases hf
  · cases hf)
def xTup1 (f : Fx) : Fx := fun ρ n => (f ρ n).map fun p => (.tuple [p.1], p.2.1, p.2.2)
theorem ex_tup1 {f : Fx} {x1} (h : EvX X e f) (hs : starEach [e] X.env = (false, eval e X.env) :: starEach [] X.env := by rfl) : EvX X (.Tuple [e] x1 pos) (xTup1 f) := peI (pe_tupF (pa_cons h pa_nil hs)) (by
  rintro σ H Q ⟨C, O, ρ, n, x, ρ', n', hf, E, np, q⟩
  obtain ⟨⟨y, ρ1, n1⟩, e1, e2⟩ := Option.map_eq_some_iff.mp hf
  cases e2
  refine ⟨C, O, ρ, n, y, _, _, e1, E, np, fun v H1 s E1 r => ⟨by show 1 ≤ sizeLine; rw [big_eq]; decide, fun p o ho hp => ?_⟩⟩
  have g : Step C H1 (upd H1 p (.frz o (.tup [v]))) := (Grow.upd hp).step
  exact q _ _ (s.trans g.stepS0) (E1.step g ((Grow.upd hp).town E1.town)) (new_tup hp E1.av ho (.cons r .nil)))
/-- a + (the taken one) -/
def xCat (fa : Fe) (f : Fx) : Fx := fun ρ n => (fa ρ n).bind fun p => p.1.val.bind fun x => (f ρ p.2).bind fun q => match dAdd x q.1 with
  | some (.d z) => some (z, q.2.1, q.2.2)
  | _ => none
theorem ex_cat {f : Fx} (ha : EvE X a fa) (hb : EvX X b f) : EvX X (.BinOp a .Add b pos) (xCat fa f) := by
  obtain ⟨r, h1, h2⟩ := ov_add (X := X)
  refine peI (pe_op h1 ha hb) ?_
  rintro σ H Q ⟨C, O, ρ, n, x, ρ', n', hf, E, np, q⟩
  unfold xCat at hf
  obtain ⟨⟨w, n1⟩, e1, hf⟩ := Option.bind_eq_some_iff.mp hf
  obtain ⟨y, e2, hf⟩ := Option.bind_eq_some_iff.mp hf
  obtain ⟨⟨z, ρ1, n2⟩, e3, hf⟩ := Option.bind_eq_some_iff.mp hf
  simp only at hf
  split at hf
  · rename_i u hu
    cases hf
    refine ⟨C, O, ρ, n, w, n1, e1, E, fun v H1 s1 t1 r1 => ?_⟩
    have E1 := E.step s1 t1
    have r1' : Dv (Av C O) X.K H1 v y := r1.val e2
    refine ⟨C, O, ρ, n1, z, _, _, e3, E1, np, fun v2 H2 s2 E2 r2 => ?_⟩
    refine h2 (Av C O) C.T v v2 y z _ H2 Q E2.av (.inl (r1'.mono s2.keep)) (.inl r2) hu fun v3 H3 g3 r3 => ?_
    exact q v3 H3 ((s1.stepS0.trans s2).trans g3.step.stepS0) (E2.step g3.step (g3.town E2.town)) r3
  · cases hf
def sSetX (i : Nat) (f : Fx) : Fs := fun ρ n => (f ρ n).map fun p => .nx (p.2.1.set i (.d p.1)) p.2.2
theorem ss_setX {f : Fx} {i : Nat} {x : Str} {pos' : Pos} (hN : X.N.Nodup) (hi : X.N[i]? = some x) (hx : Loc X.env.scope x) (ha : EvX X e f) (hs : swapsWith e (some (.Name x pos')) pos.line X.env = pure false := by rfl) (hf : X.fn x = true ∨ X.env.scope.names.lookup x = some .local := by first | exact .inl rfl | exact .inr rfl | assumption) :
    EvS X (.Assign [.Name x pos'] e pos) (sSetX i f) := psI (ps_set hN hi hx ha hs hf) (by
  rintro D σ H ⟨C, O, ρ, n, out, hf, E, np, q⟩
  obtain ⟨⟨y, ρ1, n1⟩, e1, e2⟩ := Option.map_eq_some_iff.mp hf
  cases e2
  refine ⟨C, O, ρ, n, y, ρ1, n1, e1, E, np, fun v H1 s E1 r => ?_⟩
  obtain ⟨O', E', s'⟩ := E1.assign (i := i) (w := .d y) (v := v) (n' := n1) (H1 := H1) Step.refl E1.town r
  exact q O' _ H1 (s.trans s') E')
/-- x.append(the taken one) -/
def sAppX (i : Nat) (f : Fx) : Fs := fun ρ n => match ρ[i]? with
  | some (.ol _) => (f ρ n).bind fun p => match p.2.1[i]? with
    | some (.ol xs) => if xs.length < big then some (.nx (p.2.1.set i (.ol (xs ++ [p.1]))) p.2.2) else none
    | _ => none
  | _ => none
end
end L2.Lv
namespace L2.Lv
open PySem PySem.Spec PyProof.Rows
/-! a, b = x, y where they may be ours -/
theorem EnvOk.assignX {C : Cn} {O : Ow} {K : PySem.W.Frag} {σ : St} {H H1 : Hp} {ρ : List W} {n n' : Nat} {v : V} {w : W} {i : Nat} (E : EnvOk C O K σ H ρ n) (s : Step C H H1) (t : TownAt C H1 n') (r : Res (Av C O) C.T K H H1 v w) :
    ∃ O', EnvOk C O' K (σ.set i (some v)) H1 (ρ.set i w) n' ∧ StepS C O O' H H1 ∧ ∀ b, Av C O' b → Av C O b ∨ (v = .ref b ∧ H b = none ∧ H1 b ≠ none ∧ ∀ q, H1 b ≠ some (LamX.CodeO b q)) := by
  have E1 := E.step s t
  by_cases hi : i < ρ.length
  · have hj : ∀ j w', (ρ.set i w)[j]? = some w' → (j = i ∧ w' = w) ∨ (j ≠ i ∧ ρ[j]? = some w') := fun j w' e => by
      by_cases h : j = i
      · subst h
        rw [List.getElem?_set_self hi] at e
        cases e
        exact .inl ⟨rfl, rfl⟩
      · rw [List.getElem?_set_ne (Ne.symm h)] at e
        exact .inr ⟨h, e⟩
    have hσ : i < σ.length := by rw [← E.len]; exact hi
    -- the address that is new, if any
    have key : ∀ o : Option Addr, (∀ a, o = some a → H a = none ∧ ¬ TX C a ∧ H1 a ≠ none ∧ ∀ q, H1 a ≠ some (LamX.CodeO a q)) → (∀ a, o = some a → v = .ref a) →
        SlOk (Av C (owSet O i o)) C.T K H1 (some (some v)) o (hid (owSet O i o) ρ.length i) w →
        ∃ O', EnvOk C O' K (σ.set i (some v)) H1 (ρ.set i w) n' ∧ StepS C O O' H H1 ∧ ∀ b, Av C O' b → Av C O b ∨ (v = .ref b ∧ H b = none ∧ H1 b ≠ none ∧ ∀ q, H1 b ≠ some (LamX.CodeO b q)) := by
      intro o ho hvo hw
      have kp : Keep (Av C O) (Av C (owSet O i o)) H H1 := fun a u na r => by
        refine ⟨?_, s.st _ _ r (fun e => na (Av.t _ e))⟩
        rintro (z | z | ⟨j, z⟩)
        · exact na (.inl z)
        · exact na (.inr (.inl z))
        · by_cases h : j = i
          · rw [h, owSet_at] at z
            rw [(ho a z).1] at r; cases r
          · rw [owSet_of h] at z
            exact na (.inr (.inr ⟨j, z⟩))
      refine ⟨owSet O i o, ⟨by simpa using E.len, fun j w' e => ?_, fun j k a h1 h2 => ?_, fun j a h => ?_, t, E1.base, E1.ptr, E1.fr, E1.tk, ?_⟩, s.stepS fun j a h => ?_, fun b hb => ?_⟩
      · rw [List.length_set]
        rcases hj j w' e with ⟨rfl, rfl⟩ | ⟨ne, e⟩
        · rw [List.getElem?_set_self hσ, owSet_at]
          exact hw
        · rw [List.getElem?_set_ne (Ne.symm ne), owSet_of ne]
          have q := E.sl j w' e
          cases w' with
          | no => trivial
          | d x => obtain ⟨u, h1, h2⟩ := q; exact ⟨u, h1, h2.mono kp⟩
          | town => exact q
          | ol xs =>
            obtain ⟨a, vs, h1, h2, h3, h4⟩ := q
            exact ⟨a, vs, h1, h2, s.st _ _ h3 (E.own j a h1).1, h4.mono kp⟩
          | od kvs =>
            obtain ⟨a, h1, h2, h3⟩ := q
            exact ⟨a, h1, h2, h3.mono kp fun o e => s.st _ _ e (E.own j a h1).1⟩
          | oll xss =>
            obtain ⟨a, bs, h1, h2, h3, h4⟩ := q
            exact ⟨a, bs, h1, h2, s.st _ _ h3 (E.own j a h1).1, h4.mono kp (fun x hx => owSet_of (by omega)) fun x b u _ h e => s.st _ _ e (E.own _ b h).1⟩
          | fn g => obtain ⟨u, h1, h2⟩ := q; exact ⟨u, h1, h2.mono kp⟩
      · by_cases hj : j = i
        · rw [hj, owSet_at] at h1
          by_cases hk : k = i
          · rw [hj, hk]
          · rw [owSet_of hk] at h2
            exact absurd (ho a h1).1 (E.own k a h2).2.2
        · rw [owSet_of hj] at h1
          by_cases hk : k = i
          · rw [hk, owSet_at] at h2
            exact absurd (ho a h2).1 (E.own j a h1).2.2
          · rw [owSet_of hk] at h2
            exact E.inj j k a h1 h2
      · skip
        by_cases hj : j = i
        · rw [hj, owSet_at] at h
          exact ⟨(ho a h).2.1, E.fr a (ho a h).1, (ho a h).2.2.1⟩
        · rw [owSet_of hj] at h
          exact E1.own j a h
      · refine E1.tb.sub rfl rfl ?_
        rintro b (z | z | ⟨j, z⟩)
        · exact .inl (.inl z)
        · exact .inl (.inr (.inl z))
        · by_cases h : j = i
          · rw [h, owSet_at] at z; exact .inr (ho b z).2.2.2
          · rw [owSet_of h] at z; exact .inl (.inr (.inr ⟨j, z⟩))
      · skip
        by_cases hj : j = i
        · rw [hj, owSet_at] at h
          exact .inr (ho a h).1
        · rw [owSet_of hj] at h
          exact .inl ⟨j, h⟩
      · rcases hb with z | z | ⟨j, z⟩
        · exact .inl (.inl z)
        · exact .inl (.inr (.inl z))
        · by_cases hj : j = i
          · rw [hj, owSet_at] at z
            exact .inr ⟨hvo b z, (ho b z).1, (ho b z).2.2⟩
          · rw [owSet_of hj] at z
            exact .inl (.inr (.inr ⟨j, z⟩))
    have avn : ∀ b, Av C (owSet O i none) b → Av C O b := by
      rintro b (z | z | ⟨j, z⟩)
      · exact .inl z
      · exact .inr (.inl z)
      · by_cases h : j = i
        · rw [h, owSet_at] at z; cases z
        · rw [owSet_of h] at z; exact .inr (.inr ⟨j, z⟩)
    have avs : ∀ a b, Av C (owSet O i (some a)) b → Av C O b ∨ b = a := by
      rintro a b (z | z | ⟨j, z⟩)
      · exact .inl (.inl z)
      · exact .inl (.inr (.inl z))
      · by_cases h : j = i
        · rw [h, owSet_at] at z; cases z; exact .inr rfl
        · rw [owSet_of h] at z; exact .inl (.inr (.inr ⟨j, z⟩))
    cases w with
    | no => exact False.elim r
    | d x => exact key none (fun a e => by cases e) (fun a e => by cases e) ⟨v, rfl, Dv.mono (fun a u na r => ⟨fun z => na (avn a z), r⟩) r⟩
    | town =>
      obtain ⟨a, h1, h2⟩ := r
      exact key none (fun a e => by cases e) (fun a e => by cases e) ⟨a, h1, by rw [h2]⟩
    | ol xs =>
      obtain ⟨a, vs, h1, h2, h3, h4⟩ := r
      subst h1
      exact key (some a) (fun b e => by cases e; exact ⟨h2, fun z => E.ta a z h2, by rw [h3]; simp, fun q z => codeO_lst (Option.some.inj (h3.symm.trans z))⟩) (fun b e => by cases e; rfl) ⟨a, vs, rfl, rfl, h3, h4.mono fun b u nb r => ⟨fun z => nb (avs a b z), r⟩⟩
    | oll _ => exact False.elim r
    | fn g => exact key none (fun a e => by cases e) (fun a e => by cases e) ⟨v, rfl, FnV.mono r (fun a u na r => ⟨fun z => na (avn a z), r⟩)⟩
    | od kvs =>
      obtain ⟨a, h1, h2, h3⟩ := r
      subst h1
      exact key (some a) (fun b e => by cases e; exact ⟨h2, fun z => E.ta a z h2, h3.there, h3.nc⟩) (fun b e => by cases e; rfl) ⟨a, rfl, rfl, h3.mono (fun b u nb r => ⟨fun z => nb (avs a b z), r⟩) fun o e => e⟩
  · have e1 : ρ.set i w = ρ := List.set_eq_of_length_le (by omega)
    have e2 : σ.set i (some v) = σ := List.set_eq_of_length_le (by rw [← E.len]; omega)
    rw [e1, e2]
    exact ⟨O, E1, s.stepS0, fun b hb => .inl hb⟩
section
variable {X : Cx} {e a b : Expr} {es : List Expr} {f fa fb : Fe} {d da db : Fd} {fs : Fa} {ds : Fds} {pos : Pos} {st : Stmt} {rest sts sts' : List Stmt} {gs h : Fs}
def sParO (i j : Nat) (fa fb : Fe) : Fs := fun ρ n => (fa ρ n).bind fun p => (fb ρ p.2).bind fun q => some (.nx ((ρ.set i p.1).set j q.1) q.2)
theorem ss_parO {i j : Nat} {x y : Str} {px py pt : Pos} {kt k2 pt2} (hc : X.calm = true) (hN : X.N.Nodup) (hi : X.N[i]? = some x) (hj : X.N[j]? = some y) (hij : i ≠ j)
    (hx : X.env.scope.names.lookup x = some .local) (hy : X.env.scope.names.lookup y = some .local) (ha : EvE X a fa) (hb : EvE X b fb)
    (hw : swappedStores [.Tuple [.Name x px, .Name y py] kt pt] (.Tuple [a, b] k2 pt2) X.env = pure (some [x, y]))
    (hs1 : starEach [a, b] X.env = (false, eval a X.env) :: starEach [b] X.env := by rfl) (hs2 : starEach [b] X.env = (false, eval b X.env) :: starEach [] X.env := by rfl)
    (hs : swapsWithSole [.Tuple [.Name x px, .Name y py] kt pt] (.Tuple [a, b] k2 pt2) pos.line X.env = pure false := by rfl) :
    EvS X (.Assign [.Tuple [.Name x px, .Name y py] kt pt] (.Tuple [a, b] k2 pt2) pos) (sParO i j fa fb) := psI (ps_par hc hN hi hj hij hx hy (pa_cons ha (pa_cons hb pa_nil hs2) hs1) hw hs) (by
  rintro D σ H ⟨C, O, ρ, n, out, hf, E, np, q⟩
  unfold sParO at hf
  obtain ⟨⟨w1, n1⟩, e1, hf1⟩ := Option.bind_eq_some_iff.mp hf
  obtain ⟨⟨w2, n2⟩, e2, hf2⟩ := Option.bind_eq_some_iff.mp hf1
  cases hf2
  refine ⟨C, O, ρ, n, w1, n1, e1, E, fun v1 H1 s1 t1 r1 => ?_⟩
  have E1 := E.step s1 t1
  have fin : ∀ (C' : Cn) (H2 : Hp) (v2 : V), C'.T = C.T → Step C H1 H2 → TownAt C H2 n2 → (∀ b, Av C O b → Av C' O b) → (∀ b, v1 = .ref b → H b = none → H1 b ≠ none → (∀ q, H1 b ≠ some (LamX.CodeO b q)) → Av C' O b) → Res (Av C' O) C.T X.K H1 H2 v2 w2 → D.nx ((σ.set i (some v1)).set j (some v2)) H2 := by
    intro C' H2 v2 hT s2 t2 h1 h2 r2
    obtain ⟨O2, E2, S2, A2⟩ := E.assignX (i := i) s1 t1 r1
    have r2' : Res (Av C O2) C.T X.K H1 H2 v2 w2 := r2.av fun b hb => (A2 b hb).elim (h1 b) fun z => h2 b z.1 z.2.1 z.2.2.1 z.2.2.2
    obtain ⟨O3, E3, S3⟩ := E2.assign (i := j) s2 t2 r2'
    exact q O3 _ H2 (S2.trans S3) E3
  cases hv : v1 with
  | ref a1 =>
    cases hH : H a1 with
    | some o =>
      refine ⟨C, O, ρ, n1, w2, n2, e2, E1, fun v2 H2 s2 t2 r2 => ?_⟩
      rw [← hv]
      exact ⟨v1, v2, rfl, fin C H2 v2 rfl s2 t2 (fun b z => z) (fun b z1 z2 _ _ => by rw [hv] at z1; cases z1; rw [hH] at z2; cases z2) r2⟩
    | none =>
      cases hH1 : H1 a1 with
      | none =>
        refine ⟨C, O, ρ, n1, w2, n2, e2, E1, fun v2 H2 s2 t2 r2 => ?_⟩
        rw [← hv]
        exact ⟨v1, v2, rfl, fin C H2 v2 rfl s2 t2 (fun b z => z) (fun b z1 _ z3 _ => by rw [hv] at z1; cases z1; exact absurd hH1 z3) r2⟩
      | some o =>
        by_cases hc : ∃ q, o = LamX.CodeO a1 q
        · refine ⟨C, O, ρ, n1, w2, n2, e2, E1, fun v2 H2 s2 t2 r2 => ?_⟩
          rw [← hv]
          exact ⟨v1, v2, rfl, fin C H2 v2 rfl s2 t2 (fun b z => z) (fun b z1 _ _ z3 => by rw [hv] at z1; cases z1; obtain ⟨q, hc⟩ := hc; exact absurd (by rw [hH1, hc]) (z3 q)) r2⟩
        have EB : EnvOk (blkC C O a1) O X.K σ H1 ρ n1 := E.blk (vs := []) hH s1 t1 ⟨o, hH1, fun q z => hc ⟨q, z⟩⟩
        refine ⟨_, O, ρ, n1, w2, n2, e2, EB, fun v2 H2 s2 t2 r2 => ?_⟩
        rw [← hv]
        exact ⟨v1, v2, rfl, fin (blkC C O a1) H2 v2 rfl ⟨s2.st0, s2.fr, s2.tb⟩ t2 (fun b z => blkC_av b (.inl z)) (fun b z1 z2 _ _ => blkC_av b (.inr (by rw [hv] at z1; cases z1; rfl))) r2⟩
  | _ =>
    refine ⟨C, O, ρ, n1, w2, n2, e2, E1, fun v2 H2 s2 t2 r2 => ?_⟩
    rw [← hv]
    exact ⟨v1, v2, rfl, fin C H2 v2 rfl s2 t2 (fun b z => z) (fun b z1 z2 _ _ => by rw [hv] at z1; cases z1) r2⟩)
end
end L2.Lv
namespace L2.Lv
open PySem PySem.Spec PyProof.Rows
/-! for p, q in enumerate(a list of ours): if test: y = e -/
def loopI (p q : Nat) (tst : Ft) (y : Nat) (fe : Fe) : List (Nat × PyData) → List W → Nat → Option (List W × Nat)
  | [], ρ, n => some (ρ, n)
  | x :: xs, ρ, n => (tst ((ρ.set p (.d (.int (x.1 : Nat)))).set q (.d x.2)) n).bind fun c => if c.1 then (fe ((ρ.set p (.d (.int (x.1 : Nat)))).set q (.d x.2)) c.2).bind fun w => w.1.val.bind fun z => loopI p q tst y fe xs (((ρ.set p (.d (.int (x.1 : Nat)))).set q (.d x.2)).set y (.d z)) w.2
      else loopI p q tst y fe xs ((ρ.set p (.d (.int (x.1 : Nat)))).set q (.d x.2)) c.2
def enumN (xs : List PyData) : List (Nat × PyData) := xs.mapIdx fun i x => (i, x)
def sForEI (i p q : Nat) (tst : Ft) (y : Nat) (fe : Fe) : Fs := fun ρ n => match ρ[i]? with
  | some (.ol xs) => (loopI p q tst y fe (enumN xs) ρ n).map fun r => .nx r.1 r.2
  | _ => none
section
variable {X : Cx} {e a b : Expr} {es : List Expr} {f fa fb fe : Fe} {d da db : Fd} {fs : Fa} {ds : Fds} {pos : Pos} {st : Stmt} {rest sts sts' : List Stmt} {gs h : Fs} {tst : Ft}
end
end L2.Lv
namespace L2.Lv
open PySem PySem.Spec PyProof.Rows
/-! a for whose walked thing is forgotten -/
def sForK (ks : List Nat) (fi : Fi) (g : Fg) (body : Fs) : Fs := fun ρ n => (fi ρ n).bind fun p => loopF g body p.1 (wipeW ρ ks) p.2
section
variable {X : Cx} {e a b : Expr} {es : List Expr} {f fa fb : Fe} {d da db : Fd} {fs : Fa} {ds : Fds} {pos : Pos} {st : Stmt} {rest sts sts' : List Stmt} {gs h : Fs}
theorem ss_forK (ks : List Nat) {p : Bool} {tg : Expr} {fi : Fi} {is : List Nat} {g : Fg} {body : Fs} (hp : PassesOwn (model X.prog X.w) X.A X.env X.xe) (hc : X.calm = true) (hi : EvI X p tg e fi) (hg : EvG X p tg is g) (hb : EvSs X sts body)
    (hs : ∀ x, foldedSetIterable e X.env x = pure x := by intro _; rfl) : EvS X (.For tg e sts [] pos) (sForK ks fi g body) := psI (ps_for hp hc hi hg hb hs) (by
  rintro D σ H ⟨C, O, ρ, n, out, hf, E, np, q⟩
  unfold sForK at hf
  obtain ⟨⟨xs, n1⟩, e1, hf⟩ := Option.bind_eq_some_iff.mp hf
  refine ⟨C, O, ρ, n, xs, n1, e1, E, fun J H1 s t it => ?_⟩
  refine ⟨fun i m σ' H' => ∃ O' ρ' n', m = xs.length - i ∧ i ≤ xs.length ∧ StepS C O O' H1 H' ∧ EnvOk C O' X.K σ' H' ρ' n' ∧ loopF g body (xs.drop i) ρ' n' = some out,
    ⟨_, O, wipeW ρ ks, n1, rfl, Nat.zero_le _, Step.refl.stepS0, (E.step s t).wipe ks, hf⟩, ?_⟩
  rintro i m σ' H' ⟨O', ρ', n', rfl, hi, S', E', hl⟩
  obtain ⟨items, stop⟩ := it H' (fun a o e na => S'.st a o e (fun z => na (Av.t _ z)) fun j z => na (.inr (.inr ⟨j, z⟩))) S'.fr
  by_cases hlt : i < xs.length
  · obtain ⟨go, yl⟩ := items i xs[i] (List.getElem?_eq_getElem hlt)
    rw [List.drop_eq_getElem_cons hlt] at hl
    unfold loopF at hl
    obtain ⟨ρ1, e2, hl⟩ := Option.bind_eq_some_iff.mp hl
    obtain ⟨o, e3, hl⟩ := Option.bind_eq_some_iff.mp hl
    refine .inr ⟨go, fun σ'' H'' => ∃ O'' ρ'' n'', StepS C O O'' H1 H'' ∧ EnvOk C O'' X.K σ'' H'' ρ'' n'' ∧ loopF g body (xs.drop (i + 1)) ρ'' n'' = some out, ?_, fun v H2 y => ?_⟩
    · rintro σ'' H'' ⟨O'', ρ'', n'', S'', E'', hl''⟩
      exact ⟨xs.length - (i + 1), by omega, O'', ρ'', n'', rfl, hlt, S'', E'', hl''⟩
    · obtain ⟨gr, it2⟩ := yl v H2 y
      have r := it2 (Av C O') S'.keep E'.av
      have E2 := E'.step gr.step (gr.town E'.town)
      have S2 : StepS C O O' H1 H2 := S'.trans gr.step.stepS0
      refine ⟨C, O', ρ', n', xs[i], ρ1, e2, E2, r, fun O3 vs s3 E3 => ⟨C, O3, ρ1, n', o, e3, E3, np.step E (s.stepS0.trans (S2.trans s3)), ?_⟩⟩
      cases o with
      | nx ρ4 n4 => exact fun O4 σ4 H4 s4 E4 => ⟨O4, ρ4, n4, (S2.trans s3).trans s4, E4, hl⟩
      | bk ρ4 n4 =>
        cases hl
        exact fun O4 σ4 H4 s4 E4 => q O4 σ4 H4 (s.stepS0.trans ((S2.trans s3).trans s4)) E4
      | rt w n4 =>
        cases hl
        exact q
  · have hie : i = xs.length := by omega
    subst hie
    rw [List.drop_length] at hl
    cases hl
    exact .inl ⟨stop, q O' σ' H' (s.stepS0.trans S') E'⟩)
end
end L2.Lv
namespace L2.Lv
open PySem PySem.Spec PyProof.Rows
/-! [..] * k -/
def eRep (fa : Fe) (db : Fd) : Fe := fun ρ n => (fa ρ n).bind fun p => match p.1 with
  | .ol xs => (db ρ p.2).bind fun q => match q.1 with
    | .int k => if -1000000 ≤ k ∧ k ≤ 1000000 ∧ xs.length * k.toNat ≤ big then some (.ol (List.replicate k.toNat xs).flatten, q.2) else none
    | _ => none
  | _ => none
theorem DvAll.rep {A : Addr → Prop} {K : PySem.W.Frag} {H : Hp} {vs : List V} {xs : List PyData} (h : DvAll A K H vs xs) : ∀ k : Nat, DvAll A K H (List.replicate k vs).flatten (List.replicate k xs).flatten
  | 0 => .nil
  | k + 1 => by
    rw [List.replicate_succ, List.replicate_succ, List.flatten_cons, List.flatten_cons]
    exact h.append (DvAll.rep h k)
section
variable {X : Cx} {a b : Expr} {fa : Fe} {db : Fd} {pos : Pos}
end
end L2.Lv
namespace L2.Lv
open PySem PySem.Spec PyProof.Rows
/-! any(xs), ints -/
theorem truth_ints {prog : Program} {w : World} {A : Around} {ns : List Int} {its : List Value} (e : IntsAre its ns) :
    TruthOf prog w A (fun i v => its.toArray[i]? = some v) (fun i => (ns.map fun k => k != 0).getD i false) := fun i v s Q E hv hq => by
  have hv' : its[i]? = some v := by simpa using hv
  have hlt : i < ns.length := by
    have h1 := (List.getElem?_eq_some_iff.mp hv').1
    have h2 := IntsAre.length e
    omega
  obtain ⟨t, ht⟩ := IntsAre.get e i ns[i] (List.getElem?_eq_getElem hlt)
  rw [hv'] at ht
  cases ht
  refine truthy_int ?_
  have hg : (ns.map fun k => k != 0).getD i false = (ns[i] != 0) := by
    rw [List.getD_eq_getElem?_getD, List.getElem?_map, List.getElem?_eq_getElem hlt]; rfl
  have hq' : Q ((ns.map fun k => k != 0).getD i false) s := hq
  rw [hg] at hq'
  exact hq'
def rAnyI (K : PySem.W.Frag) : List V → Hp → VK → Prop := fun vs H Q => ∃ (a : Addr) (ns : List Int), vs = [V.ref a] ∧ SqL K H a (ns.map V.int) ∧ Q (.bl (ns.any fun k => k != 0)) H
theorem cr_anyI {X : Cx} (hc : X.calm = true) : CallR X (.builtin "any") (rAnyI X.K) := by
  intro pins s σ H vs us Q I r h
  obtain ⟨a, ns, rfl, hs, q⟩ := h
  obtain ⟨its, rv, hl, _⟩ := I.list hs
  rw [Vals.ref1 r]
  have hb := rv.ints
  refine call_any_walk (iter_any hl.isList fun s₂ e2 st hne => ?_)
  subst e2
  refine ⟨_, _, _, _, _, _, _, rfl, Walks.list (A := X.A.in1) (I.ok.hd hc) _ a hne its.toArray, st, truth_ints hb, fun h' tk hk => ?_⟩
  refine ⟨.bl _, H, I.kept fun b o eo => hk b o (fun hmem => ?_) (Heap.get?_push_of_some _ eo), ?_, q⟩
  · rcases List.mem_cons.mp hmem with e1 | hmem
    · exact absurd (e1 ▸ Heap.lt_size eo) (Nat.lt_irrefl _)
    · cases hmem
  · show Value.bool _ = Value.bool _
    have h1 : its.toArray.size = (ns.map fun k => k != 0).length := by
      rw [List.size_toArray, List.length_map, ← rv.length, List.length_map]
    rw [h1, any_range, List.any_map]
    rfl
def gAnyI : List PyData → Option W
  | [.list xs] => (intsOf xs).map fun ns => .d (.bool (ns.any fun k => k != 0))
  | _ => none
theorem cv_anyI {X : Cx} (hc : X.calm = true) : CallV X (.builtin "any") gAnyI := ⟨_, cr_anyI hc, fun A T vs xs w H Q tr rx e q => by
  unfold gAnyI at e
  split at e
  · rename_i ys
    obtain ⟨bs, h, e⟩ := Option.map_eq_some_iff.mp e
    subst e
    obtain ⟨v, rfl, r⟩ := rx.one
    obtain ⟨a, us, rfl, h1, h2⟩ := r.lst
    rw [intsOf_ok h] at h2
    rw [h2.ints] at h1
    exact ⟨a, bs, rfl, h1, q _ _ Grow.refl (.bl _)⟩
  · cases e⟩
def gAnyX : List PyData → Option W := fun xs => (gAny xs).or (gAnyI xs)
theorem cv_anyX {X : Cx} (hc : X.calm = true) : CallV X (.builtin "any") gAnyX := (cv_any hc).or (cv_anyI hc)
end L2.Lv
namespace L2.Lv
open PySem PySem.Spec PyProof.Rows
/-! x.index(y), any data -/
section
variable {prog : Program} {w : World} {A : Around} {E : Value → Shared → Prop} {s : Shared}
end
section
variable {X : Cx}
def gIndexD (x : PyData) (ys : List PyData) : Option W := match x, ys with
  | .list xs, [y] => if shp y && shp (.list xs) then (SeqAt.dataPlace xs y).map fun j => .d (.int (j : Nat)) else none
  | _, _ => none
theorem MtV.or {id : String} {g g' : PyData → List PyData → Option W} (hg : MtV X id g) (hh : MtV X id g') : MtV X id (fun x xs => (g x xs).or (g' x xs)) := by
  obtain ⟨r, h1, h2⟩ := hg
  obtain ⟨r', h1', h2'⟩ := hh
  refine ⟨fun x vs H Q => r x vs H Q ∨ r' x vs H Q, ?_, fun A T x vs dx xs w H Q tr rx rxs e q => ?_⟩
  · intro pins s σ H x xs v us Q I rx rxs h
    rcases h with h | h
    · exact h1 pins s σ H x xs v us Q I rx rxs h
    · exact h1' pins s σ H x xs v us Q I rx rxs h
  · have e : (g dx xs).or (g' dx xs) = some w := e
    cases hq : g dx xs with
    | some z =>
      rw [hq] at e
      cases e
      exact .inl (h2 A T x vs dx xs _ H Q tr rx rxs hq q)
    | none =>
      rw [hq, Option.none_or] at e
      exact .inr (h2' A T x vs dx xs _ H Q tr rx rxs e q)
def gIndexLX (x : PyData) (xs : List PyData) : Option W := (gIndexL x xs).or (gIndexD x xs)
end
end L2.Lv
namespace L2.Lv
open PySem PySem.Spec PyProof.Rows
/-! set(xs), xs a list of ints -/
section
variable {P : Program} {w : World} {A : Around} {E : Value → Shared → Prop} {s : Shared}
abbrev emptySet (w : World) : Obj := { cls := .type "set", dict := none, data := .set #[] 0 (.fresh 0 0 (!w.params.followText "set-order")) }
end
/-- the distinct ones, in order -/
def insS (x : Int) : List Int → List Int
  | [] => [x]
  | y :: ys => if x < y then x :: y :: ys else if x = y then y :: ys else y :: insS x ys
def ssetI : List Int → List Int
  | [] => []
  | x :: xs => insS x (ssetI xs)
theorem up_uniq : ∀ {xs ys : List Int}, xs.Pairwise (· < ·) → ys.Pairwise (· < ·) → (∀ z, z ∈ xs ↔ z ∈ ys) → xs = ys
  | [], [], _, _, _ => rfl
  | [], y :: ys, _, _, h => by have := (h y).mpr (by simp); cases this
  | x :: xs, [], _, _, h => by have := (h x).mp (by simp); cases this
  | x :: xs, y :: ys, h1, h2, h => by
    obtain ⟨a1, a2⟩ := List.pairwise_cons.mp h1
    obtain ⟨b1, b2⟩ := List.pairwise_cons.mp h2
    have e : x = y := by
      rcases List.mem_cons.mp ((h x).mp (by simp)) with e | hx
      · exact e
      · rcases List.mem_cons.mp ((h y).mpr (by simp)) with e | hy
        · exact e.symm
        · have := b1 x hx; have := a1 y hy; omega
    subst e
    congr 1
    refine up_uniq a2 b2 fun z => ?_
    have hz := h z
    rw [List.mem_cons, List.mem_cons] at hz
    constructor
    · intro q
      rcases hz.mp (.inr q) with e | e
      · subst e; exact absurd (a1 z q) (Int.lt_irrefl _)
      · exact e
    · intro q
      rcases hz.mpr (.inr q) with e | e
      · subst e; exact absurd (b1 z q) (Int.lt_irrefl _)
      · exact e
def gSortSet : List PyData → Option W
  | [.list xs] => (intsOf xs).bind fun ns => if ns.length < 64 then some (.ol ((ssetI ns).map .int)) else none
  | _ => none
theorem dvAll_ints {A : Addr → Prop} {K : PySem.W.Frag} {H : Hp} : ∀ ns : List Int, DvAll A K H (ns.map V.int) (ns.map .int)
  | [] => .nil
  | n :: ns => .cons (.int n) (dvAll_ints ns)
end L2.Lv
namespace L2.Lv
open PySem PySem.Spec PyProof.Rows
/-! max(xs), min(xs), ints -/
def topI : Int → List Int → Int
  | x, [] => x
  | x, y :: ys => topI (if x < y then y else x) ys
theorem topI_spec : ∀ (xs : List Int) (x : Int), (topI x xs = x ∨ topI x xs ∈ xs) ∧ x ≤ topI x xs ∧ ∀ z ∈ xs, z ≤ topI x xs
  | [], x => ⟨.inl rfl, Int.le_refl _, by simp⟩
  | y :: ys, x => by
    obtain ⟨h1, h2, h3⟩ := topI_spec ys (if x < y then y else x)
    show (topI (if x < y then y else x) ys = x ∨ topI (if x < y then y else x) ys ∈ y :: ys) ∧ x ≤ topI (if x < y then y else x) ys ∧ ∀ z ∈ y :: ys, z ≤ topI (if x < y then y else x) ys
    generalize topI (if x < y then y else x) ys = m at *
    refine ⟨?_, ?_, fun z hz => ?_⟩
    · rcases h1 with h1 | h1
      · split at h1
        · exact .inr (by rw [h1]; exact List.mem_cons_self ..)
        · exact .inl h1
      · exact .inr (List.mem_cons_of_mem _ h1)
    · split at h2 <;> omega
    · rcases List.mem_cons.mp hz with rfl | hz
      · split at h2 <;> omega
      · exact h3 z hz
theorem top_uniq {x m : Int} {xs : List Int} (h : m ∈ x :: xs) (hm : ∀ y ∈ x :: xs, y ≤ m) : m = topI x xs := by
  obtain ⟨h1, h2, h3⟩ := topI_spec xs x
  have a : topI x xs ≤ m := hm _ (by rcases h1 with e | e; · rw [e]; exact List.mem_cons_self ..
                                     · exact List.mem_cons_of_mem _ e)
  have b : m ≤ topI x xs := by
    rcases List.mem_cons.mp h with rfl | h
    · exact h2
    · exact h3 m h
  omega
section
variable {X : Cx}
def gMaxL : List PyData → Option W
  | [.list xs] => (intsOf xs).bind fun ns => match ns with
    | [] => none
    | n :: ns => some (.d (.int (topI n ns)))
  | _ => none
theorem cv_maxL (hc : X.calm = true) : CallV X (.builtin "max") gMaxL := ⟨_, cr_max hc, fun A T vs xs w H Q tr rx e q => by
  unfold gMaxL at e
  split at e
  · rename_i ys
    obtain ⟨ns, h, e⟩ := Option.bind_eq_some_iff.mp e
    split at e
    · cases e
    · rename_i n ns
      cases e
      obtain ⟨v, rfl, r⟩ := rx.one
      obtain ⟨a, us, rfl, h1, h2⟩ := r.lst
      rw [intsOf_ok h] at h2
      rw [h2.ints] at h1
      exact ⟨a, n :: ns, rfl, h1, by simp, fun m hm hq => by rw [top_uniq hm hq]; exact q _ _ Grow.refl (.int _)⟩
  · cases e⟩
theorem maxOf_top : ∀ (xs : List Int) (x : Int), PySem.W.maxOf x xs = topI x xs
  | [], _ => rfl
  | y :: ys, x => by
    have ih := maxOf_top ys (if x < y then y else x)
    show (PySem.W.maxOf (if PySem.W.DatumOrd.lt x y = true then y else x) ys) = _
    have e : (PySem.W.DatumOrd.lt x y = true) = (x < y) := by
      show (decide (x < y) = true) = _
      simp
    simp only [e]
    exact ih
def rMaxT (K : PySem.W.Frag) : List V → Hp → VK → Prop := fun vs H Q => ∃ (a : Addr) (n : Int) (ns : List Int), vs = [V.ref a] ∧ SqT K H a ((n :: ns).map V.int) ∧ Q (.int (topI n ns)) H
theorem cr_maxT (hc : X.calm = true) (hu : X.A.units + 65 < cLine) : CallR X (.builtin "max") (rMaxT X.K) := by
  intro pins s σ H vs us Q I r h
  obtain ⟨a, n, ns, rfl, hs, q⟩ := h
  obtain ⟨its, rv, hl, _⟩ := I.tuple hs
  rw [Vals.ref1 r]
  have hi := rv.ints
  refine PySem.W.max_tuple_datum (α := Int) (x := n) (xs := ns) (I.ok.hd hc) hl ?_ ?_ fun i v h' tk hv hh hk => ?_
  · exact ⟨[], ints_readAll s.heap (by simpa using hi)⟩
  · show X.A.units + 1 + 0 < cLine
    omega
  · rw [maxOf_top] at hh
    obtain ⟨as, hr⟩ := hh
    have hr : Reads h' v (.int (topI n ns)) as := hr
    cases hr with
    | int _ t => exact ⟨.int _, H, I.kept hk, ⟨t, rfl⟩, q⟩
def gMaxT : List PyData → Option W
  | [.tuple xs] => (intsOf xs).bind fun ns => match ns with
    | [] => none
    | n :: ns => some (.d (.int (topI n ns)))
  | _ => none
theorem cv_maxT (hc : X.calm = true) (hu : X.A.units + 65 < cLine) : CallV X (.builtin "max") gMaxT := ⟨_, cr_maxT hc hu, fun A T vs xs w H Q tr rx e q => by
  unfold gMaxT at e
  split at e
  · rename_i ys
    obtain ⟨ns, h, e⟩ := Option.bind_eq_some_iff.mp e
    split at e
    · cases e
    · rename_i n ns
      cases e
      obtain ⟨v, rfl, r⟩ := rx.one
      obtain ⟨a, us, rfl, h1, h2, _⟩ := r.tup
      rw [intsOf_ok h] at h2
      rw [h2.ints] at h1
      exact ⟨a, n, ns, rfl, h1, q _ _ Grow.refl (.int _)⟩
  · cases e⟩
def gMax1 : List PyData → Option W := fun xs => (gMaxL xs).or (gMaxT xs)
theorem cv_max1 (hc : X.calm = true) (hu : X.A.units + 65 < cLine) : CallV X (.builtin "max") gMax1 := (cv_maxL hc).or (cv_maxT hc hu)
end
end L2.Lv
namespace L2.Lv
open PySem PySem.Spec PyProof.Rows
/-! sorted(dict([(k, ..), ..])), ints -/
def pairKs : List PyData → Option (List Int)
  | [] => some []
  | .tuple [.int k, _] :: xs => (pairKs xs).map (k :: ·)
  | _ :: _ => none
def keyF (acc : List Int) (k : Int) : List Int := if k ∈ acc then acc else acc ++ [k]
theorem put_keys {kvs : List (Key × V)} {acc : List Int} (h : kvs.map (·.1) = acc.map Sum.inl) (k : Int) (v : V) : (putK kvs (Sum.inl k) v).map (·.1) = (keyF acc k).map Sum.inl := by
  have ha : (kvs.any fun kv => decide (kv.1 = Sum.inl k)) = decide (k ∈ acc) := by
    have e : (kvs.any fun kv => decide (kv.1 = Sum.inl k)) = (kvs.map (·.1)).any fun x => decide (x = Sum.inl k) := by rw [List.any_map]; rfl
    rw [e, h, List.any_map, Bool.eq_iff_iff, List.any_eq_true, decide_eq_true_eq]
    constructor
    · rintro ⟨x, h1, h2⟩
      have := of_decide_eq_true h2
      cases this
      exact h1
    · intro h1
      exact ⟨k, h1, decide_eq_true rfl⟩
  unfold putK keyF
  rw [ha]
  by_cases c : k ∈ acc
  · rw [if_pos (decide_eq_true c), if_pos c, ← h, List.map_map]
    refine List.map_congr_left fun kv _ => ?_
    show (if kv.1 = Sum.inl k then (kv.1, v) else kv).1 = kv.1
    split <;> rfl
  · rw [if_neg (by simpa using c), if_neg c, List.map_append, h, List.map_append]
    rfl
theorem merge_keys : ∀ (more kvs : List (Key × V)) (ks acc : List Int), more.map (·.1) = ks.map Sum.inl → kvs.map (·.1) = acc.map Sum.inl → (mergeK kvs more).map (·.1) = (ks.foldl keyF acc).map Sum.inl
  | [], kvs, [], acc, _, h => h
  | [], _, _ :: _, _, h, _ => by cases h
  | _ :: _, _, [], _, h, _ => by cases h
  | (k', v) :: more, kvs, k :: ks, acc, h1, h2 => by
    rw [List.map_cons, List.map_cons] at h1
    obtain ⟨e, h3⟩ := List.cons.inj h1
    have e : k' = Sum.inl k := e
    subst e
    exact merge_keys more (putK kvs (Sum.inl k) v) ks (keyF acc k) h3 (put_keys h2 k v)
theorem keyF_facts : ∀ (ks acc : List Int), acc.Nodup → (ks.foldl keyF acc).Nodup ∧ (∀ z, z ∈ ks.foldl keyF acc ↔ z ∈ acc ∨ z ∈ ks) ∧ (ks.foldl keyF acc).length ≤ acc.length + ks.length
  | [], acc, h => ⟨h, fun z => by simp, by simp⟩
  | k :: ks, acc, h => by
    have h0 : (keyF acc k).Nodup ∧ (∀ z, z ∈ keyF acc k ↔ z ∈ acc ∨ z = k) ∧ (keyF acc k).length ≤ acc.length + 1 := by
      unfold keyF
      split
      · rename_i c
        exact ⟨h, fun z => ⟨.inl, fun q => q.elim id fun e => e ▸ c⟩, Nat.le_succ _⟩
      · rename_i c
        refine ⟨?_, fun z => by simp, by simp⟩
        rw [List.nodup_append]
        exact ⟨h, by simp, fun a ha b hb => by
          rw [List.mem_singleton.mp hb]; exact fun e => c (e ▸ ha)⟩
    obtain ⟨h1, h2, h3⟩ := keyF_facts ks (keyF acc k) h0.1
    refine ⟨h1, fun z => ?_, ?_⟩
    · rw [List.foldl_cons, h2, h0.2.1, List.mem_cons]
      constructor
      · rintro ((q | q) | q)
        · exact .inl q
        · exact .inr (.inl q)
        · exact .inr (.inr q)
      · rintro (q | q | q)
        · exact .inl (.inl q)
        · exact .inl (.inr q)
        · exact .inr q
    · have := h0.2.2
      rw [List.foldl_cons, List.length_cons]; omega
theorem dvAll_pairs {A : Addr → Prop} {K : PySem.W.Frag} {H : Hp} : ∀ {xs : List PyData} {vs : List V} {ks : List Int}, pairKs xs = some ks → DvAll A K H vs xs → ∃ (ps : List Addr) (kvs : List (Key × V)), vs = ps.map V.ref ∧ Paired (fun p kv => SqT K H p [kV kv.1, kv.2]) ps kvs ∧ kvs.map (·.1) = ks.map Sum.inl
  | [], vs, ks, h, d => by
    cases d
    cases h
    exact ⟨[], [], rfl, .nil, rfl⟩
  | x :: xs, vs, ks, h, d => by
    cases d with
    | @cons v vs _ _ dx dxs =>
      unfold pairKs at h
      split at h
      · rename_i e; cases e
      · rename_i k y xs' e
        cases e
        obtain ⟨ks', h1, rfl⟩ := Option.map_eq_some_iff.mp h
        obtain ⟨ps, kvs, rfl, h2, h3⟩ := dvAll_pairs h1 dxs
        cases dx with
        | @tup a us _ hs ha =>
          cases ha with
          | cons d1 ha =>
            cases ha with
            | cons d2 ha =>
              cases ha
              cases d1
              rename_i v2
              exact ⟨a :: ps, (Sum.inl k, v2) :: kvs, rfl, .cons (sqT_of hs) h2, by rw [List.map_cons, List.map_cons, h3]⟩
      · cases h
def gSortDict : List PyData → Option W
  | [.list xs] => (pairKs xs).bind fun ks => if ks.length < 64 then some (.ol ((ssetI ks).map .int)) else none
  | _ => none
end L2.Lv
namespace L2.Lv
open PySem PySem.Spec PyProof.Rows
/-! len(set(xs)), ints -/
/-! a tuple of texts that the module holds -/
/-! (..) * k -/
def rRepF (K : PySem.W.Frag) : R2 := fun x y H Q => ∃ (l : Addr) (k : Nat) (vs : List V), x = .ref l ∧ y = .int k ∧ SqT K H l vs ∧ vs ≠ [] ∧ 1 < k ∧ k < 1001 ∧ vs.length < 101 ∧ rNewT (List.replicate k vs).flatten H Q
theorem op_repF {X : Cx} : OpR X (binaryOp .Mult) (rRepF X.K) := by
  rintro pins s σ H x y v u Q I rx ry ⟨l, k, vs, rfl, rfl, hx, ne, k1, k2, hz, q⟩
  have hv : v = .ref l := rx
  obtain ⟨t, hu⟩ : ∃ t, u = .int (k : Int) t := ry
  subst hv hu
  obtain ⟨us, r, ⟨⟨cl, dc, da, so⟩, e1, e2, m, e3⟩, _⟩ := I.tuple hx
  simp only at e2 e3
  subst e2 e3
  have len : us.toArray.size = vs.length := by rw [List.size_toArray, r.length]
  have full : us.toArray.isEmpty = false := by
    cases us with
    | nil => cases r; exact absurd rfl ne
    | cons _ _ => rfl
  have few : k * vs.length ≤ 100000 := Nat.le_trans (Nat.mul_le_mul (by omega : k ≤ 1000) (by omega : vs.length ≤ 100)) (by decide)
  have few2 : ((us.toArray.size : Nat) : Int) * (k : Int) ≤ 100000 := by
    have e : ((vs.length : Nat) : Int) * (k : Int) = ((k * vs.length : Nat) : Int) := by rw [Int.natCast_mul, Int.mul_comm]
    rw [len, e]; omega
  have p1 : (decide ((k : Int) < -(2 ^ 63)) || decide ((k : Int) ≥ 2 ^ 63)) = false := by
    have a : ¬ (k : Int) < -(2 ^ 63) := by omega
    have b : ¬ (k : Int) ≥ 2 ^ 63 := by omega
    rw [decide_eq_false a, decide_eq_false b]; rfl
  have p2 : (us.toArray.isEmpty || (k : Int) == 1) = false := by
    have : ((k : Int) == 1) = false := by simp; omega
    rw [full, this]; rfl
  have p3 : (decide ((k : Int) ≤ 0) || us.toArray.isEmpty) = false := by
    have : ¬ (k : Int) ≤ 0 := by omega
    rw [decide_eq_false this, full]; rfl
  have p4 : Builtin.Tuple.tupleTooMany (((us.toArray.size : Nat) : Int) * (k : Int)) = false := by
    rw [Builtin.Tuple.tupleTooMany, sizeLine_eq]
    exact decide_eq_false (by omega)
  have flat : (List.replicate k us).flatten.length ≤ sizeLine := by
    rw [PyProof.Rows.lm_len_rep_flat, ← r.length, sizeLine_eq]; omega
  have fold : List.foldl (fun x1 x2 => x1 ++ x2) #[] (List.replicate ((k : Int)).toNat us.toArray) = (List.replicate k us).flatten.toArray := by
    rw [size_rep]; rfl
  have inner := tuple_mulW l us.toArray m dc so (k : Int) t p1 p2 p3 (by omega) p4 (by rw [fold, List.size_toArray]; exact flat)
  have T0 : s.TypeIs (.ref l) "tuple" := ⟨_, e1, rfl⟩
  refine wpAny_binaryOp_repeat_ref (T := "tuple") (U := "int") (by decide) T0 (fun z => typeIs_int z k t) noFill_tuple_mul F.fills_int_mul F.slot_int_rmul repeat_tuple F.slot_int_index.lookup ?_
  refine call_meets F.slot_int_rmul (typeIs_int s k t) F.entry_int_rmul (F.args_int_rmul_2 _ _) (int_rmul_tuple k t l us.toArray m dc so) ⟨e1, rfl, T0, ?_⟩
  refine call_meets F.slot_tuple_mul T0 F.entry_tuple_mul (F.args_tuple_mul_2 _ _) inner ⟨e1, ?_⟩
  rw [fold]
  have z := Inv.newT I (r.rep k) (by rw [PyProof.Rows.lm_len_rep_flat, sizeLine_eq]; omega) q
  exact z
def dRepT : PyData → PyData → Option W
  | .tuple xs, .int k => if xs ≠ [] ∧ 1 < k ∧ k < 1001 ∧ xs.length < 101 then some (.d (.tuple (List.replicate k.toNat xs).flatten)) else none
  | _, _ => none
theorem ov_repT {X : Cx} : OpV X (binaryOp .Mult) dRepT := ⟨_, op_repF, fun A T x y dx dy w H Q tr rx ry e q => by
  cases dx with
  | tuple xs =>
    cases dy with
    | int k =>
      simp only [dRepT] at e
      split at e
      · rename_i hz
        cases e
        obtain ⟨h1, h2, h3, h4⟩ := hz
        obtain ⟨a, vs, rfl, g1, g2, _⟩ := rx.tup
        obtain ⟨j, rfl⟩ : ∃ j : Nat, k = j := ⟨k.toNat, by omega⟩
        have hne : vs ≠ [] := fun z => by
          subst z; cases g2; exact h1 rfl
        refine ⟨a, j, vs, rfl, ry.int, g1, hne, by omega, by omega, by rw [g2.length]; omega, fun p o ho hp => q _ _ (Grow.upd hp) (new_tup hp tr ho (g2.rep j))⟩
      · cases e
    | _ => cases e
  | _ => cases e⟩
end L2.Lv
namespace L2.Lv
open PySem PySem.Spec PyProof.Rows
/-! dicts: the keys ints, or tuples of ints -/
theorem DTat.full {P : Program} {w : World} {h : Heap} {a : Addr} {xs : List (List Int × Addr × Value)} (d : DTat h a xs) (hk : ∀ x ∈ xs, IsTupleKey (intKind P w) h x.1 x.2.1) : h.DictOfH (tupleKind (intKind P w)) a xs := by
  obtain ⟨_, _, P', w', o, es, ep, h1, h2, h3, h4, h5⟩ := d
  exact ⟨o, es, ep, h1, h2, h3, h4.trans (List.map_congr_left fun x _ => rfl), hk, h5⟩
theorem DTat.of {P : Program} {w : World} {h : Heap} {a : Addr} {xs : List (List Int × Addr × Value)} (hz : xs.length ≤ sizeLine) (hs : (a == sysModules) = false) (d : h.DictOfH (tupleKind (intKind P w)) a xs) : DTat h a xs := by
  obtain ⟨o, es, ep, h1, h2, h3, h4, _, h5⟩ := d
  exact ⟨hz, hs, P, w, o, es, ep, h1, h2, h3, h4, h5⟩
theorem do_new {P : Program} {w : World} {H : Hp} {h : Heap} {a : Addr} {xs : List (List Int × Addr × Value)} (d : DTat h a xs) : ObjOk P w H h a (DO a xs) :=
  ⟨d, (by obtain ⟨_, _, _, _, o, _, _, h1, _⟩ := d; exact ⟨o, h1⟩), fun h1 h2 q k => by
    obtain ⟨z, m, P, w, o, es, ep, e1, e2⟩ := q
    exact ⟨z, m, P, w, o, es, ep, k o e1, e2⟩⟩
section
variable {X : Cx} {pins : List (Addr × Obj)} {σ : St} {H : Hp} {s : Shared} {a b : Addr} {A : Addr → Prop}
/-- a key, as the model sees it -/
def KeyAt (A : Addr → Prop) (K : PySem.W.Frag) (H : Hp) (b : Addr) (ns : List Int) : Prop := (¬ A b ∧ TupAt H b (ns.map V.int)) ∨ KTup K b (ns.map V.int)
theorem _root_.L2.Inv.keyT (I : Inv X pins σ H s) {ns : List Int} (h : KeyAt A X.K H b ns) : IsTupleKey (intKind X.prog X.w) s.heap ns b := L2.Inv.isT I (sqT_of h)
theorem _root_.L2.Inv.dct (I : Inv X pins σ H s) {xs : List (List Int × Addr × Value)} {rest : List (PyData × PyData)} (e : H a = some (DO a xs)) (r : Paired (DRel A X.K H) xs rest) : DTat s.heap a xs ∧ s.heap.DictOfH (tupleKind (intKind X.prog X.w)) a xs := by
  have d : DTat s.heap a xs := (I.hok a _ e).1
  refine ⟨d, d.full fun x hx => ?_⟩
  clear e d
  induction r with
  | nil => cases hx
  | cons h t ih =>
    rcases List.mem_cons.mp hx with rfl | hx
    · exact I.keyT h.2.1
    · exact ih hx
end
/-- what stands at a key -/
def lookT : List (PyData × PyData) → List Int → Option PyData
  | [], _ => none
  | kv :: r, ns => match kv.1 with
    | .tuple ks => if intsOf ks = some ns then some kv.2 else lookT r ns
    | _ => lookT r ns
def lookI : List (PyData × PyData) → Int → Option PyData
  | [], _ => none
  | kv :: r, i => match kv.1 with
    | .int j => if j = i then some kv.2 else lookI r i
    | _ => lookI r i
theorem lookT_at {A : Addr → Prop} {K : PySem.W.Frag} {H : Hp} {ns : List Int} : ∀ {xs : List (List Int × Addr × Value)} {rest : List (PyData × PyData)}, Paired (DRel A K H) xs rest →
    (∀ y, lookT rest ns = some y → ∃ p v, atKey xs ns = some p ∧ RelV v p.2 ∧ Dv A K H v y) ∧ (lookT rest ns = none → atKey xs ns = none)
  | [], _, .nil => ⟨fun y e => by (cases e), fun _ => rfl⟩
  | x :: xs, kv :: rest, .cons h t => by
    obtain ⟨h1, _, v, h3, h4⟩ := h
    obtain ⟨i1, i2⟩ := lookT_at (ns := ns) t
    unfold lookT
    rw [h1]
    simp only [intsOf_map, Option.some.injEq]
    by_cases c : x.1 = ns
    · rw [if_pos c]
      have e : atKey (x :: xs) ns = some x.2 := by simp [atKey, List.find?_cons, c]
      exact ⟨fun y q => by cases q; exact ⟨_, v, e, h3, h4⟩, fun q => by cases q⟩
    · rw [if_neg c]
      have e : atKey (x :: xs) ns = atKey xs ns := by simp [atKey, List.find?_cons, c]
      rw [e]
      exact ⟨i1, i2⟩
theorem lookI_at {A : Addr → Prop} {K : PySem.W.Frag} {H : Hp} {i : Int} : ∀ {ks : List (Key × V)} {kvs : List (PyData × PyData)}, Paired (fun p q => KeyD p.1 q.1 ∧ Dv A K H p.2 q.2) ks kvs →
    (∀ y, lookI kvs i = some y → ∃ v, valV ks (Sum.inl i) = some v ∧ Dv A K H v y) ∧ (lookI kvs i = none → valV ks (Sum.inl i) = none)
  | [], _, .nil => ⟨fun y e => by (cases e), fun _ => rfl⟩
  | x :: xs, kv :: rest, .cons h t => by
    obtain ⟨h1, h4⟩ := h
    obtain ⟨i1, i2⟩ := lookI_at (i := i) t
    obtain ⟨k, v⟩ := x
    obtain ⟨d, y⟩ := kv
    unfold lookI
    cases h1 with
    | int j =>
      simp only
      by_cases c : j = i
      · subst c
        rw [if_pos rfl, valV_pos rfl]
        exact ⟨fun z q => by cases q; exact ⟨v, rfl, h4⟩, fun q => by cases q⟩
      · rw [if_neg c, valV_neg (p := (Sum.inl j, v)) (fun e => c (Sum.inl.inj e))]
        exact ⟨i1, i2⟩
    | str z =>
      simp only
      rw [valV_neg (p := (Sum.inr z, v)) (fun e => (by cases e))]
      exact ⟨i1, i2⟩
/-- the key's int, the key's ints -/
def isFz : PyData × PyData → Bool
  | (.none, .bool true) => true
  | _ => false
def isMk : PyData × PyData → Bool
  | (.none, .none) => true
  | _ => false
theorem isMk_eq {p : PyData × PyData} (h : isMk p = true) : p = markT := by
  obtain ⟨x, y⟩ := p
  cases x <;> cases y <;> simp [isMk] at h <;> rfl
def lookD : List (PyData × PyData) → PyData → Option (Option PyData)
  | kv :: rest, .tuple ks => if isMk kv then (intsOf ks).map (lookT rest) else none
  | kvs, .int i => match kvs with
    | kv :: _ => if isMk kv then none else some (lookI kvs i)
    | [] => some none
  | _, _ => none
section
variable {X : Cx} {A : Addr → Prop} {T : Option Addr} {H : Hp} {x y : V} {kvs : List (PyData × PyData)} {dy : PyData} {r : Option PyData}
/-- a dict that is looked into -/
def DLook (K : PySem.W.Frag) (x y : V) (H : Hp) (o : Option V) : Prop :=
  (∃ a ks i, x = .ref a ∧ y = .int i ∧ Rd H a (.dK ks) ∧ valV ks (Sum.inl i) = o) ∨
  (∃ a xs rest A b ns, x = .ref a ∧ y = .ref b ∧ H a = some (DO a xs) ∧ Paired (DRel A K H) xs rest ∧ KeyAt A K H b ns ∧ match o with
    | some v => ∃ p, atKey xs ns = some p ∧ RelV v p.2
    | none => atKey xs ns = none)
theorem DvAll.ints_inv {A : Addr → Prop} {K : PySem.W.Frag} {H : Hp} : ∀ {vs : List V} {ns : List Int}, DvAll A K H vs (ns.map .int) → vs = ns.map V.int
  | _, [], .nil => rfl
  | _, n :: ns, h => by
    cases h with
    | cons h1 h2 => cases h1; rw [DvAll.ints_inv h2, List.map_cons]
theorem DvB.key {ks : List PyData} {ns : List Int} (h : DvB A T X.K H y (.tuple ks)) (e : intsOf ks = some ns) : ∃ b, y = .ref b ∧ KeyAt A X.K H b ns := by
  rw [intsOf_ok e] at h
  rcases h with h | ⟨a, vs, ds, _, h2, _⟩ | ⟨a, kvs, _, h2, _⟩
  · cases h with
    | tup hs ha =>
      rw [ha.ints_inv] at hs
      exact ⟨_, rfl, hs⟩
  · cases h2
  · cases h2
theorem lookD_ok (rx : DvB A T X.K H x (.dict kvs)) (ry : DvB A T X.K H y dy) (e : lookD kvs dy = some r) : ∃ o, DLook X.K x y H o ∧ (match r with | some z => ∃ v, o = some v ∧ Dv A X.K H v z | none => o = none) := by
  obtain ⟨a, rfl, hd⟩ := rx.dct
  rcases hd with ⟨ks, e1, p⟩ | ⟨xs, rest, rfl, e1, p⟩ | ⟨ks, rest, o, rfl, e1, p⟩
  · cases dy with
    | int i =>
      have hy := ry.int
      subst hy
      have el : lookI kvs i = r := by
        unfold lookD at e
        cases kvs with
        | nil => cases e; rfl
        | cons kv kvs =>
          simp only at e
          split at e
          · cases e
          · exact Option.some.inj e
      obtain ⟨l1, l2⟩ := lookI_at (i := i) p
      cases r with
      | none => exact ⟨none, .inl ⟨a, ks, i, rfl, rfl, .inl e1, l2 el⟩, rfl⟩
      | some z =>
        obtain ⟨v, q1, q2⟩ := l1 z el
        exact ⟨some v, .inl ⟨a, ks, i, rfl, rfl, .inl e1, q1⟩, v, rfl, q2⟩
    | tuple ks' =>
      exfalso
      unfold lookD at e
      cases kvs with
      | nil => cases e
      | cons kv kvs =>
        simp only at e
        split at e
        · rename_i c
          have := isMk_eq c
          subst this
          cases p with
          | @cons p _ _ _ h _ =>
            obtain ⟨k, v⟩ := p
            have h1 : KeyD k PyData.none := h.1
            cases h1
        · cases e
    | _ => unfold lookD at e; cases kvs <;> cases e
  · cases dy with
    | tuple ks' =>
      unfold lookD at e
      simp only at e
      rw [if_pos (show isMk markT = true from rfl)] at e
      obtain ⟨ns, e2, e3⟩ := Option.map_eq_some_iff.mp e
      obtain ⟨b, rfl, hk⟩ := ry.key e2
      obtain ⟨l1, l2⟩ := lookT_at (ns := ns) p
      cases r with
      | none => exact ⟨none, .inr ⟨a, xs, rest, A, b, ns, rfl, rfl, e1, p, hk, l2 e3⟩, rfl⟩
      | some z =>
        obtain ⟨q, v, q1, q2, q3⟩ := l1 z e3
        exact ⟨some v, .inr ⟨a, xs, rest, A, b, ns, rfl, rfl, e1, p, hk, q, q1, q2⟩, v, rfl, q3⟩
    | int i =>
      unfold lookD at e
      simp only at e
      rw [if_pos (show isMk markT = true from rfl)] at e
      cases e
    | _ => unfold lookD at e; cases e
  · cases dy with
    | int i =>
      have hy := ry.int
      subst hy
      have el : lookI rest i = r := by
        unfold lookD at e
        simp only at e
        rw [if_neg (show ¬ isMk markF = true from nofun)] at e
        exact Option.some.inj e
      obtain ⟨l1, l2⟩ := lookI_at (i := i) p
      cases r with
      | none => exact ⟨none, .inl ⟨a, ks, i, rfl, rfl, .inr ⟨o, e1⟩, l2 el⟩, rfl⟩
      | some z =>
        obtain ⟨v, q1, q2⟩ := l1 z el
        exact ⟨some v, .inl ⟨a, ks, i, rfl, rfl, .inr ⟨o, e1⟩, q1⟩, v, rfl, q2⟩
    | tuple ks' =>
      unfold lookD at e
      simp only at e
      rw [if_neg (show ¬ isMk markF = true from nofun)] at e
      cases e
    | _ => unfold lookD at e; cases e
end
/-! the rules -/
section
variable {X : Cx} {pins : List (Addr × Obj)} {σ : St} {H : Hp} {s : Shared} {x y : V} {u v : Value} {E : Value → Shared → Prop}
theorem room_t (hu : X.A.units + 1 < cLine) : (tupleKind (intKind X.prog X.w)).room X.A.in1 := tupleKind_room_in1 hu
theorem look_type (I : Inv X pins σ H s) {o : Option V} (g : DLook X.K x y H o) (rx : RelV x v) : s.TypeIs v "dict" := by
  rcases g with ⟨a, ks, i, rfl, rfl, e, l⟩ | ⟨a, xs, rest, A, b, ns, rfl, rfl, e, p, hk, l⟩
  · cases rx
    obtain ⟨_, _, vs, _, dd⟩ := dk_rd I.hok e
    exact dd.typeIs
  · cases rx
    exact (I.dct e p).2.typeIs
theorem look_get (hu : X.A.units + 1 < cLine) (I : Inv X pins σ H s) {z : V} (g : DLook X.K x y H (some z)) (rx : RelV x v) (ry : RelV y u) {Q : Value → Shared → Prop} (h : ∀ r s', Inv X pins σ H s' → RelV z r → Q r s') : wpAny (model X.prog X.w) X.A (getItem v u) Q E s := by
  rcases g with ⟨a, ks, i, rfl, rfl, e, l⟩ | ⟨a, xs, rest, A, b, ns, rfl, rfl, e, p, hk, l⟩
  · cases rx
    exact d_getItem (y := .int i) hu I ((show DGet H a (.int i) (valV ks (Sum.inl i)) from .inl ⟨ks, Sum.inl i, e, rfl, rfl⟩) |> fun z => l ▸ z) ry fun w' s3 I3 rw' => h w' s3 I3 rw'
  · cases rx
    cases ry
    obtain ⟨q, q1, q2⟩ := l
    exact wpAny_getItem_heap (room_t hu) (I.keyT hk) (I.dct e p).2 q1 (h _ _ (I.tok _) q2)
end
section
variable {X : Cx}
/-- d[k] -/
def dIxD (x y : PyData) : Option W := match x with
  | .dict kvs => (lookD kvs y).bind fun r => r.map .d
  | _ => none
theorem ev_ixD {a b : Expr} {da db : Fd} {pos : Pos} (hu : X.A.units + 1 < cLine) (ha : EvB X a da) (hb : EvB X b db) (hs : NoSl b) : EvE X (.Subscript a b pos) (eBin dIxD da db) := by
  have base : PE X (.Subscript a b pos) (fun σ H Q => tVB X.K da σ H fun x H1 => tVB X.K db σ H1 fun y H2 => ∃ z, DLook X.K x y H2 (some z) ∧ Q z H2) := ⟨fun pins s σ H Q I h => by
    refine subD_of PySem.F.slot_dict_getitem.lookup hs (thn (ha.run pins s σ H _ I h) fun u s1 ⟨x, H1, I1, rx, q1⟩ => thn (hb.run pins s1 σ H1 _ I1 q1) fun iv s2 ⟨y, H2, I2, ry, z, g, q2⟩ => ?_)
    exact ⟨look_type I2 g rx, look_get hu I2 g rx ry fun w' s3 I3 rw' => ⟨z, H2, I3, rw', q2⟩⟩⟩
  refine peI base fun σ H Q h => ?_
  refine op_run (fo := binaryOp .Add) (r := fun x y H Q => ∃ z, DLook X.K x y H (some z) ∧ Q z H) (fun A T x y dx dy w H Q tr rx ry e q => ?_) h
  cases dx with
  | dict kvs =>
    obtain ⟨r, e1, e2⟩ := Option.bind_eq_some_iff.mp (show (lookD kvs dy).bind (fun r => r.map W.d) = some w from e)
    obtain ⟨z, rfl, rfl⟩ := Option.map_eq_some_iff.mp e2
    obtain ⟨o, g, v, rfl, dv⟩ := lookD_ok rx ry e1
    exact ⟨v, g, q _ _ Grow.refl dv⟩
  | _ => cases e
def dNotInD (x y : PyData) : Option W := match y with
  | .dict kvs => (lookD kvs x).map fun r => .d (.bool (!r.isSome))
  | _ => none
end
/-! {} -/
def eDicK : Fe := fun _ n => some (.od [], n)
def eDicT : Fe := fun _ n => some (.od [markT], n)
section
variable {X : Cx} {pos : Pos}
theorem ev_dicK : EvE X (.Dict [] [] pos) eDicK := peI pe_dnewK (by
  rintro σ H Q ⟨C, O, ρ, n, w, n', hf, E, q⟩
  cases hf
  intro p hp
  exact q _ _ (Grow.upd hp).step ((Grow.upd hp).town E.town) ⟨p, rfl, hp, .inl ⟨[], upd_same, .nil⟩⟩)
theorem pe_dnewO : PE X (.Dict [] [] pos) (fun _ H Q => ∀ p, H p = none → Q (.ref p) (upd H p (DO p []))) := ⟨fun pins s σ H Q I h =>
  wpAny_Dict_empty ⟨.ref s.heap.objs.size, _, I.laid (a := s.heap.objs.size) (o := DO s.heap.objs.size []) (t' := s.toks) (fun _ _ q => Heap.get?_push_of_some _ q) (Nat.le_refl _)
    (do_new ⟨Nat.zero_le _, beq_eq_false_iff_ne.mpr (Ne.symm (Nat.ne_of_lt I.big)), X.prog, X.w, _, #[], 0, Heap.get?_push_size _ rfl, ⟨rfl, rfl, rfl⟩, rfl, rfl, List.nodup_nil⟩), rfl, h _ (I.hok.fresh (Nat.le_refl _))⟩⟩
theorem ev_dicT : EvE X (.Dict [] [] pos) eDicT := peI pe_dnewO (by
  rintro σ H Q ⟨C, O, ρ, n, w, n', hf, E, q⟩
  cases hf
  intro p hp
  exact q _ _ (Grow.upd hp).step ((Grow.upd hp).town E.town) ⟨p, rfl, hp, .inr (.inl ⟨[], [], rfl, upd_same, .nil⟩)⟩)
end
/-! d[k] = e -/
def putT : List (PyData × PyData) → List Int → PyData → List (PyData × PyData)
  | [], ns, y => [(.tuple (ns.map .int), y)]
  | kv :: r, ns, y => if (match kv.1 with | .tuple ks => intsOf ks | _ => none) = some ns then (kv.1, y) :: r else kv :: putT r ns y
def putI : List (PyData × PyData) → Int → PyData → List (PyData × PyData)
  | [], i, y => [(.int i, y)]
  | kv :: r, i, y => if (match kv.1 with | .int j => some j | _ => none) = some i then (kv.1, y) :: r else kv :: putI r i y
def putD : List (PyData × PyData) → PyData → PyData → Option (List (PyData × PyData))
  | kv :: rest, .tuple ks, y => if isMk kv then (intsOf ks).bind fun ns => if rest.length < big then some (markT :: putT rest ns y) else none else none
  | kvs, .int i, y => match kvs with
    | kv :: _ => if isMk kv || isFz kv then none else if kvs.length < big then some (putI kvs i y) else none
    | [] => some [(.int i, y)]
  | _, _, _ => none
def sPut (i : Nat) (d : Fd) (f : Fe) : Fs := fun ρ n => (f ρ n).bind fun p => p.1.frz.val.bind fun x => (d ρ p.2).bind fun k => match ρ[i]? with
  | some (.od kvs) => (putD kvs k.1 x).map fun m => .nx (ρ.set i (.od m)) k.2
  | _ => none
section
variable {X : Cx} {A : Addr → Prop} {K : PySem.W.Frag} {H : Hp}
theorem put_absent {ns : List Int} {b : Addr} {u : Value} {xs : List (List Int × Addr × Value)} (h : atKey xs ns = none) : storedH xs ns b u = xs ++ [(ns, b, u)] := by
  unfold storedH
  rw [h]; rfl
theorem storedH_cons_eq {ns : List Int} {b c : Addr} {u v : Value} {xs : List (List Int × Addr × Value)} (hn : ((ns, c, v) :: xs).map (·.1) |>.Nodup) : storedH ((ns, c, v) :: xs) ns b u = (ns, c, u) :: xs := by
  have e : atKey ((ns, c, v) :: xs) ns = some (c, v) := by simp [atKey]
  unfold storedH
  rw [e]
  simp only [Option.isSome_some, if_true, List.map_cons, putAt, if_true]
  congr 1
  rw [List.map_cons, List.nodup_cons] at hn
  refine (List.map_congr_left fun x hx => ?_).trans (List.map_id _)
  have : x.1 ≠ ns := fun e => hn.1 (by rw [← e]; exact List.mem_map_of_mem (f := fun x => x.1) hx)
  simp [putAt, this]
theorem storedH_cons_ne {ns : List Int} {b : Addr} {u : Value} {x : List Int × Addr × Value} {xs : List (List Int × Addr × Value)} (h : x.1 ≠ ns) : storedH (x :: xs) ns b u = x :: storedH xs ns b u := by
  have e : atKey (x :: xs) ns = atKey xs ns := by simp [atKey, List.find?_cons, h]
  unfold storedH
  rw [e]
  split
  · simp [putAt, h]
  · rfl
theorem putT_rel {ns : List Int} {b : Addr} {u : Value} {v : V} {y : PyData} (hk : KeyAt A K H b ns) (rv : RelV v u) (dv : Dv A K H v y) : ∀ {xs : List (List Int × Addr × Value)} {rest : List (PyData × PyData)}, (xs.map (·.1)).Nodup → Paired (DRel A K H) xs rest →
    Paired (DRel A K H) (storedH xs ns b u) (putT rest ns y)
  | [], _, _, .nil => by
    rw [put_absent rfl]
    exact .cons ⟨rfl, hk, v, rv, dv⟩ .nil
  | x :: xs, kv :: rest, hn, .cons h t => by
    have h1 := h.1
    unfold putT
    rw [h1]
    simp only [intsOf_map, Option.some.injEq]
    by_cases c : x.1 = ns
    · rw [if_pos c]
      obtain ⟨k, c1, v1⟩ := x
      simp only at c
      subst c
      rw [storedH_cons_eq hn]
      exact .cons ⟨rfl, h.2.1, v, rv, dv⟩ t
    · rw [if_neg c, storedH_cons_ne c]
      refine .cons ?_ (putT_rel hk rv dv (List.nodup_cons.mp hn).2 t)
      exact ⟨h1, h.2⟩
theorem putK_cons_ne {k : Key} {v : V} {x : Key × V} {xs : List (Key × V)} (h : x.1 ≠ k) : putK (x :: xs) k v = x :: putK xs k v := by
  unfold putK
  rw [List.any_cons, decide_eq_false h, Bool.false_or]
  split
  · simp [h]
  · rfl
theorem putI_rel {i : Int} {v : V} {y : PyData} (dv : Dv A K H v y) : ∀ {ks : List (Key × V)} {kvs : List (PyData × PyData)}, (ks.map (·.1)).Nodup → Paired (fun p q => KeyD p.1 q.1 ∧ Dv A K H p.2 q.2) ks kvs →
    Paired (fun p q => KeyD p.1 q.1 ∧ Dv A K H p.2 q.2) (putK ks (Sum.inl i) v) (putI kvs i y)
  | [], _, _, .nil => .cons ⟨.int i, dv⟩ .nil
  | (k, z) :: xs, (d, w) :: rest, hn, .cons h t => by
    obtain ⟨h1, h2⟩ := h
    have h1 : KeyD k d := h1
    cases h1 with
    | int j =>
      by_cases c : j = i
      · subst c
        have e1 : putI ((PyData.int j, w) :: rest) j y = (.int j, y) :: rest := by simp [putI]
        have e2 : putK ((Sum.inl j, z) :: xs) (Sum.inl j) v = (Sum.inl j, v) :: xs := by
          rw [List.map_cons, List.nodup_cons] at hn
          unfold putK
          rw [if_pos (by simp)]
          simp only [List.map_cons, if_true]
          congr 1
          refine (List.map_congr_left fun x hx => ?_).trans (List.map_id _)
          have : x.1 ≠ Sum.inl j := fun e => hn.1 (by rw [← e]; exact List.mem_map_of_mem (f := fun x => x.1) hx)
          simp [this]
        rw [e1, e2]
        exact .cons ⟨.int j, dv⟩ t
      · have e1 : putI ((PyData.int j, w) :: rest) i y = (.int j, w) :: putI rest i y := by simp [putI, c]
        rw [e1, putK_cons_ne (fun e => c (Sum.inl.inj e))]
        exact .cons ⟨.int j, h2⟩ (putI_rel dv (List.nodup_cons.mp hn).2 t)
    | str s =>
      have e1 : putI ((PyData.str s, w) :: rest) i y = (.str s, w) :: putI rest i y := by simp [putI]
      rw [e1, putK_cons_ne (fun e => (by cases e))]
      exact .cons ⟨.str s, h2⟩ (putI_rel dv (List.nodup_cons.mp hn).2 t)
end
section
variable {X : Cx}
def rPutD (K : PySem.W.Frag) : TSet := fun x y v H Q =>
  (∃ a ks i, x = .ref a ∧ y = .int i ∧ H a = some (.dK ks) ∧ ks.length < sizeLine ∧ ((ks.map (·.1)).Nodup → Q (upd H a (.dK (putK ks (Sum.inl i) v))))) ∨
  (∃ a xs rest A b ns, x = .ref a ∧ y = .ref b ∧ H a = some (DO a xs) ∧ Paired (DRel A K H) xs rest ∧ KeyAt A K H b ns ∧ xs.length < sizeLine ∧ ∀ u, RelV v u → (xs.map (·.1)).Nodup → Q (upd H a (DO a (storedH xs ns b u))))
theorem set_dict (hu : X.A.units + 1 < cLine) : PSet X (rPutD X.K) := by
  intro pins s σ H o i v ov iv u Q I ro ri rv h
  rcases h with ⟨a, ks, k, rfl, rfl, e, hl, q⟩ | ⟨a, xs, rest, A, b, ns, rfl, rfl, e, p, hk, hl, q⟩
  · cases ro
    obtain ⟨_, _, vs, rel, dd⟩ := dk_of I.hok e
    have nd : (ks.map (·.1)).Nodup := by
      rw [rel.keys]
      obtain ⟨_, _, _, _, _, _, _, nd⟩ := dd
      exact nd.2
    exact d_setItem (y := .int k) hu I (DPut.k (k := Sum.inl k) e hl) ri rv fun s' I' => ⟨_, I', q nd⟩
  · cases ro
    cases ri
    obtain ⟨d, dd⟩ := I.dct e p
    have nd : (xs.map (·.1)).Nodup := by
      obtain ⟨_, _, _, _, _, _, _, _, _, _, _, nd⟩ := d
      exact nd
    refine wpAny_setItem_heap (hsz := d.1) (room_t hu) (I.keyT hk) dd fun h' dd' hs => ?_
    have hz : (storedH xs ns b u).length ≤ sizeLine := by
      unfold storedH
      split
      · rw [List.length_map]; omega
      · rw [List.length_append, List.length_singleton]; omega
    have D' := DTat.of hz d.2.1 dd'
    have he : ∃ q, h'.get? a = some q := by obtain ⟨_, _, _, _, o, _, _, h1, _⟩ := D'; exact ⟨o, h1⟩
    exact ⟨_, d_write I (by rw [e]; exact True.intro) hs he (do_new D'), q u rv nd⟩
end
end L2.Lv
namespace L2.Lv
open PySem PySem.Spec PyProof.Rows
section
variable {X : Cx} {e a b : Expr} {f : Fe} {d : Fd} {pos : Pos}
theorem ss_put {i : Nat} {p1 : Pos} (hu : X.A.units + 1 < cLine) (hb : PE X a (tVar i)) (hk : EvB X b d) (ha : EvE X e f)
    (hset : ∀ v, assign (.Subscript a b p1) X.env v = (do
      let ov ← holding [v] (eval a X.env)
      let iv ← holding [v, ov] (eval b X.env)
      standAt p1
      holding [v, ov, iv] (setItem ov iv v)
      release [v, ov, iv] []) := by intro _; rfl)
    (hs : swapsWithSole [.Subscript a b p1] e pos.line X.env = pure false := by rfl) (hw : swappedStores [.Subscript a b p1] e X.env = pure none := by rfl)
    (h1 : (assignEach [.Subscript a b p1] X.env).map (·.2) = [assign (.Subscript a b p1) X.env] := by rfl) :
    EvS X (.Assign [.Subscript a b p1] e pos) (sPut i d f) := psI (ps_asg ha (pg_sub hb hk (set_dict hu) hset) hs hw h1) (by
  rintro D σ H ⟨C, O, ρ, n, out, hf, E, np, q⟩
  unfold sPut at hf
  obtain ⟨⟨w, n1⟩, e1, hf⟩ := Option.bind_eq_some_iff.mp hf
  obtain ⟨x, e2, hf⟩ := Option.bind_eq_some_iff.mp hf
  obtain ⟨⟨k, n2⟩, e3, hf⟩ := Option.bind_eq_some_iff.mp hf
  simp only at hf
  split at hf
  · rename_i kvs hx
    obtain ⟨m, e4, hf⟩ := Option.map_eq_some_iff.mp hf
    cases hf
    refine ⟨C, O, ρ, n, w, n1, e1, E, fun v H1 s t r => ?_⟩
    have E1 := E.step s t
    obtain ⟨l, h1, h2, h3⟩ := E1.sl _ _ hx
    refine ⟨_, h2, C, O, ρ, n1, _, n2, e3, E1, fun u H2 s2 t2 r2 => ?_⟩
    have E2 := E1.step s2 t2
    have r' : Dv (Av C O) X.K H2 v x := ((r.frz E.av).val e2).mono (s2.keep Av.t)
    have hav : Av C O l := .inr (.inr ⟨i, h1⟩)
    have h3' := h3.mono (s2.keep Av.t) fun o e => s2.st _ _ e (E1.own i l h1).1
    rcases h3' with ⟨ks, g1, p⟩ | ⟨xs, rest, rfl, g1, p⟩ | ⟨ks, rest, o, rfl, g1, p⟩
    · cases k with
      | int j =>
        have hu := r2.int
        subst hu
        have em : m = putI kvs j x ∧ kvs.length < big := by
          unfold putD at e4
          cases kvs with
          | nil => cases e4; exact ⟨rfl, by decide⟩
          | cons kv kvs =>
            simp only at e4
            split at e4
            · cases e4
            · split at e4
              · rename_i hl; cases e4; exact ⟨rfl, hl⟩
              · cases e4
        obtain ⟨rfl, hl⟩ := em
        refine .inl ⟨l, ks, j, rfl, rfl, g1, by rw [Paired.length p, big_eq]; exact hl, fun nd => ?_⟩
        obtain ⟨E3, s3⟩ := E2.write (o := .dK (putK ks (Sum.inl j) v)) (w' := .od (putI kvs j x)) (lt_of_get (by assumption)) h1
          ⟨l, rfl, h2, .inl ⟨_, upd_same, Paired.impl (fun x y z => ⟨z.1, z.2.mono (keep_upd hav)⟩) (putI_rel r' nd p)⟩⟩
        exact q O σ _ ((s.trans s2).stepS0.trans s3) E3
      | tuple ks' =>
        exfalso
        unfold putD at e4
        cases kvs with
        | nil => cases e4
        | cons kv kvs =>
          simp only at e4
          split at e4
          · rename_i c
            have := isMk_eq c
            subst this
            cases p with
            | @cons p _ _ _ h _ =>
              obtain ⟨k, v⟩ := p
              have h1 : KeyD k PyData.none := h.1
              cases h1
          · cases e4
      | _ => unfold putD at e4; cases kvs <;> cases e4
    · cases k with
      | tuple ks' =>
        unfold putD at e4
        simp only at e4
        rw [if_pos (show isMk markT = true from rfl)] at e4
        obtain ⟨ns, e5, e6⟩ := Option.bind_eq_some_iff.mp e4
        split at e6
        · rename_i hl
          cases e6
          obtain ⟨b, rfl, hk⟩ := r2.key e5
          refine .inr ⟨l, xs, rest, Av C O, b, ns, rfl, rfl, g1, p, hk, by rw [Paired.length p, big_eq]; exact hl, fun u ru nd => ?_⟩
          obtain ⟨E3, s3⟩ := E2.write (o := DO l (storedH xs ns b u)) (w' := .od (markT :: putT rest ns x)) (lt_of_get (by assumption)) h1
            ⟨l, rfl, h2, .inr (.inl ⟨_, _, rfl, upd_same, Paired.impl (fun x y z => z.mono (keep_upd hav)) (putT_rel hk ru r' nd p)⟩)⟩
          exact q O σ _ ((s.trans s2).stepS0.trans s3) E3
        · cases e6
      | int i =>
        unfold putD at e4
        simp only at e4
        rw [if_pos (show (isMk markT || isFz markT) = true from rfl)] at e4
        cases e4
      | _ => unfold putD at e4; cases e4
    · cases k with
      | tuple ks' =>
        unfold putD at e4
        simp only at e4
        rw [if_neg (show ¬ isMk markF = true from nofun)] at e4
        cases e4
      | int i =>
        unfold putD at e4
        simp only at e4
        rw [if_pos (show (isMk markF || isFz markF) = true from rfl)] at e4
        cases e4
      | _ => unfold putD at e4; cases e4
  · cases hf)
end
/-! len(d), list(d), sorted(d) -/
section
variable {X : Cx}
def lenDk : List (PyData × PyData) → Nat
  | [] => 0
  | kv :: rest => if isMk kv then rest.length else rest.length + 1
def hdF : List (PyData × PyData) → Bool
  | kv :: _ => isFz kv
  | [] => false
def gLenD : List PyData → Option W
  | [.dict kvs] => if hdF kvs = true then none else some (.d (.int (lenDk kvs)))
  | _ => none
def gListD : List PyData → Option W
  | [.dict (kv :: rest)] => if isMk kv then some (.ol (rest.map (·.1))) else none
  | _ => none
def gSortedD : List PyData → Option W
  | [.dict (kv :: rest)] => if isMk kv && srtOk (rest.map (·.1)) then some (.ol (srt (rest.map (·.1)))) else none
  | _ => none
end
theorem hu1 {l : Nat} {A : Around} (r : Room l A) : A.units + 1 < cLine := by have := r.un; omega
end L2.Lv
namespace L2.Lv
open PySem PySem.Spec PyProof.Rows
/-! dict([(k, v), ..]) -/
section
variable {X : Cx} {A : Addr → Prop} {H : Hp}
end
/-! len(dict([(k, ..), ..])), ints -/
/-- by the one road, or by the other -/
def eAlt (f g : Fe) : Fe := fun ρ n => (f ρ n).or (g ρ n)
end L2.Lv
namespace L2.Lv
open PySem PySem.Spec PyProof.Rows PySem.W
/-! min of a list of alike data -/
section
variable {X : Cx}
end
end L2.Lv
namespace L2.Lv
open PySem PySem.Spec PyProof.Rows
/-! what may be raised: classes by number -/
abbrev Fex := List W → Nat → Option ((W × Nat) ⊕ (Nat × Nat))
abbrev Fnx := List W → Nat → Option ((W × Nat) ⊕ (Nat × Nat))
abbrev Fsx := List W → Nat → Option (Out ⊕ (Nat × List W × Nat))
def spX (K : PySem.W.Frag) (cls : Nat → Addr) (k : Nat) (F : Fnx) : Sp := fun vs H Q E => ∃ (C : Cn) (ws : List W) (n : Nat) (r : (W × Nat) ⊕ (Nat × Nat)), C.H0 = H ∧
  (∀ a, C.P a → H a ≠ none) ∧ TownAt C H n ∧ ws.length = k ∧ ArgsOk (Av C Ow0) C.T K H vs ws ∧ F ws n = some r ∧ (∀ x ∈ tabsOf K, C.B x.1 x.2) ∧ TabG C Ow0 H ∧
  match r with
  | .inl (w, n') => ∀ v H', Step C H H' → TownAt C H' n' → Res (Av C Ow0) C.T K H H' v w → Q v H'
  | .inr (c, n') => ∀ H', Step C H H' → TownAt C H' n' → E (.ref (cls c)) none H'
theorem spX.len {K : PySem.W.Frag} {cls : Nat → Addr} {k : Nat} {F : Fnx} : ∀ vs H Q E, spX K cls k F vs H Q E → vs.length = k := by
  rintro vs H Q E ⟨C, ws, n, r, _, _, _, hl, ha, _⟩
  rw [← hl]
  exact Paired.length ha
section
variable {X : Cx} {cls : Nat → Addr} {V : WX} {e : Expr} {es : List Expr} {fs : Fa} {st : Stmt} {sts sts' rest : List Stmt} {pos : Pos} {f : Fex} {g h : Fs} {r r1 r2 : Fsx}
/-- a call that may raise -/
def xCall (F : Fnx) (fs : Fa) : Fex := fun ρ n => (fs ρ n).bind fun p => F p.1 p.2
def lft (g : Fs) : Fsx := fun ρ n => (g ρ n).map .inl
def sSeqX (r1 r2 : Fsx) : Fsx := fun ρ n => (r1 ρ n).bind fun o => match o with
  | .inl (.nx ρ' n') => r2 ρ' n'
  | o => some o
def sEndX (is : List Nat) (r : Fsx) : Fsx := fun ρ n => (r ρ n).map fun o => match o with
  | .inl (.nx ρ' n') => .inl (.nx (wipeW ρ' is) n')
  | o => o
def sIfX (c : Ft) (r1 r2 : Fsx) : Fsx := fun ρ n => (c ρ n).bind fun p => if p.1 then r1 ρ p.2 else r2 ρ p.2
def sDropX (f : Fex) : Fsx := fun ρ n => (f ρ n).map fun r => match r with
  | .inl (_, n') => .inl (.nx ρ n')
  | .inr (c, n') => .inr (c, ρ, n')
def sRz (c : Nat) : Fsx := fun ρ n => some (.inr (c, ρ, n))
/-- try: .. except X: .. -/
def sTry (r : Fsx) (g : Fs) : Fs := fun ρ n => (r ρ n).bind fun o => match o with
  | .inl out => some out
  | .inr (_, ρ', n') => g ρ' n'
end
/-- a def that may raise -/
def runX (m : Nat) (r : Fsx) : Fnx := fun ws n => (r (ws ++ List.replicate (m - ws.length) .no) n).bind fun o => match o with
  | .inl (.rt w n') => some (.inl (w, n'))
  | .inl (.nx _ n') => some (.inl (.d .none, n'))
  | .inl (.bk _ _) => none
  | .inr (c, _, n') => some (.inr (c, n'))
end L2.Lv
set_option maxHeartbeats 1000000
namespace L2.Lv.Tb
open PySem PySem.Spec PyProof.Rows L2
/-! tables of sets, up to 511 -/
def Msk (m : Nat) : Prop := m = 7 ∨ m = 31 ∨ m = 127 ∨ m = 511
theorem msk_le {m : Nat} (h : Msk m) : m ≤ 511 := by unfold Msk at h; omega
theorem msk_odd {m : Nat} (h : Msk m) : m % 2 = 1 := by unfold Msk at h; omega
theorem lcg_shift (m i : Nat) : ∀ k, lcgI m ((i * 5 + 1) % (m + 1)) k = lcgI m i (k + 1)
  | 0 => rfl
  | k + 1 => by
    have ih := lcg_shift m i k
    show (lcgI m ((i * 5 + 1) % (m + 1)) k * 5 + 1) % (m + 1) = (lcgI m i (k + 1) * 5 + 1) % (m + 1)
    rw [ih]
def orbit : Nat → Nat → List Nat
  | 0, _ => []
  | n + 1, x => x :: orbit n ((x * 5 + 1) % (511 + 1))
theorem orbit_at : ∀ (n x k : Nat), k < n → (orbit n x)[k]? = some (lcgI 511 x k)
  | 0, _, _, h => by omega
  | n + 1, x, 0, _ => rfl
  | n + 1, x, k + 1, h => by
    show (orbit n ((x * 5 + 1) % (511 + 1)))[k]? = _
    rw [orbit_at n _ k (by omega), lcg_shift]
theorem orbit_all : ((List.range 512).all fun j => (orbit 512 0).contains j) = true := by decide +kernel
theorem orbit_back : (orbit 513 0)[512]? = some 0 := by decide +kernel
theorem from0 {j : Nat} (hj : j ≤ 511) : ∃ k, k ≤ 511 ∧ lcgI 511 0 k = j := by
  have h := List.all_eq_true.mp orbit_all j (List.mem_range.mpr (by omega))
  have h : j ∈ orbit 512 0 := by simpa using h
  obtain ⟨k, hk, e⟩ := List.getElem_of_mem h
  have hl : ∀ n x, (orbit n x).length = n := by
    intro n
    induction n with
    | zero => intro x; rfl
    | succ n ih => intro x; show (orbit n _).length + 1 = _; rw [ih]
  have hk' : k < 512 := by rw [hl] at hk; exact hk
  have a := orbit_at 512 0 k hk'
  rw [List.getElem?_eq_getElem hk, e] at a
  exact ⟨k, by omega, (Option.some.inj a).symm⟩
theorem lcg_plus (m i a : Nat) : ∀ k, lcgI m (lcgI m i a) k = lcgI m i (a + k)
  | 0 => rfl
  | k + 1 => by
    have ih := lcg_plus m i a k
    show (lcgI m (lcgI m i a) k * 5 + 1) % (m + 1) = (lcgI m i (a + k) * 5 + 1) % (m + 1)
    rw [ih]
theorem lcg_meets {m : Nat} (hm : Msk m) {i j : Nat} (hi : i ≤ m) (hj : j ≤ m) : ∃ k, k ≤ m ∧ lcgI m i k = j := by
  rcases hm with e | e | e | e
  · exact lcgI_all (.inl e) hi hj
  · exact lcgI_all (.inr (.inl e)) hi hj
  · exact lcgI_all (.inr (.inr e)) hi hj
  · subst e
    obtain ⟨a, la, ea⟩ := from0 hi
    obtain ⟨b, lb, eb⟩ := from0 hj
    have back : lcgI 511 0 512 = 0 := by
      have := orbit_at 513 0 512 (by omega)
      rw [orbit_back] at this
      exact (Option.some.inj this).symm
    subst ea
    by_cases c : a ≤ b
    · refine ⟨b - a, by omega, ?_⟩
      have s : a + (b - a) = b := by omega
      rw [lcg_plus, s, eb]
    · refine ⟨512 + b - a, by omega, ?_⟩
      have s : a + (512 + b - a) = 512 + b := by omega
      rw [lcg_plus, s, ← lcg_plus, back, eb]
theorem run_hits {m : Nat} (hm : Msk m) (h : Int) {j : Nat} (hj : j ≤ m) : ∃ n, n ≤ m + 12 ∧ runI m (SetTable.bits h) n = j := by
  obtain ⟨k, l, e⟩ := lcg_meets hm (runI_le m (SetTable.bits h) 12) hj
  refine ⟨12 + k, by omega, ?_⟩
  rw [runI_tail (bits_lt h), e]
theorem way_hits {m : Nat} (hm : Msk m) (h : Int) {j : Nat} (hj : j ≤ m) : ∃ k, k < 10 * SetTable.turns m ∧ way m h k = j := by
  obtain ⟨n, l, e⟩ := run_hits hm h hj
  obtain ⟨k, lk, ek⟩ := run_nth m (SetTable.bits h) n
  have tn : SetTable.turns m = m + 15 := rfl
  refine ⟨k, by omega, ?_⟩
  unfold way
  rw [ek]
  exact e
theorem way_in (m : Nat) (h : Int) (k : Nat) : way m h k ≤ m := by
  have l0 : SetTable.bits h % (m + 1) ≤ m := by
    have := Nat.mod_lt (SetTable.bits h) (show 0 < m + 1 by omega)
    omega
  have l1 := runEnd_bd l0
  have start : (runAt m (SetTable.bits h % (m + 1)) (SetTable.bits h)).j + (runAt m (SetTable.bits h % (m + 1)) (SetTable.bits h)).more ≤ m := by
    unfold runAt
    dsimp only
    omega
  have := nth_in k _ start
  unfold way
  omega
/-- a table whose places are found again -/
structure TabQ (t : SetTable) (hs : List Int) : Prop where
  up : Ris t.place.toList
  nodum : t.dummies = #[]
  cnt : t.place.size = hs.length
  msk : Msk t.mask
  low : ∀ x ∈ t.place.toList, x ≤ t.mask
  find : ∀ (i : Nat) (h : Int) (j : Nat), hs[i]? = some h → t.place.toList[i]? = some j → ∃ k, way t.mask h k = j ∧ ∀ k', k' < k → way t.mask h k' ∈ t.place.toList
theorem TabQ.of {t : SetTable} {hs : List Int} (T : TabOk t hs) : TabQ t hs := ⟨T.ris, T.dm, T.sz, by
  rcases T.mok with e | e | e
  · exact .inl e
  · exact .inr (.inl e)
  · exact .inr (.inr (.inl e)), T.bd, T.reach⟩
section
variable {t : SetTable} {hs : List Int}
theorem TabQ.plen (T : TabQ t hs) : t.place.toList.length = hs.length := by rw [Array.length_toList, T.cnt]
theorem TabQ.gap (T : TabQ t hs) (room : hs.length ≤ t.mask) (h : Int) : ∃ K, K < 10 * SetTable.turns t.mask ∧ way t.mask h K ∉ t.place.toList ∧ ∀ k, k < K → way t.mask h k ∈ t.place.toList := by
  obtain ⟨j, lj, nj⟩ := st_missing t.place.toList (t.mask + 1) (by rw [T.plen]; omega)
  obtain ⟨k, lk, ek⟩ := way_hits T.msk h (j := j) (by omega)
  obtain ⟨K, a, b, c⟩ := st_least (p := fun k => way t.mask h k ∉ t.place.toList) k (by
    show way t.mask h k ∉ t.place.toList
    rw [ek]; exact nj)
  exact ⟨K, by omega, b, fun k' l => Classical.not_not.mp (c k' l)⟩
theorem TabQ.ahead (T : TabQ t hs) {h : Int} {K i j : Nat} (out : way t.mask h K ∉ t.place.toList) (e1 : hs[i]? = some h) (e2 : t.place.toList[i]? = some j) : ∃ k, k < K ∧ way t.mask h k = j := by
  obtain ⟨k, a, b⟩ := T.find i h j e1 e2
  refine ⟨k, ?_, a⟩
  refine Classical.byContradiction fun c => ?_
  by_cases d : K = k
  · subst d
    rw [a] at out
    exact out (List.mem_of_getElem? e2)
  · exact out (b K (by omega))
theorem TabQ.add (T : TabQ t hs) {h : Int} {K : Nat} (out : way t.mask h K ∉ t.place.toList) (inn : ∀ k, k < K → way t.mask h k ∈ t.place.toList) :
    SetTable.below t.place (way t.mask h K) ≤ hs.length ∧ TabQ (t.put (way t.mask h K)).1 (hs.take (SetTable.below t.place (way t.mask h K)) ++ h :: hs.drop (SetTable.below t.place (way t.mask h K))) ∧ (t.put (way t.mask h K)).1.fill = hs.length + 1 := by
  have wl := way_in t.mask h K
  generalize ew : way t.mask h K = j at *
  obtain ⟨b1, _, _⟩ := below_cut T.up j
  have l1 : SetTable.below t.place j ≤ t.place.toList.length := by rw [Array.length_toList]; exact b1
  have l2 : SetTable.below t.place j ≤ hs.length := by rw [← T.cnt]; exact b1
  have pp := put_place t j
  have fresh : t.place[SetTable.below t.place j]? ≠ some j := fun q => out (List.mem_of_getElem? (by rw [Array.getElem?_toList]; exact q))
  have sz : (t.put j).1.place.size = hs.length + 1 := by
    have := congrArg List.length pp
    rw [Array.length_toList, len_ins _ l1, T.plen] at this
    exact this
  have keep : ∀ x, x ∈ t.place.toList → x ∈ (t.put j).1.place.toList := fun x hx => by rw [pp]; exact mem_ins.mpr (.inr hx)
  refine ⟨l2, ⟨ris_insert T.up fresh, put_dm T.nodum j, by rw [len_ins _ l2]; exact sz, T.msk, fun x hx => ?_, fun i g y e1 e2 => ?_⟩, ?_⟩
  · rw [pp] at hx
    exact (mem_ins.mp hx).elim (fun q => by rw [q]; exact wl) (T.low x)
  · rw [tins_get hs l2] at e1
    rw [pp, tins_get _ l1] at e2
    have old : ∀ i', hs[i']? = some g → t.place.toList[i']? = some y → ∃ k, way t.mask g k = y ∧ ∀ k', k' < k → way t.mask g k' ∈ (t.put j).1.place.toList := fun i' q1 q2 => by
      obtain ⟨k, a, b⟩ := T.find i' g y q1 q2
      exact ⟨k, a, fun k' l => keep _ (b k' l)⟩
    rcases Nat.lt_trichotomy i (SetTable.below t.place j) with c | c | c
    · rw [if_pos c] at e1 e2
      exact old i e1 e2
    · rw [if_neg (by omega), if_pos c] at e1 e2
      cases e1
      cases e2
      exact ⟨K, ew, fun k' l => keep _ (inn k' l)⟩
    · rw [if_neg (by omega), if_neg (by omega)] at e1 e2
      exact old (i - 1) e1 e2
  · have d := put_dm T.nodum j
    unfold SetTable.fill
    rw [d, sz]; rfl
end
/-! laid anew -/
theorem spot {m : Nat} (hm : Msk m) (ow : Array (Option Nat)) (h : Int) {j : Nat} (hj : j ≤ m) (free : oAt ow j = none) :
    ∃ K, SetTable.layClean.free m ow (SetTable.turns m) (SetTable.bits h % (m + 1)) (SetTable.bits h) = some (way m h K) ∧ oAt ow (way m h K) = none ∧ ∀ k, k < K → oAt ow (way m h k) ≠ none := by
  obtain ⟨n, ln, en⟩ := run_hits hm h hj
  have there : way m h (off m (SetTable.bits h % (m + 1)) (SetTable.bits h) n) = j := by
    unfold way
    rw [nth_off, itL_run]
    exact en
  obtain ⟨K, a, b, c⟩ := st_least (p := fun k => oAt ow (way m h k) = none) _ (by rw [there]; exact free)
  have tn : SetTable.turns m = m + 15 := rfl
  refine ⟨K, free_spec m ow _ n _ _ K (by omega) a (fun k l => ?_) ?_, b, c⟩
  · have := c k l
    exact Bool.eq_false_iff.mpr fun q => this (Option.isNone_iff_eq_none.mp q)
  · exact Option.isNone_iff_eq_none.mpr b
theorem own_next {m : Nat} (hm : Msk m) {done : List Int} {ow : Array (Option Nat)} (W : Own m done ow) (room : done.length ≤ m) (h : Int) :
    ∃ j, SetTable.layClean.free m ow (SetTable.turns m) (SetTable.bits h % (m + 1)) (SetTable.bits h) = some j ∧ Own m (done ++ [h]) (ow.setIfInBounds j (some done.length)) := by
  obtain ⟨ps, lp, hp⟩ := W.ps
  obtain ⟨j0, l0, n0⟩ := st_missing ps (m + 1) (by omega)
  have free : oAt ow j0 = none := Classical.byContradiction fun c => n0 (hp j0 (by omega) c)
  obtain ⟨K, f1, f2, f3⟩ := spot hm ow h (by omega) free
  have wl := way_in m h K
  generalize ew : way m h K = j at *
  have here := oAt_set_self (owner := ow) (some done.length) (j := j) (by rw [W.sz]; omega)
  have else' : ∀ i, i ≠ j → oAt (ow.setIfInBounds j (some done.length)) i = oAt ow i := fun i ne => oAt_set_ne _ ne
  have full : ∀ i, oAt ow i ≠ none → oAt (ow.setIfInBounds j (some done.length)) i ≠ none := fun i q => by
    by_cases c : i = j
    · rw [c, here]; simp
    · rw [else' i c]; exact q
  refine ⟨j, f1, ⟨by rw [Array.size_setIfInBounds, W.sz], fun i k li e => ?_, fun k lk => ?_, ⟨j :: ps, by simp [lp], fun i li q => ?_⟩⟩⟩
  · by_cases c : i = j
    · subst c
      rw [here] at e
      cases e
      exact ⟨h, K, by simp, ew, fun k' l => full _ (f3 k' l)⟩
    · rw [else' i c] at e
      obtain ⟨g, K', a, b, d⟩ := W.at_ i k li e
      refine ⟨g, K', ?_, b, fun k' l => full _ (d k' l)⟩
      rw [List.getElem?_append_left (List.getElem?_eq_some_iff.mp a).1, a]
  · by_cases c : k < done.length
    · obtain ⟨i, li, e⟩ := W.all k c
      refine ⟨i, li, ?_⟩
      rw [else' i (fun q => by rw [q, f2] at e; cases e), e]
    · have ek : k = done.length := by rw [List.length_append, List.length_singleton] at lk; omega
      exact ⟨j, wl, by rw [here, ek]⟩
  · by_cases c : i = j
    · rw [c]; exact List.mem_cons_self
    · rw [else' i c] at q
      exact List.mem_cons_of_mem _ (hp i li q)
theorem own_fold {m : Nat} (hm : Msk m) : ∀ (todo done : List Int) (ow : Array (Option Nat)), Own m done ow → (done ++ todo).length ≤ m →
    ∃ ow', todo.foldl (stepF m) (some (ow, done.length)) = some (ow', (done ++ todo).length) ∧ Own m (done ++ todo) ow'
  | [], done, ow, W, _ => ⟨ow, by rw [List.append_nil]; rfl, by rw [List.append_nil]; exact W⟩
  | h :: todo, done, ow, W, l => by
    have re : done ++ h :: todo = (done ++ [h]) ++ todo := by simp
    have l' : done.length ≤ m := by rw [List.length_append] at l; omega
    obtain ⟨j, e, W1⟩ := own_next hm W l' h
    rw [re] at l ⊢
    obtain ⟨ow', f, W2⟩ := own_fold hm todo (done ++ [h]) _ W1 l
    refine ⟨ow', ?_, W2⟩
    rw [List.foldl_cons, stepF_some e, ← f]
    simp
theorem lay_all {m : Nat} (hm : Msk m) {hs : Array Int} (l : hs.size ≤ m) : ∃ ow, SetTable.layClean m hs = some ow ∧ Own m hs.toList ow := by
  obtain ⟨ow, f, W⟩ := own_fold hm hs.toList [] _ (Own.init m) (by simpa using l)
  refine ⟨ow, ?_, W⟩
  have f : List.foldl (stepF m) (some (Array.replicate (m + 1) none, 0)) hs.toList = some (ow, hs.toList.length) := f
  rw [layClean_eq, f]; rfl
theorem laid_anew (t : SetTable) {hs : Array Int} {want M : Nat} (hw : SetTable.sizeAbove want - 1 = M) (hM : Msk M) (l : hs.size ≤ M) :
    ∃ t' order, t.relaid hs want = some (t', order) ∧ order.toList.Perm (List.range hs.size) ∧ TabQ t' (order.toList.map fun i => hs.getD i 0) ∧ t'.mask = M ∧ t'.led = t.led ∧ t'.plain = t.plain := by
  obtain ⟨ow, e, W⟩ := lay_all hM l
  have rel : t.relaid hs want = some (tabOf t M ow, ((liveOf M ow).map (·.2)).toArray) := by
    rw [relaid_eq, hw, e]; rfl
  obtain ⟨up, ins⟩ : Ris ((liveOf M ow).map (·.1)) ∧ ∀ x ∈ (liveOf M ow).map (·.1), x ∈ List.range (M + 1) := ris_live (fun j => ow.getD j none) (List.range (M + 1)) List.pairwise_lt_range
  have live : ∀ j k, (j, k) ∈ liveOf M ow ↔ j ≤ M ∧ oAt ow j = some k := fun j k => mem_live W.sz
  have nd : ((liveOf M ow).map (·.1)).Nodup := up.imp fun q => Nat.ne_of_lt q
  have tl : hs.toList.length = hs.size := Array.length_toList
  have len : (liveOf M ow).length = hs.size := by
    obtain ⟨ps, p1, p2⟩ := W.ps
    have le1 := nat_nodup_len _ ps nd fun x hx => by
      obtain ⟨⟨y, k⟩, hq, rfl⟩ := List.mem_map.mp hx
      have := (live y k).mp hq
      exact p2 y this.1 (by rw [this.2]; simp)
    have le2 := nat_nodup_len (List.range hs.size) ((liveOf M ow).map (·.2)) List.nodup_range fun k hk => by
      obtain ⟨j, a, b⟩ := W.all k (by rw [tl]; exact List.mem_range.mp hk)
      exact List.mem_map.mpr ⟨(j, k), (live j k).mpr ⟨a, b⟩, rfl⟩
    rw [List.length_map] at le1 le2
    rw [List.length_range] at le2
    omega
  refine ⟨_, _, rel, perm_range _ _ (by rw [List.length_map, len]) fun k lk => ?_, ⟨up, rfl, ?_, hM, fun x hx => ?_, fun i h j e1 e2 => ?_⟩, rfl, rfl, rfl⟩
  · obtain ⟨j, a, b⟩ := W.all k (by rw [tl]; exact lk)
    exact List.mem_map.mpr ⟨(j, k), (live j k).mpr ⟨a, b⟩, rfl⟩
  · show ((liveOf M ow).map (·.1)).toArray.size = _
    simp
  · have := List.mem_range.mp (ins x hx)
    show x ≤ M
    omega
  · have e1 : (((liveOf M ow).map (·.2)).map fun i => hs.getD i 0)[i]? = some h := e1
    have e2 : ((liveOf M ow).map (·.1))[i]? = some j := e2
    rw [List.getElem?_map] at e1 e2
    rw [List.getElem?_map] at e1
    obtain ⟨⟨y, k⟩, q, rfl⟩ := Option.map_eq_some_iff.mp e2
    rw [q] at e1
    have e1 : hs.getD k 0 = h := Option.some.inj e1
    obtain ⟨a, b⟩ := (live y k).mp (List.mem_of_getElem? q)
    obtain ⟨g, K, c1, c2, c3⟩ := W.at_ y k a b
    have eg : hs.getD k 0 = g := by
      rw [Array.getD_eq_getD_getElem?, ← Array.getElem?_toList, c1]; rfl
    have gh : g = h := eg.symm.trans e1
    subst gh
    refine ⟨K, c2, fun k' l => ?_⟩
    show way M g k' ∈ (liveOf M ow).map (·.1)
    obtain ⟨z, ez⟩ := Option.ne_none_iff_exists'.mp (c3 k' l)
    exact List.mem_map.mpr ⟨(way M g k', z), (live _ z).mpr ⟨way_in M g k', ez⟩, rfl⟩
theorem sz5 : SetTable.sizeAbove (SetTable.grown 5) - 1 = 31 := by decide +kernel
theorem sz19 : SetTable.sizeAbove (SetTable.grown 19) - 1 = 127 := by decide +kernel
theorem sz77 : SetTable.sizeAbove (SetTable.grown 77) - 1 = 511 := by decide +kernel
end L2.Lv.Tb
set_option maxHeartbeats 1000000
namespace L2.Lv.Tb
open PySem PySem.Spec PyProof.Rows L2
/-! sets of many tuples of ints -/
structure SetQ (P : Program) (w : World) (h : Heap) (a : Addr) (L : List (Addr × List Int)) (es : Array (Int × Value)) (ep : Nat) (t : SetTable) : Prop where
  obj : ∃ o, h.get? a = some o ∧ o.ExactSet ∧ o.data = .set es ep t
  row : es.toList = rowsOf P w L
  tab : TabQ t (L.map fun p => thash P w p.2)
  once : (L.map (·.2)).Nodup
  keys : ∀ p ∈ L, IsT P w h p.2 p.1
  pln : t.plain = true
  byP : w.params.followText "set-order" = true ∨ t.led = true
  spare : L.length * 5 < t.mask * 3
  less : L.length ≤ 300
abbrev stepN (m : Nat) (g : Int) (c : Nat) : SetTable.Probe := nth m (runAt m (SetTable.bits g % (m + 1)) (SetTable.bits g)) c
theorem step_dummy (m : Nat) (g : Int) : ∀ c, (stepN m g c).dummy = none
  | 0 => rfl
  | c + 1 => by
    have ih := step_dummy m g c
    unfold stepN at ih ⊢
    rw [nth_succ]
    unfold adv
    split <;> exact ih
theorem step_on (m : Nat) (g : Int) (c q : Nat) : nth m (stepN m g c) q = stepN m g (c + q) := (nth_add m c _ q).symm
section
variable {P : Program} {w : World} {A : Around} {E : Value → Shared → Prop} {s : Shared}
variable {a : Addr} {L : List (Addr × List Int)} {es : Array (Int × Value)} {ep : Nat} {t : SetTable}
theorem rows_len {L : List (Addr × List Int)} {es : Array (Int × Value)} (e : es.toList = rowsOf P w L) : es.size = L.length := by
  rw [← Array.length_toList, e]
  unfold rowsOf
  rw [List.length_map]
theorem SetQ.size (R : SetQ P w s.heap a L es ep t) : es.size = L.length := rows_len R.row
theorem SetQ.fit (R : SetQ P w s.heap a L es ep t) : t.fits es.size = true := by
  have a1 := R.tab.cnt
  have a2 := R.spare
  have a3 := R.size
  have a4 : t.dummies.size = 0 := by rw [R.tab.nodum]; rfl
  rw [List.length_map] at a1
  unfold SetTable.fits SetTable.fill
  simp only [Bool.and_eq_true, beq_iff_eq, decide_eq_true_eq]
  omega
theorem SetQ.at_ (R : SetQ P w s.heap a L es ep t) {i : Nat} {p : Addr × List Int} (e : L[i]? = some p) : es[i]? = some (thash P w p.2, Value.ref p.1) := by
  have : es.toList[i]? = some (thash P w p.2, Value.ref p.1) := by
    rw [R.row]
    unfold rowsOf
    rw [List.getElem?_map, e]; rfl
  rwa [Array.getElem?_toList] at this
theorem SetQ.firm (R : SetQ P w s.heap a L es ep t) : t.gaveWay ≠ true := by
  have := msk_odd R.tab.msk
  unfold SetTable.gaveWay
  simp [this]
/-- the search -/
theorem seek (R : SetQ P w s.heap a L es ep t) {x : Addr} {k : List Int} (hx : IsT P w s.heap k x) (room : A.units < cLine) {g : Int} (eg : thash P w k = g) {K : Nat} (kf : K < 10 * SetTable.turns t.mask)
    (out : way t.mask g K ∉ t.place.toList) (inn : ∀ c, c < K → way t.mask g c ∈ t.place.toList) {Q : SetFound → Shared → Prop}
    (yes : k ∈ L.map (·.2) → Q (.there none) s) (no : k ∉ L.map (·.2) → Q (.free (way t.mask g K) false) s) :
    ∀ (f c : Nat) (stand : Option SetTable.Probe), stand.getD (t.probeStart g) = stepN t.mask g c → c ≤ K → K < c + f →
      (∀ (i : Nat) (p : Addr × List Int), L[i]? = some p → p.2 = k → ∃ c', c ≤ c' ∧ c' < K ∧ t.place.toList[i]? = some (way t.mask g c')) →
      wpAny (model P w) A (setSearchFrom a (.ref x) g true f stand) Q E s
  | 0, c, _, _, lc, lf, _ => by omega
  | f + 1, c, stand, st, lc, lf, left => by
    obtain ⟨o, eo, ex, ed⟩ := R.obj
    have js : ∀ q, (nth t.mask (stepN t.mask g c) q).j = way t.mask g (c + q) := fun q => congrArg SetTable.Probe.j (step_on t.mask g c q)
    have sums : c + (K - c) = K := by omega
    have spec := go_spec t R.tab.up R.tab.nodum (fun i => (es[i]?.map (·.1)).getD 0) g (10 * SetTable.turns t.mask) (K - c) (stepN t.mask g c) (step_dummy _ _ _) (by omega)
      (fun q lq => by rw [js]; exact inn _ (by omega)) (by rw [js, sums]; exact out)
    have hashes : ∀ (i : Nat) (p : Addr × List Int), L[i]? = some p → (es[i]?.map (·.1)).getD 0 = thash P w p.2 := fun i p e => by rw [R.at_ e]; rfl
    rw [setSearchFrom_succ]
    refine wpAny_bind (wpAny_setState_of eo ed R.fit ?_)
    dsimp only
    refine wp_if_neg R.firm ?_
    try refine wpAny_bind (wpAny_pure ?_)
    rcases spec with ⟨q, i, lq, ei, hi, none_yet, met⟩ | ⟨none_yet, met⟩
    · rw [js] at ei met
      rw [step_on] at met
      have met : t.probe (fun i => (es[i]?.map (·.1)).getD 0) g (stand.getD (t.probeStart g)) = some (.candidate (way t.mask g (c + q)) i (stepN t.mask g (c + (q + 1)))) := by rw [st]; exact met
      rw [met]
      dsimp only
      have li : i < L.length := by
        have l1 := (List.getElem?_eq_some_iff.mp ei).1
        rw [R.tab.plen, List.length_map] at l1
        exact l1
      obtain ⟨p, ep'⟩ : ∃ p, L[i]? = some p := ⟨_, List.getElem?_eq_getElem li⟩
      have pm := List.mem_of_getElem? ep'
      have kp := R.keys p pm
      have live : t.slot (way t.mask g (c + q)) = .live i := slot_live R.tab.up ei
      have go : wpAny (model P w) A (searchRest a (.ref x) g true f es t (way t.mask g (c + q)) i (stepN t.mask g (c + (q + 1)))) Q E s := by
        unfold searchRest
        rw [R.at_ ep']
        dsimp only
        refine wpAny_bind (wpAny_holding (wpAny_eqBool_tuple room kp hx ?_))
        refine wpAny_bind (wpAny_setState_of eo ed R.fit ?_)
        dsimp only
        by_cases same : p.2 = k
        · exact wp_if_pos (by simp [same]) (wpAny_pure (yes (List.mem_map.mpr ⟨p, pm, same⟩)))
        · refine wp_if_neg (by simp [same]) ?_
          try refine wpAny_bind (wpAny_pure ?_)
          rw [sameMem]
          dsimp only
          simp only [if_true, live, R.at_ ep']
          refine wpAny_bind (wpAny_isSame_ref_self (wpAny_bind (wpAny_pure ?_)))
          simp only [if_true]
          refine wp_if_neg (by simp [same]) ?_
          refine seek R hx room eg kf out inn yes no f (c + (q + 1)) (some _) rfl (by omega) (by omega) fun i0 p0 e0 k0 => ?_
          obtain ⟨c', b1, b2, b3⟩ := left i0 p0 e0 k0
          refine ⟨c', ?_, b2, b3⟩
          refine Classical.byContradiction fun far => ?_
          by_cases d : c' = c + q
          · rw [d] at b3
            have again := slot_live R.tab.up b3
            rw [live] at again
            injection again with again
            rw [← again, ep'] at e0
            cases e0
            exact same k0
          · refine none_yet (c' - c) i0 (by omega) ?_ ?_
            · rw [js]
              have : c + (c' - c) = c' := by omega
              rw [this]; exact b3
            · show (es[i0]?.map (·.1)).getD 0 = g
              rw [hashes i0 p0 e0, k0, eg]
      by_cases shown : t.led = true
      · refine wp_if_neg (by simp [shown]) ?_
        try refine wpAny_bind (wpAny_pure ?_)
        exact go
      · refine wp_if_pos (by simp [shown]) ?_
        refine wpAny_bind (seen_tup hx (fun y hy => ?_) ?_)
        · obtain ⟨e, he, rfl⟩ := List.mem_map.mp hy
          have in1 : e ∈ es := by simpa using (Array.mem_filter.mp (Array.mem_def.mpr he)).1
          have in2 : e ∈ rowsOf P w L := by rw [← R.row]; exact Array.mem_def.mp in1
          obtain ⟨p2, m2, rfl⟩ := List.mem_map.mp in2
          exact ⟨p2.2, p2.1, rfl, R.keys p2 m2⟩
        · refine wp_if_neg (by decide) ?_
          try refine wpAny_bind (wpAny_pure ?_)
          exact go
    · rw [js, sums] at met
      have met : t.probe (fun i => (es[i]?.map (·.1)).getD 0) g (stand.getD (t.probeStart g)) = some (.empty (way t.mask g K) none) := by rw [st]; exact met
      rw [met]
      dsimp only
      refine wpAny_pure (no fun inL => ?_)
      obtain ⟨p0, m0, k0⟩ := List.mem_map.mp inL
      obtain ⟨i0, l0, e0⟩ := List.getElem_of_mem m0
      have e0 : L[i0]? = some p0 := by rw [List.getElem?_eq_getElem l0, e0]
      obtain ⟨c', b1, b2, b3⟩ := left i0 p0 e0 k0
      have sum2 : c + (c' - c) = c' := by omega
      refine none_yet (c' - c) i0 (by omega) (by rw [js, sum2]; exact b3) ?_
      show (es[i0]?.map (·.1)).getD 0 = g
      rw [hashes i0 p0 e0, k0, eg]
theorem seek_all (R : SetQ P w s.heap a L es ep t) {x : Addr} {k : List Int} (hx : IsT P w s.heap k x) (room : A.units < cLine) {Q : SetFound → Shared → Prop}
    (yes : k ∈ L.map (·.2) → Q (.there none) s)
    (no : ∀ K, k ∉ L.map (·.2) → way t.mask (thash P w k) K ∉ t.place.toList → (∀ c, c < K → way t.mask (thash P w k) c ∈ t.place.toList) → Q (.free (way t.mask (thash P w k) K) false) s) :
    wpAny (model P w) A (setSearch a (.ref x) (thash P w k) true) Q E s := by
  have sp := R.spare
  obtain ⟨K, kf, out, inn⟩ := R.tab.gap (by rw [List.length_map]; omega) (thash P w k)
  have ml := msk_le R.tab.msk
  have tn : SetTable.turns t.mask = t.mask + 15 := rfl
  unfold setSearch
  refine seek R hx room rfl kf out inn yes (fun q => no K q out inn) 100000 0 none rfl (Nat.zero_le _) (by omega) fun i p e ek => ?_
  have e1 : (L.map fun p => thash P w p.2)[i]? = some (thash P w k) := by rw [List.getElem?_map, e, ← ek]; rfl
  have l1 : i < t.place.toList.length := by
    rw [R.tab.plen, List.length_map]
    exact (List.getElem?_eq_some_iff.mp e).1
  have e2 := List.getElem?_eq_getElem l1
  obtain ⟨c, lc, ec⟩ := R.tab.ahead out e1 e2
  exact ⟨c, Nat.zero_le _, lc, by rw [e2, ec]⟩
/-- a larger table -/
theorem enlarge {o : Obj} (eo : s.heap.get? a = some o) (ex : o.ExactSet) (ed : o.data = .set es ep t) (er : es.toList = rowsOf P w L) (pz : t.place.size = es.size) (dz : t.dummies = #[]) (lz : es.size ≤ t.mask)
    (once : (L.map (·.2)).Nodup) (keys : ∀ p ∈ L, IsT P w s.heap p.2 p.1) (pln : t.plain = true) (byP : w.params.followText "set-order" = true ∨ t.led = true) (less : L.length ≤ 300) {want M : Nat}
    (hw : SetTable.sizeAbove want - 1 = M) (hM : Msk M) (spare : L.length * 5 < M * 3) {Q : Unit → Shared → Prop}
    (fin : ∀ h' L' es' ep' t', Heap.SameBut a s.heap h' → SetQ P w h' a L' es' ep' t' → L'.Perm L → Q () { s with heap := h' }) : wpAny (model P w) A (setRelay a want) Q E s := by
  have zs := rows_len er
  have fit : t.fits es.size = true := by
    unfold SetTable.fits SetTable.fill
    rw [dz, pz]
    simp only [Bool.and_eq_true, beq_iff_eq, decide_eq_true_eq]
    exact ⟨trivial, lz⟩
  obtain ⟨t', order, e, pm, T, em, el, eq⟩ := laid_anew t (hs := es.map (·.1)) (want := want) hw hM (by rw [Array.size_map, zs]; omega)
  rw [Array.size_map, zs] at pm
  obtain ⟨L2, q1, q2, q3⟩ := order_rows L es order er pm
  rw [← q3] at T
  have z2 : (order.filterMap (es[·]?)).size = es.size := by rw [rows_len q1, q2.length_eq, zs]
  have ml := msk_le hM
  have big : ¬ SetTable.sizeAbove want > sizeLine := by rw [sizeLine_eq]; omega
  rw [setRelay_eq]
  refine wpAny_bind (wpAny_setState_of eo ed fit ?_)
  dsimp only
  refine wp_if_neg big ?_
  try refine wpAny_bind (wpAny_pure ?_)
  rw [e]
  dsimp only
  refine wpAny_bind ?_
  refine wp_if_neg (by rw [z2]; simp) ?_
  try refine wpAny_bind (wpAny_pure ?_)
  refine wpAny_pure ?_
  dsimp only
  refine wpAny_storeSet_of eo ed ?_ (by rw [z2, zs, sizeLine_eq]; omega)
  have sb : Heap.SameBut a s.heap (s.heap.update a (Obj.putSet (order.filterMap (es[·]?)) t')) := Heap.SameBut.update ..
  refine fin _ L2 _ (ep + 1) t' sb ⟨⟨_, store_at eo ed, ⟨ex.1, ex.2.1, ex.2.2⟩, rfl⟩, q1, T, (q2.map (·.2)).nodup_iff.mpr once, fun p hp => isT_same (keys p (q2.mem_iff.mp hp)) eo ed sb, by rw [eq]; exact pln, by rw [el]; exact byP, ?_, by rw [q2.length_eq]; exact less⟩ q2
  rw [q2.length_eq, em]
  exact spare
/-- one more -/
theorem put_in (R : SetQ P w s.heap a L es ep t) {x : Addr} {k : List Int} (hx : IsT P w s.heap k x) (room : A.units < cLine) (lim : L.length + 1 ≤ 300) {Q : Bool → Shared → Prop}
    (fin : ∀ b h' L' es' ep' t', Heap.SameBut a s.heap h' → SetQ P w h' a L' es' ep' t' → (k ∈ L.map (·.2) → L' = L) → (k ∉ L.map (·.2) → L'.Perm ((x, k) :: L)) → Q b { s with heap := h' }) :
    wpAny (model P w) A (setAddHashed a (.ref x) (thash P w k)) Q E s := by
  obtain ⟨o, eo, ex, ed⟩ := R.obj
  have sp := R.spare
  have zs := R.size
  unfold setAddHashed
  refine wpAny_holding ?_
  rw [show (100000 : Nat) = 99999 + 1 from rfl, setAddHashedIn_succ]
  refine wpAny_bind (wpAny_setState_of eo ed R.fit ?_)
  dsimp only
  refine wp_if_neg (by simp [byScan, Value.scannable]) ?_
  try refine wpAny_bind (wpAny_pure ?_)
  refine wpAny_bind (seek_all R hx room (fun q => ?_) fun K q out inn => ?_)
  · dsimp only
    exact wpAny_pure (fin false _ L es ep t (Heap.SameBut.refl a s.heap) R (fun _ => rfl) fun z => absurd q z)
  · dsimp only
    refine wpAny_bind (wpAny_setState_of eo ed R.fit ?_)
    dsimp only
    obtain ⟨b1, T1, f1⟩ := R.tab.add out inn
    have m1 : (t.put (way t.mask (thash P w k) K)).1.mask = t.mask := rfl
    have p1 : (t.put (way t.mask (thash P w k) K)).1.plain = true := R.pln
    have l1 : w.params.followText "set-order" = true ∨ (t.put (way t.mask (thash P w k) K)).1.led = true := R.byP
    have i1 : (t.put (way t.mask (thash P w k) K)).2 = SetTable.below t.place (way t.mask (thash P w k) K) := rfl
    generalize t.put (way t.mask (thash P w k) K) = pt at T1 f1 m1 p1 l1 i1 ⊢
    obtain ⟨t1, at1⟩ := pt
    dsimp only at T1 f1 m1 p1 l1 i1 ⊢
    subst i1
    first
      | (refine wpAny_bind ?_; refine wp_if_pos p1 ?_; refine hashBy_tup hx ?_)
      | refine wp_if_pos p1 (wpAny_bind (hashBy_tup hx ?_))
    simp only [if_true]
    have r1 : (SetTable.insertAt es (SetTable.below t.place (way t.mask (thash P w k) K)) (thash P w k, Value.ref x)).toList = rowsOf P w (L.take (SetTable.below t.place (way t.mask (thash P w k) K)) ++ (x, k) :: L.drop (SetTable.below t.place (way t.mask (thash P w k) K))) := by
      rw [rows_put, SetTable.toList_insertAt, R.row]
    have T1 : TabQ t1 ((L.take (SetTable.below t.place (way t.mask (thash P w k) K)) ++ (x, k) :: L.drop (SetTable.below t.place (way t.mask (thash P w k) K))).map fun p => thash P w p.2) := by
      rw [List.map_append, List.map_cons, List.map_take, List.map_drop]
      exact T1
    have pm := put_perm L (SetTable.below t.place (way t.mask (thash P w k) K)) (x, k)
    generalize L.take (SetTable.below t.place (way t.mask (thash P w k) K)) ++ (x, k) :: L.drop (SetTable.below t.place (way t.mask (thash P w k) K)) = L1 at r1 T1 pm
    generalize SetTable.insertAt es (SetTable.below t.place (way t.mask (thash P w k) K)) (thash P w k, Value.ref x) = es1 at r1 ⊢
    have z1 := rows_len r1
    have n1 : L1.length = L.length + 1 := pm.length_eq
    have once1 : (L1.map (·.2)).Nodup := (pm.map (·.2)).nodup_iff.mpr (List.nodup_cons.mpr ⟨q, R.once⟩)
    refine wpAny_bind (wpAny_storeSet_of eo ed ?_ (by rw [z1, n1, sizeLine_eq]; omega))
    have sb : Heap.SameBut a s.heap (s.heap.update a (Obj.putSet es1 t1)) := Heap.SameBut.update ..
    have eo1 := store_at (es' := es1) (t' := t1) eo ed
    generalize s.heap.update a (Obj.putSet es1 t1) = h1 at sb eo1 ⊢
    have keys1 : ∀ p ∈ L1, IsT P w h1 p.2 p.1 := fun p hp => by
      rcases List.mem_cons.mp (pm.mem_iff.mp hp) with e | hp
      · subst e; exact isT_same hx eo ed sb
      · exact isT_same (R.keys p hp) eo ed sb
    rw [List.length_map] at f1
    by_cases full : t1.tooFull = true
    · first
        | (refine wpAny_bind ?_; refine wp_if_pos (by simp [full]) ?_)
        | (refine wp_if_pos (by simp [full]) ?_; refine wpAny_bind ?_)
      have lf : (L.length + 1) * 5 ≥ t.mask * 3 := by
        have := full
        unfold SetTable.tooFull at this
        rw [decide_eq_true_eq, f1, m1] at this
        exact this
      have lay : ∀ M, SetTable.sizeAbove (SetTable.grown (L.length + 1)) - 1 = M → Msk M → (L.length + 1) * 5 < M * 3 → L.length + 1 ≤ t.mask →
          wpAny (model P w) A (setRelay a (SetTable.grown (L.length + 1))) (fun _ s' => wpAny (model P w) A (pure true) Q E s') E { s with heap := h1 } := fun M g1 g2 g3 g4 => by
        have pz : t1.place.size = es1.size := by
          have := T1.cnt
          rw [List.length_map] at this
          rw [this, z1]
        refine enlarge (s := { s with heap := h1 }) eo1 ⟨ex.1, ex.2.1, ex.2.2⟩ rfl r1 pz T1.nodum (by rw [z1, n1, m1]; exact g4) once1 keys1 p1 l1 (by rw [n1]; exact lim) g1 g2 (by rw [n1]; exact g3) fun h2 L2 es2 ep2 t2 sb2 R2 pm2 => ?_
        exact wpAny_pure (fin true h2 L2 es2 ep2 t2 (sb.trans sb2) R2 (fun z => absurd z q) fun _ => pm2.trans pm)
      rw [zs]
      rcases R.tab.msk with e | e | e | e
      · have c : L.length + 1 = 5 := by rw [e] at lf sp; omega
        exact lay 31 (by rw [c]; exact sz5) (.inr (.inl rfl)) (by omega) (by omega)
      · have c : L.length + 1 = 19 := by rw [e] at lf sp; omega
        exact lay 127 (by rw [c]; exact sz19) (.inr (.inr (.inl rfl))) (by omega) (by omega)
      · have c : L.length + 1 = 77 := by rw [e] at lf sp; omega
        exact lay 511 (by rw [c]; exact sz77) (.inr (.inr (.inr rfl))) (by omega) (by omega)
      · exfalso
        rw [e] at lf
        omega
    · first
        | refine wp_if_neg (by simp [full]) ?_
        | (refine wpAny_bind ?_; refine wp_if_neg (by simp [full]) ?_; refine wpAny_pure ?_)
      have ls : (L.length + 1) * 5 < t.mask * 3 := by
        have := full
        unfold SetTable.tooFull at this
        rw [decide_eq_true_eq, f1, m1] at this
        omega
      refine wpAny_pure (fin true h1 L1 es1 (ep + 1) t1 sb ⟨⟨_, eo1, ⟨ex.1, ex.2.1, ex.2.2⟩, rfl⟩, r1, T1, once1, keys1, p1, l1, by rw [n1, m1]; exact ls, by rw [n1]; exact lim⟩ (fun z => absurd z q) fun _ => pm)
end
end L2.Lv.Tb
set_option maxHeartbeats 2000000
namespace L2.Lv.Tb
open PySem PySem.Spec PyProof.Rows L2
/-! set(xs), xs a list of tuples of ints -/
section
variable {P : Program} {w : World} {A : Around} {E : Value → Shared → Prop} {s : Shared}
theorem key_at {h h' : Heap} {k : List Int} {b : Addr} (x : IsT P w h k b) (e : ∀ o, h.get? b = some o → h'.get? b = some o) : IsT P w h' k b := by
  obtain ⟨o, its, n, q, r⟩ := x
  exact ⟨o, its, n, e o q, r⟩
theorem SetQ.over {h h' : Heap} {a : Addr} {L : List (Addr × List Int)} {es : Array (Int × Value)} {ep : Nat} {t : SetTable} (R : SetQ P w h a L es ep t) (e : ∀ o, h.get? a = some o → h'.get? a = some o) (ks : ∀ p ∈ L, IsT P w h' p.2 p.1) : SetQ P w h' a L es ep t := by
  obtain ⟨o, q, r⟩ := R.obj
  exact ⟨⟨o, e o q, r⟩, R.row, R.tab, R.once, ks, R.pln, R.byP, R.spare, R.less⟩
theorem setQ_none {h : Heap} {a : Addr} (e : h.get? a = some (emptySet w)) : SetQ P w h a [] #[] 0 (.fresh 0 0 (!w.params.followText "set-order")) :=
  ⟨⟨_, e, ⟨rfl, rfl, rfl⟩, rfl⟩, rfl, ⟨List.Pairwise.nil, rfl, rfl, .inl rfl, fun x hx => (by cases hx), fun i h j q => (by simp at q)⟩, List.nodup_nil, fun p hp => (by cases hp), rfl, by
    cases c : w.params.followText "set-order" with
    | true => exact .inl rfl
    | false => exact .inr rfl, (by decide : 0 * 5 < 7 * 3), Nat.zero_le _⟩
theorem fill_all {I : Addr} {fp wr : List Addr} {G : Array GenState → Array GenState → Prop} {n : Nat} {Pv : Nat → Value → Prop} {St : Nat → Shared → Prop} {R : Result → Shared → Prop}
    (W : WalksS P w A.in1 I fp wr G n Pv St) (S : Addr) (apart : S ∉ fp) (ks : List (Addr × List Int)) (len : n = ks.length) (lim : ks.length ≤ 300) (val : ∀ i v, Pv i v → ∃ p, ks[i]? = some p ∧ v = .ref p.1)
    (room : A.in1.units < cLine) (other : ∀ p ∈ ks, p.1 ≠ S) (out : ∀ p ∈ ks, p.1 ∉ wr) : ∀ (d i : Nat) (s : Shared), n - i = d → i ≤ n → St i s → (∀ p ∈ ks, IsT P w s.heap p.2 p.1) → (∃ L es ep t, SetQ P w s.heap S L es ep t ∧ Got ks i L) →
      (∀ s' L es ep t, Moved (S :: wr) G s s' → SetQ P w s'.heap S L es ep t → Got ks n L → R (.ok (.ret .none)) s') → codeAny (model P w) A (.builtin "set.update.loop" ⟨[.ref S, .ref I], []⟩) R s := by
  have notW : S ∉ wr := fun q => apart (W.sub S q)
  have more : ∀ b ∈ wr, b ∈ S :: wr := fun b q => List.mem_cons_of_mem S q
  have sub : ∀ {i : Nat} {L : List (Addr × List Int)}, Got ks i L → ∀ p ∈ L, p ∈ ks := fun g p hp => List.mem_of_mem_take (g.sub p hp)
  intro d
  induction d with
  | zero =>
    intro i s ed li st kk ⟨L, es, ep, t, q, g⟩ fin
    have ei : i = n := by omega
    subst ei
    refine codeAny_builtin F.entry_set_update_loop ?_
    rw [Around.under_plainId F.plain_set_update_loop _]
    show wpAny _ A.in1 (pyNext (.ref I) >>= _) _ _ s
    refine wpAny_bind (W.done s _ _ st fun s' mv => ?_)
    show wpAny _ A.in1 (ret Value.none) _ _ s'
    exact wpAny_pure (fin s' L es ep t (mv.mono more) (q.over (fun o e => mv.heap S o notW e) fun p hp => key_at (kk p (sub g p hp)) fun o e => mv.heap _ o (out p (sub g p hp)) e) g)
  | succ d ih =>
    intro i s ed li st kk ⟨L, es, ep, t, q, g⟩ fin
    have lt : i < n := by omega
    refine codeAny_builtin F.entry_set_update_loop ?_
    rw [Around.under_plainId F.plain_set_update_loop _]
    show wpAny _ A.in1 (pyNext (.ref I) >>= _) _ _ s
    refine wpAny_bind (W.item i s _ _ lt st fun v s1 hv st1 mv => ?_)
    obtain ⟨p, ep1, rfl⟩ := val i v hv
    have pin := List.mem_of_getElem? ep1
    have kk1 : ∀ r ∈ ks, IsT P w s1.heap r.2 r.1 := fun r hr => key_at (kk r hr) fun o e => mv.heap _ o (out r hr) e
    have q1 : SetQ P w s1.heap S L es ep t := q.over (fun o e => mv.heap S o notW e) fun r hr => kk1 r (sub g r hr)
    show wpAny _ A.in1 (holding [Value.ref p.1] (setAdd S (.ref p.1)) >>= _) _ _ s1
    refine wpAny_bind (wpAny_holding ?_)
    unfold setAdd
    refine wpAny_holding ?_
    refine wpAny_bind (wpAny_pyHash_tuple room (kk1 p pin) ?_)
    refine put_in (s := { s1 with toks := s1.toks + (p.2.length + 1) }) q1 (kk1 p pin) room (by have := g.len; omega) fun b h2 L2 es2 ep2 t2 sb q2 old new => ?_
    have g2 : Got ks (i + 1) L2 := by
      by_cases c : p.2 ∈ L.map (·.2)
      · rw [old c]; exact g.same ep1 c
      · exact g.more ep1 (new c)
    have kk2 : ∀ r ∈ ks, IsT P w h2 r.2 r.1 := fun r hr => key_at (kk1 r hr) fun o e => (sb.2 _ (other r hr)).trans e
    refine wpAny_pure ⟨plainId_quiet F.plain_set_update_loop _, ih (i + 1) _ (by omega) (by omega) (W.frame _ s1 _ _ st1 (Nat.le_add_right _ _) fun b hb o e => ?_) kk2 ⟨L2, es2, ep2, t2, q2, g2⟩ fun s3 L3 es3 ep3 t3 mv3 q3 g3 => ?_⟩
    · rw [sb.2 b (fun z => apart (z ▸ hb))]; exact e
    · refine fin s3 L3 es3 ep3 t3 (Moved.trans W.gtrans ((mv.mono more).then_heap (Nat.le_add_right _ _) fun b o hb e => ?_) mv3) q3 g3
      rw [sb.2 b (fun z => hb (z ▸ List.mem_cons_self))]; exact e
/-- what the filling leaves -/
def FilledT (P : Program) (w : World) (s : Shared) (ks : List (Addr × List Int)) (a : Addr) (s2 : Shared) : Prop :=
  ∃ h' tk L es ep t, s2 = { s with heap := h', toks := tk } ∧ SetQ P w h' a L es ep t ∧ Got ks ks.length L ∧ ∀ b o, b ≠ a → s.heap.get? b = some o → h'.get? b = some o
theorem init_tups {l S : Addr} {items : Array Value} (ks : List (Addr × List Int)) (hh : A.handled = none) (hl : s.heap.IsList l items) (hit : items.toList = ks.map fun p => Value.ref p.1) (hk : ∀ p ∈ ks, IsT P w s.heap p.2 p.1) (lim : ks.length ≤ 300)
    (hS : s.heap.get? S = some (emptySet w)) (hne : l ≠ S) (hT : s.TypeIs (.ref S) "set") (room : A.units + 3 < cLine) : codeAny (model P w) A (.call (.builtin "set.__init__") ⟨[.ref S, .ref l], []⟩) (wants (fun r s₂ => r = .none ∧ FilledT P w s ks S s₂) E) s := by
  have hisz : items.size = ks.length := by
    rw [← Array.length_toList, hit, List.length_map]
  have other : ∀ p ∈ ks, p.1 ≠ S := fun p hp e => by
    obtain ⟨o, its, n, q, hc, hd, _⟩ := hk p hp
    rw [e, hS] at q
    cases q
    cases hd
  refine codeAny_call_builtin F.called_set.init.plain F.entry_set_init (check_set_init_1 hT ?_)
  have hset := F.sub_list_set
  have hfro := F.sub_list_frozenset
  have hdict : (Value.type "list" == Value.type "dict") = false := by decide
  obtain ⟨⟨oc, od, odt, osl⟩, ho, hc, k, hd⟩ := id hl
  simp only at hc hd
  subst hc hd
  unfold Builtin.«set.__init__» noKeywords Builtin.Frozenset.updateFrom
  generalize hit' : pyIter = it
  wp_walk
  subst hit'
  have hlt : l < s.heap.objs.size := Heap.lt_size ho
  have hSt : S < s.heap.objs.size := Heap.lt_size hS
  refine iter_any hl fun s2 e2 st hn => ?_
  subst e2
  refine wpAny_bind (wpAny_runValue ?_)
  have h3 : A.in1.in1.handled = none := by simp [hh]
  have hf : S ∉ [s.heap.objs.size, l] := by
    intro q
    rcases List.mem_cons.mp q with q | q
    · exact absurd (q ▸ hSt) (Nat.lt_irrefl _)
    · exact hne (List.mem_singleton.mp q).symm
  have inS : ∀ p ∈ ks, p.1 < s.heap.objs.size := fun p hp => by
    obtain ⟨o, _, _, q, _⟩ := hk p hp
    exact Heap.lt_size q
  refine fill_all (Walks.list h3 s.heap.objs.size l hn items).toS S hf ks hisz lim (fun i v hv => ?_) (by show A.units + 1 + 1 < _; omega) other (fun p hp q => ?_) (items.size - 0) 0 _ rfl (Nat.zero_le _) st (fun p hp => key_at (hk p hp) fun o e => Heap.get?_push_of_some _ e) ⟨[], #[], 0, _, setQ_none (Heap.get?_push_of_some _ hS), Got.zero ks⟩ fun s' L es ep t hm hR hg => ?_
  · have q : items.toList[i]? = some v := by rw [Array.getElem?_toList]; exact hv
    rw [hit, List.getElem?_map] at q
    obtain ⟨p, e1, e2⟩ := Option.map_eq_some_iff.mp q
    exact ⟨p, e1, e2.symm⟩
  · have e := List.mem_singleton.mp q
    have l := inS p hp
    rw [e] at l
    exact absurd l (Nat.lt_irrefl _)
  · obtain ⟨h', g', d', tk', os'⟩ := s'
    have e1 : g' = s.gens := hm.gens
    have e2 : d' = s.drawn := hm.drawn
    have e3 : os' = s.os := hm.os
    subst e1 e2 e3
    refine wpAny_pure ?_
    show wpAny _ _ (ret Value.none) _ _ _
    rw [hisz] at hg
    refine wpAny_pure ⟨rfl, h', tk', L, es, ep, t, rfl, hR, hg, fun b o hb e => hm.heap b o (fun q => ?_) (Heap.get?_push_of_some _ e)⟩
    rcases List.mem_cons.mp q with q | q
    · exact hb q
    · rw [List.mem_singleton.mp q] at e
      exact absurd (Heap.lt_size e) (Nat.lt_irrefl _)
/-- set(xs) -/
theorem call_set_many {l : Addr} {items : Array Value} (ks : List (Addr × List Int)) {Q : Value → Shared → Prop} (hh : A.handled = none) (hl : s.heap.IsList l items) (hit : items.toList = ks.map fun p => Value.ref p.1) (hk : ∀ p ∈ ks, IsT P w s.heap p.2 p.1) (lim : ks.length ≤ 300) (room : A.units + 5 < cLine)
    (h : ∀ (h' : Heap) (tk : Nat) L es ep t, SetQ P w h' s.heap.objs.size L es ep t → Got ks ks.length L → (∀ b o, s.heap.get? b = some o → h'.get? b = some o) → Q (.ref s.heap.objs.size) { s with heap := h', toks := tk }) :
    wpAny (model P w) A (call (.type "set") [.ref l]) Q E s := by
  obtain ⟨c, tl, hmro⟩ := F.called_set.mro
  have h0 := F.called_set.made
  have h1 := F.called_set.sub
  have h2 := F.called_set.notType
  have h3 := F.called_set.canCreate
  have h4 := F.typeCall_set_1 (.ref l)
  have hlt : l < s.heap.objs.size := by obtain ⟨_, e, _⟩ := hl; exact Heap.lt_size e
  refine wpAny_call (codeAny_of_tree ?_)
  show wpAny _ _ (callAny (.type "set") _) _ _ _
  refine wpAny_pure ⟨Code.quiet_builtin _ (by decide +kernel), codeAny_builtin F.entry_type_call ?_⟩
  rw [Around.under_plain (weight_type_call_type "set" [.ref l] []) rfl]
  repeat (any_goals (first | assumption | wp_step))
  have made := code_set_led1 (P := P) (w := w) (A := A.in1) (E := E) (s := s) (.ref l) (Q₁ := fun x s1 => x = .ref s.heap.objs.size ∧ s1 = { s with heap := s.heap.push (emptySet w) }) ⟨rfl, rfl⟩
  refine codeAny_mono made fun r s1 hr => ?_
  match r, hr with
  | .error e, hr => exact hr
  | .ok (.ret x), ⟨e1, e2⟩ =>
    subst e1 e2
    have hget : (s.heap.push (emptySet w)).get? s.heap.objs.size = some (emptySet w) := Heap.get?_push_size _ rfl
    have hT : Shared.TypeIs { s with heap := s.heap.push (emptySet w) } (.ref s.heap.objs.size) "set" := ⟨_, hget, rfl⟩
    have h5 := F.called_set.init.lookup
    have h6 := F.called_set.init.bind (.ref s.heap.objs.size)
    repeat (any_goals (first | assumption | wp_step))
    have hl2 : (s.heap.push (emptySet w)).IsList l items := by
      obtain ⟨o, a1, a2⟩ := hl
      exact ⟨o, Heap.get?_push_of_some _ a1, a2⟩
    refine codeAny_mono (init_tups (E := E) (s := { s with heap := s.heap.push (emptySet w) }) (l := l) (S := s.heap.objs.size) (items := items) ks (by simp [hh]) hl2 hit (fun p hp => key_at (hk p hp) fun o e => Heap.get?_push_of_some _ e) lim hget (Nat.ne_of_lt hlt) hT (by show A.units + 1 + 3 < _; omega)) fun r2 s2 hr2 => ?_
    match r2, hr2 with
    | .error e, hr2 => exact hr2
    | .ok (.ret y), ⟨e3, h', tk, L, es, ep, t, e4, hR, hg, hk'⟩ =>
      subst e3 e4
      repeat (any_goals (first | assumption | wp_step))
      exact h h' tk L es ep t hR hg fun b o e => hk' b o (fun q => absurd (q ▸ Heap.lt_size e) (Nat.lt_irrefl _)) (Heap.get?_push_of_some _ e)
end
/-! as an object -/
structure SetQ0 (P : Program) (w : World) (h : Heap) (a : Addr) (L : List (Addr × List Int)) : Prop where
  ex : ∃ (es : Array (Int × Value)) (ep : Nat) (t : SetTable), (∃ o, h.get? a = some o ∧ o.ExactSet ∧ o.data = .set es ep t) ∧ es.toList = rowsOf P w L ∧ TabQ t (L.map fun p => thash P w p.2) ∧ (L.map (·.2)).Nodup ∧ t.plain = true ∧
    (w.params.followText "set-order" = true ∨ t.led = true) ∧ L.length * 5 < t.mask * 3 ∧ L.length ≤ 300
def SetQO (P : Program) (w : World) (a : Addr) (L : List (Addr × List Int)) : HO := .ext fun h => SetQ0 P w h a L
theorem SetQ.part {P : Program} {w : World} {h : Heap} {a : Addr} {L : List (Addr × List Int)} {es : Array (Int × Value)} {ep : Nat} {t : SetTable} (R : SetQ P w h a L es ep t) : SetQ0 P w h a L := ⟨es, ep, t, R.obj, R.row, R.tab, R.once, R.pln, R.byP, R.spare, R.less⟩
theorem SetQ0.whole {P : Program} {w : World} {h : Heap} {a : Addr} {L : List (Addr × List Int)} (R : SetQ0 P w h a L) (ks : ∀ p ∈ L, IsT P w h p.2 p.1) : ∃ es ep t, SetQ P w h a L es ep t := by
  obtain ⟨es, ep, t, a1, a2, a3, a4, a5, a6, a7, a8⟩ := R.ex
  exact ⟨es, ep, t, a1, a2, a3, a4, ks, a5, a6, a7, a8⟩
theorem setQO_new {P : Program} {w : World} {H : Hp} {h : Heap} {a : Addr} {L : List (Addr × List Int)} (R : SetQ0 P w h a L) : ObjOk P w H h a (SetQO P w a L) := by
  obtain ⟨es, ep, t, ⟨o, ho, r⟩, q⟩ := id R.ex
  refine ⟨R, ⟨o, ho⟩, fun h1 h2 p k => ?_⟩
  obtain ⟨es', ep', t', ⟨o', ho', r'⟩, q'⟩ := SetQ0.ex p
  exact ⟨es', ep', t', ⟨o', k o' ho', r'⟩, q'⟩
end L2.Lv.Tb
set_option maxHeartbeats 2000000
namespace L2.Lv
open PySem PySem.Spec PyProof.Rows L2.Lv.Tb
/-! sorted(set(xs)), xs a list of tuples of ints -/
def tI (k : List Int) : PyData := .tuple (k.map .int)
theorem dataLe_tI (a b : List Int) : PySem.W.dataLe false (fun x => x) (tI a) (tI b) = !decide (b < a) := by
  have h : PySem.W.dataLt (tI b) (tI a) = decide (b < a) := by
    unfold tI
    rw [PySem.W.dataLt_tuple]
    exact PySem.W.dataLt_ints b a
  show (!PySem.W.dataLt (tI b) (tI a)) = _
  rw [h]
def sortI (ks : List (List Int)) : List (List Int) := ks.mergeSort fun a b => !decide (b < a)
theorem srt_tI (ks : List (List Int)) : srt (ks.map tI) = (sortI ks).map tI := by
  unfold srt sortI
  exact (List.map_mergeSort fun a _ b _ => (dataLe_tI a b).symm).symm
theorem sortI_perm (ks : List (List Int)) : (sortI ks).Perm ks := List.mergeSort_perm _ _
theorem sortI_pw (ks : List (List Int)) : (sortI ks).Pairwise fun a b => ¬ b < a := by
  have h := List.pairwise_mergeSort (le := fun a b : List Int => !decide (b < a)) (fun a b c h1 h2 => by
    simp only [Bool.not_eq_true', decide_eq_false_iff_not] at h1 h2 ⊢
    exact List.not_lt.mpr (List.le_trans (List.not_lt.mp h1) (List.not_lt.mp h2))) (fun a b => by
    simp only [Bool.or_eq_true, Bool.not_eq_true', decide_eq_false_iff_not]
    rcases List.le_total a b with q | q
    · exact .inl (List.not_lt.mpr q)
    · exact .inr (List.not_lt.mpr q)) ks
  exact h.imp fun q => by simpa using q
theorem sortI_same {a b : List (List Int)} (p : a.Perm b) : sortI a = sortI b :=
  List.Perm.eq_of_pairwise (le := fun a b : List Int => ¬ b < a) (fun a b _ _ h1 h2 => List.le_antisymm (List.not_lt.mp h1) (List.not_lt.mp h2)) (sortI_pw a) (sortI_pw b) ((sortI_perm a).trans (p.trans (sortI_perm b).symm))
def ddup : List (List Int) → List (List Int)
  | [] => []
  | x :: xs => if x ∈ xs then ddup xs else x :: ddup xs
theorem ddup_mem {z : List Int} : ∀ {xs : List (List Int)}, z ∈ ddup xs ↔ z ∈ xs
  | [] => Iff.rfl
  | x :: xs => by
    have ih := ddup_mem (z := z) (xs := xs)
    unfold ddup
    split
    · rename_i h
      rw [ih, List.mem_cons]
      exact ⟨.inr, fun q => q.elim (fun e => e ▸ h) id⟩
    · rw [List.mem_cons, List.mem_cons, ih]
theorem ddup_nd : ∀ xs : List (List Int), (ddup xs).Nodup
  | [] => List.nodup_nil
  | x :: xs => by
    have ih := ddup_nd xs
    unfold ddup
    split
    · exact ih
    · rename_i h
      exact List.nodup_cons.mpr ⟨fun q => h (ddup_mem.mp q), ih⟩
def keysT : List PyData → Option (List (List Int))
  | [] => some []
  | .tuple ys :: r => (intsOf ys).bind fun ns => (keysT r).map (ns :: ·)
  | _ => none
theorem keysT_ok : ∀ {xs : List PyData} {ks : List (List Int)}, keysT xs = some ks → xs = ks.map tI
  | [], ks, h => by cases h; rfl
  | x :: xs, ks, h => by
    cases x with
    | tuple ys =>
      obtain ⟨ns, h1, h2⟩ := Option.bind_eq_some_iff.mp (show (intsOf ys).bind _ = some ks from h)
      obtain ⟨r, h3, rfl⟩ := Option.map_eq_some_iff.mp h2
      rw [keysT_ok h3, intsOf_ok h1]
      rfl
    | _ => cases h
theorem keysT_map : ∀ ks : List (List Int), keysT (ks.map tI) = some ks
  | [] => rfl
  | k :: ks => by
    show (intsOf (k.map .int)).bind (fun ns => (keysT (ks.map tI)).map (ns :: ·)) = _
    rw [intsOf_map, Option.bind_some, keysT_map ks]; rfl
def okK (ks : List (List Int)) : Bool := (ks.all fun k => !k.isEmpty) || ks.all fun k => k.isEmpty
def gSortSetT : List PyData → Option W
  | [.list xs] => (keysT xs).bind fun ks => if okK ks && decide (ks.length ≤ 300) then some (.ol ((sortI (ddup ks)).map tI)) else none
  | _ => none
/-! the model -/
theorem perm_lift {α β : Type} {f : α → β} {vs ws : List β} (p : vs.Perm ws) : ∀ L : List α, ws = L.map f → ∃ L1 : List α, L1.Perm L ∧ vs = L1.map f := by
  induction p with
  | nil =>
    intro L e
    cases L with
    | nil => exact ⟨[], .refl _, rfl⟩
    | cons _ _ => cases e
  | cons x _ ih =>
    intro L e
    cases L with
    | nil => cases e
    | cons y L =>
      rw [List.map_cons] at e
      obtain ⟨e1, e2⟩ := List.cons.inj e
      obtain ⟨L1, q1, q2⟩ := ih L e2
      exact ⟨y :: L1, q1.cons y, by rw [List.map_cons, e1, q2]⟩
  | swap x y l =>
    intro L e
    match L, e with
    | a :: b :: L, e =>
      rw [List.map_cons, List.map_cons] at e
      obtain ⟨e1, e2⟩ := List.cons.inj e
      obtain ⟨e2, e3⟩ := List.cons.inj e2
      exact ⟨b :: a :: L, .swap _ _ _, by rw [List.map_cons, List.map_cons, e1, e2, e3]⟩
    | [_], e => cases e
    | [], e => cases e
  | trans _ _ ih1 ih2 =>
    intro L e
    obtain ⟨L2, a1, a2⟩ := ih2 L e
    obtain ⟨L1, b1, b2⟩ := ih1 L2 a2
    exact ⟨L1, b1.trans a1, b2⟩
theorem alike_tI : ∀ (a b : List Int), PySem.W.alikeAll (a.map .int) (b.map .int) = true
  | [], _ => by simp [PySem.W.alikeAll]
  | _ :: _, [] => by simp [PySem.W.alikeAll]
  | x :: a, y :: b => by
    simp only [List.map_cons, PySem.W.alikeAll]
    rw [alike_tI a b]
    rfl
theorem depth_tI (a : List Int) : (tI a).depth ≤ 64 := by
  have key : ∀ a : List Int, PyData.depthAll (a.map .int) ≤ 1 := by
    intro a
    induction a with
    | nil => exact Nat.zero_le _
    | cons x a ih =>
      show max (PyData.int x).depth (PyData.depthAll (a.map .int)) ≤ 1
      have : (PyData.int x).depth ≤ 1 := by simp [PyData.depth]
      omega
  have e : (tI a).depth = PyData.depthAll (a.map .int) + 1 := rfl
  have := key a
  omega
open PySem.W in
theorem sorts_few {prog : Program} {w : World} {A : Around} {s : Shared} {vs : List Value} {ds : List PyData} (e : EachIs (fun v d => ∃ as, Reads s.heap v d as) vs ds) (hal : AllAlike ds) (hn : ∀ d ∈ ds, d ≠ .none) (hu : ∀ d, d ∈ ds → A.units + d.depth < cLine) (few : vs.length < 2) :
    SortsAt prog w A s (dataKind s.heap ds) vs := by
  refine ⟨fun v hv => ?_, general', fun E x y a b Q ha hb hq => ?_, fun h2 => absurd h2 (by omega)⟩
  · obtain ⟨d, hd, as, r⟩ := e.left v hv
    exact ⟨_, dataKind_some hal hd r⟩
  · obtain ⟨d, as, hd, ra, rfl⟩ := dataKind_inv ha
    obtain ⟨d', as', hd', rb, rfl⟩ := dataKind_inv hb
    show wpAny (model prog w) A (oneLt' false x y) Q E s
    have hr := hu d hd
    have hmin := Nat.min_le_left d.depth d'.depth
    exact oneLt_alike (fun z => nomatch z) ra rb (hal d hd d' hd') (hn d hd) (by omega) hq
def rSetT (K : PySem.W.Frag) (P : Program) (w : World) : List V → Hp → VK → Prop := fun vs H Q => ∃ (l : Addr) (ks : List (Addr × List Int)), vs = [V.ref l] ∧ SqL K H l (ks.map fun p => V.ref p.1) ∧ (∀ p ∈ ks, SqT K H p.1 (p.2.map V.int)) ∧ ks.length ≤ 300 ∧
  ∀ a L, H a = none → (∀ p ∈ L, p ∈ ks) → (∀ p ∈ ks, p.2 ∈ L.map (·.2)) → (L.map (·.2)).Nodup → Q (.ref a) (upd H a (SetQO P w a L))
section
variable {X : Cx}
theorem cr_setT (hc : X.calm = true) (hu : X.A.units + 100 < cLine) : CallR X (.type "set") (rSetT X.K X.prog X.w) := by
  intro pins s σ H vs us Q I r h
  obtain ⟨l, ks, rfl, hl, hk, lim, q⟩ := h
  obtain ⟨its, rv, pl, hz⟩ := I.list hl
  rw [Vals.ref1 r]
  have hn : H s.heap.objs.size = none := I.hok.fresh (Nat.le_refl _)
  refine call_set_many (P := X.prog) (w := X.w) ks (I.ok.hd hc) pl.isList (by simpa using refs_of_vals rv) (fun p hp => I.isT (hk p hp)) lim (by omega) fun h' tk L es ep t R g k => ?_
  refine ⟨.ref _, upd H s.heap.objs.size (SetQO X.prog X.w s.heap.objs.size L), I.laid (t' := tk) k (Nat.le_refl _) (setQO_new R.part), rfl, q _ L hn (fun p hp => List.mem_of_mem_take (g.sub p hp)) (fun p hp => g.all p (by rw [List.take_length]; exact hp)) R.once⟩
def rSortT (K : PySem.W.Frag) (P : Program) (w : World) : List V → Hp → VK → Prop := fun vs H Q => ∃ (A : Addr → Prop) (a : Addr) (L : List (Addr × List Int)), vs = [V.ref a] ∧ H a = some (SetQO P w a L) ∧ (∀ p ∈ L, SqT K H p.1 (p.2.map V.int)) ∧ (∀ p ∈ L, Dv A K H (.ref p.1) (tI p.2)) ∧
  ((∀ p ∈ L, p.2 ≠ []) ∨ L.length < 2) ∧ ∀ q us', H q = none → DvAll A K H us' ((sortI (L.map (·.2))).map tI) → Q (.ref q) (upd H q (.lst us'))
theorem dvs_of {A : Addr → Prop} {K : PySem.W.Frag} {H : Hp} : ∀ {L : List (Addr × List Int)}, (∀ p ∈ L, Dv A K H (.ref p.1) (tI p.2)) → DvAll A K H (L.map fun p => V.ref p.1) (L.map fun p => tI p.2)
  | [], _ => .nil
  | p :: L, h => .cons (h p List.mem_cons_self) (dvs_of fun q hq => h q (List.mem_cons_of_mem _ hq))
open PySem.W in
theorem cr_sortT (hc : X.calm = true) (hu : X.A.units + 100 < cLine) : CallR X (.builtin "sorted") (rSortT X.K X.prog X.w) := by
  intro pins s σ H vs us Q I r h
  obtain ⟨B, a, L, rfl, ha, hk, hd, hne, q⟩ := h
  have R0 : SetQ0 X.prog X.w s.heap a L := (I.hok a _ ha).1
  obtain ⟨es, ep, t, R⟩ := R0.whole fun p hp => I.isT (hk p hp)
  obtain ⟨o, eo, ex, ed⟩ := R.obj
  have zs := R.size
  have few := R.less
  rw [Vals.ref1 r]
  refine Calls.call_function_entry kind_sorted plain_sorted entry_sorted (args_sorted1 _) ?_
  unfold Builtin.«sorted»
  refine wpAny_bind (m := checkCount "sorted" 1 1 _) (wpAny_pure ?_)
  refine wpAny_bind (collect_set (A := X.A.in1) (I.ok.hd hc) ⟨o, eo, ex.1, ed⟩ R.fit (by unfold scanBound; omega) R.tab.up R.byP fun s1 out k1 z1 g1 o1 pm => ?_)
  obtain ⟨hp1, gg, dd, tt, oo⟩ := s1
  have o1 : oo = s.os := o1
  have g1 : gg = s.gens := g1
  subst o1
  dsimp only at k1 z1
  have rows : es.toList.map (·.2) = L.map fun p => Value.ref p.1 := by
    rw [R.row]
    unfold rowsOf
    rw [List.map_map]; rfl
  rw [rows] at pm
  obtain ⟨L1, p1, e1⟩ := perm_lift pm L rfl
  subst e1
  have hd1 : ∀ p ∈ L1, Dv B X.K H (.ref p.1) (tI p.2) := fun p hp => hd p (p1.mem_iff.mp hp)
  have dv := dvs_of hd1
  have rv : Vals (L1.map fun p => V.ref p.1) (L1.map fun p => Value.ref p.1) := vals_of_refs L1
  have len1 : L1.length = L.length := p1.length_eq
  have lout : (L1.map fun p => Value.ref p.1).length ≤ sizeLine := by rw [List.length_map, len1, sizeLine_eq]; omega
  have each := each_of dv rv
  obtain ⟨as, hr⟩ := Dp.readsAll I (L1.map fun p => tI p.2) _ _ dv.dp rv
  have al : AllAlike (L1.map fun p => tI p.2) := fun x hx y hy => by
    obtain ⟨p, _, rfl⟩ := List.mem_map.mp hx
    obtain ⟨p', _, rfl⟩ := List.mem_map.mp hy
    exact alike_tI p.2 p'.2
  refine wpAny_bind (wpAny_newList ?_ lout)
  generalize hvals : (L1.map fun p => Value.ref p.1) = outs at *
  have hoL : (hp1.push (seqObj "list" outs.toArray 0)).get? hp1.objs.size = some (seqObj "list" outs.toArray 0) := Heap.get?_push_size _ rfl
  have er : EachIs (fun v b => ∃ as, Reads s.heap v ((fun x => x) b) as) outs (L1.map fun p => tI p.2) := readsAll_each (fun x => x) (as := as) (by rw [List.map_id']; exact hr)
  have er' : EachIs (fun v b => ∃ as, Reads (sortingHeap (hp1.push (seqObj "list" outs.toArray 0)) hp1.objs.size outs) v ((fun x => x) b) as) outs (L1.map fun p => tI p.2) :=
    er.mono fun _ _ ⟨as, rd⟩ => ⟨as, PyProof.Rows.Reads.keeps (fun b u e => sortingHeap_old (Nat.ne_of_lt (Heap.lt_size (k1 b u e))) (Heap.get?_push_of_some _ (k1 b u e))) rd⟩
  have er2 : EachIs (fun v d => ∃ as, Reads (sortingHeap (hp1.push (seqObj "list" outs.toArray 0)) hp1.objs.size outs) v d as) outs ((L1.map fun p => tI p.2).map fun x => x) :=
    each_map (R := fun v d => ∃ as, Reads (sortingHeap (hp1.push (seqObj "list" outs.toArray 0)) hp1.objs.size outs) v d as) (fun x => x) er'
  have al' : AllAlike ((L1.map fun p => tI p.2).map fun x => x) := by rw [List.map_id']; exact al
  have room : ∀ d, d ∈ (L1.map fun p => tI p.2).map (fun x => x) → X.A.in1.in1.units + d.depth < cLine := fun d hd => by
    rw [List.map_id'] at hd
    obtain ⟨p, _, rfl⟩ := List.mem_map.mp hd
    have := depth_tI p.2
    show X.A.units + 1 + 1 + _ < _
    omega
  have S : SortsAt X.prog X.w X.A.in1.in1 { s with heap := sortingHeap (hp1.push (seqObj "list" outs.toArray 0)) hp1.objs.size outs, gens := gg, drawn := dd, toks := tt } (dataKind (sortingHeap (hp1.push (seqObj "list" outs.toArray 0)) hp1.objs.size outs) ((L1.map fun p => tI p.2).map fun x => x)) outs := by
    rcases hne with hne | hne
    · refine SortsAt.data (s := { s with heap := sortingHeap (hp1.push (seqObj "list" outs.toArray 0)) hp1.objs.size outs, gens := gg, drawn := dd, toks := tt }) er2 al' (.inl fun d hd => ?_) room
      rw [List.map_id'] at hd
      obtain ⟨p, hp, rfl⟩ := List.mem_map.mp hd
      cases c : p.2 with
      | nil => exact absurd c (hne p (p1.mem_iff.mp hp))
      | cons x k => exact ⟨.int x, k.map .int, rfl⟩
    · refine sorts_few (s := { s with heap := sortingHeap (hp1.push (seqObj "list" outs.toArray 0)) hp1.objs.size outs, gens := gg, drawn := dd, toks := tt }) er2 al' (fun d hd e => ?_) room (by rw [← hvals, List.length_map, len1]; exact hne)
      rw [List.map_id'] at hd
      obtain ⟨p, _, rfl⟩ := List.mem_map.mp hd
      cases e
  refine wpAny_bind (wpAny_holding (wpAny_call_entry slot_list_sort ⟨_, hoL, rfl⟩ entry_list_sort
    (list_sort_vals (s := { s with heap := hp1.push (seqObj "list" outs.toArray 0), gens := gg, drawn := dd, toks := tt }) hoL S lout ⟨_, rfl, ?_⟩) (args_list_sort _)))
  have sd := sortVals_data false each er' al'
  generalize sortVals _ false outs outs = sv at sd ⊢
  obtain ⟨us', v1, v2⟩ := of_each sd
  have es2 : (L1.map fun p => tI p.2).mergeSort (dataLe false fun x => x) = (sortI (L.map (·.2))).map tI := by
    have e1 : (L1.map fun p => tI p.2) = (L1.map (·.2)).map tI := by rw [List.map_map]; rfl
    rw [e1]
    exact (srt_tI _).trans (congrArg (List.map tI) (sortI_same (p1.map (·.2))))
  rw [es2] at v1
  obtain ⟨c, hc2⟩ := sortedHeap_at (vs := outs) (out := sv.toArray) hoL
  have lus : us'.length ≤ sizeLine := by
    rw [v1.length, List.length_map, (sortI_perm _).length_eq, List.length_map, sizeLine_eq]
    omega
  have kept : ∀ b u, s.heap.get? b = some u → (sortedHeap (hp1.push (seqObj "list" outs.toArray 0)) hp1.objs.size outs sv.toArray).get? b = some u := fun b u e => by
    have hb := Heap.lt_size (k1 b u e)
    rw [sortedHeap_old (Nat.ne_of_lt hb) (by rw [size_push']; exact Nat.lt_succ_of_lt hb)]
    exact Heap.get?_push_of_some _ (k1 b u e)
  have hn : H hp1.objs.size = none := I.hok.fresh z1
  have J : Inv X pins σ (upd H hp1.objs.size (.lst us')) { s with heap := sortedHeap (hp1.push (seqObj "list" outs.toArray 0)) hp1.objs.size outs sv.toArray, gens := gg, drawn := dd, toks := tt } :=
    I.call (ch := []) (Un.laid kept z1 hn) (I.hok.laid kept z1 ⟨lus, _, c, v2, hc2⟩) (by have g2 : gg = s.gens := g1; exact g2 ▸ I.bare) (fun _ z => nomatch z)
  exact wpAny_pure ⟨_, rfl, .ref hp1.objs.size, _, J, rfl, q _ us' hn v1⟩
end
theorem sq_of_dv {A : Addr → Prop} {K : PySem.W.Frag} {H : Hp} {a : Addr} {k : List Int} (d : Dv A K H (.ref a) (tI k)) : SqT K H a (k.map V.int) := by
  obtain ⟨b, xs, e, h1, h2, _⟩ := DvB.tup (T := none) (.inl d)
  cases e
  rw [← h2.ints]
  exact h1
theorem keyed {A : Addr → Prop} {K : PySem.W.Frag} {H : Hp} : ∀ {ks : List (List Int)} {us : List V}, DvAll A K H us (ks.map tI) → ∃ ps : List (Addr × List Int), us = ps.map (fun p => V.ref p.1) ∧ ps.map (·.2) = ks ∧ ∀ p ∈ ps, Dv A K H (.ref p.1) (tI p.2)
  | [], _, h => by cases h; exact ⟨[], rfl, rfl, fun p hp => (by cases hp)⟩
  | k :: ks, _, h => by
    cases h with
    | cons h1 h2 =>
      obtain ⟨ps, e1, e2, e3⟩ := keyed h2
      obtain ⟨a, xs, rfl, _⟩ := DvB.tup (T := none) (.inl h1)
      refine ⟨(a, k) :: ps, by rw [e1]; rfl, by rw [← e2]; rfl, fun p hp => ?_⟩
      rcases List.mem_cons.mp hp with rfl | hp
      · exact h1
      · exact e3 p hp
theorem ev_sortSetT {X : Cx} {e : Expr} {ds : Fds} {p p2 pos pos2 : Pos} (hc : X.calm = true) (hu : X.A.units + 100 < cLine) (hg : Gl X "sorted") (hm : X.mg "sorted" = none) (hg2 : Gl X "set") (hm2 : X.mg "set" = none) (ha : EvD X [e] ds)
    (hbs : bootBuiltins "sorted" = some (.builtin "sorted")) (he : starEach [e] X.env = (false, eval e X.env) :: starEach [] X.env := by rfl)
    (he2 : starEach [Expr.Call (.Name "set" p2) [e] [] pos2] X.env = (false, eval (Expr.Call (.Name "set" p2) [e] [] pos2) X.env) :: starEach [] X.env := by rfl)
    (hpl : (backTo pos (starEach [] X.env)).any (·.1) = false := by rfl) (hpl2 : (backTo pos2 (starEach [] X.env)).any (·.1) = false := by rfl) :
    EvE X (.Call (.Name "sorted" p) [.Call (.Name "set" p2) [e] [] pos2] [] pos) (eApp gSortSetT ds) := by
  have inner := pe_callTy (cr_setT hc hu) hg2 hm2 PyProof.Rows.boot_set ha (pos := pos2) (p := p2) (he := he) (hpl := hpl2)
  refine peI (pe_callB (cr_sortT hc hu) hg hm hbs (pa_cons inner pa_nil he2) (by decide) (by decide) he2 hpl) fun σ H Q h => ?_
  refine app_run (r := fun vs H Q => rSetT X.K X.prog X.w vs H fun v H2 => rSortT X.K X.prog X.w [v] H2 Q) (fun A T vs xs w H Q tr rx e q => ?_) h
  unfold gSortSetT at e
  split at e
  · rename_i ys
    obtain ⟨ks, h1, e⟩ := Option.bind_eq_some_iff.mp e
    split at e
    · rename_i ok
      cases e
      rw [Bool.and_eq_true, decide_eq_true_eq] at ok
      obtain ⟨v, rfl, r⟩ := rx.one
      obtain ⟨a, us, rfl, k1, k2⟩ := r.lst
      rw [keysT_ok h1] at k2
      obtain ⟨ps, e1, e2, e3⟩ := keyed k2
      subst e1
      have lp : ps.length = ks.length := by rw [← e2, List.length_map]
      refine ⟨a, ps, rfl, k1, fun p hp => sq_of_dv (e3 p hp), by omega, fun b L hb sub all once => ⟨A, b, L, rfl, upd_same, fun p hp => sq_of_dv ((e3 p (sub p hp)).mono (Grow.upd hb).keep), fun p hp => (e3 p (sub p hp)).mono (Grow.upd hb).keep, ?_, fun c us' hc' dv => ?_⟩⟩
      · have kin : ∀ p ∈ ps, p.2 ∈ ks := fun p hp => by rw [← e2]; exact List.mem_map.mpr ⟨p, hp, rfl⟩
        have ok1 := ok.1
        unfold okK at ok1
        rw [Bool.or_eq_true, List.all_eq_true, List.all_eq_true] at ok1
        rcases ok1 with z | z
        · left
          intro p hp c
          have := z p.2 (kin p (sub p hp))
          rw [c] at this
          cases this
        · right
          have nils : ∀ p ∈ L, p.2 = [] := fun p hp => List.isEmpty_iff.mp (z p.2 (kin p (sub p hp)))
          match L, once, nils with
          | [], _, _ => decide
          | [_], _, _ => exact (by decide : 1 < 2)
          | p1 :: p2 :: L, once, nils =>
            exfalso
            rw [List.map_cons, List.map_cons] at once
            refine (List.nodup_cons.mp once).1 ?_
            rw [nils p1 (by simp), nils p2 (by simp)]
            exact List.mem_cons_self
      · have pm : (L.map (·.2)).Perm (ddup ks) := (List.perm_ext_iff_of_nodup once (ddup_nd ks)).mpr fun z => by
          rw [ddup_mem, ← e2]
          constructor
          · intro hz
            obtain ⟨p, hp, rfl⟩ := List.mem_map.mp hz
            exact List.mem_map.mpr ⟨p, sub p hp, rfl⟩
          · intro hz
            obtain ⟨p, hp, rfl⟩ := List.mem_map.mp hz
            exact all p hp
        rw [sortI_same pm] at dv
        refine q _ _ ((Grow.upd hb).trans (Grow.upd hc')) (Res.back (fun b2 hb2 => ?_) (new_lst hc' dv))
        cases hh : H b2 with
        | none => rfl
        | some u => rw [Grow.upd hb b2 u hh] at hb2; cases hb2
    · cases e
  · cases e
end L2.Lv
set_option maxHeartbeats 1000000
namespace L2.Lv
open PySem PySem.Spec PyProof.Rows
/-! d.get(k, x) -/
section
variable {X : Cx} {pins : List (Addr × Obj)} {σ : St} {H : Hp} {s : Shared} {x y z : V} {u v r : Value} {E : Value → Shared → Prop}
theorem look_get2 (hu : X.A.units + 1 < cLine) (I : Inv X pins σ H s) {o : Option V} (g : DLook X.K x y H o) (rx : RelV x v) (ry : RelV y u) (rz : RelV z r) {Q : Value → Shared → Prop} (h : ∀ w' s', Inv X pins σ H s' → RelV (o.getD z) w' → Q w' s') :
    wpAny (model X.prog X.w) X.A (call (.builtin "dict.get") [v, u, r]) Q E s := by
  rcases g with ⟨a, ks, i, rfl, rfl, e, l⟩ | ⟨a, xs, rest, A, b, ns, rfl, rfl, e, p, hk, l⟩
  · cases rx
    exact d_get2 (y := .int i) hu I ((show DGet H a (.int i) (valV ks (Sum.inl i)) from .inl ⟨ks, Sum.inl i, e, rfl, rfl⟩) |> fun q => l ▸ q) ry rz h
  · cases rx
    cases ry
    refine call_meetsIn PySem.F.slot_dict_get (I.dct e p).2.typeIs PySem.F.entry_dict_get (PySem.F.args_dict_get_3 _ _ _) (meetsH_dict_get_default (tupleKind (intKind X.prog X.w)) a b (I.dct e p).1.2.1 r) ⟨room_t hu, ns, _, I.keyT hk, (I.dct e p).2, ?_⟩
    cases o with
    | none =>
      rw [show atKey xs ns = none from l]
      exact h _ _ (I.tok _) rz
    | some q =>
      obtain ⟨c, c1, c2⟩ := l
      rw [c1]
      exact h _ _ (I.tok _) c2
/-- it is a dict -/
def IsDW (K : PySem.W.Frag) (x : V) (H : Hp) : Prop := ∃ A a kvs, x = .ref a ∧ DctAt A K H a kvs
theorem isDW_at (I : Inv X pins σ H s) (d : IsDW X.K x H) (rx : RelV x v) : s.TypeIs v "dict" ∧ ∀ b, v = .ref b → ∃ ob, s.heap.get? b = some ob ∧ ob.dict = none := by
  obtain ⟨A, a, kvs, rfl, ⟨ks, e1, p⟩ | ⟨xs, rest, e0, e1, p⟩ | ⟨ks, rest, o, e0, e1, p⟩⟩ := d
  · cases rx
    obtain ⟨t1, t2, _⟩ := isD_at (a := a) I (.inl ⟨ks, .inl e1⟩)
    exact ⟨t1, t2⟩
  · cases rx
    refine ⟨(I.dct e1 p).2.typeIs, fun b q => ?_⟩
    cases q
    obtain ⟨hz, hs, P', w', o, es, ep, ho, hx, hdt, he, hn⟩ := (I.dct e1 p).1
    exact ⟨o, ho, hx.2.1⟩
  · cases rx
    obtain ⟨t1, t2, _⟩ := isD_at (a := a) I (.inl ⟨ks, .inr ⟨o, e1⟩⟩)
    exact ⟨t1, t2⟩
end
def dGet3 (x y z : PyData) : Option W := match x, z with
  | .dict kvs, .int i => (lookD kvs y).map fun r => .d (r.getD (.int i))
  | _, _ => none
def eGetD (da db dc : Fd) : Fe := fun ρ n => (da ρ n).bind fun p => (db ρ p.2).bind fun q => (dc ρ q.2).bind fun r => (dGet3 p.1 q.1 r.1).map (·, r.2)
theorem ev_getD {X : Cx} {o e f : Expr} {da db dc : Fd} {apos cpos : Pos} (hu : X.A.units + 1 < cLine) (ha : EvB X o da) (hb : EvB X e db) (hc : EvB X f dc) (m : M2 X o "get" apos e f cpos) : EvE X (.Call (.Attribute o "get" apos) [e, f] [] cpos) (eGetD da db dc) := by
  have base : PE X (.Call (.Attribute o "get" apos) [e, f] [] cpos) (fun σ H Q => tVB X.K da σ H fun x H1 => IsDW X.K x H1 ∧ tVB X.K db σ H1 fun y H2 => tVB X.K dc σ H2 fun z H3 => ∃ ov, DLook X.K x y H3 ov ∧ Q (ov.getD z) H3) := ⟨fun pins s σ H Q I h => by
    refine wpAny_Call_method m.base m.few m.line PySem.F.plainAttrs_dict PySem.F.slot_dict_get PySem.F.type_dict_get (thn (ha.run pins s σ H _ I h) fun u s1 ⟨x, H1, I1, rx, d, q1⟩ => ?_)
    obtain ⟨t1, t2⟩ := isDW_at I1 d rx
    refine ⟨t1, t2, ?_⟩
    rw [m.trees]
    refine Calls.callWith_builtin rfl (Calls.evalArgs_plain (Calls.spliced_cons (thn (hb.run pins s1 σ H1 _ I1 q1) fun iv s2 ⟨y, H2, I2, ry, q2⟩ =>
      Calls.spliced_cons (thn (hc.run pins s2 σ H2 _ I2 q2) fun fv s3 ⟨z, H3, I3, rz, ov, g, q3⟩ => Calls.spliced_nil ?_))))
    exact look_get2 hu I3 g rx ry rz fun w' s4 I4 rw' => ⟨_, H3, I4, rw', q3⟩⟩
  refine peI base fun σ H Q h => ?_
  obtain ⟨C, O, ρ, n, w, n', hf, E, q⟩ := h
  unfold eGetD at hf
  obtain ⟨⟨x, n1⟩, e1, hf⟩ := Option.bind_eq_some_iff.mp hf
  obtain ⟨⟨y, n2⟩, e2, hf⟩ := Option.bind_eq_some_iff.mp hf
  obtain ⟨⟨z, n3⟩, e3, hf⟩ := Option.bind_eq_some_iff.mp hf
  obtain ⟨w', e4, hf⟩ := Option.map_eq_some_iff.mp hf
  cases hf
  refine ⟨C, O, ρ, n, x, n1, e1, E, fun vx H1 s1 t1 r1 => ?_⟩
  have E1 := E.step s1 t1
  have hz : ∃ i, z = .int i := by
    cases z with
    | int i => exact ⟨i, rfl⟩
    | _ => cases x <;> cases e4
  obtain ⟨i, rfl⟩ := hz
  cases x with
  | dict kvs =>
    obtain ⟨r, e5, e6⟩ := Option.map_eq_some_iff.mp (show (lookD kvs y).map _ = some w from e4)
    refine ⟨?_, C, O, ρ, n1, y, n2, e2, E1, fun vy H2 s2 t2 r2 => ?_⟩
    · obtain ⟨a, h1, h2⟩ := r1.dct
      exact ⟨_, a, kvs, h1, h2⟩
    have E2 := E1.step s2 t2
    refine ⟨C, O, ρ, n2, .int i, _, e3, E2, fun vz H3 s3 t3 r3 => ?_⟩
    have r1' := (r1.step s2 Av.t).step s3 Av.t
    have r2' := r2.step s3 Av.t
    obtain ⟨ov, g, hr⟩ := lookD_ok r1' r2' e5
    refine ⟨ov, g, q _ H3 ((s1.trans s2).trans s3) t3 ?_⟩
    subst e6
    cases r with
    | none =>
      rw [show ov = none from hr, r3.int]
      exact .int i
    | some d =>
      obtain ⟨v, rfl, dv⟩ := hr
      exact dv
  | _ => cases e4
end L2.Lv
set_option maxHeartbeats 1000000
namespace L2.Lv
open PySem PySem.Spec PyProof.Rows PySem.W
/-! sorted(xs), xs empty tuples -/
section
variable {prog : Program} {w : World} {A : Around} {E : Value → Shared → Prop} {s : Shared}
end
section
variable {X : Cx}
end
end L2.Lv
namespace L2.Lv
open PySem PySem.Spec PyProof.Rows
/-! an int, reckoned while a dict is gone through -/
def hdM : List (PyData × PyData) → Bool
  | kv :: _ => isMk kv || isFz kv
  | [] => false
def eLockI (i : Nat) (f : Fe) : Fe := fun ρ n => match ρ[i]? with
  | some (.od kvs) => if hdM kvs = true then none else (f (ρ.set i (.od (markF :: kvs))) n).bind fun p => match p.1 with
    | .d (.int z) => some (.d (.int z), p.2)
    | _ => none
  | _ => none
def iKeyF (i : Nat) : Fi := fun ρ n => match ρ[i]? with
  | some (.od (kv :: rest)) => if isFz kv = true then some (rest.map (·.1), n) else none
  | _ => none
section
variable {X : Cx} {e : Expr} {f : Fe}
theorem ev_lockI (i : Nat) (h : EvE X e f) : EvE X e (eLockI i f) := peI (pe_lock h) (by
  rintro σ H Q ⟨C, O, ρ, n, w, n', hf, E, q⟩
  unfold eLockI at hf
  split at hf
  · rename_i kvs hx
    split at hf
    · cases hf
    · rename_i nm
      obtain ⟨⟨w1, n1⟩, e1, hf⟩ := Option.bind_eq_some_iff.mp hf
      simp only at hf
      split at hf
      · rename_i z
        cases hf
        obtain ⟨a, h1, h2, h3⟩ := E.sl _ _ hx
        have hav : Av C O a := .inr (.inr ⟨i, h1⟩)
        obtain ⟨t1, t2, t3⟩ := E.own i a h1
        rcases h3 with ⟨ks, e3, p⟩ | ⟨xs, rest, rfl, e3, p⟩ | ⟨ks, rest, o, rfl, e3, p⟩
        · refine ⟨a, .dK ks, e3, True.intro, fun od => ?_⟩
          obtain ⟨E', _⟩ := E.write (o := .frz od (.dK ks)) (w' := .od (markF :: kvs)) (lt_of_get (by assumption)) h1
            ⟨a, rfl, h2, .inr (.inr ⟨ks, kvs, od, rfl, upd_same, Paired.impl (fun x y z => ⟨z.1, z.2.mono (keep_upd hav)⟩) p⟩)⟩
          refine ⟨C, O, _, n, _, _, e1, E', fun v H' s t r => ⟨s.st a _ upd_same t1, ?_⟩⟩
          have hv : Dv (Av C O) X.K H' v (.int z) := r
          have st : Step C H (upd H' a (.dK ks)) := ⟨fun b o g nt tt => by
            by_cases c : b = a
            · subst c; rw [upd_same, ← e3]; exact g
            · rw [upd_ne c]
              exact s.st0 b o (by rw [upd_ne c]; exact g) nt tt, (fun b g => by
            by_cases c : b = a
            · subst c; rw [upd_same] at g; cases g
            · rw [upd_ne c] at g
              have := s.fr b g
              rwa [upd_ne c] at this), fun P q G hB hG tt => by
            have na' : H' a = some (.frz od (.dK ks)) := s.st a _ upd_same t1
            have t1' : TabN G (upd H a (.frz od (.dK ks))) P q := tt.go (fun ps e => by rw [upd_ne (fun z => by rw [z, e3] at e; cases e)]; exact e) fun c n e => ⟨n, by rw [upd_ne (fun z => by rw [z, e3] at e; exact codeO_dK (Option.some.inj e))]; exact e⟩
            have t2' := s.tb P q G hB (fun c z y => hG c z (by
              by_cases w : c = a
              · rw [w, upd_same] at y; cases y
              · rw [upd_ne w] at y; exact y)) t1'
            exact t2'.go (fun ps e => by rw [upd_ne (fun z => by rw [z, na'] at e; cases e)]; exact e) fun c n e => ⟨n, by rw [upd_ne (fun z => by rw [z, na'] at e; exact codeO_frz (Option.some.inj e))]; exact e⟩⟩
          have tw : TownAt C (upd H' a (.dK ks)) n' := fun b g => by
            have ne : b ≠ a := fun c => t1 (.inl (by rw [← c]; exact g))
            rw [upd_ne ne]
            exact t b g
          cases hv
          exact q _ _ st tw (.int z)
        · exact absurd rfl nm
        · exact absurd rfl nm
      · cases hf
  · cases hf)
theorem isFz_eq {p : PyData × PyData} (h : isFz p = true) : p = markF := by
  obtain ⟨x, y⟩ := p
  cases x with
  | none =>
    cases y with
    | bool b => cases b with
      | true => rfl
      | false => cases h
    | _ => cases h
  | _ => cases h
theorem ej_keyF {tg : Expr} {i : Nat} (hb : PE X e (tVar i)) : EvJ X false tg e (iKeyF i) := piI (pi_keys hb) (by
  rintro σ H R ⟨C, O, ρ, n, xs, n', hf, E, q⟩
  unfold iKeyF at hf
  split at hf
  · rename_i kv rest hx
    split at hf
    · rename_i c
      cases hf
      obtain rfl := isFz_eq c
      obtain ⟨a, h1, h2, h3⟩ := E.sl _ _ hx
      obtain ⟨t1, t2, t3⟩ := E.own i a h1
      have F : ∃ ks o, H a = some (.frz o (.dK ks)) ∧ Paired (fun p q => KeyD p.1 q.1 ∧ Dv (Av C O) X.K H p.2 q.2) ks rest := by
        rcases h3 with ⟨ks, e3, p⟩ | ⟨zs, rest', e0, e3, p⟩ | ⟨ks, rest', o, e0, e3, p⟩
        · cases p with
          | @cons p _ _ _ h _ =>
            obtain ⟨k, v⟩ := p
            have h1 : KeyD k PyData.none := h.1
            cases h1
        · exact absurd (congrArg (fun l => isFz (l.headD markT)) e0) nofun
        · cases e0; exact ⟨ks, o, e3, p⟩
      obtain ⟨ks, o, e3, p⟩ := F
      refine ⟨.ref a, h2, a, o, rfl, .inl ⟨ks, e3, q _ H Step.refl E.town ?_⟩⟩
      intro H2 k g
      have e4 : H2 a = some (.frz o (.dK ks)) := k a _ e3 t1
      have hl := Paired.length p
      refine ⟨fun j x hx => ?_, e4, by rw [List.length_map, hl]; exact Nat.le_refl _⟩
      rw [List.getElem?_map] at hx
      obtain ⟨y, hy, rfl⟩ := Option.map_eq_some_iff.mp hx
      have hj : j < rest.length := (List.getElem?_eq_some_iff.mp hy).1
      refine ⟨⟨e4, by omega⟩, ?_⟩
      rintro v H' ⟨rfl, kk, u, hk, rfl⟩
      refine ⟨Grow.refl, fun B' _ _ => ?_⟩
      obtain ⟨y', hy', r1, _⟩ := paired_get p hk
      rw [hy] at hy'
      cases hy'
      generalize y.1 = z at r1
      cases r1 with
      | int i => exact .inl (.int _)
      | str s => exact .inl (.str _)
    · cases hf
  · cases hf)
end
end L2.Lv
namespace L2.Lv
open PySem PySem.Spec PyProof.Rows
/-! sum and min of a tuple of ints -/
section
variable {X : Cx}
end
end L2.Lv
namespace L2.Lv
open PySem PySem.Spec PyProof.Rows
/-! len(dict([(b, v), ..])), b bools -/
def pairsB : List PyData → Option (List Bool)
  | [] => some []
  | .tuple [.bool b, _] :: xs => (pairsB xs).map (b :: ·)
  | _ :: _ => none
def bcnt (bs : List Bool) : Nat := (if true ∈ bs then 1 else 0) + if false ∈ bs then 1 else 0
def gLenDictB : List PyData → Option W
  | [.list xs] => (pairsB xs).bind fun bs => if bs.length ≤ 100000 then some (.d (.int (bcnt bs : Nat))) else none
  | _ => none
section
variable {X : Cx} {A : Addr → Prop} {H : Hp}
end
end L2.Lv
namespace L2.Lv
open PySem PySem.Spec PyProof.Rows
/-! d.setdefault(k, v), keys tuples of ints -/
def sSetDef (i : Nat) (d : Fd) (f : Fe) : Fs := fun ρ n => (d ρ n).bind fun k => (f ρ k.2).bind fun p => p.1.frz.val.bind fun x => match k.1, ρ[i]? with
  | .tuple ks, some (.od (kv :: rest)) => if isMk kv = true then (intsOf ks).bind fun ns => if rest.length < big then some (.nx (ρ.set i (.od (markT :: (if (lookT rest ns).isSome = true then rest else putT rest ns x)))) p.2) else none else none
  | _, _ => none
section
variable {X : Cx} {e b f : Expr} {fe : Fe} {d : Fd} {pos cpos apos : Pos}
end
end L2.Lv
namespace L2.Lv
open PySem PySem.Spec PyProof.Rows
/-! tuple(d.values()), keys tuples of ints -/
section
variable {prog : Program} {w : World} {A : Around} {E : Value → Shared → Prop} {s : Shared} {r d : Addr} {n : Nat} {P : Nat → Value → Prop} {OK : Heap → Prop}
end
def eTupVals (da : Fd) : Fe := fun ρ n => (da ρ n).bind fun p => match p.1 with
  | .dict (kv :: rest) => if isMk kv = true then some (.d (.tuple (rest.map (·.2))), p.2) else none
  | _ => none
section
variable {X : Cx} {o : Expr} {td : TE}
end
end L2.Lv
namespace L2.Lv
open PySem PySem.Spec PyProof.Rows
/-! len(dict([(k, v), ..])), k tuples of texts, ints and such tuples -/
mutual
def nkOf : PyData → Option NestedKey
  | .int i => some (.num i)
  | .str x => some (.text x)
  | .tuple xs => (nkAll xs).map .tup
  | _ => none
def nkAll : List PyData → Option (List NestedKey)
  | [] => some []
  | x :: xs => (nkOf x).bind fun k => (nkAll xs).map (k :: ·)
end
section
variable {X : Cx} {A : Addr → Prop} {H : Hp}
mutual
theorem nest_of {pins : List (Addr × Obj)} {σ : St} {s : Shared} (I : Inv X pins σ H s) : ∀ (d : PyData) (v : V) (u : Value) (k : NestedKey), Dv A X.K H v d → RelV v u → nkOf d = some k → NestedIs s.heap k u
  | .int i, v, u, k, h, r, e => by
    cases h
    obtain ⟨t, rfl⟩ := r
    cases e
    exact .int _ _
  | .str x, v, u, k, h, r, e => by
    cases h
    obtain ⟨t, rfl⟩ := r
    cases e
    exact .text _ _
  | .tuple ds, v, u, k, h, r, e => by
    unfold nkOf at e
    obtain ⟨ks, e1, rfl⟩ := Option.map_eq_some_iff.mp e
    cases h with
    | tup hs ha =>
      cases r
      obtain ⟨its, r2, ht, _⟩ := I.tuple (sqT_of hs)
      obtain ⟨o, ho, hc, n, hd⟩ := ht
      exact .tup ho hc hd (nest_all I ds _ _ ks ha r2 e1)
  | .none, v, u, k, h, r, e => by cases e
  | .bool _, v, u, k, h, r, e => by cases e
  | .list _, v, u, k, h, r, e => by cases e
  | .dict _, v, u, k, h, r, e => by cases e
theorem nest_all {pins : List (Addr × Obj)} {σ : St} {s : Shared} (I : Inv X pins σ H s) : ∀ (ds : List PyData) (vs : List V) (us : List Value) (ks : List NestedKey), DvAll A X.K H vs ds → Vals vs us → nkAll ds = some ks → NestedAll s.heap ks us
  | [], _, _, ks, h, r, e => by
    cases h
    cases r
    cases e
    exact .nil
  | d :: ds, _, _, ks, h, r, e => by
    unfold nkAll at e
    obtain ⟨k, e1, e⟩ := Option.bind_eq_some_iff.mp e
    obtain ⟨ks', e2, rfl⟩ := Option.map_eq_some_iff.mp e
    cases h with
    | cons h1 h2 =>
      cases r with
      | cons r1 r2 => exact .cons (nest_of I d _ _ k h1 r1 e1) (nest_all I ds _ _ ks' h2 r2 e2)
end
end
end L2.Lv
namespace L2.Lv
open PySem PySem.Spec PyProof.Rows PySem.W
open PySem.SeqAt (RcLt EqAt firstLt firstLt_yes firstLt_no pairEq room_here room_in room_head room_tail)
/-! sorted of tuples whose items may be of unlike kinds behind the first place that differs -/
mutual
def aLz : PyData → PyData → Bool
  | .int _, .int _ => true
  | .str _, .str _ => true
  | .tuple xs, .tuple ys => aLzAll xs ys
  | _, _ => false
def aLzAll : List PyData → List PyData → Bool
  | x :: xs, y :: ys => if PyData.eqv x y = true then W.alike x y && aLzAll xs ys else aLz x y
  | [], _ => true
  | _ :: _, [] => true
end
theorem lz_yes {x y : PyData} {xs ys : List PyData} (h : aLzAll (x :: xs) (y :: ys) = true) (e : PyData.eqv x y = true) : W.alike x y = true ∧ aLzAll xs ys = true := by
  rw [aLzAll, if_pos e, Bool.and_eq_true] at h
  exact h
theorem lz_no {x y : PyData} {xs ys : List PyData} (h : aLzAll (x :: xs) (y :: ys) = true) (e : PyData.eqv x y = false) : aLz x y = true := by
  rw [aLzAll, if_neg (by rw [e]; decide)] at h
  exact h
mutual
theorem lz_refl : ∀ d : PyData, aLz d d = true → PyData.eqv d d = true
  | .int _, _ => by simp [PyData.eqv]
  | .str _, _ => by simp [PyData.eqv]
  | .tuple zs, h => by rw [PyData.eqv]; exact lzAll_refl zs (by simpa [aLz] using h)
  | .none, h => absurd h (by simp [aLz])
  | .bool _, h => absurd h (by simp [aLz])
  | .list _, h => absurd h (by simp [aLz])
  | .dict _, h => absurd h (by simp [aLz])
theorem lzAll_refl : ∀ zs : List PyData, aLzAll zs zs = true → PyData.eqvAll zs zs = true
  | [], _ => by simp [PyData.eqvAll]
  | z :: zs, h => by
    have hz : PyData.eqv z z = true := by
      cases q : PyData.eqv z z with
      | true => rfl
      | false => rw [← q]; exact lz_refl z (lz_no h q)
    rw [PyData.eqvAll, hz, lzAll_refl zs (lz_yes h hz).2]; rfl
end
mutual
theorem lz_one {h : Heap} : ∀ (d e : PyData) (v : Value) (as bs : List Addr), aLz d e = true → Reads h v d as → Reads h v e bs → d = e
  | .int _, e, _, _, _, q, r, r' => by
    cases e with
    | int _ => cases r; cases r'; rfl
    | _ => exact absurd q (by simp [aLz])
  | .str _, e, _, _, _, q, r, r' => by
    cases e with
    | str _ => cases r; cases r'; rfl
    | _ => exact absurd q (by simp [aLz])
  | .tuple xs, e, _, _, _, q, r, r' => by
    cases e with
    | tuple ys =>
      cases r with
      | tuple g1 g2 g3 g4 =>
        cases r' with
        | tuple k1 k2 k3 k4 =>
          rw [g1] at k1
          cases k1
          rw [g3] at k3
          cases k3
          rw [lz_ones xs ys _ _ _ (by simpa [aLz] using q) g4 k4]
    | _ => exact absurd q (by simp [aLz])
  | .none, e, _, _, _, q, _, _ => absurd q (by cases e <;> simp [aLz])
  | .bool _, e, _, _, _, q, _, _ => absurd q (by cases e <;> simp [aLz])
  | .list _, e, _, _, _, q, _, _ => absurd q (by cases e <;> simp [aLz])
  | .dict _, e, _, _, _, q, _, _ => absurd q (by cases e <;> simp [aLz])
theorem lz_ones {h : Heap} : ∀ (ds es : List PyData) (vs : List Value) (as bs : List Addr), aLzAll ds es = true → ReadsAll h vs ds as → ReadsAll h vs es bs → ds = es
  | [], es, _, _, _, _, r, r' => by cases r; cases r'; rfl
  | d :: ds, [], _, _, _, _, r, r' => by cases r; cases r'
  | d :: ds, e :: es, _, _, _, q, r, r' => by
    cases r with
    | cons r1 r2 =>
      cases r' with
      | cons k1 k2 =>
        cases z : PyData.eqv d e with
        | true =>
          rw [alike_unique _ _ _ _ _ (lz_yes q z).1 r1 k1, lz_ones ds es _ _ _ (lz_yes q z).2 r2 k2]
        | false =>
          have l := lz_no q z
          have de := lz_one d e _ _ _ l r1 k1
          subst de
          rw [lz_refl d l] at z
          cases z
end
mutual
theorem lz_toks : ∀ (d e : PyData), aLz d e = true → (PyData.eqv d e = true → keyToks d = keyToks e) ∧ (PyData.eqv d e = false → ∀ l m, lexLt itemOrd (keyToks d ++ l) (keyToks e ++ m) = lexLt itemOrd (keyToks d) (keyToks e))
  | .int a, e, q => toks_eqv (.int a) e (by cases e <;> first | rfl | exact absurd q (by simp [aLz]))
  | .str a, e, q => toks_eqv (.str a) e (by cases e <;> first | rfl | exact absurd q (by simp [aLz]))
  | .tuple xs, e, q => by
    cases e with
    | tuple ys =>
      have t := lz_toksAll xs ys (by simpa [aLz] using q)
      simp only [keyToks, PyData.eqv]
      exact t
    | _ => exact absurd q (by simp [aLz])
  | .none, e, q => absurd q (by cases e <;> simp [aLz])
  | .bool _, e, q => absurd q (by cases e <;> simp [aLz])
  | .list _, e, q => absurd q (by cases e <;> simp [aLz])
  | .dict _, e, q => absurd q (by cases e <;> simp [aLz])
theorem lz_toksAll : ∀ (ds es : List PyData), aLzAll ds es = true → (PyData.eqvAll ds es = true → keyToksAll ds = keyToksAll es) ∧ (PyData.eqvAll ds es = false → ∀ l m, lexLt itemOrd (keyToksAll ds ++ l) (keyToksAll es ++ m) = lexLt itemOrd (keyToksAll ds) (keyToksAll es))
  | [], [], _ => ⟨fun _ => rfl, fun z => absurd z (by simp [PyData.eqvAll])⟩
  | [], e :: es, _ => ⟨fun z => absurd z (by simp [PyData.eqvAll]), fun _ l m => by
      simp only [keyToksAll, List.cons_append, List.nil_append]
      exact (lex_atom (by simp) l _).trans (lex_atom (by simp) [] _).symm⟩
  | d :: ds, [], _ => ⟨fun z => absurd z (by simp [PyData.eqvAll]), fun _ l m => by
      simp only [keyToksAll, List.cons_append, List.nil_append]
      exact (lex_atom (by simp) _ m).trans (lex_atom (by simp) _ []).symm⟩
  | d :: ds, e :: es, q => by
    rw [eqv_all_cons, toks_all_cons, toks_all_cons]
    cases z : PyData.eqv d e with
    | true =>
      obtain ⟨b1, b2⟩ := lz_toksAll ds es (lz_yes q z).2
      rw [(toks_eqv d e (lz_yes q z).1).1 z, Bool.true_and]
      refine ⟨fun y => by rw [b1 y], fun y l m => ?_⟩
      simp only [List.cons_append, List.append_assoc]
      have t1 := lex_self (O := itemOrd) (Sum.inl 1) (keyToks e ++ (keyToksAll ds ++ l)) (keyToks e ++ (keyToksAll es ++ m))
      have t2 := lex_self (O := itemOrd) (Sum.inl 1) (keyToks e ++ keyToksAll ds) (keyToks e ++ keyToksAll es)
      exact t1.trans (((lex_pre _ _ _).trans (b2 y l m)).trans ((lex_pre _ _ _).symm.trans t2.symm))
    | false =>
      obtain ⟨_, a2⟩ := lz_toks d e (lz_no q z)
      rw [Bool.false_and]
      refine ⟨fun y => (by cases y), fun _ l m => ?_⟩
      simp only [List.cons_append, List.append_assoc]
      have t1 := lex_self (O := itemOrd) (Sum.inl 1) (keyToks d ++ (keyToksAll ds ++ l)) (keyToks e ++ (keyToksAll es ++ m))
      have t2 := lex_self (O := itemOrd) (Sum.inl 1) (keyToks d ++ keyToksAll ds) (keyToks e ++ keyToksAll es)
      exact (t1.trans (a2 z _ _)).trans (t2.trans (a2 z _ _)).symm
end
theorem lz_lex_no {x y : PyData} {xs ys : List PyData} (h : aLz x y = true) (e : PyData.eqv x y = false) : lexLt itemOrd (keyToksAll (x :: xs)) (keyToksAll (y :: ys)) = dataLt x y := by
  rw [toks_all_cons, toks_all_cons, lex_self (O := itemOrd)]
  exact (lz_toks x y h).2 e _ _
theorem lz_first : ∀ (ds es : List PyData), aLzAll ds es = true →
    firstLt (pairEq ds es) (fun j => dataLt (ds.getD j .none) (es.getD j .none)) (decide (ds.length < es.length)) (List.range (min ds.length es.length)) = lexLt itemOrd (keyToksAll ds) (keyToksAll es)
  | [], [], _ => by simp [firstLt, keyToksAll, lex_irrefl]
  | [], e :: es, _ => by
    simp only [toks_all_cons, keyToksAll]
    rw [lex_diff (O := itemOrd) (by simp)]
    simp [firstLt, itemLt]
  | d :: ds, [], _ => by
    simp only [toks_all_cons, keyToksAll]
    rw [lex_diff (O := itemOrd) (by simp)]
    simp [firstLt, itemLt]
  | d :: ds, e :: es, q => by
    have e1 : min (ds.length + 1) (es.length + 1) = min ds.length es.length + 1 := by omega
    have e2 : decide (ds.length + 1 < es.length + 1) = decide (ds.length < es.length) := by simp
    simp only [List.length_cons]
    rw [e1, e2, List.range_succ_eq_map]
    cases z : PyData.eqv d e with
    | true =>
      have ih := lz_first ds es (lz_yes q z).2
      rw [firstLt_yes (show pairEq (d :: ds) (e :: es) 0 = true from z), firstLt_map, dataLt_all_yes (lz_yes q z).1 z]
      exact ih
    | false =>
      rw [firstLt_no (show pairEq (d :: ds) (e :: es) 0 = false from z), lz_lex_no (lz_no q z) z]
      rfl
end L2.Lv
namespace PySem.SeqAt
open MeetsSeq MeetsSeq2 MeetsSeq3 SeqRoads2
/-- as tuple_ltAt, but < is asked at the first place alone that differs -/
theorem tuple_ltLz (p q : Addr) (us ws : Array Value) (k1 k2 : Nat) (c1 c2 : Option Addr) (t1 t2 : Array (Option Value)) (e r : Nat → Bool) :
    Meets (Builtin.«tuple.__lt__» ⟨[.ref p, .ref q], []⟩)
      (fun A R s => s.heap.get? p = some { cls := .type "tuple", dict := c1, data := .seq us k1, slots := t1 } ∧ s.heap.get? q = some { cls := .type "tuple", dict := c2, data := .seq ws k2, slots := t2 } ∧
        (∀ j (g1 : j < us.size) (g2 : j < ws.size), EqAt A.in1 s us[j] ws[j] (e j)) ∧ (∀ j (g1 : j < us.size) (g2 : j < ws.size), e j = false → (∀ i, i < j → e i = true) → RcLt A.in1 s us[j] ws[j] (r j)) ∧
        R (.ok (.ret (.bool (firstLt e r (decide (us.size < ws.size)) (List.range (min us.size ws.size)))))) s) :=
  .of_wp fun prog w A R s z => by
    obtain ⟨hp, g, d, tk, os⟩ := s
    obtain ⟨z1, z2, he, hr, z⟩ := z
    have f2 := AutoSeq1.sub_tuple_tuple
    have lz : (us.toList.zip ws.toList).length = min us.size ws.size := by simp
    wp_walk using AutoSeq1.wpAny_loadPart' z1, AutoSeq1.wpAny_loadPart' z2, wpAny_forIn_list _ (fun rest b s' => b.1 = none ∧ s' = ⟨hp, g, d, tk, os⟩ ∧ ∃ i, (∀ j, j < i → e j = true) ∧ rest = (us.toList.zip ws.toList).drop i ∧
      R (.ok (.ret (.bool (firstLt e r (decide (us.size < ws.size)) ((List.range (min us.size ws.size)).drop i))))) ⟨hp, g, d, tk, os⟩) _
    case turn =>
      rintro ⟨y, x⟩ rest b s' ⟨b0, rfl, i, pre, hz, hR⟩
      have lt : i < (us.toList.zip ws.toList).length := by
        rcases Nat.lt_or_ge i (us.toList.zip ws.toList).length with q | q
        · exact q
        · rw [List.drop_of_length_le q] at hz; cases hz
      have g1 : i < us.size := by omega
      have g2 : i < ws.size := by omega
      rw [List.drop_eq_getElem_cons lt] at hz
      injection hz with pr tl
      have ey : y = us[i] := by have := congrArg Prod.fst pr; simpa using this
      have ex : x = ws[i] := by have := congrArg Prod.snd pr; simpa using this
      subst ey ex
      rw [show (List.range (min us.size ws.size)).drop i = i :: (List.range (min us.size ws.size)).drop (i + 1) by simp [List.drop_eq_getElem_cons, show i < min us.size ws.size by omega]] at hR
      refine wpAny_bind (he i g1 g2 prog w _ _ ?_)
      cases ei : e i with
      | true =>
        rw [firstLt_yes ei] at hR
        wp_walk
        refine ⟨rfl, rfl, i + 1, fun j hj => ?_, tl, hR⟩
        rcases Nat.lt_succ_iff_lt_or_eq.mp hj with q | q
        · exact pre j q
        · rw [q]; exact ei
      | false =>
        rw [firstLt_no ei] at hR
        have key : ∀ (E' : Value → Shared → Prop) (Q' : Value → Shared → Prop), Q' (.bool (r i)) ⟨hp, g, d, tk, os⟩ → wpAny (model prog w) A.in1 (PySem.richCompare .Lt us[i] ws[i]) Q' E' ⟨hp, g, d, tk, os⟩ := fun E' Q' q => hr i g1 g2 ei pre prog w E' Q' q
        wp_walk using key _ _
        exact ⟨_, rfl, hR⟩
    case fin =>
      rintro ⟨b1, b2⟩ s' ⟨b0, rfl, i, pre, hz, hR⟩
      simp only at b0
      subst b0
      have ge : min us.size ws.size ≤ i := by
        rcases Nat.lt_or_ge i (us.toList.zip ws.toList).length with q | q
        · rw [List.drop_eq_getElem_cons q] at hz; cases hz
        · exact lz ▸ q
      rw [List.drop_of_length_le (by simpa using ge)] at hR
      wp_walk
      exact ⟨_, rfl, by simpa [Builtin.Tuple.tupleCompareSizes, firstLt] using hR⟩
    case h =>
      exact ⟨rfl, rfl, 0, fun j q => absurd q (Nat.not_lt_zero _), rfl, by simpa using z⟩
theorem RcLt.tuplesLz {A : Around} {s : Shared} {p q : Addr} {us ws : Array Value} {e r : Nat → Bool} (hl : s.heap.IsTuple p us) (hb : s.heap.IsTuple q ws) (hu : A.units < cLine)
    (he : ∀ j (g1 : j < us.size) (g2 : j < ws.size), EqAt A.in1 s us[j] ws[j] (e j)) (hr : ∀ j (g1 : j < us.size) (g2 : j < ws.size), e j = false → (∀ i, i < j → e i = true) → RcLt A.in1 s us[j] ws[j] (r j)) :
    RcLt A s (.ref p) (.ref q) (firstLt e r (decide (us.size < ws.size)) (List.range (min us.size ws.size))) := fun prog w E Q h => by
  obtain ⟨⟨cl1, c1, da1, t1⟩, o1, rfl, k1, rfl⟩ := id hl
  obtain ⟨⟨cl2, c2, da2, t2⟩, o2, rfl, k2, rfl⟩ := id hb
  refine richCompare_meets_room (op := .Lt) ⟨_, o1, rfl⟩ ⟨_, o2, rfl⟩ F.slot_tuple_lt F.entry_tuple_lt (F.args_tuple_lt_2 _ _) (tuple_ltLz p q us ws k1 k2 c1 c2 t1 t2 e r) ⟨o1, o2, he, hr, ?_⟩ (hu := hu)
  exact ⟨(fun x => nomatch x), h⟩
end PySem.SeqAt
namespace L2.Lv
open PySem PySem.Spec PyProof.Rows PySem.W
open PySem.SeqAt (RcLt EqAt firstLt firstLt_yes firstLt_no pairEq room_here room_in room_head room_tail)
theorem plain_cons {x : PyData} {xs : List PyData} (h : PyData.plainAll (x :: xs) = true) : x.plain = true ∧ PyData.plainAll xs = true := by simpa [PyData.plainAll] using h
mutual
theorem rcLt_lz : ∀ (d e : PyData) (A : Around) (s : Shared) (a b : Value) (as bs : List Addr), Reads s.heap a d as → Reads s.heap b e bs → aLz d e = true → d.plain = true → e.plain = true → A.units + min d.depth e.depth < cLine → RcLt A s a b (dataLt d e)
  | .int i, e, A, s, a, b, as, bs, r1, r2, q, _, _, hu => rcLt_alike (.int i) e A s a b as bs r1 r2 (by cases e <;> first | rfl | exact absurd q (by simp [aLz])) (by simp) hu
  | .str i, e, A, s, a, b, as, bs, r1, r2, q, _, _, hu => rcLt_alike (.str i) e A s a b as bs r1 r2 (by cases e <;> first | rfl | exact absurd q (by simp [aLz])) (by simp) hu
  | .tuple ds, e, A, s, a, b, as, bs, r1, r2, q, p1, p2, hu => by
    cases e with
    | tuple es =>
      have q : aLzAll ds es = true := by simpa [aLz] using q
      have p1 : PyData.plainAll ds = true := by simpa [PyData.plain] using p1
      have p2 : PyData.plainAll es = true := by simpa [PyData.plain] using p2
      cases r1 with
      | @tuple l o us n _ as1 g1 g2 g3 g4 =>
        cases r2 with
        | @tuple l' o' ws n' _ bs1 k1 k2 k3 k4 =>
          have m1 : us.size = ds.length := by simpa using SeqAt.ReadsAll.length _ _ _ g4
          have m2 : ws.size = es.length := by simpa using SeqAt.ReadsAll.length _ _ _ k4
          rw [dataLt_tuple, ← lz_first ds es q, ← m1, ← m2]
          refine RcLt.tuplesLz ⟨_, g1, g2, _, g3⟩ ⟨_, k1, k2, _, k3⟩ (room_here hu) (fun j j1 j2 => ?_) fun j j1 j2 hj hp => ?_
          · have := SeqAt.eqAt_plainAll ds es A.in1 s us.toList ws.toList _ _ g4 k4 p1 p2 (room_in hu) j (by simpa using j1) (by simpa using j2)
            simpa using this
          · have := rcLt_lzs ds es A.in1 s us.toList ws.toList _ _ g4 k4 q p1 p2 (room_in hu) j (by simpa using j1) (by simpa using j2) hj hp
            simpa using this
    | _ => exact absurd q (by simp [aLz])
  | .none, e, _, _, _, _, _, _, _, _, q, _, _, _ => absurd q (by cases e <;> simp [aLz])
  | .bool _, e, _, _, _, _, _, _, _, _, q, _, _, _ => absurd q (by cases e <;> simp [aLz])
  | .list _, e, _, _, _, _, _, _, _, _, q, _, _, _ => absurd q (by cases e <;> simp [aLz])
  | .dict _, e, _, _, _, _, _, _, _, _, q, _, _, _ => absurd q (by cases e <;> simp [aLz])
theorem rcLt_lzs : ∀ (ds es : List PyData) (A : Around) (s : Shared) (us ws : List Value) (as bs : List Addr), ReadsAll s.heap us ds as → ReadsAll s.heap ws es bs → aLzAll ds es = true → PyData.plainAll ds = true → PyData.plainAll es = true →
    A.units + min (PyData.depthAll ds) (PyData.depthAll es) < cLine → ∀ j (g1 : j < us.length) (g2 : j < ws.length), pairEq ds es j = false → (∀ i, i < j → pairEq ds es i = true) → RcLt A s us[j] ws[j] (dataLt (ds.getD j .none) (es.getD j .none))
  | [], _, _, _, _, _, _, _, r, _, _, _, _, _, j, g1, _, _, _ => by cases r; exact absurd g1 (Nat.not_lt_zero _)
  | _ :: _, [], _, _, _, _, _, _, _, r, _, _, _, _, j, _, g2, _, _ => by cases r; exact absurd g2 (Nat.not_lt_zero _)
  | d :: ds, e :: es, A, s, _, _, _, _, r1, r2, q, p1, p2, hu, j, g1, g2, hj, hp => by
    cases r1 with
    | cons x1 x2 =>
      cases r2 with
      | cons y1 y2 =>
        cases j with
        | zero => exact rcLt_lz d e A s _ _ _ _ x1 y1 (lz_no q hj) (plain_cons p1).1 (plain_cons p2).1 (room_head hu)
        | succ j => exact rcLt_lzs ds es A s _ _ _ _ x2 y2 (lz_yes q (hp 0 (Nat.succ_pos j))).2 (plain_cons p1).2 (plain_cons p2).2 (room_tail hu) j (Nat.lt_of_succ_lt_succ g1) (Nat.lt_of_succ_lt_succ g2) hj fun i hi => hp (i + 1) (Nat.succ_lt_succ hi)
end
section
variable {prog : Program} {w : World} {A : Around} {s : Shared}
theorem katLex_lz {fin : Bool} {Q : Bool → Shared → Prop} : ∀ (ds es : List PyData) (i : Nat) (us ws : List Value) (as bs : List Addr), ReadsAll s.heap us ds as → ReadsAll s.heap ws es bs → aLzAll ds es = true → PyData.plainAll ds = true → PyData.plainAll es = true →
    A.units + min (PyData.depthAll ds) (PyData.depthAll es) < cLine → fin = decide (ds.length < es.length) → Q (lexLt itemOrd (keyToksAll ds) (keyToksAll es)) s → KatLex prog w A false fin Q (us.zip ws) i s
  | [], [], i, _, _, _, _, r1, r2, _, _, _, _, hf, hq => by
    cases r1
    cases r2
    rw [lex_irrefl] at hq
    exact kat_nil (by rw [hf]; simpa using hq)
  | [], e :: es, i, _, _, _, _, r1, r2, _, _, _, _, hf, hq => by
    cases r1
    simp only [toks_all_cons, keyToksAll] at hq
    rw [lex_diff (O := itemOrd) (by simp)] at hq
    rw [List.zip_nil_left]
    exact kat_nil (by rw [hf]; simpa [itemLt] using hq)
  | d :: ds, [], i, _, _, _, _, r1, r2, _, _, _, _, hf, hq => by
    cases r2
    simp only [toks_all_cons, keyToksAll] at hq
    rw [lex_diff (O := itemOrd) (by simp)] at hq
    rw [List.zip_nil_right]
    exact kat_nil (by rw [hf]; simpa [itemLt] using hq)
  | d :: ds, e :: es, i, _, _, _, _, r1, r2, q, p1, p2, hu, hf, hq => by
    have hf2 : fin = decide (ds.length < es.length) := by rw [hf]; simp
    cases r1 with
    | cons x1 x2 =>
      cases r2 with
      | cons y1 y2 =>
        rw [List.zip_cons_cons]
        refine kat_cons (SeqAt.eqAt_plain d e A s _ _ _ _ x1 y1 (plain_cons p1).1 (plain_cons p2).1 (room_head hu) prog w _ _ ?_)
        cases z : PyData.eqv d e with
        | true =>
          rw [dataLt_all_yes (lz_yes q z).1 z] at hq
          exact kat_yes (katLex_lz ds es (i + 1) _ _ _ _ x2 y2 (lz_yes q z).2 (plain_cons p1).2 (plain_cons p2).2 (room_tail hu) hf2 hq)
        | false =>
          rw [lz_lex_no (lz_no q z) z] at hq
          refine kat_no ?_
          rw [Bool.false_and, oneLt'_eq]
          simp only [Bool.false_eq_true, if_false]
          exact wpAny_bind (rcLt_lz d e A s _ _ _ _ x1 y1 (lz_no q z) (plain_cons p1).1 (plain_cons p2).1 (room_head hu) prog w _ _ (wpAny_truthy_bool hq))
def AllLz (ds : List PyData) : Prop := ∀ d, d ∈ ds → ∀ e, e ∈ ds → aLz d e = true
theorem lzKey {h : Heap} {ds : List PyData} (hal : AllLz ds) {v : Value} {d : PyData} {as : List Addr} (hd : d ∈ ds) (r : Reads h v d as) : (dataKind h ds).keyOf v = some (keyToks d) := by
  have q : ∃ d, d ∈ ds ∧ ∃ as, Reads h v d as := ⟨d, hd, as, r⟩
  obtain ⟨e, he⟩ : ∃ k, (dataKind h ds).keyOf v = some k := by
    refine ⟨keyToks q.choose, ?_⟩
    show (open Classical in if q : ∃ d, d ∈ ds ∧ ∃ as, Reads h v d as then some (keyToks q.choose) else none) = _
    rw [dif_pos q]
    rfl
  obtain ⟨d', as', h1, h2, h3⟩ := dataKind_inv he
  rw [he, h3, lz_one d' d v _ _ (hal _ h1 _ hd) h2 r]
  rfl
theorem SortsAt.lz {vs : List Value} {ds : List PyData} (e : EachIs (fun v d => ∃ as, Reads s.heap v d as) vs ds) (hal : AllLz ds) (hp : ∀ d, d ∈ ds → d.plain = true) (ht : ∀ d, d ∈ ds → ∃ t r, d = .tuple (.tuple t :: r)) (hu : ∀ d, d ∈ ds → A.units + d.depth < cLine) :
    SortsAt prog w A s (dataKind s.heap ds) vs := by
  refine ⟨fun v hv => ?_, tuples' false, fun E x y a b Q ha hb hq => ?_, fun h2 E Q hq => ?_⟩
  · obtain ⟨d, hd, as, r⟩ := e.left v hv
    exact ⟨_, lzKey hal hd r⟩
  · obtain ⟨d, as, hd, ra, rfl⟩ := dataKind_inv ha
    obtain ⟨d', as', hd', rb, rfl⟩ := dataKind_inv hb
    have q := hal d hd d' hd'
    have p1 := hp d hd
    have p2 := hp d' hd'
    have room : A.units + min d.depth d'.depth < cLine := by have := hu d hd; omega
    obtain ⟨t1, r1, rfl⟩ := ht d hd
    obtain ⟨t2, r2, rfl⟩ := ht d' hd'
    have hq : Q (dataLt (.tuple (.tuple t1 :: r1)) (.tuple (.tuple t2 :: r2))) s := hq
    rw [dataLt_tuple] at hq
    cases ra with
    | @tuple l o us n _ _ g1 g2 g3 g4 =>
      cases rb with
      | @tuple l' o' ws n' _ _ k1 k2 k3 k4 =>
        have m1 : us.size = (PyData.tuple t1 :: r1).length := by simpa using SeqAt.ReadsAll.length _ _ _ g4
        have m2 : ws.size = (PyData.tuple t2 :: r2).length := by simpa using SeqAt.ReadsAll.length _ _ _ k4
        exact kat_lt g1 g3 k1 k3 (katLex_lz _ _ 0 _ _ _ _ g4 k4 (by simpa [aLz] using q) (by simpa [PyData.plain] using p1) (by simpa [PyData.plain] using p2) (by have := SeqAt.room_in room; omega) (by rw [m1, m2]) hq)
  · obtain ⟨fs, f1, f2, f3⟩ := each_katTups e fun d hd => let ⟨t, r, q⟩ := ht d hd; ⟨_, r, q⟩
    refine kat_kind (T := .type "tuple") f1 (by omega) (fun f hf => ?_) (beq_self_eq_true _) (by rw [show (Value.type "tuple" != Value.type "tuple") = false by rw [bne, beq_self_eq_true]; rfl]; exact hq)
    obtain ⟨x, r, as, n1, n2⟩ := f3 f hf
    obtain ⟨t, r', z⟩ := ht _ n1
    cases z
    exact looks_reads n2
end
variable {X : Cx}
end L2.Lv
namespace L2.Lv
open PySem PySem.Spec PyProof.Rows
/-! a list of lists of one's own -/
theorem SlOk.mono {A A' : Addr → Prop} {T : Option Addr} {K : PySem.W.Frag} {H H' : Hp} {v : Option (Option V)} {o : Option Addr} {hd hd' : Nat → Option Addr} {w : W} (q : SlOk A T K H v o hd w) (m : Keep A A' H H') (k : ∀ a u, o = some a → H a = some u → H' a = some u)
    (eh : ∀ j, j < 1000 → hd' j = hd j) (kh : ∀ j a u, j < 1000 → hd j = some a → H a = some u → H' a = some u) : SlOk A' T K H' v o hd' w := by
  cases w with
  | no => trivial
  | d x => obtain ⟨u, h1, h2⟩ := q; exact ⟨u, h1, h2.mono m⟩
  | town => exact q
  | ol xs => obtain ⟨a, vs, h1, h2, h3, h4⟩ := q; exact ⟨a, vs, h1, h2, k _ _ h1 h3, h4.mono m⟩
  | od kvs => obtain ⟨a, h1, h2, h3⟩ := q; exact ⟨a, h1, h2, h3.mono m fun o e => k _ _ h1 e⟩
  | oll xss =>
    obtain ⟨a, bs, h1, h2, h3, h4⟩ := q
    exact ⟨a, bs, h1, h2, k _ _ h1 h3, h4.mono m (fun j hj => eh j (by have := h4.2.1; omega)) fun j b u hj g e => kh j b u (by have := h4.2.1; omega) g e⟩
  | fn g => obtain ⟨u, h1, h2⟩ := q; exact ⟨u, h1, h2.mono m⟩
section
variable {C : Cn} {O : Ow} {K : PySem.W.Frag} {σ : St} {H H1 : Hp} {ρ : List W} {n n' i : Nat} {w w' : W}
end
def nstO (i : Nat) : Out → Option Out
  | .nx ρ n => match ρ[i]? with
    | some (.ol []) => some (.nx (ρ.set i (.oll [])) n)
    | _ => none
  | o => some o
/-- the empty list that was just stored is to hold lists -/
def sNst (i : Nat) (g : Fs) : Fs := fun ρ n => (g ρ n).bind (nstO i)
/-! a new list behind the others -/
section
variable {C : Cn} {O : Ow} {K : PySem.W.Frag} {σ : St} {H H1 : Hp} {ρ : List W} {n n' i : Nat}
end
def frzNAt (i : Nat) (g : Fs) : Fs := fun ρ n => match ρ[i]? with
  | some (.oll xss) => g (ρ.set i (.d (.list (xss.map .list)))) n
  | _ => none
section
variable {X : Cx} {e a b b1 b2 : Expr} {es : List Expr} {f fa fb : Fe} {d d1 d2 da db : Fd} {pos : Pos} {st : Stmt}
/-- x.append(a new list) -/
def sAppN (i : Nat) (f : Fe) : Fs := fun ρ n => (f ρ n).bind fun p => match p.1, ρ[i]? with
  | .ol xs, some (.oll xss) => if xss.length < 1000 then some (.nx (ρ.set i (.oll (xss ++ [xs]))) p.2) else none
  | _, _ => none
/-- x[j][k] = e -/
def sStN (i : Nat) (d1 d2 : Fd) (f : Fe) : Fs := fun ρ n => (f ρ n).bind fun p => p.1.frz.val.bind fun x => (d1 ρ p.2).bind fun k => (d2 ρ k.2).bind fun m => match k.1, m.1, ρ[i]? with
  | .int z1, .int z2, some (.oll xss) => (ixN xss.length z1).bind fun j1 => xss[j1]?.bind fun xs => (ixN xs.length z2).map fun j2 => .nx (ρ.set i (.oll (xss.set j1 (xs.set j2 x)))) m.2
  | _, _, _ => none
end
end L2.Lv
namespace L2.Lv
open PySem PySem.Spec PyProof.Rows
/-! list(range(i, j)) -/
section
variable {X : Cx} {a b : Expr} {da db : Fd} {pos : Pos}
def eListRg2 (da db : Fd) : Fe := fun ρ n => (da ρ n).bind fun p => (db ρ p.2).bind fun q => match p.1, q.1 with
  | .int i, .int j => if -1000000 ≤ i ∧ i ≤ 1000000 ∧ -1000000 ≤ j ∧ j ≤ 1000000 then some (.ol (rangeD i (j - i).toNat), q.2) else none
  | _, _ => none
end
end L2.Lv
namespace L2.Lv
open PySem PySem.Spec PyProof.Rows
/-! a lambda of two ints: made, handed on, called -/
def eLam (g : Int → Int → Bool) : Fe := fun _ n => some (.fn g, n)
section
variable {X : Cx} {L : LamT} {g : Int → Int → Bool} {c P : Addr} {N ps : List Str} {a b : Str} {pos p : Pos}
theorem lam_step {C : Cn} {H : Hp} {P c' f : Addr} {q : Str} {ps : Array Value} {o : HO} {line col : Value} (hP : H P = some (.tbl ps)) (hB : C.B P q) (nC : H c' = none) (nf : H f = none) (ncf : c' ≠ f) (nl : TriplesOk (ps ++ #[line, col, .ref c']).toList)
    (ha : ∀ (pos : Pos) (cv : Value), codeAmong pos (ps ++ #[line, col, .ref c']).toList = some cv → codeAmong pos ps.toList = some cv ∨ cv = .ref c') :
    Step C H (upd (upd (upd H P (.tbl (ps ++ #[line, col, .ref c']))) c' (LamX.CodeO c' q)) f o) ∧ ∀ a u, H a = some u → NT u → upd (upd (upd H P (.tbl (ps ++ #[line, col, .ref c']))) c' (LamX.CodeO c' q)) f o a = some u := by
  have nPc : P ≠ c' := ne_of_none hP nC
  have nPf : P ≠ f := ne_of_none hP nf
  have at_ : ∀ a, a ≠ P → a ≠ c' → a ≠ f → upd (upd (upd H P (.tbl (ps ++ #[line, col, .ref c']))) c' (LamX.CodeO c' q)) f o a = H a := fun a h1 h2 h3 => by rw [upd_ne h3, upd_ne h2, upd_ne h1]
  have atP : upd (upd (upd H P (.tbl (ps ++ #[line, col, .ref c']))) c' (LamX.CodeO c' q)) f o P = some (.tbl (ps ++ #[line, col, .ref c'])) := by rw [upd_ne nPf, upd_ne nPc, upd_same]
  have atC : upd (upd (upd H P (.tbl (ps ++ #[line, col, .ref c']))) c' (LamX.CodeO c' q)) f o c' = some (LamX.CodeO c' q) := by rw [upd_ne ncf, upd_same]
  refine ⟨⟨fun a u e _ nt => ?_, fun a e => ?_, fun P' q' G hB' hG t => ?_⟩, fun a u e nt => by
    rw [at_ a (fun z => by rw [z, hP] at e; exact nt ps (Option.some.inj e).symm) (ne_of_none e nC) (ne_of_none e nf)]
    exact e⟩
  · rw [at_ a (fun z => by rw [z] at e nt; rw [hP] at e; exact nt ⟨q, hB⟩ ps (Option.some.inj e).symm) (ne_of_none e nC) (ne_of_none e nf)]
    exact e
  · by_cases h1 : a = f
    · rw [h1]; exact nf
    · by_cases h2 : a = c'
      · rw [h2]; exact nC
      · by_cases h3 : a = P
        · rw [h3, atP] at e; cases e
        · rw [at_ a h3 h2 h1] at e; exact e
  · obtain ⟨ps', e1, e2, e3⟩ := t
    have keep : ∀ x, ¬ G x → H x = some (LamX.CodeO x q') → upd (upd (upd H P (.tbl (ps ++ #[line, col, .ref c']))) c' (LamX.CodeO c' q)) f o x = some (LamX.CodeO x q') := fun x _ e => by
      rw [at_ x (fun z => by rw [z, hP] at e; exact LamX.codeO_ne ps (Option.some.inj e).symm) (ne_of_none e nC) (ne_of_none e nf)]
      exact e
    by_cases h : P' = P
    · subst h
      have hq := C.bf _ _ _ hB hB'
      subst hq
      rw [hP] at e1
      cases e1
      refine ⟨_, atP, nl, fun pos cv hc => ?_⟩
      rcases ha pos cv hc with z | z
      · obtain ⟨x, x1, x2, x3⟩ := e3 pos cv z
        exact ⟨x, x1, x2, keep x x2 x3⟩
      · exact ⟨c', z, fun y => hG _ y nC, atC⟩
    · refine ⟨ps', by rw [at_ P' h (ne_of_none e1 nC) (ne_of_none e1 nf)]; exact e1, e2, fun pos cv hc => ?_⟩
      obtain ⟨x, x1, x2, x3⟩ := e3 pos cv hc
      exact ⟨x, x1, x2, keep x x2 x3⟩
theorem ev_lam (TB : LamX.TabB X.base X.mg c P) (hcode : X.env.code = .ref c) (hq : X.env.qual ++ "<lambda>" = L.q) (hmem : (P, L.q) ∈ tabsOf X.K) (hdef : defaultsOf L.params X.env = ([], [])) (S : FnScope N ps L.scope) (hclo : cloFrom X.env.cells L.scope.names [] = []) (hs : LamSem L g) :
    EvE X (.Lambda L.params L.body L.scope pos) (eLam g) := by
  refine ⟨fun pins s σ H Q I h => ?_⟩
  obtain ⟨C, O, ρ, n, w, n', hf, E, q⟩ := h
  cases hf
  have hB := E.tk _ hmem
  obtain ⟨⟨ps, hP, ht, ha⟩, _⟩ := E.tb P L.q hB
  refine PySem.W.kla_eval hdef ?_
  have bP : s.heap.BuiltinsAt X.mg P := TB.bm.keeps I.bk
  have hP' : s.heap.get? P = some { cls := .none, data := .fields ps } := I.hok P _ hP
  have hcl : closureFor L.scope X.env = pure [] := by
    rw [closure_ok fun y hy e => absurd e (S.nofree y hy), hclo]
  rw [hq]
  cases hc : codeAmong pos ps.toList with
  | none =>
    refine PySem.W.kla_makeFunction (mg := X.mg) (c := c) (P := P) (ps := ps) hcl I.ok.glob (I.mod.glob.keeps I.bk) hcode (TB.code.keeps I.bk) hP' ht hc TB.gP bP fun c' ctv h' tk hx hge hlt hrec htb => ?_
    obtain ⟨c2, oc, vs, t, e2, hoc, hd, hv⟩ := hrec
    cases e2
    have hsz : s.heap.objs.size ≤ h'.objs.size := Nat.le_trans hge (Nat.le_of_lt hlt)
    have nC : H c' = none := I.hok.fresh hge
    have nF : H h'.objs.size = none := I.hok.fresh hsz
    have eL : (ps ++ #[rawInt pos.line, rawInt pos.col, .ref c']).toList = ps.toList ++ [rawInt pos.line, rawInt pos.col, .ref c'] := by simp
    have I1 := LamX.inv_table (t' := tk) (more := #[rawInt pos.line, rawInt pos.col, .ref c']) (q := L.q) I hP (fun b o hb e => hx b o hb e) htb hge ⟨oc, vs, t, hoc, hd, hv⟩
    have I2 := I1.laid (h' := h'.push (PySem.W.kla_obj "<lambda>" L.q L.params L.body L.scope [] ((X.mg "__name__").getD .none) c' ctv)) (a := h'.objs.size) (o := LamO L h'.objs.size c') (t' := tk) (fun b u e => Heap.get?_push_of_some _ e) (Nat.le_refl _)
      ⟨⟨_, _, Heap.get?_push_size _ rfl⟩, ⟨_, Heap.get?_push_size _ rfl⟩, fun h1 h2 ⟨pm, ct, e⟩ st => ⟨pm, ct, st _ e⟩⟩
    have ncf : c' ≠ h'.objs.size := Nat.ne_of_lt hlt
    obtain ⟨S1, S2⟩ := lam_step (C := C) (o := LamO L h'.objs.size c') (line := rawInt pos.line) (col := rawInt pos.col) hP hB nC nF ncf (by rw [eL]; exact PySem.TriplesOk_snoc _ _ _ _ ht) (fun p' cv z => by rw [eL] at z; exact LamX.among_app _ ht z)
    refine ⟨.ref h'.objs.size, _, I2, rfl, q _ _ S1 ?_ ?_⟩
    · exact fun a e => S2 a _ (E.town a e) fun ps z => nomatch z
    · exact ⟨L, _, c', rfl, fun z => E.av _ z nF, upd_same, fun z => E.av _ z nC, by rw [upd_ne ncf, upd_same], hs⟩
  | some cv =>
    obtain ⟨c', e, hnA, hco⟩ := ha pos cv hc
    subst e
    refine PySem.W.kla_makeFunctionHit (mg := X.mg) (c := c) (P := P) (ps := ps) hcl I.ok.glob (I.mod.glob.keeps I.bk) hcode (TB.code.keeps I.bk) hP' ht hc bP fun ctv h' tk hx hsz => ?_
    have nF : H h'.objs.size = none := I.hok.fresh hsz
    have I2 := I.laid (h' := h'.push (PySem.W.kla_obj "<lambda>" L.q L.params L.body L.scope [] ((X.mg "__name__").getD .none) c' ctv)) (a := h'.objs.size) (o := LamO L h'.objs.size c') (t' := tk) (fun b u e => Heap.get?_push_of_some _ (hx b u e)) hsz
      ⟨⟨_, _, Heap.get?_push_size _ rfl⟩, ⟨_, Heap.get?_push_size _ rfl⟩, fun h1 h2 ⟨pm, ct, e⟩ st => ⟨pm, ct, st _ e⟩⟩
    have gr : Grow H (upd H h'.objs.size (LamO L h'.objs.size c')) := Grow.upd nF
    refine ⟨.ref h'.objs.size, _, I2, rfl, q _ _ gr.step (gr.town E.town) ⟨L, _, c', rfl, fun z => E.av _ z nF, upd_same, hnA, gr _ _ hco, hs⟩⟩
/-- the promise of a lambda, by its body -/
theorem lam_sem {L : LamT} {g : Int → Int → Bool} {N : List Str} {a b : Str} {fe : Fe} (S : FnScope N [a, b] L.scope)
    (hb : ∀ (pm cv ctv : Value) (us : List Value), us.length = 2 → bindArgs (PySem.W.kla_fn "<lambda>" L.q L.params L.body L.scope [] pm cv ctv) ⟨us, []⟩ = pure ([a, b].zip us))
    (hbody : ∀ (P : Program) (w : World) (K : PySem.W.Frag) (mg : Str → Option Value) (base : Heap) (A : Around) (outer : List Env) (s : Shared) (H : Hp) (f c : Addr), Room 0 (A.deeper (envOfC L.q L.scope s.heap.objs.size f (.ref c))) → EvE (cxOf CX0 P w K mg base N L.q L.scope f (.ref c) A outer s H E0) L.body fe)
    (hg : ∀ (i j : Int) (n : Nat), fe ([.d (.int i), .d (.int j)] ++ List.replicate (N.length - 2) .no) n = some (.d (.bool (g i j)), n)) : LamSem L g := by
  intro P w K mg base A outer s C n f c i j us Q hr e0 hf hc r hP ht tk tg q
  obtain ⟨⟨pm, ctv, of⟩, _, _⟩ := e0.hok f _ hf
  obtain ⟨⟨oc, vs, t, hoc, hdc, hvc⟩, _, _⟩ := e0.hok c _ hc
  have hl : us.length = 2 := by rw [← r.length]; rfl
  refine PySem.W.kla_callFunE hr.depth of rfl S.co S.gen rfl ⟨c, oc, vs, t, rfl, hoc, hdc, hvc⟩ ?_
  rw [hb _ _ _ us hl]
  have hkind : ∀ y ∈ [a, b].zip us, L.scope.names.lookup y.1 = some .local ∨ (L.scope.names.lookup y.1 = some .cell ∧ ((cellsFrom (s.heap.objs.size + 1) L.scope.names []).lookup y.1).isSome = true) := fun ⟨n, v⟩ hy => by
    rcases S.par n (List.of_mem_zip hy).1 with q | q
    · exact .inl q
    · exact .inr ⟨q, PySem.W.cellsFrom_some _ _ _ (.inl q)⟩
  have lim : s.heap.NoLimit := e0.mod.nolimit.keeps fun b o e => (e0.bs b o e).1
  refine wpAny_pure (wpAny_newFunctionEnv_cells S.kind hkind fun env he s1 x => ?_)
  subst he
  refine ⟨lim.keeps x.toInCall.keep, ?_⟩
  have I : Inv (cxOf CX0 P w K mg base N L.q L.scope f (.ref c) A outer s C.H0 E0) [] (start N [.int i, .int j]) C.H0 s1 := inv_start S hr.hd e0 rfl r x
  have E : EnvOk C Ow0 K (start N [.int i, .int j]) C.H0 ([.d (.int i), .d (.int j)] ++ List.replicate (N.length - 2) .no) n := start_env rfl hP ht (.cons (.int i) (.cons (.int j) .nil)) tk tg
  refine PySem.W.kla_codeExpr (wpAny_mono ((hbody P w K mg base A outer s C.H0 f c (hr.deeper _)).run [] s1 (start N [.int i, .int j]) C.H0 Q I ⟨C, Ow0, _, n, _, n, hg i j n, E, fun v H' st t r => ?_⟩) (fun v s' hq => ?_) fun e s' hq => hq)
  · cases r
    exact q H' st t
  · obtain ⟨w', H', J, rv, q⟩ := hq
    exact ⟨w', H', J.os, J.bare, J.base, J.hok, rv, q⟩
theorem lam_and {fa fb : Fe} {ρ : List W} {n : Nat} {x y : Bool} (ha : fa ρ n = some (.d (.bool x), n)) (hb : fb ρ n = some (.d (.bool y), n)) : eAnd fa fb ρ n = some (.d (.bool (x && y)), n) := by
  unfold eAnd
  rw [ha]
  cases x
  · rfl
  · simp [hb]
/-- x(a, b), x a parameter that holds a lambda -/
def eCallP (i : Nat) (fs : Fa) : Fe := fun ρ n => match ρ[i]? with
  | some (.fn g) => (fs ρ n).bind fun p => match p.1 with
    | [.d (.int a), .d (.int b)] => some (.d (.bool (g a b)), p.2)
    | _ => none
  | _ => none
theorem ev_callP {i : Nat} {x : Str} {e : Expr} {es : List Expr} {fs : Fa} (hr : Room 1 X.A) (hN : X.N[i]? = some x) (hv : Vis X.env.scope x) (ha : EvA X (e :: es) fs)
    (hdb : (x == ("__debug__" : Str)) = false := by decide) (hcd : (x == ("__classdict__" : Str)) = false := by decide)
    (he : starEach (e :: es) X.env = (false, eval e X.env) :: starEach es X.env := by rfl) (hpl : (backTo pos (starEach es X.env)).any (·.1) = false := by rfl) : EvE X (.Call (.Name x p) (e :: es) [] pos) (eCallP i fs) := by
  refine ⟨fun pins s σ H Q I h => ?_⟩
  obtain ⟨C, O, ρ, n, w, n', hf, E, q⟩ := h
  unfold eCallP at hf
  split at hf
  case h_2 => cases hf
  rename_i g hx
  obtain ⟨⟨ws, n1⟩, e1, hf⟩ := Option.bind_eq_some_iff.mp hf
  simp only at hf
  split at hf
  case h_2 => cases hf
  rename_i k1 k2
  cases hf
  obtain ⟨u, hu, L, f, c, rfl, nf, hL, nc, hC, hs⟩ := E.sl _ _ hx
  refine wpAny_Call_Name_kw (thn ((pe_var (pos := p) hN hv hdb hcd).run pins s σ H (fun v H1 => v = .ref f ∧ H1 = H) I ⟨.ref f, hu, rfl, rfl⟩) fun u s1 ⟨v, H1, I1, r1, q1⟩ => ?_)
  obtain ⟨rfl, rfl⟩ := q1
  cases r1
  have fnat : ∀ {s2 : Shared} {H2 : Hp} {σ2 : St}, Inv X pins σ2 H2 s2 → H2 f = some (LamO L f c) → PySem.W.FnAt f s2.heap := fun J h => by
    obtain ⟨⟨pm, ctv, of⟩, _, _⟩ := J.hok f _ h
    exact ⟨_, _, _, _, of⟩
  refine PySem.W.callWith_F (fnat I1 hL) (thn (ha.pa.run pos pins s1 σ H1 (fun vs H2 => Step C H1 H2 ∧ TownAt C H2 n' ∧ ArgsOk (Av C O) C.T X.K H2 vs [.d (.int k1), .d (.int k2)]) I1 ⟨C, O, ρ, n, _, _, e1, E, fun vs H2 s t r => ⟨s, t, r⟩⟩) fun us s2 ⟨vs, H2, I2, r, st, t2, ar⟩ => ?_) he hpl
  have k := st.keep (A := Av C O) Av.t
  have hL2 := (k f _ nf hL).2
  have hC2 := (k c _ nc hC).2
  refine ⟨fnat I2 hL2, ?_⟩
  have E2 := E.step st t2
  have av1 : ∀ a, Av (callC C O H2) Ow0 a → Av C O a := by
    rintro a ((z | z) | z | ⟨i, z⟩)
    · exact .inl z
    · exact .inr (.inr z)
    · exact .inr (.inl z)
    · cases z
  have hvs : vs = [.int k1, .int k2] := by
    cases ar with
    | cons a1 ar =>
      cases ar with
      | cons a2 ar =>
        cases ar
        cases a1
        cases a2
        rfl
  subst hvs
  refine wpAny_call (codeAny_mono (hs X.prog X.w X.K X.mg X.base X.A X.stack s2 (callC C O H2) n' f c k1 k2 us Q hr I2.env0 hL2 hC2 r (fun a z => E2.av a (z.elim .inl fun z => .inr (.inr z))) t2 E2.tk (E2.callT av1) (fun H3 s3 t3 => ?_)) fun r s' hq => ?_)
  · exact q _ _ (st.trans ⟨s3.st0, s3.fr, s3.tb⟩) t3 (.bl _)
  · cases r with
    | error e => exact hq.elim
    | ok fl =>
      cases fl with
      | ret u => exact I2.after hq
      | next => exact False.elim hq
      | brk => exact False.elim hq
      | cont => exact False.elim hq
end
/-! the makers -/
/-- the def of fd makes lambdas: its code object and its table -/
def LamAt (K : PySem.W.Frag) (mg : Str → Option Value) (base : Heap) (fd : FuncData) (q : Str) : Prop := ∃ c P, fd.code = .ref c ∧ (P, q) ∈ tabsOf K ∧ LamX.TabB base mg c P
def lamArg (q : Str) : List Expr → LamT
  | [] => ⟨q, ⟨[], [], none, [], [], none, []⟩, .Constant .none 0 ⟨0, 0, 0, 0⟩, { kind := .function, names := [], isGenerator := false, isCoroutine := false }⟩
  | .Lambda params body scope _ :: _ => ⟨q, params, body, scope⟩
  | _ :: r => lamArg q r
def lamOf (q : Str) : List Stmt → LamT
  | [] => lamArg q []
  | .Return (some (.Call _ es _ _)) _ :: _ => lamArg q es
  | _ :: r => lamOf q r
section
variable {X : Cx} {g : Int → Int → Bool} {N ps : List Str} {pos : Pos}
theorem ev_lamA {fd : FuncData} {q : Str} {params : Arguments} {body : Expr} {scope : Scope} (h : LamAt X.K X.mg X.base fd q) (S : FnScope N ps scope) (hs : LamSem ⟨q, params, body, scope⟩ g) (hcode : X.env.code = fd.code := by rfl) (hq : X.env.qual ++ "<lambda>" = q := by rfl) (hdef : defaultsOf params X.env = ([], []) := by rfl) (hclo : cloFrom X.env.cells scope.names [] = [] := by rfl) :
    EvE X (.Lambda params body scope pos) (eLam g) := by
  obtain ⟨c, P, e, hm, TB⟩ := h
  exact ev_lam (L := ⟨q, params, body, scope⟩) TB (hcode.trans e) hq hm hdef S hclo hs
end
theorem fn_valL {P : Program} {w : World} {K : PySem.W.Frag} {mg : Str → Option Value} {base : Heap} {x qual : Str} {st : Stmt} {f : Addr} {fd : FuncData} {N ps : List Str} {k : Nat} {g : Fs} (F : Fun K x qual st f fd) (S : FnScope N ps (defScope st))
    (hb : ∀ (A : Around) (outer : List Env) (s : Shared) (H : Hp) (E : XK), Room k (A.deeper (envOfC qual (defScope st) s.heap.objs.size f fd.code)) →
      EvSs (cxOf CX0 P w K mg base N qual (defScope st) f fd.code A outer s H E).nox (defBody st) g) : FnOk P w K mg base CX0 (k + 1) f fd ps (spOf K ps.length (runB N.length g)) := by
  obtain ⟨oc, od, kV, doc, pm, an, cdv, ct, osl, e, lk, hcd⟩ := F.ex
  subst e
  refine fn_of lk hcd S spOf.len fun A outer s H vs Q E hr h => ?_
  refine ⟨_, (hb A outer s H E hr).nox, ?_⟩
  obtain ⟨C, ws, n, w, n', rfl, hP, t, hl, ha, hf, tk, tg, q⟩ := h
  unfold runB at hf
  obtain ⟨o, e1, hf⟩ := Option.bind_eq_some_iff.mp hf
  refine ⟨C, Ow0, _, n, o, e1, start_env rfl hP t ha tk tg, fun i a z => (nomatch z), ?_⟩
  cases o with
  | rt w1 n1 =>
    cases hf
    exact fun v H' r => q v H' (r.toStep tg) r.town r.res
  | nx ρ1 n1 =>
    cases hf
    exact fun O' σ' H' s E' => q .non H' (E'.toStep tg) E'.town .non
  | bk ρ1 n1 => cases hf
/-- what the end wants of a law whose defs make lambdas -/
theorem law_tabs {l : PySem.W.OpenLaw} {w : World} {K : PySem.W.Frag} {k m : Nat} {x : Str} {mg : Str → Option Value} {fa : Addr} {h : Heap} {fd : FuncData} {cs : List (Addr × Addr)} {ts : List (Addr × Str)} (X : K.In h)
    (hT : ∀ p ∈ cs, h.get? p.2 = some { cls := .none, data := .fields #[] }) (hN : ∀ p ∈ cs, K.lookup p.2 = none) (hC : ∀ p ∈ cs, PySem.W.codeHdIn K p.1 p.2 = true) (ht : tabsOf K = ts) (hs : ∀ t ∈ ts, ∃ p ∈ cs, p.2 = t.1) (hu : (ts.map (·.1)).Nodup)
    (hb : ∀ (s : Shared) (v : Value), BindsTo s fd ⟨[v], []⟩ [(x, v)]) (hF : ∀ base : Heap, K.In base → base.Ns mainGlobals mg → (∀ p ∈ cs, LamX.TabB base mg p.1 p.2) → FnOk l.prog w K mg base CX0 k fa fd [x] (spLaw K m)) : LamX.LawAtS l w K CX0 k m x mg fa h := by
  refine ⟨fd, cs, _, hT, hN, fun p hp => PySem.W.codeHd_of_K X (hC p hp), hb, fun H a ns hl _ hH hS => ⟨a, ns, rfl, ⟨fun t ht' => ?_, fun a q q' h1 h2 => ?_⟩, hS, hl, fun _ => rfl⟩, hF⟩
  · rw [ht] at ht'
    obtain ⟨p, hp, e⟩ := hs t ht'
    rw [← e]
    exact hH p hp
  · rw [ht] at h1 h2
    have nd : ∀ (l : List (Addr × Str)), (l.map (·.1)).Nodup → (a, q) ∈ l → (a, q') ∈ l → q = q' := by
      intro l
      induction l with
      | nil => intro _ h; cases h
      | cons x r ih =>
        intro hn h1 h2
        rw [List.map_cons, List.nodup_cons] at hn
        rcases List.mem_cons.mp h1 with e1 | e1 <;> rcases List.mem_cons.mp h2 with e2 | e2
        · exact congrArg Prod.snd (e1.trans e2.symm)
        · exact absurd (List.mem_map.mpr ⟨_, e2, by rw [← e1]⟩) hn.1
        · exact absurd (List.mem_map.mpr ⟨_, e1, by rw [← e2]⟩) hn.1
        · exact ih hn.2 e1 e2
    exact nd ts hu h1 h2
end L2.Lv
namespace L2.Lv
open PySem PySem.Spec PyProof.Rows
/-! sorted(dict(..)) of many int keys -/
theorem srtOk_intsX (ks : List Int) : srtOk (ks.map .int) = true := by
  unfold srtOk
  simp only [Bool.and_eq_true, Bool.or_eq_true, List.all_eq_true, List.mem_map]
  refine ⟨⟨?_, .inr ?_⟩, ?_⟩
  · rintro x ⟨i, _, rfl⟩ y ⟨j, _, rfl⟩; rfl
  · rintro x ⟨i, _, rfl⟩; rfl
  · rintro x ⟨i, _, rfl⟩; rfl
section
variable {X : Cx}
open PySem.W in
theorem call_sortedDX (hcalm : X.calm = true) (hu : X.A.units + 100 < cLine) : CallR X (.builtin "sorted") (fun xs H Q => ∃ (A : Addr → Prop) (a : Addr) (kvs : List (Key × V)) (ks : List Int), xs = [.ref a] ∧ Rd H a (.dK kvs) ∧ kvs.map (·.1) = ks.map Sum.inl ∧ ks.length ≤ 100000 ∧
    ∀ (us : List V) (p : Addr), H p = none → DvAll A X.K H us (srt (ks.map .int)) → Q (.ref p) (upd H p (.lst us))) := by
  intro pins s σ H xs us Q I r q
  obtain ⟨A, a, kvs, ks, ex, hd, hks, h64, q⟩ := q
  subst ex
  obtain ⟨u, eu, rx⟩ := vals1 r
  subst eu
  cases rx
  obtain ⟨z, lo, vs, rel, dd⟩ := dk_rd I.hok hd
  obtain ⟨ep, hat⟩ := dd.dictAt
  have hkeys : vs.map (·.1) = ks.map Sum.inl := rel.keys.symm.trans hks
  have hl : vs.length = ks.length := by
    have e := congrArg List.length hkeys
    rw [List.length_map, List.length_map] at e
    exact e
  have h16 : vs.length ≤ sizeLine := by rw [hl, sizeLine_eq]; omega
  refine Calls.call_function_entry PyProof.Rows.kind_sorted PyProof.Rows.plain_sorted PyProof.Rows.entry_sorted (PyProof.Rows.args_sorted1 _) ?_
  unfold Builtin.«sorted»
  refine wpAny_bind (m := checkCount "sorted" 1 1 _) (wpAny_pure ?_)
  refine wpAny_bind (PySem.W.kdu_collect (A := X.A.in1) (PySem.W.kdl_dict (knd := mixKind X.prog X.w) (kvs := vs) (ep := ep) lo) (I.ok.hd hcalm) hat h16 fun h' tk acc kp hacc => ?_)
  have hal : acc.toList.length = ks.length := by rw [Array.length_toList, hacc.1, hl]
  have hS : IntsAre acc.toList ks := ints_each hal fun j v e => by
    obtain ⟨k, x, e1, e2⟩ := hacc.2 j v (by rw [← Array.getElem?_toList]; exact e)
    have e3 : (vs.map (·.1))[j]? = some k := by rw [List.getElem?_map, e1]; rfl
    rw [hkeys, List.getElem?_map] at e3
    cases e4 : ks[j]? with
    | none => rw [e4] at e3; cases e3
    | some y =>
      rw [e4] at e3
      have e5 : Sum.inl y = k := Option.some.inj e3
      subst e5
      rcases keyIs_shape (show keyIs (Sum.inl y) v = true from e2) with ⟨i, t, ek, ev⟩ | ⟨z, t, ek, ev⟩
      · cases ek
        exact ⟨y, t, rfl, ev⟩
      · cases ek
  have rv : Vals (ks.map V.int) acc.toList := vals_of_ints hS
  have la : acc.toList.length ≤ sizeLine := by rw [hal, sizeLine_eq]; omega
  have hok := srtOk_intsX ks
  have dv : DvAll A X.K H (ks.map V.int) (ks.map .int) := dvAll_ints ks
  have I1 : Inv X pins σ H { s with heap := h', toks := tk } := I.kept kp
  have e1 := each_of dv rv
  obtain ⟨as, hr⟩ := Dp.readsAll I (ks.map PyData.int) _ _ dv.dp rv
  refine wpAny_bind (wpAny_newList ?_ la)
  have hoL : (h'.push (seqObj "list" acc.toList.toArray 0)).get? h'.objs.size = some (seqObj "list" acc.toList.toArray 0) := Heap.get?_push_size _ rfl
  have er : EachIs (fun v b => ∃ as, Reads s.heap v ((fun x => x) b) as) acc.toList (ks.map PyData.int) := readsAll_each (fun x => x) (as := as) (by rw [List.map_id']; exact hr)
  have er' : EachIs (fun v b => ∃ as, Reads (sortingHeap (h'.push (seqObj "list" acc.toList.toArray 0)) h'.objs.size acc.toList) v ((fun x => x) b) as) acc.toList (ks.map PyData.int) :=
    er.mono fun _ _ ⟨as, r⟩ => ⟨as, PyProof.Rows.Reads.keeps (fun b u e => sortingHeap_old (Nat.ne_of_lt (Heap.lt_size (kp b u e))) (Heap.get?_push_of_some _ (kp b u e))) r⟩
  have hb : ∀ d, d ∈ (ks.map PyData.int).map (fun x => x) → X.A.in1.in1.units + d.depth < cLine := fun d hd => by
    rw [List.map_id'] at hd
    have := srtOk_depth hok d hd
    show X.A.units + 1 + 1 + _ < _
    omega
  have S := SortsAt.data (prog := X.prog) (w := X.w) (A := X.A.in1.in1) (s := { s with heap := sortingHeap (h'.push (seqObj "list" acc.toList.toArray 0)) h'.objs.size acc.toList, toks := tk }) (each_map (R := fun v d => ∃ as, Reads (sortingHeap (h'.push (seqObj "list" acc.toList.toArray 0)) h'.objs.size acc.toList) v d as) (fun x => x) er') (srtOk_alike hok) (srtOk_sortable hok) hb
  show wpAny _ _ _ _ _ { s with heap := h'.push (seqObj "list" acc.toList.toArray 0), toks := tk }
  refine wpAny_bind (wpAny_holding (wpAny_call_entry slot_list_sort ⟨_, hoL, rfl⟩ entry_list_sort
    (list_sort_vals (s := { s with heap := h'.push (seqObj "list" acc.toList.toArray 0), toks := tk }) hoL S la ⟨_, rfl, ?_⟩) (args_list_sort _)))
  obtain ⟨us', k1, k2⟩ := of_each (sortVals_data false e1 er' (srtOk_alike hok))
  obtain ⟨ep', he'⟩ := sortedHeap_at (vs := acc.toList) (out := _) hoL
  have hlen : us'.length ≤ sizeLine := by
    rw [k1.length]
    rw [List.length_mergeSort, List.length_map, sizeLine_eq]; omega
  refine wpAny_pure ⟨_, rfl, .ref h'.objs.size, upd H h'.objs.size (.lst us'), I1.laid (t' := tk) (fun b u e => ?_) (Nat.le_refl _) ⟨hlen, _, ep', k2, he'⟩, rfl, q us' _ (I1.hok.fresh (Nat.le_refl _)) k1⟩
  have hb : b < h'.objs.size := Heap.lt_size e
  rw [sortedHeap_old (Nat.ne_of_lt hb) (by rw [size_push']; exact Nat.lt_succ_of_lt hb)]
  exact Heap.get?_push_of_some _ e
end
def gSortDictX : List PyData → Option W
  | [.list xs] => (pairKs xs).bind fun ks => if ks.length ≤ 100000 then some (.ol (srt ((ks.foldl keyF []).map .int))) else none
  | _ => none
theorem ev_sortDictX {X : Cx} {e : Expr} {ds : Fds} {p p2 pos pos2 : Pos} (hc : X.calm = true) (hu : X.A.units + 100 < cLine) (hg : Gl X "sorted") (hm : X.mg "sorted" = none) (hg2 : Gl X "dict") (hm2 : X.mg "dict" = none) (ha : EvD X [e] ds)
    (hbs : bootBuiltins "sorted" = some (.builtin "sorted")) (hbd : bootBuiltins "dict" = some (.type "dict")) (he : starEach [e] X.env = (false, eval e X.env) :: starEach [] X.env := by rfl)
    (he2 : starEach [Expr.Call (.Name "dict" p2) [e] [] pos2] X.env = (false, eval (Expr.Call (.Name "dict" p2) [e] [] pos2) X.env) :: starEach [] X.env := by rfl)
    (hpl : (backTo pos (starEach [] X.env)).any (·.1) = false := by rfl) (hpl2 : (backTo pos2 (starEach [] X.env)).any (·.1) = false := by rfl) :
    EvE X (.Call (.Name "sorted" p) [.Call (.Name "dict" p2) [e] [] pos2] [] pos) (eApp gSortDictX ds) := by
  have inner := pe_callTy (call_dictP hc) hg2 hm2 hbd ha (pos := pos2) (p := p2) (he := he) (hpl := hpl2)
  refine peI (pe_callB (call_sortedDX hc hu) hg hm hbs (pa_cons inner pa_nil he2) (by decide) (by decide) he2 hpl) fun σ H Q h => ?_
  refine app_run (r := fun vs H Q => ∃ (a : Addr) (ps : List Addr) (kvs : List (Key × V)), vs = [V.ref a] ∧ SqL X.K H a (ps.map V.ref) ∧ Paired (fun p kv => SqT X.K H p [kV kv.1, kv.2]) ps kvs ∧
    ∀ p, H p = none → (fun (v : V) (H2 : Hp) => ∃ (A : Addr → Prop) (a : Addr) (kvs : List (Key × V)) (ks : List Int), [v] = [V.ref a] ∧ Rd H2 a (.dK kvs) ∧ kvs.map (·.1) = ks.map Sum.inl ∧ ks.length ≤ 100000 ∧
      ∀ (us : List V) (p : Addr), H2 p = none → DvAll A X.K H2 us (srt (ks.map .int)) → Q (V.ref p) (upd H2 p (.lst us))) (V.ref p) (upd H p (.dK (mergeK [] kvs)))) (fun A T vs xs w H Q tr rx e q => ?_) h
  unfold gSortDictX at e
  split at e
  · rename_i ys
    obtain ⟨ks, h1, e⟩ := Option.bind_eq_some_iff.mp e
    split at e
    · rename_i hlen
      cases e
      obtain ⟨v, rfl, r⟩ := rx.one
      obtain ⟨a, us, rfl, k1, k2⟩ := r.lst
      obtain ⟨ps, kvs, rfl, k3, k4⟩ := dvAll_pairs h1 k2
      obtain ⟨f1, f2, f3⟩ := keyF_facts ks [] List.nodup_nil
      refine ⟨a, ps, kvs, rfl, k1, k3, fun p hp => ⟨A, p, _, ks.foldl keyF [], rfl, Rd.of upd_same, merge_keys kvs [] ks [] k4 rfl, by simp at f3; omega, fun us p' hp' dv => ?_⟩⟩
      refine q _ _ ((Grow.upd hp).trans (Grow.upd hp')) (Res.back (fun b hb => ?_) (new_lst hp' dv))
      cases hh : H b with
      | none => rfl
      | some u => rw [Grow.upd hp b u hh] at hb; cases hb
    · cases e
  · cases e
end L2.Lv
namespace L2.Lv
open PySem PySem.Spec PyProof.Rows
/-! x.index(y), x a tuple of any data -/
section
variable {prog : Program} {w : World} {A : Around} {E : Value → Shared → Prop} {s : Shared}
theorem index_tuple_data {l : Addr} {vs : Array Value} {o : Obj} {n : Nat} {xs : List PyData} {x : Value} {d : PyData} {as bs : List Addr} {Q : Value → Shared → Prop} {j : Nat} (ho : s.heap.get? l = some o) (hc : o.cls = .type "tuple") (hd' : o.data = .seq vs n) (rs : ReadsAll s.heap vs.toList xs as) (rx : Reads s.heap x d bs) (hxs : PyData.plainAll xs = true) (hd : d.plain = true)
    (hu : A.units + 1 + min (PyData.depthAll xs) d.depth < cLine) (hp : SeqAt.dataPlace xs d = some j) (h : Q (.int j s.toks) { s with toks := s.toks + 1 }) : wpAny (model prog w) A (call (.builtin "tuple.index") [.ref l, x]) Q E s := by
  obtain ⟨cls, dd, data, sl⟩ := o
  simp only at hc hd'
  subst hc hd'
  obtain ⟨hj, hit, hno⟩ := SeqAt.hit_at rs hxs hp
  exact call_meets PySem.F.slot_tuple_index ⟨_, ho, rfl⟩ PySem.F.entry_tuple_index (PySem.F.args_tuple_index_2 _ _) (TI.tuple_indexAt l vs n dd sl x _ j hj hit hno) ⟨ho, SeqAt.items_plain rs rx hxs hd hu, h⟩
end
section
variable {X : Cx}
def gIndexTD (x : PyData) (ys : List PyData) : Option W := match x, ys with
  | .tuple xs, [y] => if shp y && shp (.tuple xs) then (SeqAt.dataPlace xs y).map fun j => .d (.int (j : Nat)) else none
  | _, _ => none
theorem mv_tindexD (hu : X.A.units + 65 < cLine) : MtV X "tuple.index" gIndexTD := by
  refine ⟨fun x xs H Q => ∃ ys d j v, xs = [v] ∧ Dp X.K H x (.tuple ys) ∧ Dp X.K H v d ∧ shp d = true ∧ shp (.tuple ys) = true ∧ SeqAt.dataPlace ys d = some j ∧ Q (.int (j : Nat)) H, ?_, ?_⟩
  · rintro pins s σ H x xs v us Q I rx rxs ⟨ys, d, j, v', rfl, hy, hd, sd, sy, hj, q⟩
    obtain ⟨u, rfl, ru⟩ := rxs.one
    obtain ⟨as, r1⟩ := Dp.reads I d v' u hd ru
    obtain ⟨bs, r2⟩ := Dp.reads I (.tuple ys) x v hy rx
    cases r2 with
    | tuple h1 h2 h3 h4 =>
      exact index_tuple_data h1 h2 h3 h4 r1 (PyData.plainAll_of_canLay0 _ (SeqAt.canLay_of_shaped sy)) (PyData.plain_of_canLay0 _ (SeqAt.canLay_of_shaped sd)) (room_shp sd hu) hj ⟨.int (j : Nat), H, I.tok _, ⟨_, rfl⟩, q⟩
  · intro A T x vs dx xs w H Q tr rx rxs e q
    unfold gIndexTD at e
    split at e
    · rename_i zs k
      split at e
      · rename_i hs
        rw [Bool.and_eq_true] at hs
        obtain ⟨j, h1, e⟩ := Option.map_eq_some_iff.mp e
        subst e
        obtain ⟨v, rfl, r⟩ := rxs.one
        exact ⟨zs, k, j, v, rfl, rx.dp hs.2, r.dp hs.1, hs.1, hs.2, h1, q _ _ Grow.refl (.int _)⟩
      · cases e
    · cases e
def gIndexTX (x : PyData) (xs : List PyData) : Option W := (gIndexT x xs).or (gIndexTD x xs)
theorem mv_tindexX (hu : X.A.units + 65 < cLine) : MtV X "tuple.index" gIndexTX := mv_tindex.or (mv_tindexD hu)
end
end L2.Lv
namespace L2.Lv.Sh
open PySem PySem.Spec PyProof.Rows L2 L2.Lv
def b__law_draw : Fs :=
    (sSeq (sTown 1)
    (sSeq (sSet 3 (eTLen 1))
    (sSeq (sSet 4 (eC (.int 0)))
    (sSeq (sIf (bTru (dVar 0))
    (sSet 4 (eBin dIx (dVar 0) (dOf (eBin dMod (dVar 3) (dOf (eApp gLen (sCons (dVar 0) sNil)))))))
    sNil')
    (sSeq (sSet 5 (eBin dMod (dOf (eBin dAdd (dVar 4) (dOf (eBin dMul (dOf (eC (.int 104729))) (dVar 3))))) (dOf (eC (.int 4294967291)))))
    (sSeq (sSet 5 (eBin dMod (dOf (eBin dMul (dOf (eBin dMod (dOf (eBin dMul (dVar 5) (dVar 5))) (dOf (eC (.int 4294967279))))) (dOf (eC (.int 48271))))) (dOf (eC (.int 4294967291)))))
    (sRet (eBin dMod (dOf (eBin dDiv (dVar 5) (dOf (eC (.int 64))))) (dVar 2)))))))))
def m__law_draw : Fn := runB 6 b__law_draw
def b__law_pick : Fs :=
    (sRet (eBin dIx (dVar 2) (dOf (eCall m__law_draw (aCons (eVar 0) (aCons (eVar 1) (aCons (eApp gLen (sCons (dVar 2) sNil)) aNil)))))))
def m__law_pick : Fn := runB 3 b__law_pick
def l__law_plain_1 : Fs :=
    (sSeq (sSet 6 (eCall m__law_draw (aCons (eVar 0) (aCons (eVar 1) (aCons (eC (.int 6)) aNil)))))
    (sIf (bTest (eBin dNotIn (dVar 6) (dVar 4)))
    (sSet 4 (eFrz (eBin dAdd (dVar 4) (dOf (eTup (aCons (eVar 6) aNil))))))
    sNil'))
def b__law_plain : Fs :=
    (sSeq (sSet 2 (eCall m__law_draw (aCons (eVar 0) (aCons (eVar 1) (aCons (eC (.int 9)) aNil)))))
    (sSeq (sSet 3 (eCall m__law_draw (aCons (eVar 0) (aCons (eVar 1) (aCons (eC (.int 3)) aNil)))))
    (sSeq (sIf (bTest (eBin (dCmp rLt zLt) (dVar 2) (dOf (eC (.int 2)))))
    (sRet (eTup (aCons (eC (.str "up")) (aCons (eVar 3) aNil))))
    sNil')
    (sSeq (sIf (bTest (eBin (dCmp rLt zLt) (dVar 2) (dOf (eC (.int 4)))))
    (sRet (eTup (aCons (eBin dIx (dOf (eLst (aCons (eC (.str "part")) (aCons (eC (.str "rest")) aNil)))) (dOf (eBin dSub (dVar 2) (dOf (eC (.int 2)))))) (aCons (eVar 3) (aCons (eBin dAdd (dOf (eC (.int 2))) (dOf (eCall m__law_draw (aCons (eVar 0) (aCons (eVar 1) (aCons (eC (.int 2)) aNil)))))) aNil)))))
    sNil')
    (sSeq (sIf (bTest (eBin (dCmp rLt zLt) (dVar 2) (dOf (eC (.int 6)))))
    (sSeq (sSet 4 (eTup aNil))
    (sSeq (sFor (iRng1 (dOf (eBin dAdd (dOf (eC (.int 1))) (dOf (eCall m__law_draw (aCons (eVar 0) (aCons (eVar 1) (aCons (eC (.int 4)) aNil)))))))) (gOne 5)
    l__law_plain_1)
    (sRet (eIf (bTest (eBin dEq (dVar 2) (dOf (eC (.int 4))))) (eTup (aCons (eC (.str "table")) (aCons (eVar 3) (aCons (eVar 4) aNil)))) (eTup (aCons (eC (.str "among")) (aCons (eVar 3) (aCons (eApp gTup (sCons (dOf (eApp gSorted (sCons (dVar 4) sNil))) sNil)) aNil))))))))
    sNil')
    (sSeq (sSet 7 (eFrz (eCall m__law_pick (aCons (eVar 0) (aCons (eVar 1) (aCons (eLst (aCons (eTup (aCons (eC (.int 0)) (aCons (eC (.int 1)) aNil))) (aCons (eTup (aCons (eC (.int 0)) (aCons (eC (.int 2)) aNil))) (aCons (eTup (aCons (eC (.int 1)) (aCons (eC (.int 2)) aNil))) aNil)))) aNil))))))
    (sRet (eBin dAdd (dOf (eTup (aCons (eBin dIx (dOf (eLst (aCons (eC (.str "sum")) (aCons (eC (.str "gap")) (aCons (eC (.str "most")) aNil))))) (dOf (eBin dSub (dVar 2) (dOf (eC (.int 6)))))) aNil))) (dVar 7)))))))))
def m__law_plain : Fn := runB 8 b__law_plain
def b__law_key : Fs :=
    (sSeq (sSet 2 (eFrz (eCall m__law_plain (aCons (eVar 0) (aCons (eVar 1) aNil)))))
    (sRet (eIf (bTest (eBin dEq (dOf (eCall m__law_draw (aCons (eVar 0) (aCons (eVar 1) (aCons (eC (.int 3)) aNil))))) (dOf (eC (.int 0))))) (eTup (aCons (eC (.str "down")) (aCons (eVar 2) aNil))) (eVar 2))))
def m__law_key : Fn := runB 3 b__law_key
def b__law_keys : Fs :=
    (sRet (eApp gTup (sCons (dOf (eComp (iRng1 (dOf (eCall m__law_draw (aCons (eVar 0) (aCons (eVar 1) (aCons (eBin dAdd (dVar 2) (dOf (eC (.int 1)))) aNil)))))) (gOne 3) [3] bYes (eCall m__law_key (aCons (eVar 0) (aCons (eVar 1) aNil))))) sNil)))
def m__law_keys : Fn := runB 4 b__law_keys
def b__law_whole : Fs :=
    (sRet (eAnd (eIsa "int" (dVar 0)) (eAnd (eNotD (dOf (eIsa "bool" (dVar 0)))) (eChain (dCmp rLe zLe) (dCmp rLe zLe) (dVar 1) (dVar 0) (dVar 2)))))
def m__law_whole : Fn := runB 3 b__law_whole
-- l__law_is_plain_1: head 0:_law_thing_here 1:_law_seen of 3
def l__law_is_plain_1 : Fs :=
    (sSeq (sIf (bOr (bNot (bTru (dOf (eCall m__law_whole (aCons (eVar 2) (aCons (eC (.int 0)) (aCons (eC (.int 5)) aNil))))))) (bOr (bTest (eBin dIn (dVar 2) (dVar 1))) (bAnd (bTest (eBin dEq (dOf (eBin dIx (dVar 0) (dOf (eC (.int 0))))) (dOf (eC (.str "among"))))) (bAnd (bTru (dVar 1)) (bTest (eBin (dCmp rLt zLt) (dVar 2) (dOf (eBin dIx (dVar 1) (dOf (eUn dNeg (dOf (eC (.int 1)))))))))))))
    (sRet (eC (.bool false)))
    sNil')
    (sEnd [2] (sApp 1 (eVar 2))))
def b_worth (m : Fn) : Fs :=
    (sSeq (sSet 2 (eBin dIx (dVar 0) (dOf (eC (.int 0)))))
    (sSeq (sIf (bTest (eBin dEq (dVar 2) (dOf (eC (.str "down")))))
    (sRet (eBin dSub (dOf (eC (.int 0))) (dOf (eCall m (aCons (eBin dIx (dVar 0) (dOf (eC (.int 1)))) (aCons (eVar 1) aNil))))))
    sNil')
    (sSeq (sSet 3 (eBin dIx (dVar 1) (dOf (eBin dIx (dVar 0) (dOf (eC (.int 1)))))))
    (sSeq (sIf (bTest (eBin dEq (dVar 2) (dOf (eC (.str "up")))))
    (sRet (eVar 3))
    sNil')
    (sSeq (sIf (bTest (eBin dEq (dVar 2) (dOf (eC (.str "part")))))
    (sRet (eBin dDiv (dVar 3) (dOf (eBin dIx (dVar 0) (dOf (eC (.int 2)))))))
    sNil')
    (sSeq (sIf (bTest (eBin dEq (dVar 2) (dOf (eC (.str "rest")))))
    (sRet (eBin dMod (dVar 3) (dOf (eBin dIx (dVar 0) (dOf (eC (.int 2)))))))
    sNil')
    (sSeq (sIf (bTest (eBin dEq (dVar 2) (dOf (eC (.str "table")))))
    (sRet (eIf (bTest (eBin dIn (dVar 3) (dOf (eBin dIx (dVar 0) (dOf (eC (.int 2))))))) (eMt isTupD gIndexT (dOf (eBin dIx (dVar 0) (dOf (eC (.int 2))))) (sCons (dVar 3) sNil)) (eApp gLen (sCons (dOf (eBin dIx (dVar 0) (dOf (eC (.int 2))))) sNil))))
    sNil')
    (sSeq (sIf (bTest (eBin dEq (dVar 2) (dOf (eC (.str "among")))))
    (sRet (eApp gInt (sCons (dOf (eBin dNotIn (dVar 3) (dOf (eBin dIx (dVar 0) (dOf (eC (.int 2))))))) sNil)))
    sNil')
    (sSeq (sSet 4 (eBin dIx (dVar 1) (dOf (eBin dIx (dVar 0) (dOf (eC (.int 2)))))))
    (sSeq (sIf (bTest (eBin dEq (dVar 2) (dOf (eC (.str "sum")))))
    (sRet (eBin dAdd (dVar 3) (dVar 4)))
    sNil')
    (sSeq (sIf (bTest (eBin dEq (dVar 2) (dOf (eC (.str "gap")))))
    (sRet (eApp gAbs (sCons (dOf (eBin dSub (dVar 3) (dVar 4))) sNil)))
    sNil')
    (sRet (eApp gMax2 (sCons (dVar 3) (sCons (dVar 4) sNil)))))))))))))))
def m_worth_ : Nat → Fn
  | 0 => fun _ _ => none
  | k + 1 => runB 5 (b_worth (m_worth_ k))
def m_worth : Fn := m_worth_ 4
def b_worths : Fs :=
    (sRet (eApp gTup (sCons (dOf (eComp (iOf (dVar 0)) (gOne 2) [2] bYes (eCall m_worth (aCons (eVar 2) (aCons (eVar 1) aNil))))) sNil)))
def m_worths : Fn := runB 3 b_worths
def b_told : Fs :=
    (sSeq (sSet 3 (eFrz (eCall m_worths (aCons (eVar 0) (aCons (eVar 1) aNil)))))
    (sSeq (sSet 4 (eFrz (eCall m_worths (aCons (eVar 0) (aCons (eVar 2) aNil)))))
    (sRet (eBin dSub (dOf (eApp gInt (sCons (dOf (eBin (dCmp rGt zGt) (dVar 3) (dVar 4))) sNil))) (dOf (eApp gInt (sCons (dOf (eBin (dCmp rLt zLt) (dVar 3) (dVar 4))) sNil)))))))
def m_told : Fn := runB 5 b_told
def b_turned_key : Fs :=
    (sSeq (sIf (bTest (eBin dEq (dOf (eBin dIx (dVar 0) (dOf (eC (.int 0))))) (dOf (eC (.str "down")))))
    (sRet (eBin dIx (dVar 0) (dOf (eC (.int 1)))))
    sNil')
    (sRet (eTup (aCons (eC (.str "down")) (aCons (eVar 0) aNil)))))
def m_turned_key : Fn := runB 1 b_turned_key
def b_turned : Fs :=
    (sRet (eApp gTup (sCons (dOf (eComp (iOf (dVar 0)) (gOne 1) [1] bYes (eCall m_turned_key (aCons (eVar 1) aNil)))) sNil)))
def m_turned : Fn := runB 2 b_turned
def l_all_things_2 : Fs :=
    (sExt 1 (eComp (iOf (dVar 0)) (gOne 4) [4] bYes (eTup (aCons (eVar 2) (aCons (eVar 3) (aCons (eVar 4) aNil))))))
def l_all_things_1 : Fs :=
    (sFor (iVal (eVar 0)) (gOne 3)
    l_all_things_2)
def b_all_things : Fs :=
    (sSeq (sSet 0 (eFrz (eListRg1 (dOf (eBin dAdd (dOf (eC (.int 5))) (dOf (eC (.int 1))))))))
    (sSeq (sSet 1 (eLst aNil))
    (sSeq (sFor (iVal (eVar 0)) (gOne 2)
    l_all_things_1)
    (sRet (eApp gTup (sCons (dVar 1) sNil))))))
def m_all_things : Fn := runB 5 b_all_things
def b__law_worth (m : Fn) : Fs :=
    (sSeq (sIf (bTest (eBin dEq (dOf (eBin dIx (dVar 0) (dOf (eC (.int 0))))) (dOf (eC (.str "down")))))
    (sRet (eUn dNeg (dOf (eCall m (aCons (eBin dIx (dVar 0) (dOf (eC (.int 1)))) (aCons (eVar 1) aNil))))))
    sNil')
    (sSeq (sSet 2 (eBin dIx (dVar 1) (dOf (eBin dIx (dVar 0) (dOf (eC (.int 1)))))))
    (sSeq (sIf (bTest (eBin dEq (dOf (eBin dIx (dVar 0) (dOf (eC (.int 0))))) (dOf (eC (.str "up")))))
    (sRet (eVar 2))
    sNil')
    (sSeq (sIf (bTest (eBin dEq (dOf (eBin dIx (dVar 0) (dOf (eC (.int 0))))) (dOf (eC (.str "part")))))
    (sRet (eApp gLen (sCons (dOf (eComp (iRng2 (dOf (eC (.int 1))) (dOf (eC (.int 6)))) (gOne 3) [3] (bAnd (bTest (eBin (dCmp rLe zLe) (dVar 3) (dVar 2))) (bTest (eBin dEq (dOf (eBin dMod (dVar 3) (dOf (eBin dIx (dVar 0) (dOf (eC (.int 2))))))) (dOf (eC (.int 0)))))) (eVar 3))) sNil)))
    sNil')
    (sSeq (sIf (bTest (eBin dEq (dOf (eBin dIx (dVar 0) (dOf (eC (.int 0))))) (dOf (eC (.str "rest")))))
    (sRet (eBin dSub (dVar 2) (dOf (eBin dMul (dOf (eBin dDiv (dVar 2) (dOf (eBin dIx (dVar 0) (dOf (eC (.int 2))))))) (dOf (eBin dIx (dVar 0) (dOf (eC (.int 2)))))))))
    sNil')
    (sSeq (sIf (bTest (eBin dEq (dOf (eBin dIx (dVar 0) (dOf (eC (.int 0))))) (dOf (eC (.str "table")))))
    (sRet (eMt isLstD gIndexLX (dOf (eBin dAdd (dOf (eApp gList (sCons (dOf (eBin dIx (dVar 0) (dOf (eC (.int 2))))) sNil))) (dOf (eLst (aCons (eVar 2) aNil))))) (sCons (dVar 2) sNil)))
    sNil')
    (sSeq (sIf (bTest (eBin dEq (dOf (eBin dIx (dVar 0) (dOf (eC (.int 0))))) (dOf (eC (.str "among")))))
    (sRet (eIf (bTest (eBin dIn (dVar 2) (dOf (eBin dIx (dVar 0) (dOf (eC (.int 2))))))) (eC (.int 0)) (eC (.int 1))))
    sNil')
    (sSeq (sSet 4 (eBin dIx (dVar 1) (dOf (eBin dIx (dVar 0) (dOf (eC (.int 2)))))))
    (sSeq (sIf (bTest (eBin dEq (dOf (eBin dIx (dVar 0) (dOf (eC (.int 0))))) (dOf (eC (.str "sum")))))
    (sRet (eBin dAdd (dVar 2) (dVar 4)))
    sNil')
    (sSeq (sIf (bTest (eBin dEq (dOf (eBin dIx (dVar 0) (dOf (eC (.int 0))))) (dOf (eC (.str "gap")))))
    (sRet (eIf (bTest (eBin (dCmp rGt zGt) (dVar 2) (dVar 4))) (eBin dSub (dVar 2) (dVar 4)) (eBin dSub (dVar 4) (dVar 2))))
    sNil')
    (sRet (eIf (bTest (eBin (dCmp rGt zGt) (dVar 2) (dVar 4))) (eVar 2) (eVar 4)))))))))))))
def m__law_worth_ : Nat → Fn
  | 0 => fun _ _ => none
  | k + 1 => runB 5 (b__law_worth (m__law_worth_ k))
def m__law_worth : Fn := m__law_worth_ 4
def l__law_word_1 : Fs :=
    (sSeq (sPar 4 5 (aCons (eCall m__law_worth (aCons (eVar 3) (aCons (eVar 1) aNil))) (aCons (eCall m__law_worth (aCons (eVar 3) (aCons (eVar 2) aNil))) aNil)))
    (sIf (bTest (eBin dNe (dVar 4) (dVar 5)))
    (sRet (eIf (bTest (eBin (dCmp rLt zLt) (dVar 4) (dVar 5))) (eUn dNeg (dOf (eC (.int 1)))) (eC (.int 1))))
    sNil'))
def b__law_word : Fs :=
    (sSeq (sFor (iVal (eVar 0)) (gOne 3)
    l__law_word_1)
    (sRet (eC (.int 0))))
def m__law_word : Fn := runB 6 b__law_word
-- l_form_1: head 1:every 3:ranks of 6
def l_form_1 : Fs :=
    (sEnd [4, 5] (sPut 3 (dVar 5) (eVar 4)))
def b_form : Fs :=
    (sSeq (sEnd [0] (sSet 1 (eFrz (eComp (iOf (dOf (eCall m_all_things aNil))) (gOne 2) [2] bYes (eCall m_worths (aCons (eVar 0) (aCons (eVar 2) aNil)))))))
    (sSeq (sSet 3 eDicT)
    (sSeq (sFor (iEnumF (eApp gSortSetT (sCons (dVar 1) sNil))) (gMany [4, 5])
    l_form_1)
    (sRet (eApp gTup (sCons (dOf (eComp (iOf (dVar 1)) (gOne 5) [5] bYes (eBin dIxD (dVar 3) (dVar 5)))) sNil))))))
def m_form : Fn := runB 6 b_form
def b_classes : Fs :=
    (sRet (eBin dAdd (dOf (eApp gMax1 (sCons (dOf (eCall m_form (aCons (eVar 0) aNil))) sNil))) (dOf (eC (.int 1)))))
def m_classes : Fn := runB 1 b_classes
def b_sign : Fs :=
    (sRet (eBin dSub (dOf (eApp gInt (sCons (dOf (eBin (dCmp rGt zGt) (dVar 0) (dVar 1))) sNil))) (dOf (eApp gInt (sCons (dOf (eBin (dCmp rLt zLt) (dVar 0) (dVar 1))) sNil)))))
def m_sign : Fn := runB 2 b_sign
-- l_first_pair_2: head 2:test 3:things 4:mine 5:yours 6:at of 8
def l_first_pair_2 : Fs :=
    (sEnd [7] (sIf (bTru (dOf (eCallP 2 (aCons (eCall m_sign (aCons (eBin dIx (dVar 4) (dVar 6)) (aCons (eBin dIx (dVar 4) (dVar 7)) aNil))) (aCons (eCall m_sign (aCons (eBin dIx (dVar 5) (dVar 6)) (aCons (eBin dIx (dVar 5) (dVar 7)) aNil))) aNil)))))
    (sRet (eTup (aCons (eBin dIx (dVar 3) (dVar 6)) (aCons (eBin dIx (dVar 3) (dVar 7)) aNil))))
    sNil'))
-- l_first_pair_1: head 2:test 3:things 4:mine 5:yours of 8
def l_first_pair_1 : Fs :=
    (sEnd [6] (sFor (iRng2 (dOf (eBin dAdd (dVar 6) (dOf (eC (.int 1))))) (dOf (eApp gLen (sCons (dVar 3) sNil)))) (gOne 7)
    l_first_pair_2))
def b_first_pair : Fs :=
    (sSeq (sSet 3 (eFrz (eCall m_all_things aNil)))
    (sSeq (sEnd [0] (sSet 4 (eFrz (eCall m_form (aCons (eVar 0) aNil)))))
    (sSeq (sEnd [1] (sSet 5 (eFrz (eCall m_form (aCons (eVar 1) aNil)))))
    (sSeq (sEnd [2, 3, 4, 5] (sFor (iRng1 (dOf (eApp gLen (sCons (dVar 3) sNil)))) (gOne 6)
    l_first_pair_1))
    (sRet (eC .none))))))
def m_first_pair : Fn := runB 8 b_first_pair
def b_is_whole_order : Fs :=
    (sRet (eBin dEq (dOf (eCall m_classes (aCons (eVar 0) aNil))) (dOf (eApp gLen (sCons (dOf (eCall m_all_things aNil)) sNil)))))
def m_is_whole_order : Fn := runB 1 b_is_whole_order
def b_tie : Fs :=
    (sSeq (sIf (bTru (dOf (eCall m_is_whole_order (aCons (eVar 0) aNil))))
    (sRet (eC .none))
    sNil')
    (sRet (eCall m_first_pair (aCons (eVar 0) (aCons (eVar 0) (aCons (eLam (fun i j => i == 0)) aNil))))))
def m_tie : Fn := runB 1 b_tie
def b_pairs_of : Fs :=
    (sRet (eBin dDiv (dOf (eBin dMul (dVar 0) (dOf (eBin dSub (dVar 0) (dOf (eC (.int 1))))))) (dOf (eC (.int 2)))))
def m_pairs_of : Fn := runB 1 b_pairs_of
-- l_ties_of_1: head 1:counts of 3
def l_ties_of_1 : Fs :=
    (sEnd [2] (sPut 1 (dVar 2) (eBin dAdd (dOf (eGetD (dVar 1) (dVar 2) (dOf (eC (.int 0))))) (dOf (eC (.int 1))))))
def b_ties_of : Fs :=
    (sSeq (sSet 1 eDicK)
    (sSeq (sForK [0] (iVal (eCall m_form (aCons (eVar 0) aNil))) (gOne 2)
    l_ties_of_1)
    (sRet (eLockI 1 (eApp gSum (sCons (dOf (eComp (iKeyF 1) (gOne 2) [2] bYes (eCall m_pairs_of (aCons (eBin dIxD (dVar 1) (dVar 2)) aNil)))) sNil))))))
def m_ties_of : Fn := runB 3 b_ties_of
-- l__law_every_1: head 0:_law_got of 2
def l__law_every_1 : Fs :=
    (sEnd [1] (sApp 0 (eTup (aCons (eBin dDiv (dVar 1) (dOf (eC (.int 36)))) (aCons (eBin dMod (dOf (eBin dDiv (dVar 1) (dOf (eC (.int 6))))) (dOf (eC (.int 6)))) (aCons (eBin dMod (dVar 1) (dOf (eC (.int 6)))) aNil))))))
-- l__law_form_1: head 1:_law_every_here 3:_law_spots of 5
def l__law_form_1 : Fs :=
    (sEnd [4] (sPut 3 (dVar 4) (eGetD (dVar 3) (dVar 4) (dOf (eApp gLenD (sCons (dVar 3) sNil))))))
def b_alike : Fs :=
    (sRet (eBin dEq (dOf (eCall m_form (aCons (eVar 0) aNil))) (dOf (eCall m_form (aCons (eVar 1) aNil)))))
def m_alike : Fn := runB 2 b_alike
def b__law_turn : Fs :=
    (sRet (eIf (bTest (eBin dEq (dOf (eBin dIx (dVar 0) (dOf (eC (.int 0))))) (dOf (eC (.str "down"))))) (eBin dIx (dVar 0) (dOf (eC (.int 1)))) (eTup (aCons (eC (.str "down")) (aCons (eVar 0) aNil)))))
def m__law_turn : Fn := runB 1 b__law_turn
-- l__law_least_2: head 0:_law_one 1:_law_other_here 2:_law_kind 3:_law_at 4:_law_a 5:_law_b of 9
def l__law_least_2 : Fs :=
    (sSeq (sPar 7 8 (aCons (eBin dIx (dVar 0) (dVar 6)) (aCons (eBin dIx (dVar 1) (dVar 6)) aNil)))
    (sEnd [6, 7, 8] (sIf (bOr (bTest (eBin dNe (dOf (eBin (dCmp rLt zLt) (dVar 4) (dVar 7))) (dOf (eBin (dCmp rLt zLt) (dVar 5) (dVar 8))))) (bTest (eBin dNe (dOf (eBin (dCmp rGt zGt) (dVar 4) (dVar 7))) (dOf (eBin (dCmp rGt zGt) (dVar 5) (dVar 8))))))
    (sEnd [6, 7, 8] (sIf (bOr (bTest (eBin dEq (dVar 2) (dOf (eC (.int 0))))) (bTest (eBin dNe (dVar 5) (dVar 8))))
    (sRet (eTup (aCons (eVar 3) (aCons (eVar 6) aNil))))
    sNil'))
    sNil')))
-- l__law_least_1: head 0:_law_one 1:_law_other_here 2:_law_kind of 9
def l__law_least_1 : Fs :=
    (sSeq (sPar 4 5 (aCons (eBin dIx (dVar 0) (dVar 3)) (aCons (eBin dIx (dVar 1) (dVar 3)) aNil)))
    (sEnd [3, 4, 5] (sFor (iRng2 (dOf (eBin dAdd (dVar 3) (dOf (eC (.int 1))))) (dOf (eC (.int 216)))) (gOne 6)
    l__law_least_2)))
-- l_deciders_1: head 0:row 1:found of 3
def l_deciders_1 : Fs :=
    (sEnd [2] (sSet 1 (eFrz (eBin dAdd (dVar 1) (dOf (eTup (aCons (eBin dSub (dOf (eCall m_ties_of (aCons (eSl dSl (dVar 0) oNone (oSome (dVar 2))) aNil))) (dOf (eCall m_ties_of (aCons (eSl dSl (dVar 0) oNone (oSome (dOf (eBin dAdd (dVar 2) (dOf (eC (.int 1))))))) aNil)))) aNil)))))))
def b_without : Fs :=
    (sRet (eBin dAdd (dOf (eSl dSl (dVar 0) oNone (oSome (dVar 1)))) (dOf (eSl dSl (dVar 0) (oSome (dOf (eBin dAdd (dVar 1) (dOf (eC (.int 1)))))) oNone))))
def m_without : Fn := runB 2 b_without
-- l_short_1: head 0:row of 2
def l_short_1 : Fs :=
    (sEnd [1] (sIf (bTru (dOf (eCall m_alike (aCons (eCall m_without (aCons (eVar 0) (aCons (eVar 1) aNil))) (aCons (eVar 0) aNil)))))
    (sEnd [1] (sSet 0 (eFrz (eCall m_without (aCons (eVar 0) (aCons (eVar 1) aNil))))))
    sNil'))
-- l__law_row_1: head 0:_law_script 1:_law_town 2:_law_row_here of 7
def l__law_row_1 : Fs :=
    (sSeq (sEnd [3] (sSet 4 (eFrz (eCall m__law_key (aCons (eVar 0) (aCons (eVar 1) aNil))))))
    (sSeq (sIf (bAnd (bTru (dVar 2)) (bTest (eBin dEq (dOf (eCall m__law_draw (aCons (eVar 0) (aCons (eVar 1) (aCons (eC (.int 2)) aNil))))) (dOf (eC (.int 0))))))
    (sSeq (sSet 4 (eFrz (eCall m__law_pick (aCons (eVar 0) (aCons (eVar 1) (aCons (eVar 2) aNil))))))
    (sSeq (sSet 5 (eIf (bTest (eBin dEq (dOf (eBin dIx (dVar 4) (dOf (eC (.int 0))))) (dOf (eC (.str "down"))))) (eBin dIx (dOf (eBin dIx (dVar 4) (dOf (eC (.int 1))))) (dOf (eC (.int 1)))) (eBin dIx (dVar 4) (dOf (eC (.int 1))))))
    (sSeq (sEnd [5] (sSet 6 (eFrz (eLst (aCons (eTup (aCons (eC (.str "up")) (aCons (eVar 5) aNil))) (aCons (eTup (aCons (eC (.str "part")) (aCons (eVar 5) (aCons (eC (.int 2)) aNil)))) (aCons (eTup (aCons (eC (.str "rest")) (aCons (eVar 5) (aCons (eC (.int 3)) aNil)))) (aCons (eTup (aCons (eC (.str "among")) (aCons (eVar 5) (aCons (eTup (aCons (eC (.int 0)) (aCons (eC (.int 3)) aNil))) aNil)))) aNil))))))))
    (sEnd [6] (sSet 4 (eFrz (eCall m__law_pick (aCons (eVar 0) (aCons (eVar 1) (aCons (eBin dAdd (dVar 6) (dOf (eLst (aCons (eVar 4) (aCons (eVar 4) (aCons (eCall m__law_turn (aCons (eVar 4) aNil)) aNil)))))) aNil))))))))))
    sNil')
    (sEnd [4] (sSet 2 (eFrz (eBin dAdd (dVar 2) (dOf (eTup (aCons (eVar 4) aNil)))))))))
-- l__law_speaks_3: head 0:_law_row_here 1:_law_every_here 3:_law_got 5:_law_one 6:_law_other_here of 8
def l__law_speaks_3 : Fs :=
    (sEnd [7] (sIf (bAnd (bTest (eBin dEq (dOf (eSl dSl (dVar 5) oNone (oSome (dVar 7)))) (dOf (eSl dSl (dVar 6) oNone (oSome (dVar 7)))))) (bTest (eBin dNe (dOf (eBin dIx (dVar 5) (dVar 7))) (dOf (eBin dIx (dVar 6) (dVar 7))))))
    (sEnd [7] (sSetIx 3 (dVar 7) (eBin dAdd (dOf (eBin dIx (dVar 3) (dVar 7))) (dOf (eC (.int 1))))))
    sNil'))
-- l__law_speaks_2: head 0:_law_row_here 1:_law_every_here 3:_law_got 5:_law_one of 8
def l__law_speaks_2 : Fs :=
    (sEnd [6] (sFor (iRng1 (dOf (eApp gLen (sCons (dVar 0) sNil)))) (gOne 7)
    l__law_speaks_3))
-- l__law_speaks_1: head 0:_law_row_here 1:_law_every_here 3:_law_got of 8
def l__law_speaks_1 : Fs :=
    (sEnd [5] (sForK [4] (iVal (eSl dSl (dVar 1) (oSome (dOf (eBin dAdd (dVar 4) (dOf (eC (.int 1)))))) oNone)) (gOne 6)
    l__law_speaks_2))
def b_places : Fs :=
    (sSeq (sSet 2 (eFrz (eApp gSorted (sCons (dOf (eComp (iEnumV (dVar 1)) (gMany [3, 4]) [3, 4] bYes (eTup (aCons (eCall m_worths (aCons (eVar 0) (aCons (eVar 4) aNil))) (aCons (eVar 3) aNil))))) sNil))))
    (sRet (eApp gTup (sCons (dOf (eComp (iOf (dVar 2)) (gMany [5, 3]) [5, 3] bYes (eVar 3))) sNil))))
def m_places : Fn := runB 6 b_places
def b_ordered : Fs :=
    (sRet (eApp gTup (sCons (dOf (eComp (iOf (dOf (eCall m_places (aCons (eVar 0) (aCons (eVar 1) aNil))))) (gOne 2) [2] bYes (eBin dIx (dVar 1) (dVar 2)))) sNil)))
def m_ordered : Fn := runB 3 b_ordered
def b_is_ordered : Fs :=
    (sRet (eApp gAll (sCons (dOf (eComp (iZipV (dOf (eSl dSl (dVar 1) oNone (oSome (dOf (eUn dNeg (dOf (eC (.int 1)))))))) (dOf (eSl dSl (dVar 1) (oSome (dOf (eC (.int 1)))) oNone))) (gMany [2, 3]) [2, 3] bYes (eBin (dCmp rLt zLt) (dOf (eCall m_told (aCons (eVar 0) (aCons (eVar 2) (aCons (eVar 3) aNil))))) (dOf (eC (.int 1)))))) sNil)))
def m_is_ordered : Fn := runB 4 b_is_ordered
def l_runs_1 : Fs :=
    (sIf (bAnd (bTru (dVar 2)) (bTest (eBin (dCmp rLt zLt) (dOf (eCall m_told (aCons (eVar 0) (aCons (eBin dIx (dOf (eBin dIx (dVar 2) (dOf (eUn dNeg (dOf (eC (.int 1))))))) (dOf (eUn dNeg (dOf (eC (.int 1)))))) (aCons (eVar 3) aNil))))) (dOf (eC (.int 1))))))
    (sSetIx 2 (dOf (eUn dNeg (dOf (eC (.int 1))))) (eBin dAdd (dOf (eBin dIx (dVar 2) (dOf (eUn dNeg (dOf (eC (.int 1))))))) (dOf (eTup (aCons (eVar 3) aNil)))))
    (sApp 2 (eTup (aCons (eVar 3) aNil))))
def b_runs : Fs :=
    (sSeq (sSet 2 (eLst aNil))
    (sSeq (sFor (iVal (eVar 1)) (gOne 3)
    l_runs_1)
    (sRet (eApp gTup (sCons (dVar 2) sNil)))))
def m_runs : Fn := runB 4 b_runs
def l_crossings_1 : Fs :=
    (sSet 2 (eFrz (eBin dAdd (dVar 2) (dOf (eApp gLen (sCons (dOf (eComp (iOf (dOf (eSl dSl (dVar 1) (oSome (dOf (eBin dAdd (dVar 3) (dOf (eC (.int 1)))))) oNone))) (gOne 5) [5] (bTest (eBin dEq (dOf (eCall m_told (aCons (eVar 0) (aCons (eVar 4) (aCons (eVar 5) aNil))))) (dOf (eC (.int 1))))) (eVar 5))) sNil))))))
def b_crossings : Fs :=
    (sSeq (sSet 2 (eC (.int 0)))
    (sSeq (sFor (iEnumF (eVar 1)) (gMany [3, 4])
    l_crossings_1)
    (sRet (eVar 2))))
def m_crossings : Fn := runB 6 b_crossings
def l__law_sorted_2 : Fs :=
    (sSet 5 (eFrz (eBin dAdd (dVar 5) (dOf (eC (.int 1))))))
def l__law_sorted_1 : Fs :=
    (sSeq (sSet 5 (eC (.int 0)))
    (sSeq (loopW (bAnd (bTest (eBin (dCmp rLt zLt) (dVar 5) (dOf (eApp gLen (sCons (dVar 2) sNil))))) (bTest (eBin (dCmp rLt zLt) (dOf (eCall m__law_word (aCons (eVar 0) (aCons (eBin dIx (dVar 1) (dOf (eBin dIx (dVar 2) (dVar 5)))) (aCons (eVar 4) aNil))))) (dOf (eC (.int 1)))))) l__law_sorted_2 100000)
    (sSet 2 (eFrz (eBin dAdd (dOf (eBin dAdd (dOf (eSl dSl (dVar 2) oNone (oSome (dVar 5)))) (dOf (eLst (aCons (eVar 3) aNil))))) (dOf (eSl dSl (dVar 2) (oSome (dVar 5)) oNone)))))))
def b__law_sorted : Fs :=
    (sSeq (sSet 2 (eFrz (eLst aNil)))
    (sSeq (sFor (iEnumF (eVar 1)) (gMany [3, 4])
    l__law_sorted_1)
    (sRet (eVar 2))))
def m__law_sorted : Fn := runB 6 b__law_sorted
-- l_merged_1: head 0:row 1:ones 2:others 3:found of 4
def l_merged_1 : Fs :=
    (sIf (bTest (eBin (dCmp rLt zLt) (dOf (eCall m_told (aCons (eVar 0) (aCons (eBin dIx (dVar 1) (dOf (eC (.int 0)))) (aCons (eBin dIx (dVar 2) (dOf (eC (.int 0)))) aNil))))) (dOf (eC (.int 1)))))
    (sSeq (sSet 3 (eFrz (eBin dAdd (dVar 3) (dOf (eSl dSl (dVar 1) oNone (oSome (dOf (eC (.int 1)))))))))
    (sSet 1 (eFrz (eSl dSl (dVar 1) (oSome (dOf (eC (.int 1)))) oNone))))
    (sSeq (sSet 3 (eFrz (eBin dAdd (dVar 3) (dOf (eSl dSl (dVar 2) oNone (oSome (dOf (eC (.int 1)))))))))
    (sSet 2 (eFrz (eSl dSl (dVar 2) (oSome (dOf (eC (.int 1)))) oNone)))))
def b_merged : Fs :=
    (sSeq (sSet 3 (eTup aNil))
    (sSeq (sEnd [0] (loopW (bAnd (bTru (dVar 1)) (bTru (dVar 2))) l_merged_1 100000))
    (sRet (eBin dAdd (dOf (eBin dAdd (dVar 3) (dVar 1))) (dVar 2)))))
def m_merged : Fn := runB 4 b_merged
-- l_turns_2: head 0:row 2:rows 3:found 4:after of 9
def l_turns_2 : Fs :=
    (sSeq (sEnd [5] (sSet 6 (eFrz (eSl dSl (dVar 2) (oSome (dVar 5)) (oSome (dOf (eBin dAdd (dVar 5) (dOf (eC (.int 2))))))))))
    (sEnd [6] (sApp 4 (eCall m_merged (aCons (eVar 0) (aCons (eBin dIx (dVar 6) (dOf (eC (.int 0)))) (aCons (eBin dIx (dOf (eBin dAdd (dVar 6) (dOf (eLst (aCons (eTup aNil) aNil))))) (dOf (eC (.int 1)))) aNil)))))))
-- l_turns_3: head 0:row 2:rows 3:found 7:whole of 9
def l_turns_3 : Fs :=
    (sEnd [8] (sSet 7 (eFrz (eBin dAdd (dVar 7) (dVar 8)))))
-- l_turns_1: head 0:row 2:rows 3:found of 9
def l_turns_1 : Fs :=
    (sSeq (sSet 4 (eLst aNil))
    (sSeq (sEnd [2] (sFor (iRng3D (dOf (eC (.int 0))) (dOf (eApp gLen (sCons (dVar 2) sNil))) (dOf (eC (.int 2)))) (gOne 5)
    l_turns_2))
    (sSeq (sEnd [4] (frzAt 4 (sSet 2 (eVar 4))))
    (sSeq (sSet 7 (eTup aNil))
    (sSeq (sFor (iVal (eVar 2)) (gOne 8)
    l_turns_3)
    (sEnd [7] (sApp 3 (eVar 7))))))))
def b__law_together : Fs :=
    (sSeq (sEnd [1, 2] (sSet 3 (eFrz (eBin dAdd (dVar 1) (dVar 2)))))
    (sRet (eApp gTup (sCons (dOf (eComp (iOf (dOf (eCall m__law_sorted (aCons (eVar 0) (aCons (eVar 3) aNil))))) (gOne 4) [4] bYes (eBin dIx (dVar 3) (dVar 4)))) sNil))))
def m__law_together : Fn := runB 5 b__law_together
-- l__law_turns_1: head 0:_law_row 2:_law_cut of 9
def l__law_turns_1 : Fs :=
    (sIf (bAnd (bTru (dVar 2)) (bTest (eBin (dCmp rLt zLt) (dOf (eCall m__law_word (aCons (eVar 0) (aCons (eBin dIx (dOf (eBin dIx (dVar 2) (dOf (eUn dNeg (dOf (eC (.int 1))))))) (dOf (eUn dNeg (dOf (eC (.int 1)))))) (aCons (eVar 3) aNil))))) (dOf (eC (.int 1))))))
    (sEnd [3] (sSetIx 2 (dOf (eUn dNeg (dOf (eC (.int 1))))) (eBin dAdd (dOf (eBin dIx (dVar 2) (dOf (eUn dNeg (dOf (eC (.int 1))))))) (dOf (eTup (aCons (eVar 3) aNil))))))
    (sEnd [3] (sApp 2 (eTup (aCons (eVar 3) aNil)))))
-- l__law_turns_3: head 0:_law_row 2:_law_cut 4:_law_got 5:_law_after of 9
def l__law_turns_3 : Fs :=
    (sIf (bTest (eBin (dCmp rLt zLt) (dOf (eBin dAdd (dVar 6) (dOf (eC (.int 1))))) (dOf (eApp gLen (sCons (dVar 2) sNil)))))
    (sEnd [6] (sApp 5 (eCall m__law_together (aCons (eVar 0) (aCons (eBin dIx (dVar 2) (dVar 6)) (aCons (eBin dIx (dVar 2) (dOf (eBin dAdd (dVar 6) (dOf (eC (.int 1)))))) aNil))))))
    (sEnd [6] (sApp 5 (eBin dIx (dVar 2) (dVar 6)))))
-- l__law_turns_4: head 0:_law_row 2:_law_cut 4:_law_got 7:_law_whole of 9
def l__law_turns_4 : Fs :=
    (sEnd [8] (sSet 7 (eFrz (eBin dAdd (dVar 7) (dVar 8)))))
-- l__law_turns_2: head 0:_law_row 2:_law_cut 4:_law_got of 9
def l__law_turns_2 : Fs :=
    (sSeq (sSet 5 (eLst aNil))
    (sSeq (sEnd [2] (sFor (iRng3D (dOf (eC (.int 0))) (dOf (eApp gLen (sCons (dVar 2) sNil))) (dOf (eC (.int 2)))) (gOne 6)
    l__law_turns_3))
    (sSeq (sEnd [5] (frzAt 5 (sSet 2 (eVar 5))))
    (sSeq (sSet 7 (eTup aNil))
    (sSeq (frzAt 2 (sFor (iVal (eVar 2)) (gOne 8)
    l__law_turns_4))
    (sEnd [7] (sApp 4 (eVar 7))))))))
def l_groups_1 : Fs :=
    (sIf (bAnd (bTru (dVar 2)) (bTest (eBin dEq (dOf (eCall m_told (aCons (eVar 0) (aCons (eBin dIx (dOf (eBin dIx (dVar 2) (dOf (eUn dNeg (dOf (eC (.int 1))))))) (dOf (eC (.int 0)))) (aCons (eVar 3) aNil))))) (dOf (eC (.int 0))))))
    (sSetIx 2 (dOf (eUn dNeg (dOf (eC (.int 1))))) (eBin dAdd (dOf (eBin dIx (dVar 2) (dOf (eUn dNeg (dOf (eC (.int 1))))))) (dOf (eTup (aCons (eVar 3) aNil)))))
    (sApp 2 (eTup (aCons (eVar 3) aNil))))
def b_groups : Fs :=
    (sSeq (sSet 2 (eLst aNil))
    (sSeq (sFor (iVal (eCall m_ordered (aCons (eVar 0) (aCons (eVar 1) aNil)))) (gOne 3)
    l_groups_1)
    (sRet (eApp gTup (sCons (dVar 2) sNil)))))
def m_groups : Fn := runB 4 b_groups
def l_best_1 : Fs :=
    (sIf (bTest (eBin (dCmp rLt zLt) (dOf (eApp gLen (sCons (dVar 3) sNil))) (dVar 2)))
    (sSet 3 (eFrz (eBin dAdd (dVar 3) (dVar 4))))
    sNil')
def b_best : Fs :=
    (sSeq (sSet 3 (eTup aNil))
    (sSeq (sFor (iVal (eCall m_groups (aCons (eVar 0) (aCons (eVar 1) aNil)))) (gOne 4)
    l_best_1)
    (sRet (eVar 3))))
def m_best : Fn := runB 5 b_best
def l_list_told_1 : Fs :=
    (sSeq (sSet 5 (eFrz (eCall m_told (aCons (eVar 0) (aCons (eVar 3) (aCons (eVar 4) aNil))))))
    (sIf (bTest (eBin dNe (dVar 5) (dOf (eC (.int 0)))))
    (sRet (eVar 5))
    sNil'))
def b_list_told : Fs :=
    (sSeq (sFor (iZipF (eVar 1) (eVar 2)) (gMany [3, 4])
    l_list_told_1)
    (sRet (eBin dSub (dOf (eApp gInt (sCons (dOf (eBin (dCmp rGt zGt) (dOf (eApp gLen (sCons (dVar 1) sNil))) (dOf (eApp gLen (sCons (dVar 2) sNil))))) sNil))) (dOf (eApp gInt (sCons (dOf (eBin (dCmp rLt zLt) (dOf (eApp gLen (sCons (dVar 1) sNil))) (dOf (eApp gLen (sCons (dVar 2) sNil))))) sNil))))))
def m_list_told : Fn := runB 6 b_list_told
def b_is_odd : Fs :=
    (sRet (eBin dNe (dOf (eBin dIx (dOf (eBin dIx (dVar 0) (dVar 1))) (dVar 2))) (dOf (eBin dSub (dOf (eC (.int 0))) (dOf (eBin dIx (dOf (eBin dIx (dVar 0) (dVar 2))) (dVar 1)))))))
def m_is_odd : Fn := runB 3 b_is_odd
def b_is_chain : Fs :=
    (sSeq (sSet 4 (eBin dIx (dOf (eBin dIx (dVar 0) (dVar 1))) (dVar 2)))
    (sSeq (sEnd [2] (sSet 5 (eBin dIx (dOf (eBin dIx (dVar 0) (dVar 2))) (dVar 3))))
    (sRet (eAnd (eBin (dCmp rLt zLt) (dVar 4) (dOf (eC (.int 1)))) (eAnd (eBin (dCmp rLt zLt) (dVar 5) (dOf (eC (.int 1)))) (eBin dNe (dOf (eBin dIx (dOf (eBin dIx (dVar 0) (dVar 1))) (dVar 3))) (dOf (eApp gMin2 (sCons (dVar 4) (sCons (dVar 5) sNil))))))))))
def m_is_chain : Fn := runB 6 b_is_chain
-- l_why_none_2: head 0:table 1:many 2:one of 5
def l_why_none_2 : Fs :=
    (sEnd [3] (sIf (bTru (dOf (eCall m_is_odd (aCons (eVar 0) (aCons (eVar 2) (aCons (eVar 3) aNil))))))
    (sRet (eTup (aCons (eC (.str "odd")) (aCons (eVar 2) (aCons (eVar 3) aNil)))))
    sNil'))
-- l_why_none_1: head 0:table 1:many of 5
def l_why_none_1 : Fs :=
    (sEnd [2] (sFor (iVal (eVar 1)) (gOne 3)
    l_why_none_2))
-- l_why_none_5: head 0:table 1:many 2:one 3:other of 5
def l_why_none_5 : Fs :=
    (sEnd [4] (sIf (bTru (dOf (eCall m_is_chain (aCons (eVar 0) (aCons (eVar 2) (aCons (eVar 3) (aCons (eVar 4) aNil)))))))
    (sRet (eTup (aCons (eC (.str "chain")) (aCons (eVar 2) (aCons (eVar 3) (aCons (eVar 4) aNil))))))
    sNil'))
-- l_why_none_4: head 0:table 1:many 2:one of 5
def l_why_none_4 : Fs :=
    (sEnd [3] (sFor (iVal (eVar 1)) (gOne 4)
    l_why_none_5))
-- l_why_none_3: head 0:table 1:many of 5
def l_why_none_3 : Fs :=
    (sEnd [2] (sFor (iVal (eVar 1)) (gOne 3)
    l_why_none_4))
-- l__law_table_1: head 0:_law_script 1:_law_town 2:_law_many 3:_law_marks 5:_law_rows of 10
def l__law_table_1 : Fs :=
    (sEnd [6] (sAppN 5 (eComp (iOf (dVar 3)) (gOne 7) [7] bYes (eIf (bTest (eBin (dCmp rLt zLt) (dVar 6) (dVar 7))) (eUn dNeg (dOf (eC (.int 1)))) (eIf (bTest (eBin (dCmp rGt zGt) (dVar 6) (dVar 7))) (eC (.int 1)) (eC (.int 0)))))))
-- l__law_table_2: head 0:_law_script 1:_law_town 2:_law_many 5:_law_rows of 10
def l__law_table_2 : Fs :=
    (sSeq (sEnd [4] (sAsg (gMany [6, 7]) (eTup (aCons (eCall m__law_draw (aCons (eVar 0) (aCons (eVar 1) (aCons (eVar 2) aNil)))) (aCons (eCall m__law_draw (aCons (eVar 0) (aCons (eVar 1) (aCons (eVar 2) aNil)))) aNil)))))
    (sSeq (sSet 8 (eBin dSub (dOf (eCall m__law_draw (aCons (eVar 0) (aCons (eVar 1) (aCons (eC (.int 3)) aNil))))) (dOf (eC (.int 1)))))
    (sSeq (sStN 5 (dVar 6) (dVar 7) (eVar 8))
    (sEnd [6, 7, 8] (sIf (bTest (eBin (dCmp rGt zGt) (dOf (eCall m__law_draw (aCons (eVar 0) (aCons (eVar 1) (aCons (eC (.int 3)) aNil))))) (dOf (eC (.int 0)))))
    (sEnd [6, 7, 8] (sStN 5 (dVar 7) (dVar 6) (eUn dNeg (dVar 8))))
    sNil')))))
def b__law_is_odd : Fs :=
    (sRet (eBin dNe (dOf (eBin dAdd (dOf (eBin dIx (dOf (eBin dIx (dVar 0) (dVar 1))) (dVar 2))) (dOf (eBin dIx (dOf (eBin dIx (dVar 0) (dVar 2))) (dVar 1))))) (dOf (eC (.int 0)))))
def m__law_is_odd : Fn := runB 3 b__law_is_odd
def b__law_is_chain : Fs :=
    (sSeq (sIf (bOr (bTest (eBin dEq (dOf (eBin dIx (dOf (eBin dIx (dVar 0) (dVar 1))) (dVar 2))) (dOf (eC (.int 1))))) (bTest (eBin dEq (dOf (eBin dIx (dOf (eBin dIx (dVar 0) (dVar 2))) (dVar 3))) (dOf (eC (.int 1))))))
    (sRet (eC (.bool false)))
    sNil')
    (sRet (eBin dNe (dOf (eBin dIx (dOf (eBin dIx (dVar 0) (dVar 1))) (dVar 3))) (dOf (eIf (bTest (eBin dIn (dOf (eUn dNeg (dOf (eC (.int 1))))) (dOf (eTup (aCons (eBin dIx (dOf (eBin dIx (dVar 0) (dVar 1))) (dVar 2)) (aCons (eBin dIx (dOf (eBin dIx (dVar 0) (dVar 2))) (dVar 3)) aNil)))))) (eUn dNeg (dOf (eC (.int 1)))) (eC (.int 0)))))))
def m__law_is_chain : Fn := runB 4 b__law_is_chain
-- l__law_papers_2: head 0:_law_table_here 1:_law_every 2:_law_got 3:_law_k of 6
def l__law_papers_2 : Fs :=
    (sSeq (sIf (bTru (dOf (eCall m__law_is_odd (aCons (eVar 0) (aCons (eVar 3) (aCons (eVar 4) aNil))))))
    (sApp 2 (eTup (aCons (eC (.str "odd")) (aCons (eVar 3) (aCons (eVar 4) aNil)))))
    sNil')
    (sEnd [4] (sSet 2 (eBin dAdd (dVar 2) (dOf (eComp (iOf (dVar 1)) (gOne 5) [5] (bTru (dOf (eCall m__law_is_chain (aCons (eVar 0) (aCons (eVar 3) (aCons (eVar 4) (aCons (eVar 5) aNil))))))) (eTup (aCons (eC (.str "chain")) (aCons (eVar 3) (aCons (eVar 4) (aCons (eVar 5) aNil)))))))))))
-- l__law_papers_1: head 0:_law_table_here 1:_law_every 2:_law_got of 6
def l__law_papers_1 : Fs :=
    (sEnd [3] (sFor (iVal (eVar 1)) (gOne 4)
    l__law_papers_2))
-- l__law_is_why_1: head 0:_law_table_here 1:_law_thing of 3
def l__law_is_why_1 : Fs :=
    (sEnd [2] (sIf (bOr (bNot (bTru (dOf (eIsa "int" (dVar 2))))) (bOr (bTru (dOf (eIsa "bool" (dVar 2)))) (bOr (bTest (eBin (dCmp rLt zLt) (dVar 2) (dOf (eC (.int 0))))) (bTest (eBin (dCmp rGe zGe) (dVar 2) (dOf (eApp gLen (sCons (dVar 0) sNil))))))))
    (sRet (eC (.bool false)))
    sNil'))
-- l__law_is_table_2: head 0:_law_thing of 3
def l__law_is_table_2 : Fs :=
    (sEnd [2] (sIf (bOr (bNot (bTru (dOf (eIsa "int" (dVar 2))))) (bOr (bTru (dOf (eIsa "bool" (dVar 2)))) (bTest (eBin dNotIn (dVar 2) (dOf (eTup (aCons (eUn dNeg (dOf (eC (.int 1)))) (aCons (eC (.int 0)) (aCons (eC (.int 1)) aNil)))))))))
    (sRet (eC (.bool false)))
    sNil'))
-- l__law_is_table_1: head 0:_law_thing of 3
def l__law_is_table_1 : Fs :=
    (sSeq (sIf (bOr (bNot (bTru (dOf (eIsa "tuple" (dVar 1))))) (bTest (eBin dNe (dOf (eApp gLen (sCons (dVar 1) sNil))) (dOf (eApp gLen (sCons (dVar 0) sNil))))))
    (sRet (eC (.bool false)))
    sNil')
    (sForK [1] (iVal (eVar 1)) (gOne 2)
    l__law_is_table_2))
def b_behind : Fs :=
    (sRet (eApp gSorted (sCons (dOf (eComp (iOf (dVar 0)) (gMany [2, 3]) [2, 3] (bTest (eBin dEq (dVar 2) (dVar 1))) (eVar 3))) sNil)))
def m_behind : Fn := runB 4 b_behind
-- l_closed_1: head 0:pairs 1:found of 7
def l_closed_1 : Fs :=
    (sEnd [2] (sPut 1 (dVar 2) (eC (.bool true))))
-- l_closed_4: head 0:pairs 1:found 3:many 4:one of 7
def l_closed_4 : Fs :=
    (sEnd [6] (sPut 1 (dOf (eTup (aCons (eVar 4) (aCons (eVar 6) aNil)))) (eC (.bool true))))
-- l_closed_3: head 0:pairs 1:found 3:many of 7
def l_closed_3 : Fs :=
    (sEnd [4] (sForK [5] (iVal (eCall m_behind (aCons (eVar 0) (aCons (eVar 5) aNil)))) (gOne 6)
    l_closed_4))
-- l_closed_2: head 0:pairs 1:found 3:many of 7
def l_closed_2 : Fs :=
    (sSeq (sSet 3 (eApp gLenD (sCons (dVar 1) sNil)))
    (sFor (iVal (eApp gListD (sCons (dVar 1) sNil))) (gMany [4, 5])
    l_closed_3))
def b_closed : Fs :=
    (sSeq (sSet 1 eDicT)
    (sSeq (sFor (iVal (eVar 0)) (gOne 2)
    l_closed_1)
    (sSeq (sSet 3 (eUn dNeg (dOf (eC (.int 1)))))
    (sSeq (sEnd [0, 3] (loopW (bTest (eBin dNe (dVar 3) (dOf (eApp gLenD (sCons (dVar 1) sNil))))) l_closed_2 100000))
    (sRet (eApp gTup (sCons (dOf (eApp gSortedD (sCons (dVar 1) sNil))) sNil)))))))
def m_closed : Fn := runB 7 b_closed
-- l_ring_from_1: head 0:pairs 1:way of 4
def l_ring_from_1 (m : Fn) : Fs :=
    (sSeq (sIf (bTest (eBin dEq (dVar 2) (dOf (eBin dIx (dVar 1) (dOf (eC (.int 0)))))))
    (sRet (eVar 1))
    sNil')
    (sEnd [2] (sIf (bAnd (bTest (eBin (dCmp rGt zGt) (dVar 2) (dOf (eBin dIx (dVar 1) (dOf (eC (.int 0))))))) (bTest (eBin dNotIn (dVar 2) (dVar 1))))
    (sSeq (sEnd [2] (sSet 3 (eFrz (eCall m (aCons (eVar 0) (aCons (eBin dAdd (dVar 1) (dOf (eTup (aCons (eVar 2) aNil)))) aNil))))))
    (sEnd [3] (sIf (bTest (eBin dNotN (dVar 3) (dOf (eC .none))))
    (sRet (eVar 3))
    sNil')))
    sNil')))
def b_ring_from (m : Fn) : Fs :=
    (sSeq (sEnd [0, 1] (sFor (iVal (eCall m_behind (aCons (eVar 0) (aCons (eBin dIx (dVar 1) (dOf (eUn dNeg (dOf (eC (.int 1)))))) aNil)))) (gOne 2)
    (l_ring_from_1 m)))
    (sRet (eC .none)))
def m_ring_from_ : Nat → Fn
  | 0 => fun _ _ => none
  | k + 1 => runB 4 (b_ring_from (m_ring_from_ k))
def m_ring_from : Fn := m_ring_from_ 10
-- l_ring_1: head 0:pairs of 5
def l_ring_1 : Fs :=
    (sSeq (sEnd [1] (sSet 4 (eFrz (eCall m_ring_from (aCons (eVar 0) (aCons (eTup (aCons (eVar 1) aNil)) aNil))))))
    (sEnd [4] (sIf (bTest (eBin dNotN (dVar 4) (dOf (eC .none))))
    (sRet (eVar 4))
    sNil')))
def b_ring : Fs :=
    (sSeq (sEnd [0] (sFor (iVal (eApp gSortSet (sCons (dOf (eComp (iOf (dVar 0)) (gMany [2, 3]) [2, 3] bYes (eVar 2))) sNil))) (gOne 1)
    l_ring_1))
    (sRet (eC .none)))
def m_ring : Fn := runB 5 b_ring
-- l__law_pairs_1: head 0:_law_script 1:_law_town 2:_law_many 3:_law_got 4:_law_is_free 5:_law_order of 10
def l__law_pairs_1 : Fs :=
    (sSeq (sSet 7 (eCall m__law_draw (aCons (eVar 0) (aCons (eVar 1) (aCons (eBin dAdd (dOf (eApp gLen (sCons (dVar 5) sNil))) (dOf (eC (.int 1)))) aNil)))))
    (sEnd [6, 7] (sSet 5 (eFrz (eBin dAdd (dOf (eBin dAdd (dOf (eSl dSl (dVar 5) oNone (oSome (dVar 7)))) (dOf (eLst (aCons (eVar 6) aNil))))) (dOf (eSl dSl (dVar 5) (oSome (dVar 7)) oNone)))))))
-- l__law_pairs_2: head 0:_law_script 1:_law_town 2:_law_many 3:_law_got 4:_law_is_free 5:_law_order of 10
def l__law_pairs_2 : Fs :=
    (sSeq (sEnd [8] (sPar 6 9 (aCons (eCall m__law_draw (aCons (eVar 0) (aCons (eVar 1) (aCons (eVar 2) aNil)))) (aCons (eCall m__law_draw (aCons (eVar 0) (aCons (eVar 1) (aCons (eVar 2) aNil)))) aNil))))
    (sSeq (sIf (bAnd (bTru (dVar 4)) (bTest (eBin (dCmp rGt zGt) (dOf (eMt isLstD gIndexLX (dVar 5) (sCons (dVar 6) sNil))) (dOf (eMt isLstD gIndexLX (dVar 5) (sCons (dVar 9) sNil))))))
    (sPar 6 9 (aCons (eVar 9) (aCons (eVar 6) aNil)))
    sNil')
    (sEnd [6, 9] (sIf (bTest (eBin dNe (dVar 6) (dVar 9)))
    (sEnd [6, 9] (sPut 3 (dOf (eTup (aCons (eVar 6) (aCons (eVar 9) aNil)))) (eC (.int 0))))
    sNil'))))
-- l__law_follows_1: head 0:_law_pairs_here 1:_law_got of 8
def l__law_follows_1 : Fs :=
    (sEnd [2] (sPut 1 (dVar 2) (eC (.int 0))))
-- l__law_follows_4: head 0:_law_pairs_here 1:_law_got 4:_law_one 5:_law_other of 8
def l__law_follows_4 : Fs :=
    (sEnd [6, 7] (sIf (bTest (eBin dEq (dVar 5) (dVar 6)))
    (sEnd [6, 7] (sPut 1 (dOf (eTup (aCons (eVar 4) (aCons (eVar 7) aNil)))) (eC (.int 0))))
    sNil'))
-- l__law_follows_3: head 0:_law_pairs_here 1:_law_got of 8
def l__law_follows_3 : Fs :=
    (sEnd [4, 5] (sFor (iVal (eVar 0)) (gMany [6, 7])
    l__law_follows_4))
-- l__law_follows_2: head 0:_law_pairs_here 1:_law_got of 8
def l__law_follows_2 : Fs :=
    (sForK [3] (iVal (eApp gListD (sCons (dVar 1) sNil))) (gMany [4, 5])
    l__law_follows_3)
-- l__law_rings_1: head 0:_law_pairs_here 1:_law_way 2:_law_got of 5
def l__law_rings_1 (m : Fn) : Fs :=
    (sSeq (sIf (bAnd (bTest (eBin dEq (dVar 3) (dOf (eBin dIx (dVar 1) (dOf (eUn dNeg (dOf (eC (.int 1))))))))) (bTest (eBin dEq (dVar 4) (dOf (eBin dIx (dVar 1) (dOf (eC (.int 0))))))))
    (sApp 2 (eVar 1))
    sNil')
    (sEnd [3, 4] (sIf (bAnd (bTest (eBin dEq (dVar 3) (dOf (eBin dIx (dVar 1) (dOf (eUn dNeg (dOf (eC (.int 1))))))))) (bAnd (bTest (eBin (dCmp rGt zGt) (dVar 4) (dOf (eBin dIx (dVar 1) (dOf (eC (.int 0))))))) (bTest (eBin dNotIn (dVar 4) (dVar 1)))))
    (sEnd [3, 4] (sSet 2 (eBin dAdd (dVar 2) (dOf (eCall m (aCons (eVar 0) (aCons (eBin dAdd (dVar 1) (dOf (eTup (aCons (eVar 4) aNil)))) aNil)))))))
    sNil')))
-- l_free_pairs_2: head 1:many 2:every 3:found 4:one of 6
def l_free_pairs_2 : Fs :=
    (sEnd [5] (sIf (bAnd (bTest (eBin dNotIn (dOf (eTup (aCons (eVar 4) (aCons (eVar 5) aNil)))) (dVar 2))) (bTest (eBin dNotIn (dOf (eTup (aCons (eVar 5) (aCons (eVar 4) aNil)))) (dVar 2))))
    (sEnd [5] (sApp 3 (eTup (aCons (eVar 4) (aCons (eVar 5) aNil)))))
    sNil'))
-- l_free_pairs_1: head 1:many 2:every 3:found of 6
def l_free_pairs_1 : Fs :=
    (sEnd [4] (sFor (iRng2 (dOf (eBin dAdd (dVar 4) (dOf (eC (.int 1))))) (dVar 1)) (gOne 5)
    l_free_pairs_2))
-- l__law_orders_1: head 0:_law_pairs_here 1:_law_left 2:_law_got of 9
def l__law_orders_1 (m : Fn) : Fs :=
    (sEnd [3] (sIf (bNot (bTru (dOf (eComp (iOf (dVar 0)) (gMany [4, 5]) [4, 5] (bAnd (bTest (eBin dEq (dVar 5) (dVar 3))) (bTest (eBin dIn (dVar 4) (dVar 1)))) (eC (.int 1))))))
    (sSeq (sSet 6 (eFrz (eComp (iOf (dVar 1)) (gOne 7) [7] (bTest (eBin dNe (dVar 7) (dVar 3))) (eVar 7))))
    (sEnd [3, 6] (sSet 2 (eFrz (eBin dAdd (dVar 2) (dOf (eComp (iOf (dOf (eCall m (aCons (eVar 0) (aCons (eVar 6) aNil))))) (gOne 8) [8] bYes (eBin dAdd (dOf (eTup (aCons (eVar 3) aNil))) (dVar 8)))))))))
    sNil'))
def b_need_none : Fs :=
    (sEnd [0] (sIf (bTest (eBin dNotN (dOf (eCall m_ring (aCons (eVar 0) aNil))) (dOf (eC .none))))
    (fun _ _ => none)
    sNil'))
def m_need_none : Fn := runB 1 b_need_none
def bx_need_none : Fsx :=
    (sEndX [0] (sIfX (bTest (eBin dNotN (dOf (eCall m_ring (aCons (eVar 0) aNil))) (dOf (eC .none))))
    (sRz 0)
    (lft sNil')))
def x_need_none : Fnx := runX 1 bx_need_none
-- l_bare_1: head 1:every 2:found of 6
def l_bare_1 : Fs :=
    (sEnd [3, 4] (sIf (bNot (bTru (dOf (eComp (iOf (dOf (eCall m_behind (aCons (eVar 1) (aCons (eVar 3) aNil))))) (gOne 5) [5] (bTest (eBin dIn (dOf (eTup (aCons (eVar 5) (aCons (eVar 4) aNil)))) (dVar 1))) (eVar 5)))))
    (sEnd [3, 4] (sApp 2 (eTup (aCons (eVar 3) (aCons (eVar 4) aNil)))))
    sNil'))
def bx_bare : Fsx :=
    (sSeqX (sDropX (xCall x_need_none (aCons (eVar 0) aNil)))
    (lft (sSeq (sEnd [0] (sSet 1 (eFrz (eCall m_closed (aCons (eVar 0) aNil)))))
    (sSeq (sSet 2 (eLst aNil))
    (sSeq (sEnd [1] (sFor (iVal (eVar 1)) (gMany [3, 4])
    l_bare_1))
    (sRet (eApp gTup (sCons (dVar 2) sNil))))))))
def x_bare : Fnx := runX 6 bx_bare
-- l_orders_from_1: head 0:pairs 1:left 2:found of 8
def l_orders_from_1 (m : Fn) : Fs :=
    (sEnd [3] (sIf (bNot (bTru (dOf (eComp (iOf (dVar 0)) (gMany [4, 5]) [4, 5] (bAnd (bTest (eBin dEq (dVar 5) (dVar 3))) (bTest (eBin dIn (dVar 4) (dVar 1)))) (eVar 4)))))
    (sEnd [3] (sExt 2 (eComp (iOf (dOf (eCall m (aCons (eVar 0) (aCons (eComp (iOf (dVar 1)) (gOne 7) [7] (bTest (eBin dNe (dVar 7) (dVar 3))) (eVar 7)) aNil))))) (gOne 6) [6] bYes (eBin dAdd (dOf (eTup (aCons (eVar 3) aNil))) (dVar 6)))))
    sNil'))
def b_orders_from (m : Fn) : Fs :=
    (sSeq (sIf (bNot (bTru (dVar 1)))
    (sRet (eLst (aCons (eTup aNil) aNil)))
    sNil')
    (sSeq (sSet 2 (eLst aNil))
    (sSeq (sEnd [0, 1] (sFor (iVal (eVar 1)) (gOne 3)
    (l_orders_from_1 m)))
    (sRetO 2))))
def m_orders_from_ : Nat → Fn
  | 0 => fun _ _ => none
  | k + 1 => runB 8 (b_orders_from (m_orders_from_ k))
def m_orders_from : Fn := m_orders_from_ 10
def bx_orders : Fsx :=
    (sSeqX (sDropX (xCall x_need_none (aCons (eVar 0) aNil)))
    (lft (sRet (eApp gTup (sCons (dOf (eCall m_orders_from (aCons (eVar 0) (aCons (eListRg1 (dVar 1)) aNil)))) sNil)))))
def x_orders : Fnx := runX 2 bx_orders
-- l_least_order_2: head 0:pairs 2:found 3:left of 8
def l_least_order_2 : Fs :=
    (sEnd [4] (sIf (bNot (bTru (dOf (eComp (iOf (dVar 0)) (gMany [5, 6]) [5, 6] (bAnd (bTest (eBin dEq (dVar 6) (dVar 4))) (bTest (eBin dIn (dVar 5) (dVar 3)))) (eVar 5)))))
    (sSeq (sSet 2 (eFrz (eBin dAdd (dVar 2) (dOf (eTup (aCons (eVar 4) aNil))))))
    (sSeq (sEnd [4] (sSet 3 (eFrz (eComp (iOf (dVar 3)) (gOne 7) [7] (bTest (eBin dNe (dVar 7) (dVar 4))) (eVar 7)))))
    sBrk))
    sNil'))
-- l_least_order_1: head 0:pairs 2:found 3:left of 8
def l_least_order_1 : Fs :=
    (sFor (iVal (eVar 3)) (gOne 4)
    l_least_order_2)
def b_least_order : Fs :=
    (sSeq (sDrop (eCall m_need_none (aCons (eVar 0) aNil)))
    (sSeq (sSet 2 (eTup aNil))
    (sSeq (sEnd [1] (sSet 3 (eFrz (eListRg1 (dVar 1)))))
    (sSeq (sEnd [0, 3] (loopW (bTru (dVar 3)) l_least_order_1 100000))
    (sRet (eVar 2))))))
def m_least_order : Fn := runB 8 b_least_order
def bx_least_order : Fsx :=
    (sSeqX (sDropX (xCall x_need_none (aCons (eVar 0) aNil)))
    (lft (sSeq (sSet 2 (eTup aNil))
    (sSeq (sEnd [1] (sSet 3 (eFrz (eListRg1 (dVar 1)))))
    (sSeq (sEnd [0, 3] (loopW (bTru (dVar 3)) l_least_order_1 100000))
    (sRet (eVar 2)))))))
def x_least_order : Fnx := runX 8 bx_least_order
-- l_levels_1: head 0:pairs 1:many 2:found of 6
def l_levels_1 : Fs :=
    (sEnd [3] (sPut 2 (dVar 3) (eApp gMax1 (sCons (dOf (eBin dAdd (dOf (eLst (aCons (eC (.int 0)) aNil))) (dOf (eComp (iOf (dVar 0)) (gMany [4, 5]) [4, 5] (bTest (eBin dEq (dVar 5) (dVar 3))) (eBin dAdd (dOf (eBin dIxD (dVar 2) (dVar 4))) (dOf (eC (.int 1)))))))) sNil))))
def bx_levels : Fsx :=
    (sSeqX (sDropX (xCall x_need_none (aCons (eVar 0) aNil)))
    (lft (sSeq (sSet 2 eDicK)
    (sSeq (sEnd [0] (sFor (iVal (eCall m_least_order (aCons (eVar 0) (aCons (eVar 1) aNil)))) (gOne 3)
    l_levels_1))
    (sRet (eApp gTup (sCons (dOf (eComp (iRng1 (dVar 1)) (gOne 3) [3] bYes (eBin dIxD (dVar 2) (dVar 3)))) sNil)))))))
def x_levels : Fnx := runX 6 bx_levels
-- l_plain_keys_1: head 0:found of 4
def l_plain_keys_1 : Fs :=
    (sEnd [1] (sExt 0 (eComp (iRng2 (dOf (eBin dAdd (dVar 1) (dOf (eC (.int 1))))) (dOf (eC (.int 3)))) (gOne 3) [3] bYes (eTup (aCons (eC (.str "sum")) (aCons (eVar 1) (aCons (eVar 3) aNil)))))))
-- l_agreeing_1: head 0:things 1:keys 2:found of 5
def l_agreeing_1 : Fs :=
    (sEnd [3] (sIf (bTru (dOf (eCall m_is_ordered (aCons (eTup (aCons (eVar 3) aNil)) (aCons (eVar 0) aNil)))))
    (sEnd [3] (sExt 2 (eComp (iOf (dVar 1)) (gOne 4) [4] (bAnd (bTest (eBin dNe (dVar 4) (dVar 3))) (bTru (dOf (eCall m_is_ordered (aCons (eTup (aCons (eVar 3) (aCons (eVar 4) aNil))) (aCons (eVar 0) aNil)))))) (eTup (aCons (eVar 3) (aCons (eVar 4) aNil))))))
    sNil'))
-- l_unlike_rows_1: head 1:seen 2:found of 5
def l_unlike_rows_1 : Fs :=
    (sSeq (sSet 4 (eFrz (eCall m_form (aCons (eVar 3) aNil))))
    (sEnd [3, 4] (sIf (bTest (eBin dNotInD (dVar 4) (dVar 1)))
    (sSeq (sEnd [4] (sPut 1 (dVar 4) (eC (.bool true))))
    (sEnd [3] (sApp 2 (eVar 3))))
    sNil')))
-- l__law_rows_1: head 0:_law_every_here 1:_law_got of 4
def l__law_rows_1 : Fs :=
    (sEnd [2] (sSet 1 (eFrz (eBin dAdd (dVar 1) (dOf (eComp (iOf (dVar 0)) (gOne 3) [3] (bTest (eBin dNe (dVar 3) (dVar 2))) (eTup (aCons (eVar 2) (aCons (eVar 3) aNil)))))))))
-- l__law_goes_on_3: head 0:_law_row 1:_law_lists 2:_law_some 3:_law_other of 5
def l__law_goes_on_3 : Fs :=
    (sEnd [4] (sIf (bAnd (bTest (eBin (dCmp rLt zLt) (dOf (eCall m_list_told (aCons (eVar 0) (aCons (eVar 2) (aCons (eVar 3) aNil))))) (dOf (eC (.int 1))))) (bTest (eBin (dCmp rLt zLt) (dOf (eCall m_list_told (aCons (eVar 0) (aCons (eVar 3) (aCons (eVar 4) aNil))))) (dOf (eC (.int 1))))))
    (sEnd [4] (sIf (bTest (eBin (dCmp rGt zGt) (dOf (eCall m_list_told (aCons (eVar 0) (aCons (eVar 2) (aCons (eVar 4) aNil))))) (dOf (eC (.int 0)))))
    (sRet (eC (.bool false)))
    sNil'))
    sNil'))
-- l__law_goes_on_2: head 0:_law_row 1:_law_lists 2:_law_some of 5
def l__law_goes_on_2 : Fs :=
    (sEnd [3] (sFor (iVal (eVar 1)) (gOne 4)
    l__law_goes_on_3))
-- l__law_goes_on_1: head 0:_law_row 1:_law_lists of 5
def l__law_goes_on_1 : Fs :=
    (sEnd [2] (sFor (iVal (eVar 1)) (gOne 3)
    l__law_goes_on_2))
-- l__law_ways_1: head 1:_law_got of 3
def l__law_ways_1 : Fs :=
    (sEnd [2] (sSet 1 (eBin dMul (dVar 1) (dVar 2))))
-- l__law_is_paper_1: head 2:_law_forms 3:_law_thing_here of 8
def l__law_is_paper_1 : Fs :=
    (sEnd [4] (sIf (bOr (bNot (bTru (dOf (eIsa "int" (dVar 4))))) (bTru (dOf (eIsa "bool" (dVar 4)))))
    (sRet (eC (.bool false)))
    sNil'))
-- l__law_is_paper_2: head 0:_law_one 1:_law_other_here 3:_law_thing_here of 8
def l__law_is_paper_2 : Fs :=
    (sEnd [5] (sIf (bTest (eBin dIn (dOf (eC (.bool true))) (dOf (eComp (iOf (dVar 5)) (gOne 4) [4] bYes (eIsa "bool" (dVar 4))))))
    (sRet (eC (.bool false)))
    sNil'))
-- l__law_least_v2_2: head 0:_law_forms 1:_law_things 2:_law_one 3:_law_other_here 4:_law_at 5:_law_a 6:_law_b of 8
def l__law_least_v2_2 : Fs :=
    (sEnd [7] (sIf (bOr (bTest (eBin dNe (dOf (eBin (dCmp rLt zLt) (dVar 5) (dOf (eBin dIx (dVar 2) (dVar 7))))) (dOf (eBin (dCmp rLt zLt) (dVar 6) (dOf (eBin dIx (dVar 3) (dVar 7))))))) (bTest (eBin dNe (dOf (eBin (dCmp rGt zGt) (dVar 5) (dOf (eBin dIx (dVar 2) (dVar 7))))) (dOf (eBin (dCmp rGt zGt) (dVar 6) (dOf (eBin dIx (dVar 3) (dVar 7))))))))
    (sRet (eTup (aCons (eC (.str "parts")) (aCons (eBin dIx (dVar 1) (dVar 4)) (aCons (eBin dIx (dVar 1) (dVar 7)) aNil)))))
    sNil'))
-- l__law_least_v2_1: head 0:_law_forms 1:_law_things 2:_law_one 3:_law_other_here of 8
def l__law_least_v2_1 : Fs :=
    (sSeq (sPar 5 6 (aCons (eBin dIx (dVar 2) (dVar 4)) (aCons (eBin dIx (dVar 3) (dVar 4)) aNil)))
    (sEnd [4, 5, 6] (sFor (iRng2 (dOf (eBin dAdd (dVar 4) (dOf (eC (.int 1))))) (dOf (eC (.int 216)))) (gOne 7)
    l__law_least_v2_2)))
def b_chosen : Fs :=
    (sRet (eApp gTup (sCons (dOf (eComp (iOf (dVar 1)) (gOne 2) [2] bYes (eBin dIx (dVar 0) (dVar 2)))) sNil)))
def m_chosen : Fn := runB 3 b_chosen
-- l_choices_2: head 0:many 4:longer of 7
def l_choices_2 : Fs :=
    (sEnd [5] (sExt 4 (eComp (iRng2 (dOf (eBin dAdd (dOf (eApp gMax1 (sCons (dOf (eBin dAdd (dOf (eTup (aCons (eUn dNeg (dOf (eC (.int 1)))) aNil))) (dVar 5))) sNil))) (dOf (eC (.int 1))))) (dVar 0)) (gOne 6) [6] bYes (eBin dAdd (dVar 5) (dOf (eTup (aCons (eVar 6) aNil)))))))
-- l_choices_1: head 0:many 2:found of 7
def l_choices_1 : Fs :=
    (sSeq (sEnd [3] (sSet 4 (eLst aNil)))
    (sSeq (sForK [2] (iVal (eVar 2)) (gOne 5)
    l_choices_2)
    (sEnd [4] (frzAt 4 (sSet 2 (eVar 4))))))
def b_choices : Fs :=
    (sSeq (sSet 2 (eFrz (eLst (aCons (eTup aNil) aNil))))
    (sSeq (sEnd [0] (sForK [1] (iRng1 (dVar 1)) (gOne 3)
    l_choices_1))
    (sRet (eVar 2))))
def m_choices : Fn := runB 7 b_choices
-- l_fewest_1: head 0:row of 4
def l_fewest_1 : Fs :=
    (sSeq (sEnd [1] (sSet 2 (eApp gTup (sCons (dOf (eComp (iOf (dOf (eCall m_choices (aCons (eApp gLen (sCons (dVar 0) sNil)) (aCons (eVar 1) aNil))))) (gOne 3) [3] (bTru (dOf (eCall m_alike (aCons (eCall m_chosen (aCons (eVar 0) (aCons (eVar 3) aNil))) (aCons (eVar 0) aNil))))) (eVar 3))) sNil))))
    (sEnd [2] (sIf (bTru (dVar 2))
    (sRet (eVar 2))
    sNil')))
-- l__law_choices_1: head 1:_law_got of 4
def l__law_choices_1 : Fs :=
    (sEnd [2] (sSet 1 (eFrz (eBin dAdd (dVar 1) (dOf (eComp (iOf (dVar 1)) (gOne 3) [3] bYes (eBin dAdd (dVar 3) (dOf (eTup (aCons (eVar 2) aNil))))))))))
def b_comes_later : Fs :=
    (sSeq (sIf (bTest (eBin dEq (dVar 1) (dOf (eC (.str "many")))))
    (sRet (eBin (dCmp rGt zGt) (dOf (eApp gLen (sCons (dVar 2) sNil))) (dOf (eApp gLen (sCons (dVar 3) sNil)))))
    sNil')
    (sSeq (sIf (bTest (eBin dEq (dVar 1) (dOf (eC (.str "first")))))
    (sRet (eBin (dCmp rGt zGt) (dOf (eCall m_told (aCons (eVar 0) (aCons (eBin dIx (dVar 2) (dOf (eC (.int 0)))) (aCons (eBin dIx (dVar 3) (dOf (eC (.int 0)))) aNil))))) (dOf (eC (.int 0)))))
    sNil')
    (sSeq (sEnd [0, 1, 2, 3] (sIf (bTest (eBin dEq (dVar 1) (dOf (eC (.str "last")))))
    (sRet (eBin (dCmp rGt zGt) (dOf (eCall m_told (aCons (eVar 0) (aCons (eBin dIx (dVar 2) (dOf (eUn dNeg (dOf (eC (.int 1)))))) (aCons (eBin dIx (dVar 3) (dOf (eUn dNeg (dOf (eC (.int 1)))))) aNil))))) (dOf (eC (.int 0)))))
    sNil'))
    (sRet (eC (.bool false))))))
def m_comes_later : Fn := runB 4 b_comes_later
-- l_nested_2: head 1:inner 2:kind 4:found 6:one 7:at of 8
def l_nested_2 : Fs :=
    (sSet 7 (eBin dSub (dVar 7) (dOf (eC (.int 1)))))
-- l_nested_1: head 1:inner 2:kind 4:found of 8
def l_nested_1 : Fs :=
    (sSeq (sEnd [5] (sSet 6 (eFrz (eCall m_ordered (aCons (eVar 1) (aCons (eVar 5) aNil))))))
    (sSeq (sSet 7 (eApp gLen (sCons (dVar 4) sNil)))
    (sSeq (loopW (bAnd (bTest (eBin (dCmp rGt zGt) (dVar 7) (dOf (eC (.int 0))))) (bTru (dOf (eCall m_comes_later (aCons (eVar 1) (aCons (eVar 2) (aCons (eBin dIx (dVar 4) (dOf (eBin dSub (dVar 7) (dOf (eC (.int 1)))))) (aCons (eVar 6) aNil)))))))) l_nested_2 100000)
    (sEnd [6, 7] (sIns 4 (dVar 7) (eVar 6))))))
def b_nested : Fs :=
    (sSeq (sSet 4 (eLst aNil))
    (sSeq (sEnd [1, 2] (sForK [0, 3] (iVal (eCall m_groups (aCons (eVar 0) (aCons (eVar 3) aNil)))) (gOne 5)
    l_nested_1))
    (sRet (eApp gTup (sCons (dVar 4) sNil)))))
def m_nested : Fn := runB 8 b_nested
-- l__law_groups_1: head 0:_law_row 1:_law_inner 2:_law_things 3:_law_got of 6
def l__law_groups_1 : Fs :=
    (sIf (bAnd (bTru (dVar 3)) (bTest (eBin dEq (dOf (eCall m__law_word (aCons (eVar 0) (aCons (eBin dIx (dOf (eBin dIx (dVar 3) (dOf (eUn dNeg (dOf (eC (.int 1))))))) (dOf (eC (.int 0)))) (aCons (eBin dIx (dVar 2) (dVar 4)) aNil))))) (dOf (eC (.int 0))))))
    (sEnd [4] (sSetIx 3 (dOf (eUn dNeg (dOf (eC (.int 1))))) (eBin dAdd (dOf (eBin dIx (dVar 3) (dOf (eUn dNeg (dOf (eC (.int 1))))))) (dOf (eTup (aCons (eBin dIx (dVar 2) (dVar 4)) aNil))))))
    (sEnd [4] (sApp 3 (eTup (aCons (eBin dIx (dVar 2) (dVar 4)) aNil)))))
-- l_merged_all_1: head 0:row 2:left 3:found of 7
def l_merged_all_1 : Fs :=
    (sSeq (sSet 5 (eC .none))
    (sSeq (sEnd [6, 4] (sForEI 2 6 4 (bAnd (bTru (dVar 4)) (bOr (bTest (eBin dIsN (dVar 5) (dOf (eC .none)))) (bTest (eBin (dCmp rLt zLt) (dOf (eCall m_told (aCons (eVar 0) (aCons (eBin dIx (dVar 4) (dOf (eC (.int 0)))) (aCons (eBin dIx (dOf (eBin dIx (dVar 2) (dVar 5))) (dOf (eC (.int 0)))) aNil))))) (dOf (eC (.int 0))))))) 5 (eVar 6)))
    (sSeq (sSet 3 (eFrz (eBin dAdd (dVar 3) (dOf (eSl dSl (dOf (eBin dIx (dVar 2) (dVar 5))) oNone (oSome (dOf (eC (.int 1)))))))))
    (sEnd [5] (sSetIx 2 (dVar 5) (eSl dSl (dOf (eBin dIx (dVar 2) (dVar 5))) (oSome (dOf (eC (.int 1)))) oNone))))))
def b_beats : Fs :=
    (sSeq (sEnd [0, 1, 2] (sSet 3 (eFrz (eComp (iOf (dVar 0)) (gOne 4) [4] bYes (eCall m_told (aCons (eVar 4) (aCons (eVar 1) (aCons (eVar 2) aNil))))))))
    (sRet (eAnd (eBin dIn (dOf (eUn dNeg (dOf (eC (.int 1))))) (dVar 3)) (eBin dNotIn (dOf (eC (.int 1))) (dVar 3)))))
def m_beats : Fn := runB 5 b_beats
-- l_front_1: head 0:rows 1:things 2:found of 6
def l_front_1 : Fs :=
    (sEnd [3, 4] (sIf (bNot (bTru (dOf (eApp gAnyX (sCons (dOf (eComp (iOf (dVar 1)) (gOne 5) [5] bYes (eCall m_beats (aCons (eVar 0) (aCons (eVar 5) (aCons (eVar 4) aNil)))))) sNil)))))
    (sEnd [3, 4] (sApp 2 (eVar 3)))
    sNil'))
def b_front : Fs :=
    (sSeq (sSet 2 (eLst aNil))
    (sSeq (sEnd [0, 1] (sFor (iEnumF (eVar 1)) (gMany [3, 4])
    l_front_1))
    (sRet (eApp gTup (sCons (dVar 2) sNil)))))
def m_front : Fn := runB 6 b_front
-- l_layers_1: head 0:rows 1:things 2:left 3:found of 7
def l_layers_1 : Fs :=
    (sSeq (sSet 4 (eFrz (eCall m_front (aCons (eVar 0) (aCons (eApp gTup (sCons (dOf (eComp (iOf (dVar 2)) (gOne 5) [5] bYes (eBin dIx (dVar 1) (dVar 5)))) sNil)) aNil)))))
    (sSeq (sEnd [4] (sSet 6 (eApp gTup (sCons (dOf (eComp (iOf (dVar 4)) (gOne 5) [5] bYes (eBin dIx (dVar 2) (dVar 5)))) sNil))))
    (sSeq (sSet 3 (eFrz (eBin dAdd (dVar 3) (dOf (eTup (aCons (eVar 6) aNil))))))
    (sEnd [6] (sSet 2 (eFrz (eComp (iOf (dVar 2)) (gOne 5) [5] (bTest (eBin dNotIn (dVar 5) (dVar 6))) (eVar 5))))))))
-- l_agreed_1: head 0:rows 1:things 2:found of 7
def l_agreed_1 : Fs :=
    (sEnd [3, 4] (sExt 2 (eComp (iEnumV (dVar 1)) (gMany [5, 6]) [5, 6] (bTru (dOf (eCall m_beats (aCons (eVar 0) (aCons (eVar 4) (aCons (eVar 6) aNil)))))) (eTup (aCons (eVar 3) (aCons (eVar 5) aNil))))))
-- l__law_rows_v2_1: head 0:_law_script 1:_law_town 2:_law_rows_here of 6
def l__law_rows_v2_1 : Fs :=
    (sSeq (sEnd [3] (sSet 4 (eFrz (eCall m__law_keys (aCons (eVar 0) (aCons (eVar 1) (aCons (eC (.int 2)) aNil)))))))
    (sSeq (sIf (bAnd (bTru (dVar 2)) (bTest (eBin dEq (dOf (eCall m__law_draw (aCons (eVar 0) (aCons (eVar 1) (aCons (eC (.int 4)) aNil))))) (dOf (eC (.int 0))))))
    (sSet 4 (eApp gTup (sCons (dOf (eComp (iOf (dOf (eBin dIx (dVar 2) (dOf (eC (.int 0)))))) (gOne 5) [5] bYes (eCall m__law_turn (aCons (eVar 5) aNil)))) sNil)))
    sNil')
    (sEnd [4] (sSet 2 (eFrz (eBin dAdd (dVar 2) (dOf (eTup (aCons (eVar 4) aNil)))))))))
def b__law_draw_v2 : Fs :=
    (sSeq (sTown 1)
    (sSeq (sEnd [1] (sSet 3 (eTLen 1)))
    (sSeq (sSet 4 (eC (.int 0)))
    (sSeq (sEnd [0] (sIf (bTru (dVar 0))
    (sEnd [0] (sSet 4 (eBin dIx (dVar 0) (dOf (eBin dMod (dVar 3) (dOf (eApp gLen (sCons (dVar 0) sNil))))))))
    sNil'))
    (sSeq (sEnd [3, 4] (sSet 5 (eBin dMod (dOf (eBin dAdd (dVar 4) (dOf (eBin dMul (dOf (eC (.int 104729))) (dVar 3))))) (dOf (eC (.int 4294967291))))))
    (sSeq (sSet 5 (eBin dMod (dOf (eBin dMul (dOf (eBin dMod (dOf (eBin dMul (dVar 5) (dVar 5))) (dOf (eC (.int 4294967279))))) (dOf (eC (.int 48271))))) (dOf (eC (.int 4294967291)))))
    (sSeq (sSet 6 (eBin dMod (dOf (eBin dMul (dOf (eBin dMod (dOf (eBin dMul (dVar 5) (dVar 5))) (dOf (eC (.int 4294967279))))) (dOf (eC (.int 69621))))) (dOf (eC (.int 4294967291)))))
    (sRet (eBin dMod (dOf (eBin dAdd (dOf (eBin dMul (dOf (eBin dDiv (dVar 5) (dOf (eC (.int 64))))) (dOf (eC (.int 67108864))))) (dOf (eBin dDiv (dVar 6) (dOf (eC (.int 64))))))) (dVar 2))))))))))
def m__law_draw_v2 : Fn := runB 7 b__law_draw_v2
def b__law_pick_v2 : Fs :=
    (sRet (eBin dIx (dVar 2) (dOf (eCall m__law_draw_v2 (aCons (eVar 0) (aCons (eVar 1) (aCons (eApp gLen (sCons (dVar 2) sNil)) aNil)))))))
def m__law_pick_v2 : Fn := runB 3 b__law_pick_v2
-- l__law_plain_v2_1: head 0:_law_script 1:_law_town 2:_law_field 3:_law_word 6:_law_left 7:_law_got of 9
def l__law_plain_v2_1 : Fs :=
    (sEnd [8] (sSetX 7 (xCat (eVar 7) (xTup1 (xPop 6 (dOf (eCall m__law_draw_v2 (aCons (eVar 0) (aCons (eVar 1) (aCons (eApp gLen (sCons (dVar 6) sNil)) aNil))))))))))
def b__law_plain_v2 : Fs :=
    (sSeq (sPar 2 3 (aCons (eCall m__law_draw_v2 (aCons (eVar 0) (aCons (eVar 1) (aCons (eC (.int 3)) aNil)))) (aCons (eCall m__law_draw_v2 (aCons (eVar 0) (aCons (eVar 1) (aCons (eC (.int 6)) aNil)))) aNil)))
    (sSeq (sIf (bTest (eBin (dCmp rLt zLt) (dVar 3) (dOf (eC (.int 2)))))
    (sRet (eTup (aCons (eC (.str "up")) (aCons (eVar 2) aNil))))
    sNil')
    (sSeq (sIf (bTest (eBin dEq (dVar 3) (dOf (eC (.int 2)))))
    (sRet (eTup (aCons (eCall m__law_pick_v2 (aCons (eVar 0) (aCons (eVar 1) (aCons (eLst (aCons (eC (.str "part")) (aCons (eC (.str "rest")) aNil))) aNil)))) (aCons (eVar 2) (aCons (eBin dAdd (dOf (eC (.int 2))) (dOf (eCall m__law_draw_v2 (aCons (eVar 0) (aCons (eVar 1) (aCons (eC (.int 2)) aNil)))))) aNil)))))
    sNil')
    (sSeq (sIf (bTest (eBin dEq (dVar 3) (dOf (eC (.int 5)))))
    (sSeq (sEnd [2, 3] (sAsg (gMany [4, 5]) (eCall m__law_pick_v2 (aCons (eVar 0) (aCons (eVar 1) (aCons (eLst (aCons (eTup (aCons (eC (.int 0)) (aCons (eC (.int 1)) aNil))) (aCons (eTup (aCons (eC (.int 0)) (aCons (eC (.int 2)) aNil))) (aCons (eTup (aCons (eC (.int 1)) (aCons (eC (.int 2)) aNil))) aNil)))) aNil))))))
    (sRet (eTup (aCons (eCall m__law_pick_v2 (aCons (eVar 0) (aCons (eVar 1) (aCons (eLst (aCons (eC (.str "sum")) (aCons (eC (.str "gap")) (aCons (eC (.str "most")) aNil)))) aNil)))) (aCons (eVar 4) (aCons (eVar 5) aNil))))))
    sNil')
    (sSeq (sParO 6 7 (eLst (aCons (eC (.int 0)) (aCons (eC (.int 1)) (aCons (eC (.int 2)) (aCons (eC (.int 3)) (aCons (eC (.int 4)) (aCons (eC (.int 5)) aNil))))))) (eTup aNil))
    (sSeq (sEnd [0, 1, 6] (sFor (iRng1 (dOf (eBin dAdd (dOf (eC (.int 1))) (dOf (eCall m__law_draw_v2 (aCons (eVar 0) (aCons (eVar 1) (aCons (eC (.int 4)) aNil)))))))) (gOne 8)
    l__law_plain_v2_1))
    (sRet (eIf (bTest (eBin dEq (dVar 3) (dOf (eC (.int 3))))) (eTup (aCons (eC (.str "table")) (aCons (eVar 2) (aCons (eVar 7) aNil)))) (eTup (aCons (eC (.str "among")) (aCons (eVar 2) (aCons (eApp gTup (sCons (dOf (eApp gSorted (sCons (dVar 7) sNil))) sNil)) aNil))))))))))))
def m__law_plain_v2 : Fn := runB 9 b__law_plain_v2
-- l__law_row_v2_1: head 0:_law_script 1:_law_town 3:_law_got of 6
def l__law_row_v2_1 : Fs :=
    (sSeq (sEnd [4] (sSet 5 (eFrz (eCall m__law_plain_v2 (aCons (eVar 0) (aCons (eVar 1) aNil))))))
    (sEnd [5] (sSet 3 (eFrz (eBin dAdd (dVar 3) (dOf (eTup (aCons (eIf (bTest (eBin dEq (dOf (eCall m__law_draw_v2 (aCons (eVar 0) (aCons (eVar 1) (aCons (eC (.int 3)) aNil))))) (dOf (eC (.int 0))))) (eTup (aCons (eC (.str "down")) (aCons (eVar 5) aNil))) (eVar 5)) aNil))))))))
def b__law_row_v2 : Fs :=
    (sSeq (sSet 3 (eTup aNil))
    (sSeq (sEnd [0, 1] (sForK [2] (iRng1 (dOf (eCall m__law_draw_v2 (aCons (eVar 0) (aCons (eVar 1) (aCons (eBin dAdd (dVar 2) (dOf (eC (.int 1)))) aNil)))))) (gOne 4)
    l__law_row_v2_1))
    (sRet (eVar 3))))
def m__law_row_v2 : Fn := runB 6 b__law_row_v2
def b__law_thing_v2 : Fs :=
    (sRet (eApp gTup (sCons (dOf (eComp (iRng1 (dOf (eC (.int 3)))) (gOne 2) [2] bYes (eCall m__law_draw_v2 (aCons (eVar 0) (aCons (eVar 1) (aCons (eC (.int 6)) aNil)))))) sNil)))
def m__law_thing_v2 : Fn := runB 3 b__law_thing_v2
-- l__law_form_holds_1: head 0:_law_script 1:_law_town 2:_law_row_here 3:_law_every 4:_law_some 5:_law_many of 16
def l__law_form_holds_1 : Fs :=
    (sSeq (sEnd [7] (sPar 6 8 (aCons (eCall m__law_draw_v2 (aCons (eVar 0) (aCons (eVar 1) (aCons (eC (.int 216)) aNil)))) (aCons (eCall m__law_draw_v2 (aCons (eVar 0) (aCons (eVar 1) (aCons (eC (.int 216)) aNil)))) aNil))))
    (sSeq (sPar 9 10 (aCons (eBin dIx (dVar 4) (dVar 6)) (aCons (eBin dIx (dVar 4) (dVar 8)) aNil)))
    (sEnd [6, 8, 9, 10] (sIf (bTest (eBin dNe (dOf (eCall m_told (aCons (eVar 2) (aCons (eBin dIx (dVar 3) (dVar 6)) (aCons (eBin dIx (dVar 3) (dVar 8)) aNil))))) (dOf (eBin dSub (dOf (eApp gInt (sCons (dOf (eBin (dCmp rGt zGt) (dVar 9) (dVar 10))) sNil))) (dOf (eApp gInt (sCons (dOf (eBin (dCmp rLt zLt) (dVar 9) (dVar 10))) sNil)))))))
    (sRet (eC (.bool false)))
    sNil'))))
def b__law_form_holds : Fs :=
    (sSeq (sSet 4 (eFrz (eCall m_form (aCons (eVar 2) aNil))))
    (sSeq (sSet 5 (eFrz (eCall m_classes (aCons (eVar 2) aNil))))
    (sSeq (sIf (bOr (bTest (eBin dNe (dOf (eApp gLen (sCons (dVar 4) sNil))) (dOf (eC (.int 216))))) (bTest (eBin dNe (dOf (eApp gSortDictX (sCons (dOf (eComp (iOf (dVar 4)) (gOne 6) [6] bYes (eTup (aCons (eVar 6) (aCons (eC (.int 0)) aNil))))) sNil))) (dOf (eListRg1 (dVar 5))))))
    (sRet (eC (.bool false)))
    sNil')
    (sSeq (sEnd [0, 1] (sFor (iRng1 (dOf (eC (.int 40)))) (gOne 7)
    l__law_form_holds_1))
    (sSeq (sIf (bTest (eBin dNe (dOf (eCall m_form (aCons (eCall m_turned (aCons (eVar 2) aNil)) aNil))) (dOf (eApp gTup (sCons (dOf (eComp (iOf (dVar 4)) (gOne 6) [6] bYes (eBin dSub (dOf (eBin dSub (dVar 5) (dOf (eC (.int 1))))) (dVar 6)))) sNil)))))
    (sRet (eC (.bool false)))
    sNil')
    (sSeq (sSet 11 (eFrz (eComp (iRng1 (dVar 5)) (gOne 6) [6] bYes (eMt isTupD gCountT (dVar 4) (sCons (dVar 6) sNil)))))
    (sSeq (sEnd [11] (sIf (bOr (bTest (eBin dNe (dOf (eCall m_ties_of (aCons (eVar 2) aNil))) (dOf (eApp gSum (sCons (dOf (eComp (iOf (dVar 11)) (gOne 12) [12] bYes (eBin dDiv (dOf (eBin dMul (dVar 12) (dOf (eBin dSub (dVar 12) (dOf (eC (.int 1))))))) (dOf (eC (.int 2)))))) sNil))))) (bTest (eBin dNe (dOf (eCall m_is_whole_order (aCons (eVar 2) aNil))) (dOf (eBin dEq (dVar 5) (dOf (eC (.int 216))))))))
    (sRet (eC (.bool false)))
    sNil'))
    (sSeq (sEnd [2] (sSet 13 (eFrz (eCall m_tie (aCons (eVar 2) aNil)))))
    (sSeq (sEnd [5] (sIf (bTest (eBin dIsN (dVar 13) (dOf (eC .none))))
    (sRet (eBin dEq (dVar 5) (dOf (eC (.int 216)))))
    sNil'))
    (sSeq (sEnd [3, 13] (sPar 14 15 (aCons (eMt isTupD gIndexTX (dVar 3) (sCons (dOf (eBin dIx (dVar 13) (dOf (eC (.int 0))))) sNil)) (aCons (eMt isTupD gIndexTX (dVar 3) (sCons (dOf (eBin dIx (dVar 13) (dOf (eC (.int 1))))) sNil)) aNil))))
    (sSeq (sEnd [15] (sIf (bOr (bTest (eBin (dCmp rGe zGe) (dVar 14) (dVar 15))) (bOr (bTest (eBin dNe (dOf (eBin dIx (dVar 4) (dVar 14))) (dOf (eBin dIx (dVar 4) (dVar 15))))) (bTest (eBin dIn (dOf (eBin dIx (dVar 4) (dVar 14))) (dOf (eSl dSl (dVar 4) (oSome (dOf (eBin dAdd (dVar 14) (dOf (eC (.int 1)))))) (oSome (dVar 15))))))))
    (sRet (eC (.bool false)))
    sNil'))
    (sRet (eNotD (dOf (eApp gAnyX (sCons (dOf (eComp (iRng1 (dVar 14)) (gOne 6) [6] bYes (eBin dIn (dOf (eBin dIx (dVar 4) (dVar 6))) (dOf (eSl dSl (dVar 4) (oSome (dOf (eBin dAdd (dVar 6) (dOf (eC (.int 1)))))) oNone))))) sNil))))))))))))))))
def m__law_form_holds : Fn := runB 16 b__law_form_holds
-- l__law_pair_holds_1: head 0:_law_script 1:_law_town 2:_law_one 3:_law_other 4:_law_pair 5:_law_is_kept 6:_law_every of 13
def l__law_pair_holds_1 : Fs :=
    (sSeq (sEnd [9] (sAsg (gMany [10, 11]) (eApp gSorted (sCons (dOf (eLst (aCons (eCall m__law_draw_v2 (aCons (eVar 0) (aCons (eVar 1) (aCons (eC (.int 216)) aNil)))) (aCons (eCall m__law_draw_v2 (aCons (eVar 0) (aCons (eVar 1) (aCons (eC (.int 216)) aNil)))) aNil)))) sNil))))
    (sSeq (sSet 12 (eTup (aCons (eBin dIx (dVar 6) (dVar 10)) (aCons (eBin dIx (dVar 6) (dVar 11)) aNil))))
    (sEnd [10, 11, 12] (sIf (bAnd (bTest (eBin (dCmp rLt zLt) (dVar 10) (dVar 11))) (bOr (bTest (eBin dIsN (dVar 4) (dOf (eC .none)))) (bTest (eBin (dCmp rLt zLt) (dVar 12) (dVar 4)))))
    (sSeq (sEnd [10, 11, 12] (sPar 7 8 (aCons (eCall m_told (aCons (eVar 2) (aCons (eBin dIx (dVar 12) (dOf (eC (.int 0)))) (aCons (eBin dIx (dVar 12) (dOf (eC (.int 1)))) aNil)))) (aCons (eCall m_told (aCons (eVar 3) (aCons (eBin dIx (dVar 12) (dOf (eC (.int 0)))) (aCons (eBin dIx (dVar 12) (dOf (eC (.int 1)))) aNil)))) aNil))))
    (sEnd [7, 8] (sIf (bAnd (bTest (eBin dNe (dVar 7) (dVar 8))) (bOr (bNot (bTru (dVar 5))) (bTest (eBin dNe (dVar 8) (dOf (eC (.int 0)))))))
    (sRet (eC (.bool false)))
    sNil')))
    sNil'))))
-- l__law_choices_v2_2: head 0:_law_many 1:_law_some 2:_law_got 3:_law_first of 6
def l__law_choices_v2_2 (m : Fn) : Fs :=
    (sEnd [4] (sApp 2 (eBin dAdd (dOf (eTup (aCons (eVar 3) aNil))) (dOf (eApp gTup (sCons (dOf (eComp (iOf (dVar 4)) (gOne 5) [5] bYes (eBin dAdd (dOf (eBin dAdd (dVar 5) (dVar 3))) (dOf (eC (.int 1)))))) sNil))))))
-- l__law_choices_v2_1: head 0:_law_many 1:_law_some 2:_law_got of 6
def l__law_choices_v2_1 (m : Fn) : Fs :=
    (sEnd [3] (sFor (iVal (eCall m (aCons (eBin dSub (dOf (eBin dSub (dVar 0) (dVar 3))) (dOf (eC (.int 1)))) (aCons (eBin dSub (dVar 1) (dOf (eC (.int 1)))) aNil)))) (gOne 4)
    (l__law_choices_v2_2 m)))
-- l__law_few_hold_1: head 0:_law_row_here 2:_law_every of 7
def l__law_few_hold_1 : Fs :=
    (sEnd [4] (sIf (bTest (eBin dNe (dOf (eCall m_alike (aCons (eApp gTup (sCons (dOf (eComp (iOf (dVar 4)) (gOne 5) [5] bYes (eBin dIx (dVar 0) (dVar 5)))) sNil)) (aCons (eVar 0) aNil)))) (dOf (eBin dIn (dVar 4) (dVar 2)))))
    (sRet (eC (.bool false)))
    sNil'))
-- l__law_few_hold_3: head 0:_law_row_here 4:_law_some of 7
def l__law_few_hold_3 : Fs :=
    (sEnd [6] (sIf (bTru (dOf (eCall m_alike (aCons (eApp gTup (sCons (dOf (eComp (iOf (dOf (eBin dAdd (dOf (eSl dSl (dVar 4) oNone (oSome (dVar 6)))) (dOf (eSl dSl (dVar 4) (oSome (dOf (eBin dAdd (dVar 6) (dOf (eC (.int 1)))))) oNone))))) (gOne 5) [5] bYes (eBin dIx (dVar 0) (dVar 5)))) sNil)) (aCons (eVar 0) aNil)))))
    (sRet (eC (.bool false)))
    sNil'))
-- l__law_few_hold_2: head 0:_law_row_here of 7
def l__law_few_hold_2 : Fs :=
    (sSeq (sIf (bOr (bTest (eBin dNe (dOf (eApp gList (sCons (dVar 4) sNil))) (dOf (eApp gSortDict (sCons (dOf (eComp (iOf (dVar 4)) (gOne 5) [5] bYes (eTup (aCons (eVar 5) (aCons (eC (.int 0)) aNil))))) sNil))))) (bNot (bTru (dOf (eApp gAll (sCons (dOf (eComp (iOf (dVar 4)) (gOne 5) [5] bYes (eChain (dCmp rLe zLe) (dCmp rLt zLt) (dOf (eC (.int 0))) (dVar 5) (dOf (eApp gLen (sCons (dVar 0) sNil)))))) sNil))))))
    (sRet (eC (.bool false)))
    sNil')
    (sSeq (sIf (bNot (bTru (dOf (eCall m_alike (aCons (eApp gTup (sCons (dOf (eComp (iOf (dVar 4)) (gOne 5) [5] bYes (eBin dIx (dVar 0) (dVar 5)))) sNil)) (aCons (eVar 0) aNil))))))
    (sRet (eC (.bool false)))
    sNil')
    (sEnd [4] (sFor (iRng1 (dOf (eApp gLen (sCons (dVar 4) sNil)))) (gOne 6)
    l__law_few_hold_3))))
-- l__law_things_1: head 0:_law_script 1:_law_town 3:_law_got of 5
def l__law_things_1 : Fs :=
    (sEnd [4] (sSet 3 (eFrz (eBin dAdd (dVar 3) (dOf (eTup (aCons (eCall m__law_pick_v2 (aCons (eVar 0) (aCons (eVar 1) (aCons (eBin dAdd (dOf (eTup (aCons (eCall m__law_thing_v2 (aCons (eVar 0) (aCons (eVar 1) aNil))) aNil))) (dOf (eSl dSl (dVar 3) oNone (oSome (dOf (eC (.int 1))))))) aNil)))) aNil)))))))
-- l__law_order_holds_1: head 0:_law_row_here 1:_law_things_here of 7
def l__law_order_holds_1 : Fs :=
    (sSeq (sSet 5 (eFrz (eCall m_told (aCons (eVar 0) (aCons (eBin dIx (dVar 1) (dVar 3)) (aCons (eBin dIx (dVar 1) (dVar 4)) aNil))))))
    (sEnd [3, 4, 5] (sIf (bOr (bTest (eBin (dCmp rGt zGt) (dVar 5) (dOf (eC (.int 0))))) (bAnd (bTest (eBin dEq (dVar 5) (dOf (eC (.int 0))))) (bTest (eBin (dCmp rGt zGt) (dVar 3) (dVar 4)))))
    (sRet (eC (.bool false)))
    sNil')))
-- l__law_runs_hold_1: head 0:_law_row_here 1:_law_things_here 2:_law_some 3:_law_whole of 6
def l__law_runs_hold_1 : Fs :=
    (sSeq (sEnd [4] (sIf (bOr (bTest (eBin dEq (dVar 5) (dOf (eTup aNil)))) (bOr (bNot (bTru (dOf (eCall m_is_ordered (aCons (eVar 0) (aCons (eVar 5) aNil)))))) (bAnd (bTru (dVar 4)) (bTest (eBin dNe (dOf (eCall m_told (aCons (eVar 0) (aCons (eBin dIx (dOf (eBin dIx (dVar 2) (dOf (eBin dSub (dVar 4) (dOf (eC (.int 1))))))) (dOf (eUn dNeg (dOf (eC (.int 1)))))) (aCons (eBin dIx (dVar 5) (dOf (eC (.int 0)))) aNil))))) (dOf (eC (.int 1))))))))
    (sRet (eC (.bool false)))
    sNil'))
    (sEnd [5] (sSet 3 (eFrz (eBin dAdd (dVar 3) (dVar 5))))))
-- l__law_turns_hold_1: head 0:_law_row_here 1:_law_things_here 2:_law_some 3:_law_many 4:_law_due of 7
def l__law_turns_hold_1 : Fs :=
    (sPar 3 4 (aCons (eBin dDiv (dOf (eBin dAdd (dVar 3) (dOf (eC (.int 1))))) (dOf (eC (.int 2)))) (aCons (eBin dAdd (dVar 4) (dOf (eC (.int 1)))) aNil)))
-- l__law_turns_hold_2: head 0:_law_row_here 1:_law_things_here 5:_law_before of 7
def l__law_turns_hold_2 : Fs :=
    (sSeq (sIf (bOr (bTest (eBin dNe (dOf (eApp gSorted (sCons (dVar 6) sNil))) (dOf (eApp gSorted (sCons (dVar 1) sNil))))) (bTest (eBin (dCmp rGe zGe) (dOf (eApp gLen (sCons (dOf (eCall m_runs (aCons (eVar 0) (aCons (eVar 6) aNil)))) sNil))) (dOf (eApp gLen (sCons (dOf (eCall m_runs (aCons (eVar 0) (aCons (eVar 5) aNil)))) sNil))))))
    (sRet (eC (.bool false)))
    sNil')
    (sSeq (sEnd [5] (sIf (bOr (bTest (eBin (dCmp rGt zGt) (dOf (eCall m_crossings (aCons (eVar 0) (aCons (eVar 6) aNil)))) (dOf (eCall m_crossings (aCons (eVar 0) (aCons (eVar 5) aNil)))))) (bTest (eBin dNe (dOf (eCall m_ordered (aCons (eVar 0) (aCons (eVar 6) aNil)))) (dOf (eCall m_ordered (aCons (eVar 0) (aCons (eVar 1) aNil)))))))
    (sRet (eC (.bool false)))
    sNil'))
    (sEnd [6] (sSet 5 (eVar 6)))))
-- l__law_place_holds_1: head 0:_law_row_here 1:_law_things_here 2:_law_thing_here of 8
def l__law_place_holds_1 : Fs :=
    (sEnd [7] (sIf (bNot (bTru (dOf (eCall m_is_ordered (aCons (eVar 0) (aCons (eBin dAdd (dOf (eBin dAdd (dOf (eSl dSl (dVar 1) oNone (oSome (dVar 7)))) (dOf (eTup (aCons (eVar 2) aNil))))) (dOf (eSl dSl (dVar 1) (oSome (dVar 7)) oNone))) aNil))))))
    (sRet (eC (.bool false)))
    sNil'))
-- l__law_groups_hold_1: head 0:_law_row_here 1:_law_things_here 2:_law_some 3:_law_whole of 10
def l__law_groups_hold_1 : Fs :=
    (sSeq (sEnd [4] (sIf (bOr (bTru (dOf (eApp gAnyX (sCons (dOf (eComp (iOf (dVar 5)) (gOne 6) [6] bYes (eCall m_told (aCons (eVar 0) (aCons (eBin dIx (dVar 5) (dOf (eC (.int 0)))) (aCons (eVar 6) aNil)))))) sNil)))) (bAnd (bTru (dVar 4)) (bTest (eBin dNe (dOf (eCall m_told (aCons (eVar 0) (aCons (eBin dIx (dOf (eBin dIx (dVar 2) (dOf (eBin dSub (dVar 4) (dOf (eC (.int 1))))))) (dOf (eC (.int 0)))) (aCons (eBin dIx (dVar 5) (dOf (eC (.int 0)))) aNil))))) (dOf (eUn dNeg (dOf (eC (.int 1)))))))))
    (sRet (eC (.bool false)))
    sNil'))
    (sEnd [5] (sSet 3 (eFrz (eBin dAdd (dVar 3) (dVar 5))))))
-- l__law_groups_hold_3: head 0:_law_row_here 1:_law_things_here 2:_law_some 3:_law_whole 7:_law_many 8:_law_top 9:_law_size of 10
def l__law_groups_hold_3 : Fs :=
    (sEnd [5] (sSet 9 (eFrz (eBin dAdd (dVar 9) (dOf (eIf (bTest (eBin (dCmp rLt zLt) (dVar 9) (dVar 7))) (eApp gLen (sCons (dVar 5) sNil)) (eC (.int 0))))))))
-- l__law_groups_hold_2: head 0:_law_row_here 1:_law_things_here 2:_law_some 3:_law_whole of 10
def l__law_groups_hold_2 : Fs :=
    (sSeq (sSet 8 (eFrz (eCall m_best (aCons (eVar 0) (aCons (eVar 1) (aCons (eVar 7) aNil))))))
    (sSeq (sSet 9 (eC (.int 0)))
    (sSeq (sFor (iVal (eVar 2)) (gOne 5)
    l__law_groups_hold_3)
    (sEnd [7, 8, 9] (sIf (bOr (bTest (eBin dNe (dVar 8) (dOf (eSl dSl (dVar 3) oNone (oSome (dVar 9)))))) (bTest (eBin (dCmp rLt zLt) (dOf (eApp gLen (sCons (dVar 8) sNil))) (dVar 7))))
    (sRet (eC (.bool false)))
    sNil')))))
-- l__law_mixed_1: head 0:_law_script 1:_law_town 3:_law_left 4:_law_got of 5
def l__law_mixed_1 : Fs :=
    (sAppX 4 (xPop 3 (dOf (eCall m__law_draw_v2 (aCons (eVar 0) (aCons (eVar 1) (aCons (eApp gLen (sCons (dVar 3) sNil)) aNil)))))))
-- l__law_ranks_hold_2: head 0:_law_table 1:_law_some 2:_law_one 3:_law_at of 6
def l__law_ranks_hold_2 : Fs :=
    (sEnd [4, 5] (sIf (bTest (eBin dNe (dOf (eBin dIx (dOf (eBin dIx (dVar 0) (dVar 3))) (dVar 4))) (dOf (eBin dSub (dOf (eApp gInt (sCons (dOf (eBin (dCmp rGt zGt) (dVar 2) (dVar 5))) sNil))) (dOf (eApp gInt (sCons (dOf (eBin (dCmp rLt zLt) (dVar 2) (dVar 5))) sNil)))))))
    (sRet (eC (.bool false)))
    sNil'))
-- l__law_ranks_hold_1: head 0:_law_table 1:_law_some of 6
def l__law_ranks_hold_1 : Fs :=
    (sEnd [2, 3] (sFor (iEnumF (eVar 1)) (gMany [4, 5])
    l__law_ranks_hold_2))
-- l__law_pairs_v2_1: head 0:_law_script 1:_law_town 2:_law_many 3:_law_got of 8
def l__law_pairs_v2_1 : Fs :=
    (sSeq (sEnd [4] (sPar 5 6 (aCons (eCall m__law_draw_v2 (aCons (eVar 0) (aCons (eVar 1) (aCons (eVar 2) aNil)))) (aCons (eCall m__law_draw_v2 (aCons (eVar 0) (aCons (eVar 1) (aCons (eVar 2) aNil)))) aNil))))
    (sEnd [5, 6] (sIf (bTest (eBin dNe (dVar 5) (dVar 6)))
    (sSeq (sSet 7 (eTup (aCons (eApp gMin2 (sCons (dVar 5) (sCons (dVar 6) sNil))) (aCons (eApp gMax2 (sCons (dVar 5) (sCons (dVar 6) sNil))) aNil))))
    (sEnd [5, 6, 7] (sPut 3 (dOf (eIf (bTru (dOf (eCall m__law_draw_v2 (aCons (eVar 0) (aCons (eVar 1) (aCons (eC (.int 8)) aNil)))))) (eVar 7) (eTup (aCons (eApp gMax2 (sCons (dVar 5) (sCons (dVar 6) sNil))) (aCons (eApp gMin2 (sCons (dVar 5) (sCons (dVar 6) sNil))) aNil))))) (eC (.int 0)))))
    sNil')))
-- l__law_closed_holds_2: head 0:_law_pairs_here 1:_law_every 3:_law_one 4:_law_other of 8
def l__law_closed_holds_2 : Fs :=
    (sEnd [6, 7] (sIf (bAnd (bTest (eBin dEq (dVar 6) (dVar 4))) (bTest (eBin dNotIn (dOf (eTup (aCons (eVar 3) (aCons (eVar 7) aNil)))) (dVar 1))))
    (sRet (eC (.bool false)))
    sNil'))
-- l__law_closed_holds_1: head 0:_law_pairs_here 1:_law_every of 8
def l__law_closed_holds_1 : Fs :=
    (sSeq (sSet 5 (eFrz (eComp (iOf (dVar 1)) (gMany [6, 7]) [6, 7] (bTest (eBin dEq (dVar 6) (dVar 3))) (eVar 7))))
    (sSeq (sEnd [5] (sIf (bAnd (bTest (eBin dNotIn (dOf (eTup (aCons (eVar 3) (aCons (eVar 4) aNil)))) (dVar 0))) (bNot (bTru (dOf (eApp gAnyX (sCons (dOf (eComp (iOf (dVar 5)) (gOne 7) [7] bYes (eBin dIn (dOf (eTup (aCons (eVar 7) (aCons (eVar 4) aNil)))) (dVar 0)))) sNil))))))
    (sRet (eC (.bool false)))
    sNil'))
    (sEnd [3, 4] (sFor (iVal (eVar 1)) (gMany [6, 7])
    l__law_closed_holds_2))))
-- l__law_refused_1: head 0:_law_pairs_here 1:_law_many 2:_law_got of 4
def l__law_refused_1 : Fs :=
    (sTry (sIfX (bTest (eBin dEq (dVar 3) (dOf (eC (.str "bare")))))
    (sEndX [3] (sDropX (xCall x_bare (aCons (eVar 0) aNil))))
    (sIfX (bTest (eBin dEq (dVar 3) (dOf (eC (.str "orders")))))
    (sEndX [3] (sDropX (xCall x_orders (aCons (eVar 0) (aCons (eVar 1) aNil)))))
    (sIfX (bTest (eBin dEq (dVar 3) (dOf (eC (.str "least")))))
    (sEndX [3] (sDropX (xCall x_least_order (aCons (eVar 0) (aCons (eVar 1) aNil)))))
    (sEndX [3] (sDropX (xCall x_levels (aCons (eVar 0) (aCons (eVar 1) aNil))))))))
    (sEnd [3] (sSet 2 (eFrz (eBin dAdd (dVar 2) (dOf (eC (.int 1))))))))
-- l__law_orders_hold_1: head 0:_law_pairs_here 1:_law_many 2:_law_some 3:_law_few 4:_law_high of 14
def l__law_orders_hold_1 : Fs :=
    (sSeq (sSet 6 (eFrz (eComp (iOf (dVar 0)) (gMany [7, 8]) [7, 8] (bTest (eBin (dCmp rGt zGt) (dOf (eMt isTupD gIndexT (dVar 5) (sCons (dVar 7) sNil))) (dOf (eMt isTupD gIndexT (dVar 5) (sCons (dVar 8) sNil))))) (eVar 7))))
    (sEnd [5, 6] (sIf (bOr (bTest (eBin dNe (dOf (eApp gSorted (sCons (dVar 5) sNil))) (dOf (eListRg1 (dVar 1))))) (bTest (eBin dNe (dVar 6) (dOf (eLst aNil)))))
    (sRet (eC (.bool false)))
    sNil')))
-- l__law_orders_hold_2: head 0:_law_pairs_here 1:_law_many 2:_law_some 3:_law_few 4:_law_high of 14
def l__law_orders_hold_2 : Fs :=
    (sEnd [9, 10] (sIf (bTest (eBin dIn (dVar 9) (dOf (eCall m_closed (aCons (eBin dAdd (dOf (eSl dSl (dVar 3) oNone (oSome (dVar 10)))) (dOf (eSl dSl (dVar 3) (oSome (dOf (eBin dAdd (dVar 10) (dOf (eC (.int 1)))))) oNone))) aNil)))))
    (sRet (eC (.bool false)))
    sNil'))
-- l__law_orders_hold_3: head 0:_law_pairs_here 1:_law_many 2:_law_some 4:_law_high of 14
def l__law_orders_hold_3 : Fs :=
    (sEnd [11] (sIf (bTest (eBin dNe (dOf (eBin dIx (dVar 4) (dVar 11))) (dOf (eApp gMax1 (sCons (dOf (eBin dAdd (dOf (eLst (aCons (eC (.int 0)) aNil))) (dOf (eComp (iOf (dVar 0)) (gMany [7, 8]) [7, 8] (bTest (eBin dEq (dVar 8) (dVar 11))) (eBin dAdd (dOf (eBin dIx (dVar 4) (dVar 7))) (dOf (eC (.int 1)))))))) sNil)))))
    (sRet (eC (.bool false)))
    sNil'))
-- l__law_orders_hold_4: head 0:_law_pairs_here 1:_law_many 2:_law_some of 14
def l__law_orders_hold_4 : Fs :=
    (sEnd [5, 12] (sIf (bTest (eBin dNe (dOf (eApp gLenDictB (sCons (dOf (eComp (iOf (dVar 2)) (gOne 13) [13] bYes (eTup (aCons (eBin (dCmp rLt zLt) (dOf (eMt isTupD gIndexT (dVar 13) (sCons (dVar 5) sNil))) (dOf (eMt isTupD gIndexT (dVar 13) (sCons (dVar 12) sNil)))) (aCons (eC (.int 0)) aNil))))) sNil))) (dOf (eC (.int 2)))))
    (sRet (eC (.bool false)))
    sNil'))
-- l__law_all_rows_1: head 0:_law_keys 1:_law_got of 4
def l__law_all_rows_1 : Fs :=
    (sEnd [2] (sExt 1 (eComp (iOf (dVar 0)) (gOne 3) [3] (bTest (eBin dNe (dVar 3) (dVar 2))) (eTup (aCons (eVar 2) (aCons (eVar 3) aNil))))))
-- l__law_unlike_holds_1: head 1:_law_few 2:_law_at of 5
def l__law_unlike_holds_1 : Fs :=
    (sEnd [3] (sIf (bNot (bTru (dOf (eApp gAnyX (sCons (dOf (eComp (iOf (dOf (eSl dSl (dVar 1) oNone (oSome (dVar 2))))) (gOne 4) [4] bYes (eCall m_alike (aCons (eVar 3) (aCons (eVar 4) aNil))))) sNil)))))
    (sSeq (sEnd [3] (sIf (bOr (bTest (eBin dEq (dVar 2) (dOf (eApp gLen (sCons (dVar 1) sNil))))) (bTest (eBin dNe (dOf (eBin dIx (dVar 1) (dVar 2))) (dVar 3))))
    (sRet (eC (.bool false)))
    sNil'))
    (sSet 2 (eFrz (eBin dAdd (dVar 2) (dOf (eC (.int 1)))))))
    sNil'))
-- l__law_layers_hold_2: head 0:_law_rows 1:_law_things_here 2:_law_some 3:_law_left 4:_law_at 5:_law_layer of 11
def l__law_layers_hold_2 : Fs :=
    (sSeq (sSet 9 (eFrz (eComp (iOf (dOf (eBin dIx (dVar 2) (dOf (eBin dSub (dVar 4) (dOf (eC (.int 1)))))))) (gOne 8) [8] bYes (eBin dIx (dVar 1) (dVar 8)))))
    (sEnd [7, 9] (sIf (bNot (bTru (dOf (eApp gAnyX (sCons (dOf (eComp (iOf (dVar 9)) (gOne 8) [8] bYes (eCall m_beats (aCons (eVar 0) (aCons (eVar 8) (aCons (eBin dIx (dVar 1) (dVar 7)) aNil)))))) sNil)))))
    (sRet (eC (.bool false)))
    sNil')))
-- l__law_layers_hold_1: head 0:_law_rows 1:_law_things_here 2:_law_some 3:_law_left of 11
def l__law_layers_hold_1 : Fs :=
    (sSeq (sSet 6 (eComp (iOf (dVar 3)) (gOne 7) [7] (bNot (bTru (dOf (eApp gAnyX (sCons (dOf (eComp (iOf (dVar 3)) (gOne 8) [8] bYes (eCall m_beats (aCons (eVar 0) (aCons (eBin dIx (dVar 1) (dVar 8)) (aCons (eBin dIx (dVar 1) (dVar 7)) aNil)))))) sNil))))) (eVar 7)))
    (sSeq (sEnd [6] (sIf (bOr (bTest (eBin dNe (dOf (eApp gList (sCons (dVar 5) sNil))) (dVar 6))) (bTest (eBin dEq (dVar 5) (dOf (eTup aNil)))))
    (sRet (eC (.bool false)))
    sNil'))
    (sSeq (sEnd [4] (sFor (iVal (eIf (bTru (dVar 4)) (eVar 5) (eTup aNil))) (gOne 7)
    l__law_layers_hold_2))
    (sEnd [5] (sSet 3 (eFrz (eComp (iOf (dVar 3)) (gOne 7) [7] (bTest (eBin dNotIn (dVar 7) (dVar 5))) (eVar 7))))))))
-- l__law_layers_hold_3: head 0:_law_rows 1:_law_things_here 6:_law_due of 11
def l__law_layers_hold_3 : Fs :=
    (sEnd [4, 8] (sExt 6 (eComp (iEnumV (dVar 1)) (gMany [7, 10]) [7, 10] (bTru (dOf (eCall m_beats (aCons (eVar 0) (aCons (eVar 8) (aCons (eVar 10) aNil)))))) (eTup (aCons (eVar 4) (aCons (eVar 7) aNil))))))
-- l__law_nest_holds_2: head 0:_law_row_here 1:_law_inner 2:_law_things_here 3:_law_base 5:_law_kind 6:_law_some 7:_law_places_of of 13
def l__law_nest_holds_2 : Fs :=
    (sSeq (sIf (bTest (eBin dNotIn (dVar 4) (dVar 3)))
    (sRet (eC (.bool false)))
    sNil')
    (sEnd [4] (sApp 7 (eMt isLstD gIndexLX (dVar 3) (sCons (dVar 4) sNil)))))
-- l__law_nest_holds_3: head 0:_law_row_here 1:_law_inner 2:_law_things_here 3:_law_base 5:_law_kind 6:_law_some 7:_law_places_of of 13
def l__law_nest_holds_3 : Fs :=
    (sSeq (sPar 9 10 (aCons (eBin dIx (dVar 6) (dOf (eBin dSub (dVar 8) (dOf (eC (.int 1)))))) (aCons (eBin dIx (dVar 6) (dVar 8)) aNil)))
    (sSeq (sSet 11 (eBin dSub (dOf (eApp gInt (sCons (dOf (eBin (dCmp rGt zGt) (dOf (eApp gLen (sCons (dVar 9) sNil))) (dOf (eApp gLen (sCons (dVar 10) sNil))))) sNil))) (dOf (eApp gInt (sCons (dOf (eBin (dCmp rLt zLt) (dOf (eApp gLen (sCons (dVar 9) sNil))) (dOf (eApp gLen (sCons (dVar 10) sNil))))) sNil)))))
    (sSeq (sEnd [9, 10] (sIf (bTest (eBin dNe (dVar 5) (dOf (eC (.str "many")))))
    (sSeq (sEnd [11] (sSet 12 (eIf (bTest (eBin dEq (dVar 5) (dOf (eC (.str "first"))))) (eC (.int 0)) (eUn dNeg (dOf (eC (.int 1)))))))
    (sEnd [9, 10, 12] (sSet 11 (eFrz (eCall m_told (aCons (eVar 1) (aCons (eBin dIx (dVar 9) (dVar 12)) (aCons (eBin dIx (dVar 10) (dVar 12)) aNil))))))))
    sNil'))
    (sEnd [8, 11] (sIf (bOr (bTest (eBin (dCmp rGt zGt) (dVar 11) (dOf (eC (.int 0))))) (bAnd (bTest (eBin dEq (dVar 11) (dOf (eC (.int 0))))) (bTest (eBin (dCmp rGt zGt) (dOf (eBin dIx (dVar 7) (dOf (eBin dSub (dVar 8) (dOf (eC (.int 1))))))) (dOf (eBin dIx (dVar 7) (dVar 8)))))))
    (sRet (eC (.bool false)))
    sNil')))))
-- l__law_nest_holds_1: head 0:_law_row_here 1:_law_inner 2:_law_things_here 3:_law_base of 13
def l__law_nest_holds_1 : Fs :=
    (sSeq (sParO 6 7 (eFrz (eCall m_nested (aCons (eVar 0) (aCons (eVar 1) (aCons (eVar 5) (aCons (eVar 2) aNil)))))) (eLst aNil))
    (sSeq (sFor (iVal (eVar 6)) (gOne 4)
    l__law_nest_holds_2)
    (sSeq (sIf (bTest (eBin dNe (dOf (eApp gSorted (sCons (dVar 7) sNil))) (dOf (eListRg1 (dOf (eApp gLen (sCons (dVar 3) sNil)))))))
    (sRet (eC (.bool false)))
    sNil')
    (sEnd [5, 6, 7] (sFor (iRng2 (dOf (eC (.int 1))) (dOf (eApp gLen (sCons (dVar 6) sNil)))) (gOne 8)
    l__law_nest_holds_3)))))
end L2.Lv.Sh
namespace L2.Lv
open PySem PySem.Spec PyProof.Rows
theorem eVar_ap (i : Nat) (ρ : List W) (n : Nat) : eVar i ρ n = match ρ[i]? with
  | some (.d x) => some (.d x, n)
  | some .town => some (.town, n)
  | some (.fn g) => some (.fn g, n)
  | _ => none := rfl
theorem dVar_ap (i : Nat) (ρ : List W) (n : Nat) : dVar i ρ n = (ρ[i]?.bind W.dat).map (·, n) := rfl
theorem eC_ap (x : PyData) (ρ : List W) (n : Nat) : eC x ρ n = some (.d x, n) := rfl
theorem dOf_ap (f : Fe) (ρ : List W) (n : Nat) : dOf f ρ n = (f ρ n).bind fun p => p.1.dat.map (·, p.2) := rfl
theorem eFrz_ap (f : Fe) (ρ : List W) (n : Nat) : eFrz f ρ n = (f ρ n).map fun p => (p.1.frz, p.2) := rfl
theorem eBin_ap (g : PyData → PyData → Option W) (fa fb : Fd) (ρ : List W) (n : Nat) : eBin g fa fb ρ n = (fa ρ n).bind fun p => (fb ρ p.2).bind fun q => (g p.1 q.1).map (·, q.2) := rfl
theorem bTest_ap (f : Fe) (ρ : List W) (n : Nat) : bTest f ρ n = (f ρ n).bind fun p => match p.1 with
  | .d (.bool c) => some (c, p.2)
  | _ => none := rfl
theorem bTru_ap (f : Fd) (ρ : List W) (n : Nat) : bTru f ρ n = (f ρ n).bind fun p => (dTru p.1).map (·, p.2) := rfl
theorem bAnd_ap (ta tb : Ft) (ρ : List W) (n : Nat) : bAnd ta tb ρ n = (ta ρ n).bind fun p => if p.1 then tb ρ p.2 else some (false, p.2) := rfl
theorem bOr_ap (ta tb : Ft) (ρ : List W) (n : Nat) : bOr ta tb ρ n = (ta ρ n).bind fun p => if p.1 then some (true, p.2) else tb ρ p.2 := rfl
theorem bNot_ap (ta : Ft) (ρ : List W) (n : Nat) : bNot ta ρ n = (ta ρ n).map fun p => (!p.1, p.2) := rfl
theorem eIf_ap (tc : Ft) (fa fb : Fe) (ρ : List W) (n : Nat) : eIf tc fa fb ρ n = (tc ρ n).bind fun p => if p.1 then fa ρ p.2 else fb ρ p.2 := rfl
theorem eB_ap (t : Ft) (ρ : List W) (n : Nat) : eB t ρ n = (t ρ n).map fun p => (.d (.bool p.1), p.2) := rfl
theorem eAnd_ap (fa fb : Fe) (ρ : List W) (n : Nat) : eAnd fa fb ρ n = (fa ρ n).bind fun p => match p.1 with
  | .d (.bool true) => fb ρ p.2
  | .d (.bool false) => some (.d (.bool false), p.2)
  | _ => none := rfl
theorem eOr_ap (fa fb : Fe) (ρ : List W) (n : Nat) : eOr fa fb ρ n = (fa ρ n).bind fun p => match p.1 with
  | .d (.bool false) => fb ρ p.2
  | .d (.bool true) => some (.d (.bool true), p.2)
  | _ => none := rfl
theorem aNil_ap (ρ : List W) (n : Nat) : aNil  ρ n = some ([], n) := rfl
theorem aCons_ap (f : Fe) (fs : Fa) (ρ : List W) (n : Nat) : aCons f fs ρ n = (f ρ n).bind fun p => p.1.arg.bind fun w => (fs ρ p.2).map fun q => (w :: q.1, q.2) := rfl
theorem sNil_ap (ρ : List W) (n : Nat) : sNil  ρ n = some ([], n) := rfl
theorem sCons_ap (f : Fd) (fs : Fds) (ρ : List W) (n : Nat) : sCons f fs ρ n = (f ρ n).bind fun p => (fs ρ p.2).map fun q => (p.1 :: q.1, q.2) := rfl
theorem eTup_ap (fs : Fa) (ρ : List W) (n : Nat) : eTup fs ρ n = (fs ρ n).bind fun p => (vals p.1).map fun xs => (.d (.tuple xs), p.2) := rfl
theorem eLst_ap (fs : Fa) (ρ : List W) (n : Nat) : eLst fs ρ n = (fs ρ n).bind fun p => (vals p.1).map fun xs => (.ol xs, p.2) := rfl
theorem eCall_ap (F : Fn) (fs : Fa) (ρ : List W) (n : Nat) : eCall F fs ρ n = (fs ρ n).bind fun p => F p.1 p.2 := rfl
theorem eApp_ap (g : List PyData → Option W) (ds : Fds) (ρ : List W) (n : Nat) : eApp g ds ρ n = (ds ρ n).bind fun p => (g p.1).map (·, p.2) := rfl
theorem oNone_ap (ρ : List W) (n : Nat) : oNone  ρ n = some (none, n) := rfl
theorem oSome_ap (d : Fd) (ρ : List W) (n : Nat) : oSome d ρ n = (d ρ n).bind fun p => match p.1 with
  | .int i => some (some i, p.2)
  | _ => none := rfl
theorem eSl_ap (g : PyData → Option Int → Option Int → Option W) (d : Fd) (o o' : Fo) (ρ : List W) (n : Nat) : eSl g d o o' ρ n = (d ρ n).bind fun p => (o ρ p.2).bind fun q => (o' ρ q.2).bind fun r => (g p.1 q.1 r.1).map (·, r.2) := rfl
theorem sNil'_ap (ρ : List W) (n : Nat) : sNil'  ρ n = some (.nx ρ n) := rfl
theorem sSeq_ap (g h : Fs) (ρ : List W) (n : Nat) : sSeq g h ρ n = (g ρ n).bind fun o => match o with
  | .nx ρ' n' => h ρ' n'
  | o => some o := rfl
theorem sBrk_ap (ρ : List W) (n : Nat) : sBrk  ρ n = some (.bk ρ n) := rfl
theorem sRet_ap (f : Fe) (ρ : List W) (n : Nat) : sRet f ρ n = (f ρ n).map fun p => .rt p.1 p.2 := rfl
theorem sRetN_ap (ρ : List W) (n : Nat) : sRetN  ρ n = some (.rt (.d .none) n) := rfl
theorem sRetO_ap (i : Nat) (ρ : List W) (n : Nat) : sRetO i ρ n = match ρ[i]? with
  | some (.ol xs) => some (.rt (.ol xs) n)
  | some (.od xs) => some (.rt (.od xs) n)
  | _ => none := rfl
theorem sDrop_ap (f : Fe) (ρ : List W) (n : Nat) : sDrop f ρ n = (f ρ n).map fun p => .nx ρ p.2 := rfl
theorem sIf_ap (c : Ft) (g h : Fs) (ρ : List W) (n : Nat) : sIf c g h ρ n = (c ρ n).bind fun p => if p.1 then g ρ p.2 else h ρ p.2 := rfl
theorem sSet_ap (i : Nat) (f : Fe) (ρ : List W) (n : Nat) : sSet i f ρ n = (f ρ n).map fun p => .nx (ρ.set i p.1) p.2 := rfl
theorem sApp_ap (i : Nat) (f : Fe) (ρ : List W) (n : Nat) : sApp i f ρ n = (f ρ n).bind fun p => p.1.frz.val.bind fun x => match ρ[i]? with
  | some (.ol xs) => if xs.length < big then some (.nx (ρ.set i (.ol (xs ++ [x]))) p.2) else none
  | _ => none := rfl
theorem sTown_ap (i : Nat) (ρ : List W) (n : Nat) : sTown i ρ n = match ρ[i]? with
  | some .town => if n < big then some (.nx ρ (n + 1)) else none
  | _ => none := rfl
theorem sExt_ap (i : Nat) (f : Fe) (ρ : List W) (n : Nat) : sExt i f ρ n = (f ρ n).bind fun p => match p.1, ρ[i]? with
  | .ol ys, some (.ol xs) => if xs.length + ys.length ≤ big then some (.nx (ρ.set i (.ol (xs ++ ys))) p.2) else none
  | _, _ => none := rfl
theorem sIns_ap (i : Nat) (d : Fd) (f : Fe) (ρ : List W) (n : Nat) : sIns i d f ρ n = (d ρ n).bind fun k => (f ρ k.2).bind fun p => p.1.frz.val.bind fun x => match k.1, ρ[i]? with
  | .int z, some (.ol xs) => if xs.length < big ∧ 0 ≤ z ∧ z ≤ xs.length then some (.nx (ρ.set i (.ol (xs.take z.toNat ++ x :: xs.drop z.toNat))) p.2) else none
  | _, _ => none := rfl
theorem sSetIx_ap (i : Nat) (d : Fd) (f : Fe) (ρ : List W) (n : Nat) : sSetIx i d f ρ n = (f ρ n).bind fun p => p.1.frz.val.bind fun x => (d ρ p.2).bind fun k => match k.1, ρ[i]? with
  | .int z, some (.ol xs) => (ixN xs.length z).map fun j => .nx (ρ.set i (.ol (xs.set j x))) k.2
  | _, _ => none := rfl
theorem sAsg_ap (g : Fg) (f : Fe) (ρ : List W) (n : Nat) : sAsg g f ρ n = (f ρ n).bind fun p => p.1.frz.val.bind fun x => (g x ρ).map fun ρ' => .nx ρ' p.2 := rfl
theorem sPar_ap (i j : Nat) (fs : Fa) (ρ : List W) (n : Nat) : sPar i j fs ρ n = (fs ρ n).bind fun p => match p.1 with
  | [w, w'] => some (.nx ((ρ.set i w).set j w') p.2)
  | _ => none := rfl
theorem iOf_ap (d : Fd) (ρ : List W) (n : Nat) : iOf d ρ n = (d ρ n).bind fun p => (iSeq p.1).map (·, p.2) := rfl
theorem iVal_ap (f : Fe) (ρ : List W) (n : Nat) : iVal f ρ n = (f ρ n).bind fun p => p.1.frz.val.bind fun x => (iSeq x).map (·, p.2) := rfl
theorem iRng1_ap (d : Fd) (ρ : List W) (n : Nat) : iRng1 d ρ n = (d ρ n).bind fun p => (rng1 p.1).map (·, p.2) := rfl
theorem iRng2_ap (da db : Fd) (ρ : List W) (n : Nat) : iRng2 da db ρ n = (da ρ n).bind fun p => (db ρ p.2).bind fun q => (rng2 p.1 q.1).map (·, q.2) := rfl
theorem sFor_ap (fi : Fi) (g : Fg) (body : Fs) (ρ : List W) (n : Nat) : sFor fi g body ρ n = (fi ρ n).bind fun p => loopF g body p.1 ρ p.2 := rfl
theorem eComp_ap (fi : Fi) (g : Fg) (own : List Nat) (tst : Ft) (elt : Fe) (ρ : List W) (n : Nat) : eComp fi g own tst elt ρ n = (fi ρ n).bind fun p => if p.1.length ≤ big then (loopC g own tst elt ρ p.1 p.2).map fun q => (.ol q.1, q.2) else none := rfl
theorem bYes_ap (ρ : List W) (n : Nat) : bYes  ρ n = some (true, n) := rfl
theorem frzAt_ap (i : Nat) (g : Fs) (ρ : List W) (n : Nat) : frzAt i g ρ n = match ρ[i]? with
  | some w => g (ρ.set i w.frz) n
  | none => none := rfl
theorem eUn_ap (g : PyData → Option W) (d : Fd) (ρ : List W) (n : Nat) : eUn g d ρ n = (d ρ n).bind fun p => (g p.1).map (·, p.2) := rfl
theorem eNotD_ap (d : Fd) (ρ : List W) (n : Nat) : eNotD d ρ n = (d ρ n).bind fun p => (dTru p.1).map fun c => (.d (.bool (!c)), p.2) := rfl
theorem eOrD_ap (fa fb : Fe) (ρ : List W) (n : Nat) : eOrD fa fb ρ n = (fa ρ n).bind fun p => p.1.val.bind fun x => (dTru x).bind fun c => if c then some (.d x, p.2) else fb ρ p.2 := rfl
theorem eChain_ap (g g' : PyData → PyData → Option W) (da db dc : Fd) (ρ : List W) (n : Nat) : eChain g g' da db dc ρ n = (da ρ n).bind fun p => (db ρ p.2).bind fun q => (g p.1 q.1).bind fun w => match w with
  | .d (.bool true) => (dc ρ q.2).bind fun r => (g' q.1 r.1).map (·, r.2)
  | .d (.bool false) => some (.d (.bool false), q.2)
  | _ => none := rfl
theorem eListRg1_ap (d : Fd) (ρ : List W) (n : Nat) : eListRg1 d ρ n = (d ρ n).bind fun p => match p.1 with
  | .int j => if 0 ≤ j ∧ j ≤ big then some (.ol (rangeD 0 j.toNat), p.2) else none
  | _ => none := rfl
theorem eIsa_ap (T : String) (d : Fd) (ρ : List W) (n : Nat) : eIsa T d ρ n = (d ρ n).bind fun p => match p.1 with
  | .dict _ => none
  | x => some (.d (.bool (isa T x)), p.2) := rfl
theorem eMt_ap (p : PyData → Bool) (g : PyData → List PyData → Option W) (d : Fd) (ds : Fds) (ρ : List W) (n : Nat) : eMt p g d ds ρ n = (d ρ n).bind fun x => if p x.1 then (ds ρ x.2).bind fun q => (g x.1 q.1).map (·, q.2) else none := rfl
theorem iEnumV_ap (d : Fd) (ρ : List W) (n : Nat) : iEnumV d ρ n = (d ρ n).bind fun p => (seqOf p.1).map fun xs => (enumD xs, p.2) := rfl
theorem iEnumF_ap (f : Fe) (ρ : List W) (n : Nat) : iEnumF f ρ n = (f ρ n).bind fun p => p.1.frz.val.bind fun x => (seqOf x).map fun xs => (enumD xs, p.2) := rfl
theorem iZipV_ap (da db : Fd) (ρ : List W) (n : Nat) : iZipV da db ρ n = (da ρ n).bind fun p => (db ρ p.2).bind fun q => (zipOk p.1 q.1).map (·, q.2) := rfl
theorem iZipF_ap (fa fb : Fe) (ρ : List W) (n : Nat) : iZipF fa fb ρ n = (fa ρ n).bind fun p => p.1.frz.val.bind fun x => (fb ρ p.2).bind fun q => q.1.frz.val.bind fun y => (zipOk x y).map (·, q.2) := rfl
theorem eTLen_ap (i : Nat) (ρ : List W) (n : Nat) : eTLen i ρ n = match ρ[i]? with
  | some .town => some (.d (.int n), n)
  | _ => none := rfl
theorem iRng3D_ap (da db dc : Fd) (ρ : List W) (n : Nat) : iRng3D da db dc ρ n = (da ρ n).bind fun p => (db ρ p.2).bind fun q => (dc ρ q.2).bind fun r => (rng3 p.1 q.1 r.1).map (·, r.2) := rfl
theorem sEnd_ap (is : List Nat) (g : Fs) (ρ : List W) (n : Nat) : sEnd is g ρ n = (g ρ n).map (Out.kill is) := rfl
theorem eSs_ap (g : PyData → Option Int → Option Int → Int → Option W) (d : Fd) (o o' o'' : Fo) (ρ : List W) (n : Nat) : eSs g d o o' o'' ρ n = (d ρ n).bind fun p => (o ρ p.2).bind fun q => (o' ρ q.2).bind fun r => (o'' ρ r.2).bind fun s => s.1.bind fun c => (g p.1 q.1 r.1 c).map (·, s.2) := rfl
theorem sPar3_ap (i j l : Nat) (fs : Fa) (ρ : List W) (n : Nat) : sPar3 i j l fs ρ n = (fs ρ n).bind fun p => match p.1 with
  | [w, w', w''] => some (.nx (((ρ.set i w).set j w').set l w'') p.2)
  | _ => none := rfl
theorem xPop_ap (i : Nat) (d : Fd) (ρ : List W) (n : Nat) : xPop i d ρ n = (d ρ n).bind fun k => match k.1, ρ[i]? with
  | .int z, some (.ol xs) => if xs.length ≤ big then (ixN xs.length z).bind fun j => (xs[j]?).map fun x => (x, ρ.set i (.ol (xs.eraseIdx j)), k.2) else none
  | _, _ => none := rfl
theorem xTup1_ap (f : Fx) (ρ : List W) (n : Nat) : xTup1 f ρ n = (f ρ n).map fun p => (.tuple [p.1], p.2.1, p.2.2) := rfl
theorem xCat_ap (fa : Fe) (f : Fx) (ρ : List W) (n : Nat) : xCat fa f ρ n = (fa ρ n).bind fun p => p.1.val.bind fun x => (f ρ p.2).bind fun q => match dAdd x q.1 with
  | some (.d z) => some (z, q.2.1, q.2.2)
  | _ => none := rfl
theorem sSetX_ap (i : Nat) (f : Fx) (ρ : List W) (n : Nat) : sSetX i f ρ n = (f ρ n).map fun p => .nx (p.2.1.set i (.d p.1)) p.2.2 := rfl
theorem sAppX_ap (i : Nat) (f : Fx) (ρ : List W) (n : Nat) : sAppX i f ρ n = match ρ[i]? with
  | some (.ol _) => (f ρ n).bind fun p => match p.2.1[i]? with
    | some (.ol xs) => if xs.length < big then some (.nx (p.2.1.set i (.ol (xs ++ [p.1]))) p.2.2) else none
    | _ => none
  | _ => none := rfl
theorem sParO_ap (i j : Nat) (fa fb : Fe) (ρ : List W) (n : Nat) : sParO i j fa fb ρ n = (fa ρ n).bind fun p => (fb ρ p.2).bind fun q => some (.nx ((ρ.set i p.1).set j q.1) q.2) := rfl
theorem sForEI_ap (i p q : Nat) (tst : Ft) (y : Nat) (fe : Fe) (ρ : List W) (n : Nat) : sForEI i p q tst y fe ρ n = match ρ[i]? with
  | some (.ol xs) => (loopI p q tst y fe (enumN xs) ρ n).map fun r => .nx r.1 r.2
  | _ => none := rfl
theorem sForK_ap (ks : List Nat) (fi : Fi) (g : Fg) (body : Fs) (ρ : List W) (n : Nat) : sForK ks fi g body ρ n = (fi ρ n).bind fun p => loopF g body p.1 (wipeW ρ ks) p.2 := rfl
theorem eRep_ap (fa : Fe) (db : Fd) (ρ : List W) (n : Nat) : eRep fa db ρ n = (fa ρ n).bind fun p => match p.1 with
  | .ol xs => (db ρ p.2).bind fun q => match q.1 with
    | .int k => if -1000000 ≤ k ∧ k ≤ 1000000 ∧ xs.length * k.toNat ≤ big then some (.ol (List.replicate k.toNat xs).flatten, q.2) else none
    | _ => none
  | _ => none := rfl
theorem eDicK_ap (ρ : List W) (n : Nat) : eDicK  ρ n = some (.od [], n) := rfl
theorem eDicT_ap (ρ : List W) (n : Nat) : eDicT  ρ n = some (.od [markT], n) := rfl
theorem sPut_ap (i : Nat) (d : Fd) (f : Fe) (ρ : List W) (n : Nat) : sPut i d f ρ n = (f ρ n).bind fun p => p.1.frz.val.bind fun x => (d ρ p.2).bind fun k => match ρ[i]? with
  | some (.od kvs) => (putD kvs k.1 x).map fun m => .nx (ρ.set i (.od m)) k.2
  | _ => none := rfl
theorem eAlt_ap (f g : Fe) (ρ : List W) (n : Nat) : eAlt f g ρ n = (f ρ n).or (g ρ n) := rfl
theorem sTry_ap (r : Fsx) (g : Fs) (ρ : List W) (n : Nat) : sTry r g ρ n = (r ρ n).bind fun o => match o with
  | .inl out => some out
  | .inr (_, ρ', n') => g ρ' n' := rfl
theorem eGetD_ap (da db dc : Fd) (ρ : List W) (n : Nat) : eGetD da db dc ρ n = (da ρ n).bind fun p => (db ρ p.2).bind fun q => (dc ρ q.2).bind fun r => (dGet3 p.1 q.1 r.1).map (·, r.2) := rfl
theorem eLockI_ap (i : Nat) (f : Fe) (ρ : List W) (n : Nat) : eLockI i f ρ n = match ρ[i]? with
  | some (.od kvs) => if hdM kvs = true then none else (f (ρ.set i (.od (markF :: kvs))) n).bind fun p => match p.1 with
    | .d (.int z) => some (.d (.int z), p.2)
    | _ => none
  | _ => none := rfl
theorem iKeyF_ap (i : Nat) (ρ : List W) (n : Nat) : iKeyF i ρ n = match ρ[i]? with
  | some (.od (kv :: rest)) => if isFz kv = true then some (rest.map (·.1), n) else none
  | _ => none := rfl
theorem sSetDef_ap (i : Nat) (d : Fd) (f : Fe) (ρ : List W) (n : Nat) : sSetDef i d f ρ n = (d ρ n).bind fun k => (f ρ k.2).bind fun p => p.1.frz.val.bind fun x => match k.1, ρ[i]? with
  | .tuple ks, some (.od (kv :: rest)) => if isMk kv = true then (intsOf ks).bind fun ns => if rest.length < big then some (.nx (ρ.set i (.od (markT :: (if (lookT rest ns).isSome = true then rest else putT rest ns x)))) p.2) else none else none
  | _, _ => none := rfl
theorem eTupVals_ap (da : Fd) (ρ : List W) (n : Nat) : eTupVals da ρ n = (da ρ n).bind fun p => match p.1 with
  | .dict (kv :: rest) => if isMk kv = true then some (.d (.tuple (rest.map (·.2))), p.2) else none
  | _ => none := rfl
theorem sNst_ap (i : Nat) (g : Fs) (ρ : List W) (n : Nat) : sNst i g ρ n = (g ρ n).bind (nstO i) := rfl
theorem frzNAt_ap (i : Nat) (g : Fs) (ρ : List W) (n : Nat) : frzNAt i g ρ n = match ρ[i]? with
  | some (.oll xss) => g (ρ.set i (.d (.list (xss.map .list)))) n
  | _ => none := rfl
theorem sAppN_ap (i : Nat) (f : Fe) (ρ : List W) (n : Nat) : sAppN i f ρ n = (f ρ n).bind fun p => match p.1, ρ[i]? with
  | .ol xs, some (.oll xss) => if xss.length < 1000 then some (.nx (ρ.set i (.oll (xss ++ [xs]))) p.2) else none
  | _, _ => none := rfl
theorem sStN_ap (i : Nat) (d1 d2 : Fd) (f : Fe) (ρ : List W) (n : Nat) : sStN i d1 d2 f ρ n = (f ρ n).bind fun p => p.1.frz.val.bind fun x => (d1 ρ p.2).bind fun k => (d2 ρ k.2).bind fun m => match k.1, m.1, ρ[i]? with
  | .int z1, .int z2, some (.oll xss) => (ixN xss.length z1).bind fun j1 => xss[j1]?.bind fun xs => (ixN xs.length z2).map fun j2 => .nx (ρ.set i (.oll (xss.set j1 (xs.set j2 x)))) m.2
  | _, _, _ => none := rfl
theorem eListRg2_ap (da db : Fd) (ρ : List W) (n : Nat) : eListRg2 da db ρ n = (da ρ n).bind fun p => (db ρ p.2).bind fun q => match p.1, q.1 with
  | .int i, .int j => if -1000000 ≤ i ∧ i ≤ 1000000 ∧ -1000000 ≤ j ∧ j ≤ 1000000 then some (.ol (rangeD i (j - i).toNat), q.2) else none
  | _, _ => none := rfl
theorem eLam_ap (g : Int → Int → Bool) (ρ : List W) (n : Nat) : eLam g ρ n = some (.fn g, n) := rfl
theorem eCallP_ap (i : Nat) (fs : Fa) (ρ : List W) (n : Nat) : eCallP i fs ρ n = match ρ[i]? with
  | some (.fn g) => (fs ρ n).bind fun p => match p.1 with
    | [.d (.int a), .d (.int b)] => some (.d (.bool (g a b)), p.2)
    | _ => none
  | _ => none := rfl
theorem runB_ap (m : Nat) (g : Fs) (ws : List W) (n : Nat) : runB m g ws n = (g (ws ++ List.replicate (m - ws.length) .no) n).bind fun o => match o with
  | .rt w n' => some (w, n')
  | .nx _ n' => some (.d .none, n')
  | .bk _ _ => none := rfl
theorem gOne_ap (i : Nat) (x : PyData) (ρ : List W) : gOne i x ρ = some (ρ.set i (.d x)) := rfl
theorem gMany_ap (is : List Nat) (xs : List PyData) (ρ : List W) : gMany is (.tuple xs) ρ = setD is xs ρ := rfl
theorem dI_ap (C : Int → Int → Bool) (g : Int → Int → Int) (i j : Int) : dI C g (.int i) (.int j) = if C i j then some (.d (.int (g i j))) else none := rfl
theorem yesC_ap (i j : Int) : yesC i j = true := rfl
theorem dCmp_int (r : Int → Int → Bool) (z : Nat → Nat → Bool) (i j : Int) : dCmp r z (.int i) (.int j) = some (.d (.bool (r i j))) := rfl
theorem dCmp_tup (r : Int → Int → Bool) (z : Nat → Nat → Bool) (i j : List Int) : dCmp r z (.tuple (i.map .int)) (.tuple (j.map .int)) = some (.d (.bool (lexB r z i j))) := by
  simp [dCmp]
theorem loopF_cons (g : Fg) (body : Fs) (x : PyData) (xs : List PyData) (ρ : List W) (n : Nat) : loopF g body (x :: xs) ρ n = (g x ρ).bind fun ρ1 => (body ρ1 n).bind fun o => match o with
    | .nx ρ' n' => loopF g body xs ρ' n'
    | .bk ρ' n' => some (.nx ρ' n')
    | .rt w n' => some (.rt w n') := rfl
theorem loopC_cons (g : Fg) (own : List Nat) (tst : Ft) (elt : Fe) (ρ : List W) (x : PyData) (xs : List PyData) (n : Nat) : loopC g own tst elt ρ (x :: xs) n = (g x (wipeW ρ own)).bind fun ρ1 => (tst ρ1 n).bind fun b => if b.1 then
      (elt ρ1 b.2).bind fun w => w.1.frz.val.bind fun y => (loopC g own tst elt ρ xs w.2).map fun r => (y :: r.1, r.2)
    else loopC g own tst elt ρ xs b.2 := rfl
theorem wdat_no : W.dat (.no) = none := rfl
theorem wdat_d (x : PyData) : W.dat (.d x) = some x := rfl
theorem wdat_town : W.dat (.town) = none := rfl
theorem wdat_ol (xs : List PyData) : W.dat (.ol xs) = some (.list xs) := rfl
theorem wdat_od (xs : List (PyData × PyData)) : W.dat (.od xs) = some (.dict xs) := rfl
theorem wfrz_no : W.frz (.no) = .no := rfl
theorem wfrz_d (x : PyData) : W.frz (.d x) = .d x := rfl
theorem wfrz_town : W.frz (.town) = .town := rfl
theorem wfrz_ol (xs : List PyData) : W.frz (.ol xs) = .d (.list xs) := rfl
theorem wfrz_od (xs : List (PyData × PyData)) : W.frz (.od xs) = .od xs := rfl
theorem wval_no : W.val (.no) = none := rfl
theorem wval_d (x : PyData) : W.val (.d x) = some x := rfl
theorem wval_town : W.val (.town) = none := rfl
theorem wval_ol (xs : List PyData) : W.val (.ol xs) = none := rfl
theorem wval_od (xs : List (PyData × PyData)) : W.val (.od xs) = none := rfl
theorem warg_no : W.arg (.no) = none := rfl
theorem warg_d (x : PyData) : W.arg (.d x) = some (.d x) := rfl
theorem warg_town : W.arg (.town) = some .town := rfl
theorem warg_ol (xs : List PyData) : W.arg (.ol xs) = some (.d (.list xs)) := rfl
theorem warg_od (xs : List (PyData × PyData)) : W.arg (.od xs) = none := rfl
theorem kill_nx (is : List Nat) (ρ : List W) (n : Nat) : Out.kill is (.nx ρ n) = .nx (wipeW ρ is) n := rfl
theorem kill_rt (is : List Nat) (w : W) (n : Nat) : Out.kill is (.rt w n) = .rt w n := rfl
theorem kill_bk (is : List Nat) (ρ : List W) (n : Nat) : Out.kill is (.bk ρ n) = .bk ρ n := rfl

end L2.Lv
namespace L2.Lv.Sh
open PySem PySem.Spec PyProof.Rows L2 L2.Lv
abbrev Sc (ns : List Int) : W := .d (.list (ns.map .int))
abbrev I' (i : Int) : W := .d (.int i)
theorem mulC_l {i j : Int} (h : -(2 ^ 64) < i) (h2 : i < 2 ^ 64) : mulC i j = true := decide_eq_true (.inl ⟨h, h2⟩)
theorem divC_ok {i j : Int} (h : 0 < j) (h2 : j < 1073741824) : divC i j = true := decide_eq_true ⟨h, h2⟩
theorem modC_ok {i j : Int} (h : 0 < j) : modC i j = true := decide_eq_true h
theorem atI_ok {α : Type} {xs : List α} {i : Int} (h : 0 ≤ i) (h2 : i.toNat < xs.length) : atI xs i = some xs[i.toNat] := by
  obtain ⟨k, rfl⟩ := Int.eq_ofNat_of_zero_le h
  simp only [Int.ofNat_eq_natCast, Int.toNat_natCast] at h2 ⊢
  exact atI_nat (List.getElem?_eq_getElem h2)
end L2.Lv.Sh
namespace L2.Lv.Sh
open PySem PySem.Spec PyProof.Rows L2 L2.Lv
/-! isinstance -/
theorem isa_b_i (i : Int) : isa "bool" (.int i) = false := by simp [isa, tyN]
theorem isa_b_b (i : Bool) : isa "bool" (.bool i) = true := by simp [isa, tyN]
theorem isa_b_s (i : Str) : isa "bool" (.str i) = false := by simp [isa, tyN]
theorem isa_b_t (i : List PyData) : isa "bool" (.tuple i) = false := by simp [isa, tyN]
theorem isa_b_l (i : List PyData) : isa "bool" (.list i) = false := by simp [isa, tyN]
theorem isa_b_n : isa "bool" .none = false := by simp [isa, tyN]
theorem isa_t_i (i : Int) : isa "tuple" (.int i) = false := by simp [isa, tyN]
theorem isa_t_b (i : Bool) : isa "tuple" (.bool i) = false := by simp [isa, tyN]
theorem isa_t_s (i : Str) : isa "tuple" (.str i) = false := by simp [isa, tyN]
theorem isa_t_t (i : List PyData) : isa "tuple" (.tuple i) = true := by simp [isa, tyN]
theorem isa_t_l (i : List PyData) : isa "tuple" (.list i) = false := by simp [isa, tyN]
theorem isa_t_n : isa "tuple" .none = false := by simp [isa, tyN]
theorem isa_s_i (i : Int) : isa "str" (.int i) = false := by simp [isa, tyN]
theorem isa_s_b (i : Bool) : isa "str" (.bool i) = false := by simp [isa, tyN]
theorem isa_s_s (i : Str) : isa "str" (.str i) = true := by simp [isa, tyN]
theorem isa_s_t (i : List PyData) : isa "str" (.tuple i) = false := by simp [isa, tyN]
theorem isa_s_n : isa "str" .none = false := by simp [isa, tyN]
theorem isa_i_i (i : Int) : isa "int" (.int i) = true := by simp [isa, tyN]
theorem isa_i_b (i : Bool) : isa "int" (.bool i) = true := by simp [isa, tyN]
theorem isa_i_s (i : Str) : isa "int" (.str i) = false := by simp [isa, tyN]
theorem isa_i_t (i : List PyData) : isa "int" (.tuple i) = false := by simp [isa, tyN]
theorem isa_i_n : isa "int" .none = false := by simp [isa, tyN]

theorem shp_int (i : Int) : shp (.int i) = true := by simp [shp, SeqAt.shaped, PyData.canLay0, PyData.depth]
theorem dEq_int (i j : Int) : dEq (.int i) (.int j) = some (.d (.bool (i == j))) := by simp [dEq, shp_int, PyData.eqv]
theorem dNe_int (i j : Int) : dNe (.int i) (.int j) = some (.d (.bool (!(i == j)))) := by simp [dNe, shp_int, PyData.eqv]
theorem dEq_str {i j : Str} (h : shp (.str i) = true) (h2 : shp (.str j) = true) : dEq (.str i) (.str j) = some (.d (.bool (i == j))) := by simp [dEq, h, h2, PyData.eqv]
/-- tuples in it are not too long -/
def short : Nat → PyData → Bool
  | 0, _ => true
  | k + 1, .tuple xs => decide (xs.length ≤ 1000000) && xs.all (short k)
  | _ + 1, _ => true
end L2.Lv.Sh
namespace L2.Lv.Sh
open PySem PySem.Spec PyProof.Rows L2 L2.Lv
abbrev sUp : Str := "up"
abbrev sDown : Str := "down"
abbrev sPart : Str := "part"
abbrev sRest : Str := "rest"
abbrev sTable : Str := "table"
abbrev sAmong : Str := "among"
abbrev sSum : Str := "sum"
abbrev sGap : Str := "gap"
abbrev sMost : Str := "most"
/-- plain keys -/
inductive PK where
  | up (a : Int)
  | part (a d : Int)
  | rest (a d : Int)
  | table (a : Int) (t : List Int)
  | among (a : Int) (t : List Int)
  | sum (a b : Int)
  | gap (a b : Int)
  | most (a b : Int)
abbrev ti (t : List Int) : PyData := .tuple (t.map .int)
def PK.d : PK → PyData
  | up a => .tuple [.str sUp, .int a]
  | part a d => .tuple [.str sPart, .int a, .int d]
  | rest a d => .tuple [.str sRest, .int a, .int d]
  | table a t => .tuple [.str sTable, .int a, ti t]
  | among a t => .tuple [.str sAmong, .int a, ti t]
  | sum a b => .tuple [.str sSum, .int a, .int b]
  | gap a b => .tuple [.str sGap, .int a, .int b]
  | most a b => .tuple [.str sMost, .int a, .int b]
inductive Ky where
  | pl (p : PK)
  | dn (p : PK)
def Ky.d : Ky → PyData
  | pl p => p.d
  | dn p => .tuple [.str sDown, p.d]
def pl3 (a : Int) : Prop := 0 ≤ a ∧ a < 3
def tOk (t : List Int) : Prop := t ≠ [] ∧ t.length ≤ 6 ∧ t.Nodup ∧ ∀ x ∈ t, 0 ≤ x ∧ x < 6
def prOk (a b : Int) : Prop := (a = 0 ∧ b = 1) ∨ (a = 0 ∧ b = 2) ∨ (a = 1 ∧ b = 2)
def PK.ok : PK → Prop
  | up a => pl3 a
  | part a d => pl3 a ∧ (d = 2 ∨ d = 3)
  | rest a d => pl3 a ∧ (d = 2 ∨ d = 3)
  | table a t => pl3 a ∧ tOk t
  | among a t => pl3 a ∧ tOk t ∧ t.Pairwise (· < ·)
  | sum a b => prOk a b
  | gap a b => prOk a b
  | most a b => prOk a b
def Ky.pk : Ky → PK
  | pl p => p
  | dn p => p
def Ky.ok (k : Ky) : Prop := k.pk.ok
/-- what a thing is -/
abbrev Th := Int × Int × Int
def Th.d (t : Th) : PyData := ti [t.1, t.2.1, t.2.2]
def Th.ok (t : Th) : Prop := (0 ≤ t.1 ∧ t.1 < 6) ∧ (0 ≤ t.2.1 ∧ t.2.1 < 6) ∧ (0 ≤ t.2.2 ∧ t.2.2 < 6)
def Th.at (t : Th) (i : Int) : Int := if i = 0 then t.1 else if i = 1 then t.2.1 else t.2.2
theorem memD_ints (x : Int) : ∀ t : List Int, memD (.int x) (t.map .int) = decide (x ∈ t)
  | [] => by simp [memD]
  | y :: t => by
    have ih := memD_ints x t
    unfold memD at ih ⊢
    rw [List.map_cons, List.any_cons, ih]
    by_cases h : x = y
    · subst h; simp [PyData.eqv]
    · simp [PyData.eqv, h, Ne.symm h]
theorem canLay_ints : ∀ t : List Int, PyData.canLayAll0 (t.map .int) = true
  | [] => by simp [PyData.canLayAll0]
  | y :: t => by simp [PyData.canLayAll0, PyData.canLay0, canLay_ints t]
theorem depthAll_ints : ∀ t : List Int, PyData.depthAll (t.map .int) ≤ 1
  | [] => by simp [PyData.depthAll]
  | y :: t => by
    have := depthAll_ints t
    simp [PyData.depthAll, PyData.depth]
    omega
theorem shp_ti (t : List Int) : shp (ti t) = true := by
  have := depthAll_ints t
  simp [shp, SeqAt.shaped, PyData.canLay0, PyData.depth, canLay_ints]
  omega
theorem dIn_ints (x : Int) (t : List Int) : dIn (.int x) (ti t) = some (.d (.bool (decide (x ∈ t)))) := by
  show (some (t.map PyData.int)).bind _ = _
  rw [Option.bind_some, shp_int, shp_ti, memD_ints]
  rfl
theorem dNotIn_ints (x : Int) (t : List Int) : dNotIn (.int x) (ti t) = some (.d (.bool (!decide (x ∈ t)))) := by
  show (some (t.map PyData.int)).bind _ = _
  rw [Option.bind_some, shp_int, shp_ti, memD_ints]
  rfl
theorem dAdd_int (i j : Int) : dAdd (.int i) (.int j) = some (.d (.int (i + j))) := rfl
theorem dSub_int (i j : Int) : dSub (.int i) (.int j) = some (.d (.int (i - j))) := rfl
theorem dAdd_tup (xs ys : List PyData) (h : xs.length + ys.length ≤ big) : dAdd (.tuple xs) (.tuple ys) = some (.d (.tuple (xs ++ ys))) := if_pos h
theorem le_big {k : Nat} (h : k ≤ 1000000) : k ≤ big := Nat.le_trans h (by decide)
/-! sorted ints -/
theorem dataLe_int (a b : Int) : PySem.W.dataLe false (fun x => x) (.int a) (.int b) = decide (a ≤ b) := by
  simp [PySem.W.dataLe, PySem.W.sortLe, PySem.W.keyToks, PyProof.Rows.lexLt, PyProof.Rows.itemLt]
  by_cases h : a ≤ b
  · have : ¬ b < a := by omega
    simp [h, this]
  · have : b < a := by omega
    simp [h, this]
def srtI (t : List Int) : List Int := t.mergeSort fun a b => decide (a ≤ b)
theorem srt_ints (t : List Int) : srt (t.map .int) = (srtI t).map .int := by
  unfold srt srtI
  exact (List.map_mergeSort fun a _ b _ => (dataLe_int a b).symm).symm
theorem srtOk_ints (t : List Int) : srtOk (t.map .int) = true := by
  have h1 : ∀ a b : Int, PySem.W.alike (.int a) (.int b) = true := fun a b => by simp [PySem.W.alike]
  simp [srtOk, h1, PyData.depth]
theorem gSorted_ints (t : List Int) : gSorted [ti t] = some (.ol ((srtI t).map .int)) := by
  simp only [gSorted, ti, seqOf, Option.bind_some, srtOk_ints, srt_ints, if_true]
theorem srtI_perm (t : List Int) : (srtI t).Perm t := List.mergeSort_perm t _
theorem srtI_pw (t : List Int) : (srtI t).Pairwise (· ≤ ·) := by
  have h := List.pairwise_mergeSort (le := fun a b : Int => decide (a ≤ b)) (fun a b c h1 h2 => by simp at h1 h2 ⊢; omega) (fun a b => by simp; omega) t
  exact h.imp fun h => by simpa using h
theorem tOk.srt {t : List Int} (h : tOk t) : tOk (srtI t) ∧ (srtI t).Pairwise (· < ·) := by
  obtain ⟨h1, h2, h3, h4⟩ := h
  have p := srtI_perm t
  have nd : (srtI t).Nodup := p.nodup_iff.mpr h3
  refine ⟨⟨fun e => h1 ?_, by rw [p.length_eq]; exact h2, nd, fun x hx => h4 x (p.mem_iff.mp hx)⟩, ?_⟩
  · have := p.length_eq
    rw [e] at this
    exact List.length_eq_zero_iff.mp this.symm
  · exact (srtI_pw t).imp₂ (fun a b h1 h2 => by have : a ≠ b := h2; omega) nd
/-! draws of keys -/
/-- the value of a draw -/
def Ran (o : Option (W × Nat)) (n c : Nat) (P : W → Prop) : Prop := ∃ w n', o = some (w, n') ∧ n' ≤ n + c ∧ n ≤ n' ∧ P w
end L2.Lv.Sh
namespace L2.Lv.Sh
open PySem PySem.Spec PyProof.Rows L2 L2.Lv
theorem rLt_t {i j : Int} (h : i < j) : rLt i j = true := decide_eq_true h
theorem rLt_f {i j : Int} (h : ¬ i < j) : rLt i j = false := decide_eq_false h
theorem ixT (xs : List PyData) (i : Int) (h : 0 ≤ i) (h2 : i.toNat < xs.length) : dIx (.tuple xs) (.int i) = some (.d xs[i.toNat]) := by
  show (atI _ _).map W.d = _
  rw [atI_ok h h2]; rfl
theorem rangeD_len (lo : Int) (n : Nat) : (rangeD lo n).length = n := by simp [rangeD]
theorem rng1_ok {j : Int} (h : 0 ≤ j) (h2 : j < 1000000) : rng1 (.int j) = some (rangeD 0 j.toNat) := by
  show (if _ then _ else _) = _
  rw [if_pos (by omega)]
end L2.Lv.Sh
namespace L2.Lv.Sh
open PySem PySem.Spec PyProof.Rows L2 L2.Lv
theorem shp_Up : shp (.str sUp) = true := by decide +kernel
theorem shp_Down : shp (.str sDown) = true := by decide +kernel
theorem shp_Part : shp (.str sPart) = true := by decide +kernel
theorem shp_Rest : shp (.str sRest) = true := by decide +kernel
theorem shp_Table : shp (.str sTable) = true := by decide +kernel
theorem shp_Among : shp (.str sAmong) = true := by decide +kernel
theorem shp_Sum : shp (.str sSum) = true := by decide +kernel
theorem shp_Gap : shp (.str sGap) = true := by decide +kernel
theorem shp_Most : shp (.str sMost) = true := by decide +kernel
theorem q_Up_Up : dEq (.str sUp) (.str sUp) = some (.d (.bool true)) := by rw [dEq_str shp_Up shp_Up]; rfl
theorem q_Up_Down : dEq (.str sUp) (.str sDown) = some (.d (.bool false)) := by rw [dEq_str shp_Up shp_Down]; rfl
theorem q_Up_Part : dEq (.str sUp) (.str sPart) = some (.d (.bool false)) := by rw [dEq_str shp_Up shp_Part]; rfl
theorem q_Up_Rest : dEq (.str sUp) (.str sRest) = some (.d (.bool false)) := by rw [dEq_str shp_Up shp_Rest]; rfl
theorem q_Up_Table : dEq (.str sUp) (.str sTable) = some (.d (.bool false)) := by rw [dEq_str shp_Up shp_Table]; rfl
theorem q_Up_Among : dEq (.str sUp) (.str sAmong) = some (.d (.bool false)) := by rw [dEq_str shp_Up shp_Among]; rfl
theorem q_Up_Sum : dEq (.str sUp) (.str sSum) = some (.d (.bool false)) := by rw [dEq_str shp_Up shp_Sum]; rfl
theorem q_Up_Gap : dEq (.str sUp) (.str sGap) = some (.d (.bool false)) := by rw [dEq_str shp_Up shp_Gap]; rfl
theorem q_Down_Up : dEq (.str sDown) (.str sUp) = some (.d (.bool false)) := by rw [dEq_str shp_Down shp_Up]; rfl
theorem q_Down_Down : dEq (.str sDown) (.str sDown) = some (.d (.bool true)) := by rw [dEq_str shp_Down shp_Down]; rfl
theorem q_Down_Part : dEq (.str sDown) (.str sPart) = some (.d (.bool false)) := by rw [dEq_str shp_Down shp_Part]; rfl
theorem q_Down_Rest : dEq (.str sDown) (.str sRest) = some (.d (.bool false)) := by rw [dEq_str shp_Down shp_Rest]; rfl
theorem q_Down_Table : dEq (.str sDown) (.str sTable) = some (.d (.bool false)) := by rw [dEq_str shp_Down shp_Table]; rfl
theorem q_Down_Among : dEq (.str sDown) (.str sAmong) = some (.d (.bool false)) := by rw [dEq_str shp_Down shp_Among]; rfl
theorem q_Down_Sum : dEq (.str sDown) (.str sSum) = some (.d (.bool false)) := by rw [dEq_str shp_Down shp_Sum]; rfl
theorem q_Down_Gap : dEq (.str sDown) (.str sGap) = some (.d (.bool false)) := by rw [dEq_str shp_Down shp_Gap]; rfl
theorem q_Part_Up : dEq (.str sPart) (.str sUp) = some (.d (.bool false)) := by rw [dEq_str shp_Part shp_Up]; rfl
theorem q_Part_Down : dEq (.str sPart) (.str sDown) = some (.d (.bool false)) := by rw [dEq_str shp_Part shp_Down]; rfl
theorem q_Part_Part : dEq (.str sPart) (.str sPart) = some (.d (.bool true)) := by rw [dEq_str shp_Part shp_Part]; rfl
theorem q_Part_Rest : dEq (.str sPart) (.str sRest) = some (.d (.bool false)) := by rw [dEq_str shp_Part shp_Rest]; rfl
theorem q_Part_Table : dEq (.str sPart) (.str sTable) = some (.d (.bool false)) := by rw [dEq_str shp_Part shp_Table]; rfl
theorem q_Part_Among : dEq (.str sPart) (.str sAmong) = some (.d (.bool false)) := by rw [dEq_str shp_Part shp_Among]; rfl
theorem q_Part_Sum : dEq (.str sPart) (.str sSum) = some (.d (.bool false)) := by rw [dEq_str shp_Part shp_Sum]; rfl
theorem q_Part_Gap : dEq (.str sPart) (.str sGap) = some (.d (.bool false)) := by rw [dEq_str shp_Part shp_Gap]; rfl
theorem q_Rest_Up : dEq (.str sRest) (.str sUp) = some (.d (.bool false)) := by rw [dEq_str shp_Rest shp_Up]; rfl
theorem q_Rest_Down : dEq (.str sRest) (.str sDown) = some (.d (.bool false)) := by rw [dEq_str shp_Rest shp_Down]; rfl
theorem q_Rest_Part : dEq (.str sRest) (.str sPart) = some (.d (.bool false)) := by rw [dEq_str shp_Rest shp_Part]; rfl
theorem q_Rest_Rest : dEq (.str sRest) (.str sRest) = some (.d (.bool true)) := by rw [dEq_str shp_Rest shp_Rest]; rfl
theorem q_Rest_Table : dEq (.str sRest) (.str sTable) = some (.d (.bool false)) := by rw [dEq_str shp_Rest shp_Table]; rfl
theorem q_Rest_Among : dEq (.str sRest) (.str sAmong) = some (.d (.bool false)) := by rw [dEq_str shp_Rest shp_Among]; rfl
theorem q_Rest_Sum : dEq (.str sRest) (.str sSum) = some (.d (.bool false)) := by rw [dEq_str shp_Rest shp_Sum]; rfl
theorem q_Rest_Gap : dEq (.str sRest) (.str sGap) = some (.d (.bool false)) := by rw [dEq_str shp_Rest shp_Gap]; rfl
theorem q_Table_Up : dEq (.str sTable) (.str sUp) = some (.d (.bool false)) := by rw [dEq_str shp_Table shp_Up]; rfl
theorem q_Table_Down : dEq (.str sTable) (.str sDown) = some (.d (.bool false)) := by rw [dEq_str shp_Table shp_Down]; rfl
theorem q_Table_Part : dEq (.str sTable) (.str sPart) = some (.d (.bool false)) := by rw [dEq_str shp_Table shp_Part]; rfl
theorem q_Table_Rest : dEq (.str sTable) (.str sRest) = some (.d (.bool false)) := by rw [dEq_str shp_Table shp_Rest]; rfl
theorem q_Table_Table : dEq (.str sTable) (.str sTable) = some (.d (.bool true)) := by rw [dEq_str shp_Table shp_Table]; rfl
theorem q_Table_Among : dEq (.str sTable) (.str sAmong) = some (.d (.bool false)) := by rw [dEq_str shp_Table shp_Among]; rfl
theorem q_Table_Sum : dEq (.str sTable) (.str sSum) = some (.d (.bool false)) := by rw [dEq_str shp_Table shp_Sum]; rfl
theorem q_Table_Gap : dEq (.str sTable) (.str sGap) = some (.d (.bool false)) := by rw [dEq_str shp_Table shp_Gap]; rfl
theorem q_Among_Up : dEq (.str sAmong) (.str sUp) = some (.d (.bool false)) := by rw [dEq_str shp_Among shp_Up]; rfl
theorem q_Among_Down : dEq (.str sAmong) (.str sDown) = some (.d (.bool false)) := by rw [dEq_str shp_Among shp_Down]; rfl
theorem q_Among_Part : dEq (.str sAmong) (.str sPart) = some (.d (.bool false)) := by rw [dEq_str shp_Among shp_Part]; rfl
theorem q_Among_Rest : dEq (.str sAmong) (.str sRest) = some (.d (.bool false)) := by rw [dEq_str shp_Among shp_Rest]; rfl
theorem q_Among_Table : dEq (.str sAmong) (.str sTable) = some (.d (.bool false)) := by rw [dEq_str shp_Among shp_Table]; rfl
theorem q_Among_Among : dEq (.str sAmong) (.str sAmong) = some (.d (.bool true)) := by rw [dEq_str shp_Among shp_Among]; rfl
theorem q_Among_Sum : dEq (.str sAmong) (.str sSum) = some (.d (.bool false)) := by rw [dEq_str shp_Among shp_Sum]; rfl
theorem q_Among_Gap : dEq (.str sAmong) (.str sGap) = some (.d (.bool false)) := by rw [dEq_str shp_Among shp_Gap]; rfl
theorem q_Sum_Up : dEq (.str sSum) (.str sUp) = some (.d (.bool false)) := by rw [dEq_str shp_Sum shp_Up]; rfl
theorem q_Sum_Down : dEq (.str sSum) (.str sDown) = some (.d (.bool false)) := by rw [dEq_str shp_Sum shp_Down]; rfl
theorem q_Sum_Part : dEq (.str sSum) (.str sPart) = some (.d (.bool false)) := by rw [dEq_str shp_Sum shp_Part]; rfl
theorem q_Sum_Rest : dEq (.str sSum) (.str sRest) = some (.d (.bool false)) := by rw [dEq_str shp_Sum shp_Rest]; rfl
theorem q_Sum_Table : dEq (.str sSum) (.str sTable) = some (.d (.bool false)) := by rw [dEq_str shp_Sum shp_Table]; rfl
theorem q_Sum_Among : dEq (.str sSum) (.str sAmong) = some (.d (.bool false)) := by rw [dEq_str shp_Sum shp_Among]; rfl
theorem q_Sum_Sum : dEq (.str sSum) (.str sSum) = some (.d (.bool true)) := by rw [dEq_str shp_Sum shp_Sum]; rfl
theorem q_Sum_Gap : dEq (.str sSum) (.str sGap) = some (.d (.bool false)) := by rw [dEq_str shp_Sum shp_Gap]; rfl
theorem q_Gap_Up : dEq (.str sGap) (.str sUp) = some (.d (.bool false)) := by rw [dEq_str shp_Gap shp_Up]; rfl
theorem q_Gap_Down : dEq (.str sGap) (.str sDown) = some (.d (.bool false)) := by rw [dEq_str shp_Gap shp_Down]; rfl
theorem q_Gap_Part : dEq (.str sGap) (.str sPart) = some (.d (.bool false)) := by rw [dEq_str shp_Gap shp_Part]; rfl
theorem q_Gap_Rest : dEq (.str sGap) (.str sRest) = some (.d (.bool false)) := by rw [dEq_str shp_Gap shp_Rest]; rfl
theorem q_Gap_Table : dEq (.str sGap) (.str sTable) = some (.d (.bool false)) := by rw [dEq_str shp_Gap shp_Table]; rfl
theorem q_Gap_Among : dEq (.str sGap) (.str sAmong) = some (.d (.bool false)) := by rw [dEq_str shp_Gap shp_Among]; rfl
theorem q_Gap_Sum : dEq (.str sGap) (.str sSum) = some (.d (.bool false)) := by rw [dEq_str shp_Gap shp_Sum]; rfl
theorem q_Gap_Gap : dEq (.str sGap) (.str sGap) = some (.d (.bool true)) := by rw [dEq_str shp_Gap shp_Gap]; rfl
theorem q_Most_Up : dEq (.str sMost) (.str sUp) = some (.d (.bool false)) := by rw [dEq_str shp_Most shp_Up]; rfl
theorem q_Most_Down : dEq (.str sMost) (.str sDown) = some (.d (.bool false)) := by rw [dEq_str shp_Most shp_Down]; rfl
theorem q_Most_Part : dEq (.str sMost) (.str sPart) = some (.d (.bool false)) := by rw [dEq_str shp_Most shp_Part]; rfl
theorem q_Most_Rest : dEq (.str sMost) (.str sRest) = some (.d (.bool false)) := by rw [dEq_str shp_Most shp_Rest]; rfl
theorem q_Most_Table : dEq (.str sMost) (.str sTable) = some (.d (.bool false)) := by rw [dEq_str shp_Most shp_Table]; rfl
theorem q_Most_Among : dEq (.str sMost) (.str sAmong) = some (.d (.bool false)) := by rw [dEq_str shp_Most shp_Among]; rfl
theorem q_Most_Sum : dEq (.str sMost) (.str sSum) = some (.d (.bool false)) := by rw [dEq_str shp_Most shp_Sum]; rfl
theorem q_Most_Gap : dEq (.str sMost) (.str sGap) = some (.d (.bool false)) := by rw [dEq_str shp_Most shp_Gap]; rfl

/-! comprehensions -/
abbrev rowD (r : List Ky) : PyData := .tuple (r.map Ky.d)
end L2.Lv.Sh
namespace L2.Lv.Sh
open PySem PySem.Spec PyProof.Rows L2 L2.Lv
/-! what a key tells of a thing -/
def PK.worth (p : PK) (t : Th) : Int := match p with
  | up a => t.at a
  | part a d => t.at a / d
  | rest a d => t.at a % d
  | table a l => if t.at a ∈ l then (l.idxOf (t.at a) : Nat) else (l.length : Nat)
  | among a l => if t.at a ∈ l then 0 else 1
  | sum a b => t.at a + t.at b
  | gap a b => if t.at a - t.at b < 0 then -(t.at a - t.at b) else t.at a - t.at b
  | most a b => if t.at b > t.at a then t.at b else t.at a
def Ky.worth (k : Ky) (t : Th) : Int := match k with
  | pl p => p.worth t
  | dn p => 0 - p.worth t
theorem prOk.l {a b : Int} (h : prOk a b) : pl3 a ∧ pl3 b := by
  rcases h with ⟨rfl, rfl⟩ | ⟨rfl, rfl⟩ | ⟨rfl, rfl⟩ <;> simp [pl3]
theorem atTh {t : Th} {a : Int} (h : pl3 a) : atI [PyData.int t.1, .int t.2.1, .int t.2.2] a = some (.int (t.at a)) := by
  have : a = 0 ∨ a = 1 ∨ a = 2 := by unfold pl3 at h; omega
  rcases this with rfl | rfl | rfl <;> rfl
theorem ixTh {t : Th} {a : Int} (h : pl3 a) : dIx t.d (.int a) = some (.d (.int (t.at a))) := by
  show (atI _ _).map W.d = _
  rw [show ([t.1, t.2.1, t.2.2].map PyData.int) = [PyData.int t.1, .int t.2.1, .int t.2.2] from rfl, atTh h]; rfl
theorem gIndexT_ints {t : List Int} {x : Int} (h : x ∈ t) : gIndexT (ti t) [.int x] = some (.d (.int (t.idxOf x : Nat))) := by
  simp [gIndexT, ti, h]
theorem i0 (x : PyData) (xs : List PyData) : dIx (.tuple (x :: xs)) (.int 0) = some (.d x) := ixT (x :: xs) 0 (by decide) (by simp)
theorem i1 (x y : PyData) (xs : List PyData) : dIx (.tuple (x :: y :: xs)) (.int 1) = some (.d y) := ixT (x :: y :: xs) 1 (by decide) (by simp)
theorem i2 (x y z : PyData) : dIx (.tuple [x, y, z]) (.int 2) = some (.d z) := rfl

theorem worth_pl (k : Nat) (p : PK) (h : p.ok) (t : Th) (n : Nat) : m_worth_ (k + 1) [.d p.d, .d t.d] n = some (I' (p.worth t), n) := by
  unfold m_worth_ b_worth
  cases p with
  | up a => simp -implicitDefEqProofs only [eVar_ap, dVar_ap, eC_ap, dOf_ap, eFrz_ap, eBin_ap, bTest_ap, bTru_ap, bAnd_ap, bOr_ap, bNot_ap, eIf_ap, eB_ap, eAnd_ap, eOr_ap, aNil_ap, aCons_ap, sNil_ap, sCons_ap, eTup_ap, eLst_ap, eCall_ap, eApp_ap, oNone_ap, oSome_ap, eSl_ap, sNil'_ap, sSeq_ap, sBrk_ap, sRet_ap, sRetN_ap, sRetO_ap, sDrop_ap, sIf_ap, sSet_ap, sApp_ap, sTown_ap, sExt_ap, sIns_ap, sSetIx_ap, sAsg_ap, sPar_ap, iOf_ap, iVal_ap, iRng1_ap, iRng2_ap, sFor_ap, eComp_ap, bYes_ap, frzAt_ap, eUn_ap, eNotD_ap, eOrD_ap, eChain_ap, eListRg1_ap, eIsa_ap, eMt_ap, iEnumV_ap, iEnumF_ap, iZipV_ap, iZipF_ap, eTLen_ap, iRng3D_ap, sEnd_ap, eSs_ap, sPar3_ap, xPop_ap, xTup1_ap, xCat_ap, sSetX_ap, sAppX_ap, sParO_ap, sForEI_ap, sForK_ap, eRep_ap, eDicK_ap, eDicT_ap, sPut_ap, eAlt_ap, sTry_ap, eGetD_ap, eLockI_ap, iKeyF_ap, sSetDef_ap, eTupVals_ap, sNst_ap, frzNAt_ap, sAppN_ap, sStN_ap, eListRg2_ap, eLam_ap, eCallP_ap, runB_ap, gOne_ap, gMany_ap, dI_ap, yesC_ap, dCmp_int, setD, kill_nx, kill_rt, kill_bk, Option.bind_some, Option.map_some, Option.bind_none, Option.map_none, List.getElem?_cons_zero, List.getElem?_cons_succ, List.set_cons_zero, List.set_cons_succ, List.cons_append, List.nil_append, List.append_nil, List.replicate, List.length_cons, List.length_nil, Nat.reduceAdd, Nat.reduceSub, Nat.zero_add, wdat_no, wdat_d, wdat_town, wdat_ol, wdat_od, wfrz_no, wfrz_d, wfrz_town, wfrz_ol, wfrz_od, wval_no, wval_d, wval_town, wval_ol, wval_od, warg_no, warg_d, warg_town, warg_ol, warg_od, vals, gLen, gAbs, gMax2, gMin2, gInt, gTup, gList, wipeW, if_true, if_false, Bool.false_eq_true, Bool.not_true, Bool.not_false, reduceCtorEq, q_Up_Up, q_Up_Down, q_Up_Part, q_Up_Rest, q_Up_Table, q_Up_Among, q_Up_Sum, q_Up_Gap, q_Down_Up, q_Down_Down, q_Down_Part, q_Down_Rest, q_Down_Table, q_Down_Among, q_Down_Sum, q_Down_Gap, q_Part_Up, q_Part_Down, q_Part_Part, q_Part_Rest, q_Part_Table, q_Part_Among, q_Part_Sum, q_Part_Gap, q_Rest_Up, q_Rest_Down, q_Rest_Part, q_Rest_Rest, q_Rest_Table, q_Rest_Among, q_Rest_Sum, q_Rest_Gap, q_Table_Up, q_Table_Down, q_Table_Part, q_Table_Rest, q_Table_Table, q_Table_Among, q_Table_Sum, q_Table_Gap, q_Among_Up, q_Among_Down, q_Among_Part, q_Among_Rest, q_Among_Table, q_Among_Among, q_Among_Sum, q_Among_Gap, q_Sum_Up, q_Sum_Down, q_Sum_Part, q_Sum_Rest, q_Sum_Table, q_Sum_Among, q_Sum_Sum, q_Sum_Gap, q_Gap_Up, q_Gap_Down, q_Gap_Part, q_Gap_Rest, q_Gap_Table, q_Gap_Among, q_Gap_Sum, q_Gap_Gap, q_Most_Up, q_Most_Down, q_Most_Part, q_Most_Rest, q_Most_Table, q_Most_Among, q_Most_Sum, q_Most_Gap, i0, i1, i2, dAdd_int, dSub_int, rLt, rLe, rGt, rGe, dEq_int, dNe_int, dIn_ints, dNotIn_ints, isTupD, isLstD, PK.d, ixTh (t := t) (show pl3 a from h)]; rfl
  | part a d =>
    have hd : divC (t.at a) d = true := divC_ok (by rcases h.2 with rfl | rfl <;> decide) (by rcases h.2 with rfl | rfl <;> decide)
    simp -implicitDefEqProofs only [eVar_ap, dVar_ap, eC_ap, dOf_ap, eFrz_ap, eBin_ap, bTest_ap, bTru_ap, bAnd_ap, bOr_ap, bNot_ap, eIf_ap, eB_ap, eAnd_ap, eOr_ap, aNil_ap, aCons_ap, sNil_ap, sCons_ap, eTup_ap, eLst_ap, eCall_ap, eApp_ap, oNone_ap, oSome_ap, eSl_ap, sNil'_ap, sSeq_ap, sBrk_ap, sRet_ap, sRetN_ap, sRetO_ap, sDrop_ap, sIf_ap, sSet_ap, sApp_ap, sTown_ap, sExt_ap, sIns_ap, sSetIx_ap, sAsg_ap, sPar_ap, iOf_ap, iVal_ap, iRng1_ap, iRng2_ap, sFor_ap, eComp_ap, bYes_ap, frzAt_ap, eUn_ap, eNotD_ap, eOrD_ap, eChain_ap, eListRg1_ap, eIsa_ap, eMt_ap, iEnumV_ap, iEnumF_ap, iZipV_ap, iZipF_ap, eTLen_ap, iRng3D_ap, sEnd_ap, eSs_ap, sPar3_ap, xPop_ap, xTup1_ap, xCat_ap, sSetX_ap, sAppX_ap, sParO_ap, sForEI_ap, sForK_ap, eRep_ap, eDicK_ap, eDicT_ap, sPut_ap, eAlt_ap, sTry_ap, eGetD_ap, eLockI_ap, iKeyF_ap, sSetDef_ap, eTupVals_ap, sNst_ap, frzNAt_ap, sAppN_ap, sStN_ap, eListRg2_ap, eLam_ap, eCallP_ap, runB_ap, gOne_ap, gMany_ap, dI_ap, yesC_ap, dCmp_int, setD, kill_nx, kill_rt, kill_bk, Option.bind_some, Option.map_some, Option.bind_none, Option.map_none, List.getElem?_cons_zero, List.getElem?_cons_succ, List.set_cons_zero, List.set_cons_succ, List.cons_append, List.nil_append, List.append_nil, List.replicate, List.length_cons, List.length_nil, Nat.reduceAdd, Nat.reduceSub, Nat.zero_add, wdat_no, wdat_d, wdat_town, wdat_ol, wdat_od, wfrz_no, wfrz_d, wfrz_town, wfrz_ol, wfrz_od, wval_no, wval_d, wval_town, wval_ol, wval_od, warg_no, warg_d, warg_town, warg_ol, warg_od, vals, gLen, gAbs, gMax2, gMin2, gInt, gTup, gList, wipeW, if_true, if_false, Bool.false_eq_true, Bool.not_true, Bool.not_false, reduceCtorEq, q_Up_Up, q_Up_Down, q_Up_Part, q_Up_Rest, q_Up_Table, q_Up_Among, q_Up_Sum, q_Up_Gap, q_Down_Up, q_Down_Down, q_Down_Part, q_Down_Rest, q_Down_Table, q_Down_Among, q_Down_Sum, q_Down_Gap, q_Part_Up, q_Part_Down, q_Part_Part, q_Part_Rest, q_Part_Table, q_Part_Among, q_Part_Sum, q_Part_Gap, q_Rest_Up, q_Rest_Down, q_Rest_Part, q_Rest_Rest, q_Rest_Table, q_Rest_Among, q_Rest_Sum, q_Rest_Gap, q_Table_Up, q_Table_Down, q_Table_Part, q_Table_Rest, q_Table_Table, q_Table_Among, q_Table_Sum, q_Table_Gap, q_Among_Up, q_Among_Down, q_Among_Part, q_Among_Rest, q_Among_Table, q_Among_Among, q_Among_Sum, q_Among_Gap, q_Sum_Up, q_Sum_Down, q_Sum_Part, q_Sum_Rest, q_Sum_Table, q_Sum_Among, q_Sum_Sum, q_Sum_Gap, q_Gap_Up, q_Gap_Down, q_Gap_Part, q_Gap_Rest, q_Gap_Table, q_Gap_Among, q_Gap_Sum, q_Gap_Gap, q_Most_Up, q_Most_Down, q_Most_Part, q_Most_Rest, q_Most_Table, q_Most_Among, q_Most_Sum, q_Most_Gap, i0, i1, i2, dAdd_int, dSub_int, rLt, rLe, rGt, rGe, dEq_int, dNe_int, dIn_ints, dNotIn_ints, isTupD, isLstD, PK.d, ixTh (t := t) (show pl3 a from h.1), hd]; rfl
  | rest a d =>
    have hd : modC (t.at a) d = true := modC_ok (by rcases h.2 with rfl | rfl <;> decide)
    simp -implicitDefEqProofs only [eVar_ap, dVar_ap, eC_ap, dOf_ap, eFrz_ap, eBin_ap, bTest_ap, bTru_ap, bAnd_ap, bOr_ap, bNot_ap, eIf_ap, eB_ap, eAnd_ap, eOr_ap, aNil_ap, aCons_ap, sNil_ap, sCons_ap, eTup_ap, eLst_ap, eCall_ap, eApp_ap, oNone_ap, oSome_ap, eSl_ap, sNil'_ap, sSeq_ap, sBrk_ap, sRet_ap, sRetN_ap, sRetO_ap, sDrop_ap, sIf_ap, sSet_ap, sApp_ap, sTown_ap, sExt_ap, sIns_ap, sSetIx_ap, sAsg_ap, sPar_ap, iOf_ap, iVal_ap, iRng1_ap, iRng2_ap, sFor_ap, eComp_ap, bYes_ap, frzAt_ap, eUn_ap, eNotD_ap, eOrD_ap, eChain_ap, eListRg1_ap, eIsa_ap, eMt_ap, iEnumV_ap, iEnumF_ap, iZipV_ap, iZipF_ap, eTLen_ap, iRng3D_ap, sEnd_ap, eSs_ap, sPar3_ap, xPop_ap, xTup1_ap, xCat_ap, sSetX_ap, sAppX_ap, sParO_ap, sForEI_ap, sForK_ap, eRep_ap, eDicK_ap, eDicT_ap, sPut_ap, eAlt_ap, sTry_ap, eGetD_ap, eLockI_ap, iKeyF_ap, sSetDef_ap, eTupVals_ap, sNst_ap, frzNAt_ap, sAppN_ap, sStN_ap, eListRg2_ap, eLam_ap, eCallP_ap, runB_ap, gOne_ap, gMany_ap, dI_ap, yesC_ap, dCmp_int, setD, kill_nx, kill_rt, kill_bk, Option.bind_some, Option.map_some, Option.bind_none, Option.map_none, List.getElem?_cons_zero, List.getElem?_cons_succ, List.set_cons_zero, List.set_cons_succ, List.cons_append, List.nil_append, List.append_nil, List.replicate, List.length_cons, List.length_nil, Nat.reduceAdd, Nat.reduceSub, Nat.zero_add, wdat_no, wdat_d, wdat_town, wdat_ol, wdat_od, wfrz_no, wfrz_d, wfrz_town, wfrz_ol, wfrz_od, wval_no, wval_d, wval_town, wval_ol, wval_od, warg_no, warg_d, warg_town, warg_ol, warg_od, vals, gLen, gAbs, gMax2, gMin2, gInt, gTup, gList, wipeW, if_true, if_false, Bool.false_eq_true, Bool.not_true, Bool.not_false, reduceCtorEq, q_Up_Up, q_Up_Down, q_Up_Part, q_Up_Rest, q_Up_Table, q_Up_Among, q_Up_Sum, q_Up_Gap, q_Down_Up, q_Down_Down, q_Down_Part, q_Down_Rest, q_Down_Table, q_Down_Among, q_Down_Sum, q_Down_Gap, q_Part_Up, q_Part_Down, q_Part_Part, q_Part_Rest, q_Part_Table, q_Part_Among, q_Part_Sum, q_Part_Gap, q_Rest_Up, q_Rest_Down, q_Rest_Part, q_Rest_Rest, q_Rest_Table, q_Rest_Among, q_Rest_Sum, q_Rest_Gap, q_Table_Up, q_Table_Down, q_Table_Part, q_Table_Rest, q_Table_Table, q_Table_Among, q_Table_Sum, q_Table_Gap, q_Among_Up, q_Among_Down, q_Among_Part, q_Among_Rest, q_Among_Table, q_Among_Among, q_Among_Sum, q_Among_Gap, q_Sum_Up, q_Sum_Down, q_Sum_Part, q_Sum_Rest, q_Sum_Table, q_Sum_Among, q_Sum_Sum, q_Sum_Gap, q_Gap_Up, q_Gap_Down, q_Gap_Part, q_Gap_Rest, q_Gap_Table, q_Gap_Among, q_Gap_Sum, q_Gap_Gap, q_Most_Up, q_Most_Down, q_Most_Part, q_Most_Rest, q_Most_Table, q_Most_Among, q_Most_Sum, q_Most_Gap, i0, i1, i2, dAdd_int, dSub_int, rLt, rLe, rGt, rGe, dEq_int, dNe_int, dIn_ints, dNotIn_ints, isTupD, isLstD, PK.d, ixTh (t := t) (show pl3 a from h.1), hd]; rfl
  | table a l =>
    by_cases hm : t.at a ∈ l
    · simp -implicitDefEqProofs only [eVar_ap, dVar_ap, eC_ap, dOf_ap, eFrz_ap, eBin_ap, bTest_ap, bTru_ap, bAnd_ap, bOr_ap, bNot_ap, eIf_ap, eB_ap, eAnd_ap, eOr_ap, aNil_ap, aCons_ap, sNil_ap, sCons_ap, eTup_ap, eLst_ap, eCall_ap, eApp_ap, oNone_ap, oSome_ap, eSl_ap, sNil'_ap, sSeq_ap, sBrk_ap, sRet_ap, sRetN_ap, sRetO_ap, sDrop_ap, sIf_ap, sSet_ap, sApp_ap, sTown_ap, sExt_ap, sIns_ap, sSetIx_ap, sAsg_ap, sPar_ap, iOf_ap, iVal_ap, iRng1_ap, iRng2_ap, sFor_ap, eComp_ap, bYes_ap, frzAt_ap, eUn_ap, eNotD_ap, eOrD_ap, eChain_ap, eListRg1_ap, eIsa_ap, eMt_ap, iEnumV_ap, iEnumF_ap, iZipV_ap, iZipF_ap, eTLen_ap, iRng3D_ap, sEnd_ap, eSs_ap, sPar3_ap, xPop_ap, xTup1_ap, xCat_ap, sSetX_ap, sAppX_ap, sParO_ap, sForEI_ap, sForK_ap, eRep_ap, eDicK_ap, eDicT_ap, sPut_ap, eAlt_ap, sTry_ap, eGetD_ap, eLockI_ap, iKeyF_ap, sSetDef_ap, eTupVals_ap, sNst_ap, frzNAt_ap, sAppN_ap, sStN_ap, eListRg2_ap, eLam_ap, eCallP_ap, runB_ap, gOne_ap, gMany_ap, dI_ap, yesC_ap, dCmp_int, setD, kill_nx, kill_rt, kill_bk, Option.bind_some, Option.map_some, Option.bind_none, Option.map_none, List.getElem?_cons_zero, List.getElem?_cons_succ, List.set_cons_zero, List.set_cons_succ, List.cons_append, List.nil_append, List.append_nil, List.replicate, List.length_cons, List.length_nil, Nat.reduceAdd, Nat.reduceSub, Nat.zero_add, wdat_no, wdat_d, wdat_town, wdat_ol, wdat_od, wfrz_no, wfrz_d, wfrz_town, wfrz_ol, wfrz_od, wval_no, wval_d, wval_town, wval_ol, wval_od, warg_no, warg_d, warg_town, warg_ol, warg_od, vals, gLen, gAbs, gMax2, gMin2, gInt, gTup, gList, wipeW, if_true, if_false, Bool.false_eq_true, Bool.not_true, Bool.not_false, reduceCtorEq, q_Up_Up, q_Up_Down, q_Up_Part, q_Up_Rest, q_Up_Table, q_Up_Among, q_Up_Sum, q_Up_Gap, q_Down_Up, q_Down_Down, q_Down_Part, q_Down_Rest, q_Down_Table, q_Down_Among, q_Down_Sum, q_Down_Gap, q_Part_Up, q_Part_Down, q_Part_Part, q_Part_Rest, q_Part_Table, q_Part_Among, q_Part_Sum, q_Part_Gap, q_Rest_Up, q_Rest_Down, q_Rest_Part, q_Rest_Rest, q_Rest_Table, q_Rest_Among, q_Rest_Sum, q_Rest_Gap, q_Table_Up, q_Table_Down, q_Table_Part, q_Table_Rest, q_Table_Table, q_Table_Among, q_Table_Sum, q_Table_Gap, q_Among_Up, q_Among_Down, q_Among_Part, q_Among_Rest, q_Among_Table, q_Among_Among, q_Among_Sum, q_Among_Gap, q_Sum_Up, q_Sum_Down, q_Sum_Part, q_Sum_Rest, q_Sum_Table, q_Sum_Among, q_Sum_Sum, q_Sum_Gap, q_Gap_Up, q_Gap_Down, q_Gap_Part, q_Gap_Rest, q_Gap_Table, q_Gap_Among, q_Gap_Sum, q_Gap_Gap, q_Most_Up, q_Most_Down, q_Most_Part, q_Most_Rest, q_Most_Table, q_Most_Among, q_Most_Sum, q_Most_Gap, i0, i1, i2, dAdd_int, dSub_int, rLt, rLe, rGt, rGe, dEq_int, dNe_int, dIn_ints, dNotIn_ints, isTupD, isLstD, PK.d, ixTh (t := t) (show pl3 a from h.1), hm, decide_true, gIndexT_ints hm, PK.worth]
    · simp -implicitDefEqProofs only [eVar_ap, dVar_ap, eC_ap, dOf_ap, eFrz_ap, eBin_ap, bTest_ap, bTru_ap, bAnd_ap, bOr_ap, bNot_ap, eIf_ap, eB_ap, eAnd_ap, eOr_ap, aNil_ap, aCons_ap, sNil_ap, sCons_ap, eTup_ap, eLst_ap, eCall_ap, eApp_ap, oNone_ap, oSome_ap, eSl_ap, sNil'_ap, sSeq_ap, sBrk_ap, sRet_ap, sRetN_ap, sRetO_ap, sDrop_ap, sIf_ap, sSet_ap, sApp_ap, sTown_ap, sExt_ap, sIns_ap, sSetIx_ap, sAsg_ap, sPar_ap, iOf_ap, iVal_ap, iRng1_ap, iRng2_ap, sFor_ap, eComp_ap, bYes_ap, frzAt_ap, eUn_ap, eNotD_ap, eOrD_ap, eChain_ap, eListRg1_ap, eIsa_ap, eMt_ap, iEnumV_ap, iEnumF_ap, iZipV_ap, iZipF_ap, eTLen_ap, iRng3D_ap, sEnd_ap, eSs_ap, sPar3_ap, xPop_ap, xTup1_ap, xCat_ap, sSetX_ap, sAppX_ap, sParO_ap, sForEI_ap, sForK_ap, eRep_ap, eDicK_ap, eDicT_ap, sPut_ap, eAlt_ap, sTry_ap, eGetD_ap, eLockI_ap, iKeyF_ap, sSetDef_ap, eTupVals_ap, sNst_ap, frzNAt_ap, sAppN_ap, sStN_ap, eListRg2_ap, eLam_ap, eCallP_ap, runB_ap, gOne_ap, gMany_ap, dI_ap, yesC_ap, dCmp_int, setD, kill_nx, kill_rt, kill_bk, Option.bind_some, Option.map_some, Option.bind_none, Option.map_none, List.getElem?_cons_zero, List.getElem?_cons_succ, List.set_cons_zero, List.set_cons_succ, List.cons_append, List.nil_append, List.append_nil, List.replicate, List.length_cons, List.length_nil, Nat.reduceAdd, Nat.reduceSub, Nat.zero_add, wdat_no, wdat_d, wdat_town, wdat_ol, wdat_od, wfrz_no, wfrz_d, wfrz_town, wfrz_ol, wfrz_od, wval_no, wval_d, wval_town, wval_ol, wval_od, warg_no, warg_d, warg_town, warg_ol, warg_od, vals, gLen, gAbs, gMax2, gMin2, gInt, gTup, gList, wipeW, if_true, if_false, Bool.false_eq_true, Bool.not_true, Bool.not_false, reduceCtorEq, q_Up_Up, q_Up_Down, q_Up_Part, q_Up_Rest, q_Up_Table, q_Up_Among, q_Up_Sum, q_Up_Gap, q_Down_Up, q_Down_Down, q_Down_Part, q_Down_Rest, q_Down_Table, q_Down_Among, q_Down_Sum, q_Down_Gap, q_Part_Up, q_Part_Down, q_Part_Part, q_Part_Rest, q_Part_Table, q_Part_Among, q_Part_Sum, q_Part_Gap, q_Rest_Up, q_Rest_Down, q_Rest_Part, q_Rest_Rest, q_Rest_Table, q_Rest_Among, q_Rest_Sum, q_Rest_Gap, q_Table_Up, q_Table_Down, q_Table_Part, q_Table_Rest, q_Table_Table, q_Table_Among, q_Table_Sum, q_Table_Gap, q_Among_Up, q_Among_Down, q_Among_Part, q_Among_Rest, q_Among_Table, q_Among_Among, q_Among_Sum, q_Among_Gap, q_Sum_Up, q_Sum_Down, q_Sum_Part, q_Sum_Rest, q_Sum_Table, q_Sum_Among, q_Sum_Sum, q_Sum_Gap, q_Gap_Up, q_Gap_Down, q_Gap_Part, q_Gap_Rest, q_Gap_Table, q_Gap_Among, q_Gap_Sum, q_Gap_Gap, q_Most_Up, q_Most_Down, q_Most_Part, q_Most_Rest, q_Most_Table, q_Most_Among, q_Most_Sum, q_Most_Gap, i0, i1, i2, dAdd_int, dSub_int, rLt, rLe, rGt, rGe, dEq_int, dNe_int, dIn_ints, dNotIn_ints, isTupD, isLstD, PK.d, ixTh (t := t) (show pl3 a from h.1), hm, decide_false, PK.worth, List.length_map]
  | among a l =>
    by_cases hm : t.at a ∈ l
    · simp -implicitDefEqProofs only [eVar_ap, dVar_ap, eC_ap, dOf_ap, eFrz_ap, eBin_ap, bTest_ap, bTru_ap, bAnd_ap, bOr_ap, bNot_ap, eIf_ap, eB_ap, eAnd_ap, eOr_ap, aNil_ap, aCons_ap, sNil_ap, sCons_ap, eTup_ap, eLst_ap, eCall_ap, eApp_ap, oNone_ap, oSome_ap, eSl_ap, sNil'_ap, sSeq_ap, sBrk_ap, sRet_ap, sRetN_ap, sRetO_ap, sDrop_ap, sIf_ap, sSet_ap, sApp_ap, sTown_ap, sExt_ap, sIns_ap, sSetIx_ap, sAsg_ap, sPar_ap, iOf_ap, iVal_ap, iRng1_ap, iRng2_ap, sFor_ap, eComp_ap, bYes_ap, frzAt_ap, eUn_ap, eNotD_ap, eOrD_ap, eChain_ap, eListRg1_ap, eIsa_ap, eMt_ap, iEnumV_ap, iEnumF_ap, iZipV_ap, iZipF_ap, eTLen_ap, iRng3D_ap, sEnd_ap, eSs_ap, sPar3_ap, xPop_ap, xTup1_ap, xCat_ap, sSetX_ap, sAppX_ap, sParO_ap, sForEI_ap, sForK_ap, eRep_ap, eDicK_ap, eDicT_ap, sPut_ap, eAlt_ap, sTry_ap, eGetD_ap, eLockI_ap, iKeyF_ap, sSetDef_ap, eTupVals_ap, sNst_ap, frzNAt_ap, sAppN_ap, sStN_ap, eListRg2_ap, eLam_ap, eCallP_ap, runB_ap, gOne_ap, gMany_ap, dI_ap, yesC_ap, dCmp_int, setD, kill_nx, kill_rt, kill_bk, Option.bind_some, Option.map_some, Option.bind_none, Option.map_none, List.getElem?_cons_zero, List.getElem?_cons_succ, List.set_cons_zero, List.set_cons_succ, List.cons_append, List.nil_append, List.append_nil, List.replicate, List.length_cons, List.length_nil, Nat.reduceAdd, Nat.reduceSub, Nat.zero_add, wdat_no, wdat_d, wdat_town, wdat_ol, wdat_od, wfrz_no, wfrz_d, wfrz_town, wfrz_ol, wfrz_od, wval_no, wval_d, wval_town, wval_ol, wval_od, warg_no, warg_d, warg_town, warg_ol, warg_od, vals, gLen, gAbs, gMax2, gMin2, gInt, gTup, gList, wipeW, if_true, if_false, Bool.false_eq_true, Bool.not_true, Bool.not_false, reduceCtorEq, q_Up_Up, q_Up_Down, q_Up_Part, q_Up_Rest, q_Up_Table, q_Up_Among, q_Up_Sum, q_Up_Gap, q_Down_Up, q_Down_Down, q_Down_Part, q_Down_Rest, q_Down_Table, q_Down_Among, q_Down_Sum, q_Down_Gap, q_Part_Up, q_Part_Down, q_Part_Part, q_Part_Rest, q_Part_Table, q_Part_Among, q_Part_Sum, q_Part_Gap, q_Rest_Up, q_Rest_Down, q_Rest_Part, q_Rest_Rest, q_Rest_Table, q_Rest_Among, q_Rest_Sum, q_Rest_Gap, q_Table_Up, q_Table_Down, q_Table_Part, q_Table_Rest, q_Table_Table, q_Table_Among, q_Table_Sum, q_Table_Gap, q_Among_Up, q_Among_Down, q_Among_Part, q_Among_Rest, q_Among_Table, q_Among_Among, q_Among_Sum, q_Among_Gap, q_Sum_Up, q_Sum_Down, q_Sum_Part, q_Sum_Rest, q_Sum_Table, q_Sum_Among, q_Sum_Sum, q_Sum_Gap, q_Gap_Up, q_Gap_Down, q_Gap_Part, q_Gap_Rest, q_Gap_Table, q_Gap_Among, q_Gap_Sum, q_Gap_Gap, q_Most_Up, q_Most_Down, q_Most_Part, q_Most_Rest, q_Most_Table, q_Most_Among, q_Most_Sum, q_Most_Gap, i0, i1, i2, dAdd_int, dSub_int, rLt, rLe, rGt, rGe, dEq_int, dNe_int, dIn_ints, dNotIn_ints, isTupD, isLstD, PK.d, ixTh (t := t) (show pl3 a from h.1), hm, decide_true, PK.worth]
    · simp -implicitDefEqProofs only [eVar_ap, dVar_ap, eC_ap, dOf_ap, eFrz_ap, eBin_ap, bTest_ap, bTru_ap, bAnd_ap, bOr_ap, bNot_ap, eIf_ap, eB_ap, eAnd_ap, eOr_ap, aNil_ap, aCons_ap, sNil_ap, sCons_ap, eTup_ap, eLst_ap, eCall_ap, eApp_ap, oNone_ap, oSome_ap, eSl_ap, sNil'_ap, sSeq_ap, sBrk_ap, sRet_ap, sRetN_ap, sRetO_ap, sDrop_ap, sIf_ap, sSet_ap, sApp_ap, sTown_ap, sExt_ap, sIns_ap, sSetIx_ap, sAsg_ap, sPar_ap, iOf_ap, iVal_ap, iRng1_ap, iRng2_ap, sFor_ap, eComp_ap, bYes_ap, frzAt_ap, eUn_ap, eNotD_ap, eOrD_ap, eChain_ap, eListRg1_ap, eIsa_ap, eMt_ap, iEnumV_ap, iEnumF_ap, iZipV_ap, iZipF_ap, eTLen_ap, iRng3D_ap, sEnd_ap, eSs_ap, sPar3_ap, xPop_ap, xTup1_ap, xCat_ap, sSetX_ap, sAppX_ap, sParO_ap, sForEI_ap, sForK_ap, eRep_ap, eDicK_ap, eDicT_ap, sPut_ap, eAlt_ap, sTry_ap, eGetD_ap, eLockI_ap, iKeyF_ap, sSetDef_ap, eTupVals_ap, sNst_ap, frzNAt_ap, sAppN_ap, sStN_ap, eListRg2_ap, eLam_ap, eCallP_ap, runB_ap, gOne_ap, gMany_ap, dI_ap, yesC_ap, dCmp_int, setD, kill_nx, kill_rt, kill_bk, Option.bind_some, Option.map_some, Option.bind_none, Option.map_none, List.getElem?_cons_zero, List.getElem?_cons_succ, List.set_cons_zero, List.set_cons_succ, List.cons_append, List.nil_append, List.append_nil, List.replicate, List.length_cons, List.length_nil, Nat.reduceAdd, Nat.reduceSub, Nat.zero_add, wdat_no, wdat_d, wdat_town, wdat_ol, wdat_od, wfrz_no, wfrz_d, wfrz_town, wfrz_ol, wfrz_od, wval_no, wval_d, wval_town, wval_ol, wval_od, warg_no, warg_d, warg_town, warg_ol, warg_od, vals, gLen, gAbs, gMax2, gMin2, gInt, gTup, gList, wipeW, if_true, if_false, Bool.false_eq_true, Bool.not_true, Bool.not_false, reduceCtorEq, q_Up_Up, q_Up_Down, q_Up_Part, q_Up_Rest, q_Up_Table, q_Up_Among, q_Up_Sum, q_Up_Gap, q_Down_Up, q_Down_Down, q_Down_Part, q_Down_Rest, q_Down_Table, q_Down_Among, q_Down_Sum, q_Down_Gap, q_Part_Up, q_Part_Down, q_Part_Part, q_Part_Rest, q_Part_Table, q_Part_Among, q_Part_Sum, q_Part_Gap, q_Rest_Up, q_Rest_Down, q_Rest_Part, q_Rest_Rest, q_Rest_Table, q_Rest_Among, q_Rest_Sum, q_Rest_Gap, q_Table_Up, q_Table_Down, q_Table_Part, q_Table_Rest, q_Table_Table, q_Table_Among, q_Table_Sum, q_Table_Gap, q_Among_Up, q_Among_Down, q_Among_Part, q_Among_Rest, q_Among_Table, q_Among_Among, q_Among_Sum, q_Among_Gap, q_Sum_Up, q_Sum_Down, q_Sum_Part, q_Sum_Rest, q_Sum_Table, q_Sum_Among, q_Sum_Sum, q_Sum_Gap, q_Gap_Up, q_Gap_Down, q_Gap_Part, q_Gap_Rest, q_Gap_Table, q_Gap_Among, q_Gap_Sum, q_Gap_Gap, q_Most_Up, q_Most_Down, q_Most_Part, q_Most_Rest, q_Most_Table, q_Most_Among, q_Most_Sum, q_Most_Gap, i0, i1, i2, dAdd_int, dSub_int, rLt, rLe, rGt, rGe, dEq_int, dNe_int, dIn_ints, dNotIn_ints, isTupD, isLstD, PK.d, ixTh (t := t) (show pl3 a from h.1), hm, decide_false, PK.worth]
  | sum a b => simp -implicitDefEqProofs only [eVar_ap, dVar_ap, eC_ap, dOf_ap, eFrz_ap, eBin_ap, bTest_ap, bTru_ap, bAnd_ap, bOr_ap, bNot_ap, eIf_ap, eB_ap, eAnd_ap, eOr_ap, aNil_ap, aCons_ap, sNil_ap, sCons_ap, eTup_ap, eLst_ap, eCall_ap, eApp_ap, oNone_ap, oSome_ap, eSl_ap, sNil'_ap, sSeq_ap, sBrk_ap, sRet_ap, sRetN_ap, sRetO_ap, sDrop_ap, sIf_ap, sSet_ap, sApp_ap, sTown_ap, sExt_ap, sIns_ap, sSetIx_ap, sAsg_ap, sPar_ap, iOf_ap, iVal_ap, iRng1_ap, iRng2_ap, sFor_ap, eComp_ap, bYes_ap, frzAt_ap, eUn_ap, eNotD_ap, eOrD_ap, eChain_ap, eListRg1_ap, eIsa_ap, eMt_ap, iEnumV_ap, iEnumF_ap, iZipV_ap, iZipF_ap, eTLen_ap, iRng3D_ap, sEnd_ap, eSs_ap, sPar3_ap, xPop_ap, xTup1_ap, xCat_ap, sSetX_ap, sAppX_ap, sParO_ap, sForEI_ap, sForK_ap, eRep_ap, eDicK_ap, eDicT_ap, sPut_ap, eAlt_ap, sTry_ap, eGetD_ap, eLockI_ap, iKeyF_ap, sSetDef_ap, eTupVals_ap, sNst_ap, frzNAt_ap, sAppN_ap, sStN_ap, eListRg2_ap, eLam_ap, eCallP_ap, runB_ap, gOne_ap, gMany_ap, dI_ap, yesC_ap, dCmp_int, setD, kill_nx, kill_rt, kill_bk, Option.bind_some, Option.map_some, Option.bind_none, Option.map_none, List.getElem?_cons_zero, List.getElem?_cons_succ, List.set_cons_zero, List.set_cons_succ, List.cons_append, List.nil_append, List.append_nil, List.replicate, List.length_cons, List.length_nil, Nat.reduceAdd, Nat.reduceSub, Nat.zero_add, wdat_no, wdat_d, wdat_town, wdat_ol, wdat_od, wfrz_no, wfrz_d, wfrz_town, wfrz_ol, wfrz_od, wval_no, wval_d, wval_town, wval_ol, wval_od, warg_no, warg_d, warg_town, warg_ol, warg_od, vals, gLen, gAbs, gMax2, gMin2, gInt, gTup, gList, wipeW, if_true, if_false, Bool.false_eq_true, Bool.not_true, Bool.not_false, reduceCtorEq, q_Up_Up, q_Up_Down, q_Up_Part, q_Up_Rest, q_Up_Table, q_Up_Among, q_Up_Sum, q_Up_Gap, q_Down_Up, q_Down_Down, q_Down_Part, q_Down_Rest, q_Down_Table, q_Down_Among, q_Down_Sum, q_Down_Gap, q_Part_Up, q_Part_Down, q_Part_Part, q_Part_Rest, q_Part_Table, q_Part_Among, q_Part_Sum, q_Part_Gap, q_Rest_Up, q_Rest_Down, q_Rest_Part, q_Rest_Rest, q_Rest_Table, q_Rest_Among, q_Rest_Sum, q_Rest_Gap, q_Table_Up, q_Table_Down, q_Table_Part, q_Table_Rest, q_Table_Table, q_Table_Among, q_Table_Sum, q_Table_Gap, q_Among_Up, q_Among_Down, q_Among_Part, q_Among_Rest, q_Among_Table, q_Among_Among, q_Among_Sum, q_Among_Gap, q_Sum_Up, q_Sum_Down, q_Sum_Part, q_Sum_Rest, q_Sum_Table, q_Sum_Among, q_Sum_Sum, q_Sum_Gap, q_Gap_Up, q_Gap_Down, q_Gap_Part, q_Gap_Rest, q_Gap_Table, q_Gap_Among, q_Gap_Sum, q_Gap_Gap, q_Most_Up, q_Most_Down, q_Most_Part, q_Most_Rest, q_Most_Table, q_Most_Among, q_Most_Sum, q_Most_Gap, i0, i1, i2, dAdd_int, dSub_int, rLt, rLe, rGt, rGe, dEq_int, dNe_int, dIn_ints, dNotIn_ints, isTupD, isLstD, PK.d, ixTh (t := t) (show pl3 a from (prOk.l h).1), ixTh (t := t) (show pl3 b from (prOk.l h).2)]; rfl
  | gap a b => simp -implicitDefEqProofs only [eVar_ap, dVar_ap, eC_ap, dOf_ap, eFrz_ap, eBin_ap, bTest_ap, bTru_ap, bAnd_ap, bOr_ap, bNot_ap, eIf_ap, eB_ap, eAnd_ap, eOr_ap, aNil_ap, aCons_ap, sNil_ap, sCons_ap, eTup_ap, eLst_ap, eCall_ap, eApp_ap, oNone_ap, oSome_ap, eSl_ap, sNil'_ap, sSeq_ap, sBrk_ap, sRet_ap, sRetN_ap, sRetO_ap, sDrop_ap, sIf_ap, sSet_ap, sApp_ap, sTown_ap, sExt_ap, sIns_ap, sSetIx_ap, sAsg_ap, sPar_ap, iOf_ap, iVal_ap, iRng1_ap, iRng2_ap, sFor_ap, eComp_ap, bYes_ap, frzAt_ap, eUn_ap, eNotD_ap, eOrD_ap, eChain_ap, eListRg1_ap, eIsa_ap, eMt_ap, iEnumV_ap, iEnumF_ap, iZipV_ap, iZipF_ap, eTLen_ap, iRng3D_ap, sEnd_ap, eSs_ap, sPar3_ap, xPop_ap, xTup1_ap, xCat_ap, sSetX_ap, sAppX_ap, sParO_ap, sForEI_ap, sForK_ap, eRep_ap, eDicK_ap, eDicT_ap, sPut_ap, eAlt_ap, sTry_ap, eGetD_ap, eLockI_ap, iKeyF_ap, sSetDef_ap, eTupVals_ap, sNst_ap, frzNAt_ap, sAppN_ap, sStN_ap, eListRg2_ap, eLam_ap, eCallP_ap, runB_ap, gOne_ap, gMany_ap, dI_ap, yesC_ap, dCmp_int, setD, kill_nx, kill_rt, kill_bk, Option.bind_some, Option.map_some, Option.bind_none, Option.map_none, List.getElem?_cons_zero, List.getElem?_cons_succ, List.set_cons_zero, List.set_cons_succ, List.cons_append, List.nil_append, List.append_nil, List.replicate, List.length_cons, List.length_nil, Nat.reduceAdd, Nat.reduceSub, Nat.zero_add, wdat_no, wdat_d, wdat_town, wdat_ol, wdat_od, wfrz_no, wfrz_d, wfrz_town, wfrz_ol, wfrz_od, wval_no, wval_d, wval_town, wval_ol, wval_od, warg_no, warg_d, warg_town, warg_ol, warg_od, vals, gLen, gAbs, gMax2, gMin2, gInt, gTup, gList, wipeW, if_true, if_false, Bool.false_eq_true, Bool.not_true, Bool.not_false, reduceCtorEq, q_Up_Up, q_Up_Down, q_Up_Part, q_Up_Rest, q_Up_Table, q_Up_Among, q_Up_Sum, q_Up_Gap, q_Down_Up, q_Down_Down, q_Down_Part, q_Down_Rest, q_Down_Table, q_Down_Among, q_Down_Sum, q_Down_Gap, q_Part_Up, q_Part_Down, q_Part_Part, q_Part_Rest, q_Part_Table, q_Part_Among, q_Part_Sum, q_Part_Gap, q_Rest_Up, q_Rest_Down, q_Rest_Part, q_Rest_Rest, q_Rest_Table, q_Rest_Among, q_Rest_Sum, q_Rest_Gap, q_Table_Up, q_Table_Down, q_Table_Part, q_Table_Rest, q_Table_Table, q_Table_Among, q_Table_Sum, q_Table_Gap, q_Among_Up, q_Among_Down, q_Among_Part, q_Among_Rest, q_Among_Table, q_Among_Among, q_Among_Sum, q_Among_Gap, q_Sum_Up, q_Sum_Down, q_Sum_Part, q_Sum_Rest, q_Sum_Table, q_Sum_Among, q_Sum_Sum, q_Sum_Gap, q_Gap_Up, q_Gap_Down, q_Gap_Part, q_Gap_Rest, q_Gap_Table, q_Gap_Among, q_Gap_Sum, q_Gap_Gap, q_Most_Up, q_Most_Down, q_Most_Part, q_Most_Rest, q_Most_Table, q_Most_Among, q_Most_Sum, q_Most_Gap, i0, i1, i2, dAdd_int, dSub_int, rLt, rLe, rGt, rGe, dEq_int, dNe_int, dIn_ints, dNotIn_ints, isTupD, isLstD, PK.d, ixTh (t := t) (show pl3 a from (prOk.l h).1), ixTh (t := t) (show pl3 b from (prOk.l h).2)]; rfl
  | most a b => simp -implicitDefEqProofs only [eVar_ap, dVar_ap, eC_ap, dOf_ap, eFrz_ap, eBin_ap, bTest_ap, bTru_ap, bAnd_ap, bOr_ap, bNot_ap, eIf_ap, eB_ap, eAnd_ap, eOr_ap, aNil_ap, aCons_ap, sNil_ap, sCons_ap, eTup_ap, eLst_ap, eCall_ap, eApp_ap, oNone_ap, oSome_ap, eSl_ap, sNil'_ap, sSeq_ap, sBrk_ap, sRet_ap, sRetN_ap, sRetO_ap, sDrop_ap, sIf_ap, sSet_ap, sApp_ap, sTown_ap, sExt_ap, sIns_ap, sSetIx_ap, sAsg_ap, sPar_ap, iOf_ap, iVal_ap, iRng1_ap, iRng2_ap, sFor_ap, eComp_ap, bYes_ap, frzAt_ap, eUn_ap, eNotD_ap, eOrD_ap, eChain_ap, eListRg1_ap, eIsa_ap, eMt_ap, iEnumV_ap, iEnumF_ap, iZipV_ap, iZipF_ap, eTLen_ap, iRng3D_ap, sEnd_ap, eSs_ap, sPar3_ap, xPop_ap, xTup1_ap, xCat_ap, sSetX_ap, sAppX_ap, sParO_ap, sForEI_ap, sForK_ap, eRep_ap, eDicK_ap, eDicT_ap, sPut_ap, eAlt_ap, sTry_ap, eGetD_ap, eLockI_ap, iKeyF_ap, sSetDef_ap, eTupVals_ap, sNst_ap, frzNAt_ap, sAppN_ap, sStN_ap, eListRg2_ap, eLam_ap, eCallP_ap, runB_ap, gOne_ap, gMany_ap, dI_ap, yesC_ap, dCmp_int, setD, kill_nx, kill_rt, kill_bk, Option.bind_some, Option.map_some, Option.bind_none, Option.map_none, List.getElem?_cons_zero, List.getElem?_cons_succ, List.set_cons_zero, List.set_cons_succ, List.cons_append, List.nil_append, List.append_nil, List.replicate, List.length_cons, List.length_nil, Nat.reduceAdd, Nat.reduceSub, Nat.zero_add, wdat_no, wdat_d, wdat_town, wdat_ol, wdat_od, wfrz_no, wfrz_d, wfrz_town, wfrz_ol, wfrz_od, wval_no, wval_d, wval_town, wval_ol, wval_od, warg_no, warg_d, warg_town, warg_ol, warg_od, vals, gLen, gAbs, gMax2, gMin2, gInt, gTup, gList, wipeW, if_true, if_false, Bool.false_eq_true, Bool.not_true, Bool.not_false, reduceCtorEq, q_Up_Up, q_Up_Down, q_Up_Part, q_Up_Rest, q_Up_Table, q_Up_Among, q_Up_Sum, q_Up_Gap, q_Down_Up, q_Down_Down, q_Down_Part, q_Down_Rest, q_Down_Table, q_Down_Among, q_Down_Sum, q_Down_Gap, q_Part_Up, q_Part_Down, q_Part_Part, q_Part_Rest, q_Part_Table, q_Part_Among, q_Part_Sum, q_Part_Gap, q_Rest_Up, q_Rest_Down, q_Rest_Part, q_Rest_Rest, q_Rest_Table, q_Rest_Among, q_Rest_Sum, q_Rest_Gap, q_Table_Up, q_Table_Down, q_Table_Part, q_Table_Rest, q_Table_Table, q_Table_Among, q_Table_Sum, q_Table_Gap, q_Among_Up, q_Among_Down, q_Among_Part, q_Among_Rest, q_Among_Table, q_Among_Among, q_Among_Sum, q_Among_Gap, q_Sum_Up, q_Sum_Down, q_Sum_Part, q_Sum_Rest, q_Sum_Table, q_Sum_Among, q_Sum_Sum, q_Sum_Gap, q_Gap_Up, q_Gap_Down, q_Gap_Part, q_Gap_Rest, q_Gap_Table, q_Gap_Among, q_Gap_Sum, q_Gap_Gap, q_Most_Up, q_Most_Down, q_Most_Part, q_Most_Rest, q_Most_Table, q_Most_Among, q_Most_Sum, q_Most_Gap, i0, i1, i2, dAdd_int, dSub_int, rLt, rLe, rGt, rGe, dEq_int, dNe_int, dIn_ints, dNotIn_ints, isTupD, isLstD, PK.d, ixTh (t := t) (show pl3 a from (prOk.l h).1), ixTh (t := t) (show pl3 b from (prOk.l h).2)]; rfl
theorem PK.d_tup (p : PK) : ∃ s xs, p.d = .tuple (.str s :: xs) ∧ dEq (.str s) (.str sDown) = some (.d (.bool false)) := by
  cases p
  · exact ⟨_, _, rfl, q_Up_Down⟩
  · exact ⟨_, _, rfl, q_Part_Down⟩
  · exact ⟨_, _, rfl, q_Rest_Down⟩
  · exact ⟨_, _, rfl, q_Table_Down⟩
  · exact ⟨_, _, rfl, q_Among_Down⟩
  · exact ⟨_, _, rfl, q_Sum_Down⟩
  · exact ⟨_, _, rfl, q_Gap_Down⟩
  · exact ⟨_, _, rfl, q_Most_Down⟩
theorem worth_ok (k : Ky) (h : k.ok) (t : Th) (n : Nat) : m_worth [.d k.d, .d t.d] n = some (I' (k.worth t), n) := by
  cases k with
  | pl p => exact worth_pl 3 p h t n
  | dn p =>
    show m_worth_ 4 _ _ = _
    unfold m_worth_ b_worth
    simp -implicitDefEqProofs only [eVar_ap, dVar_ap, eC_ap, dOf_ap, eFrz_ap, eBin_ap, bTest_ap, bTru_ap, bAnd_ap, bOr_ap, bNot_ap, eIf_ap, eB_ap, eAnd_ap, eOr_ap, aNil_ap, aCons_ap, sNil_ap, sCons_ap, eTup_ap, eLst_ap, eCall_ap, eApp_ap, oNone_ap, oSome_ap, eSl_ap, sNil'_ap, sSeq_ap, sBrk_ap, sRet_ap, sRetN_ap, sRetO_ap, sDrop_ap, sIf_ap, sSet_ap, sApp_ap, sTown_ap, sExt_ap, sIns_ap, sSetIx_ap, sAsg_ap, sPar_ap, iOf_ap, iVal_ap, iRng1_ap, iRng2_ap, sFor_ap, eComp_ap, bYes_ap, frzAt_ap, eUn_ap, eNotD_ap, eOrD_ap, eChain_ap, eListRg1_ap, eIsa_ap, eMt_ap, iEnumV_ap, iEnumF_ap, iZipV_ap, iZipF_ap, eTLen_ap, iRng3D_ap, sEnd_ap, eSs_ap, sPar3_ap, xPop_ap, xTup1_ap, xCat_ap, sSetX_ap, sAppX_ap, sParO_ap, sForEI_ap, sForK_ap, eRep_ap, eDicK_ap, eDicT_ap, sPut_ap, eAlt_ap, sTry_ap, eGetD_ap, eLockI_ap, iKeyF_ap, sSetDef_ap, eTupVals_ap, sNst_ap, frzNAt_ap, sAppN_ap, sStN_ap, eListRg2_ap, eLam_ap, eCallP_ap, runB_ap, gOne_ap, gMany_ap, dI_ap, yesC_ap, dCmp_int, setD, kill_nx, kill_rt, kill_bk, Option.bind_some, Option.map_some, Option.bind_none, Option.map_none, List.getElem?_cons_zero, List.getElem?_cons_succ, List.set_cons_zero, List.set_cons_succ, List.cons_append, List.nil_append, List.append_nil, List.replicate, List.length_cons, List.length_nil, Nat.reduceAdd, Nat.reduceSub, Nat.zero_add, wdat_no, wdat_d, wdat_town, wdat_ol, wdat_od, wfrz_no, wfrz_d, wfrz_town, wfrz_ol, wfrz_od, wval_no, wval_d, wval_town, wval_ol, wval_od, warg_no, warg_d, warg_town, warg_ol, warg_od, vals, gLen, gAbs, gMax2, gMin2, gInt, gTup, gList, wipeW, if_true, if_false, Bool.false_eq_true, Bool.not_true, Bool.not_false, reduceCtorEq, q_Up_Up, q_Up_Down, q_Up_Part, q_Up_Rest, q_Up_Table, q_Up_Among, q_Up_Sum, q_Up_Gap, q_Down_Up, q_Down_Down, q_Down_Part, q_Down_Rest, q_Down_Table, q_Down_Among, q_Down_Sum, q_Down_Gap, q_Part_Up, q_Part_Down, q_Part_Part, q_Part_Rest, q_Part_Table, q_Part_Among, q_Part_Sum, q_Part_Gap, q_Rest_Up, q_Rest_Down, q_Rest_Part, q_Rest_Rest, q_Rest_Table, q_Rest_Among, q_Rest_Sum, q_Rest_Gap, q_Table_Up, q_Table_Down, q_Table_Part, q_Table_Rest, q_Table_Table, q_Table_Among, q_Table_Sum, q_Table_Gap, q_Among_Up, q_Among_Down, q_Among_Part, q_Among_Rest, q_Among_Table, q_Among_Among, q_Among_Sum, q_Among_Gap, q_Sum_Up, q_Sum_Down, q_Sum_Part, q_Sum_Rest, q_Sum_Table, q_Sum_Among, q_Sum_Sum, q_Sum_Gap, q_Gap_Up, q_Gap_Down, q_Gap_Part, q_Gap_Rest, q_Gap_Table, q_Gap_Among, q_Gap_Sum, q_Gap_Gap, q_Most_Up, q_Most_Down, q_Most_Part, q_Most_Rest, q_Most_Table, q_Most_Among, q_Most_Sum, q_Most_Gap, i0, i1, i2, dAdd_int, dSub_int, rLt, rLe, rGt, rGe, dEq_int, dNe_int, dIn_ints, dNotIn_ints, isTupD, isLstD, Ky.d, worth_pl 2 p h t n]
    rfl
/-! rows -/
abbrev Rw := List Ky
def Rw.ok (r : Rw) : Prop := ∀ k ∈ r, k.ok
def wts (r : Rw) (t : Th) : List Int := r.map fun k => k.worth t
theorem worths_ok (r : Rw) (h : Rw.ok r) (hl : r.length ≤ 1000000) (t : Th) (n : Nat) : m_worths [.d (rowD r), .d t.d] n = some (.d (ti (wts r t)), n) := by
  have e : loopC (gOne 2) [2] bYes (eCall m_worth (aCons (eVar 2) (aCons (eVar 1) aNil))) [.d (rowD r), .d t.d, .no] (r.map Ky.d) n = some ((wts r t).map .int, n) := by
    unfold wts
    clear hl
    suffices ∀ (ρ0 : W), loopC (gOne 2) [2] bYes (eCall m_worth (aCons (eVar 2) (aCons (eVar 1) aNil))) [ρ0, .d t.d, .no] (r.map Ky.d) n = some ((r.map fun k => k.worth t).map .int, n) from this _
    intro ρ0
    induction r with
    | nil => rfl
    | cons k r ih =>
      rw [List.map_cons, loopC_cons]
      simp -implicitDefEqProofs only [eVar_ap, dVar_ap, eC_ap, dOf_ap, eFrz_ap, eBin_ap, bTest_ap, bTru_ap, bAnd_ap, bOr_ap, bNot_ap, eIf_ap, eB_ap, eAnd_ap, eOr_ap, aNil_ap, aCons_ap, sNil_ap, sCons_ap, eTup_ap, eLst_ap, eCall_ap, eApp_ap, oNone_ap, oSome_ap, eSl_ap, sNil'_ap, sSeq_ap, sBrk_ap, sRet_ap, sRetN_ap, sRetO_ap, sDrop_ap, sIf_ap, sSet_ap, sApp_ap, sTown_ap, sExt_ap, sIns_ap, sSetIx_ap, sAsg_ap, sPar_ap, iOf_ap, iVal_ap, iRng1_ap, iRng2_ap, sFor_ap, eComp_ap, bYes_ap, frzAt_ap, eUn_ap, eNotD_ap, eOrD_ap, eChain_ap, eListRg1_ap, eIsa_ap, eMt_ap, iEnumV_ap, iEnumF_ap, iZipV_ap, iZipF_ap, eTLen_ap, iRng3D_ap, sEnd_ap, eSs_ap, sPar3_ap, xPop_ap, xTup1_ap, xCat_ap, sSetX_ap, sAppX_ap, sParO_ap, sForEI_ap, sForK_ap, eRep_ap, eDicK_ap, eDicT_ap, sPut_ap, eAlt_ap, sTry_ap, eGetD_ap, eLockI_ap, iKeyF_ap, sSetDef_ap, eTupVals_ap, sNst_ap, frzNAt_ap, sAppN_ap, sStN_ap, eListRg2_ap, eLam_ap, eCallP_ap, runB_ap, gOne_ap, gMany_ap, dI_ap, yesC_ap, dCmp_int, setD, kill_nx, kill_rt, kill_bk, Option.bind_some, Option.map_some, Option.bind_none, Option.map_none, List.getElem?_cons_zero, List.getElem?_cons_succ, List.set_cons_zero, List.set_cons_succ, List.cons_append, List.nil_append, List.append_nil, List.replicate, List.length_cons, List.length_nil, Nat.reduceAdd, Nat.reduceSub, Nat.zero_add, wdat_no, wdat_d, wdat_town, wdat_ol, wdat_od, wfrz_no, wfrz_d, wfrz_town, wfrz_ol, wfrz_od, wval_no, wval_d, wval_town, wval_ol, wval_od, warg_no, warg_d, warg_town, warg_ol, warg_od, vals, gLen, gAbs, gMax2, gMin2, gInt, gTup, gList, wipeW, if_true, if_false, Bool.false_eq_true, Bool.not_true, Bool.not_false, reduceCtorEq, worth_ok k (h k (List.mem_cons_self ..)) t n, ih fun z hz => h z (List.mem_cons_of_mem _ hz), List.map_cons]
  have hb : (r.map Ky.d).length ≤ big := by rw [List.length_map]; exact le_big hl
  unfold m_worths b_worths
  simp -implicitDefEqProofs only [eVar_ap, dVar_ap, eC_ap, dOf_ap, eFrz_ap, eBin_ap, bTest_ap, bTru_ap, bAnd_ap, bOr_ap, bNot_ap, eIf_ap, eB_ap, eAnd_ap, eOr_ap, aNil_ap, aCons_ap, sNil_ap, sCons_ap, eTup_ap, eLst_ap, eCall_ap, eApp_ap, oNone_ap, oSome_ap, eSl_ap, sNil'_ap, sSeq_ap, sBrk_ap, sRet_ap, sRetN_ap, sRetO_ap, sDrop_ap, sIf_ap, sSet_ap, sApp_ap, sTown_ap, sExt_ap, sIns_ap, sSetIx_ap, sAsg_ap, sPar_ap, iOf_ap, iVal_ap, iRng1_ap, iRng2_ap, sFor_ap, eComp_ap, bYes_ap, frzAt_ap, eUn_ap, eNotD_ap, eOrD_ap, eChain_ap, eListRg1_ap, eIsa_ap, eMt_ap, iEnumV_ap, iEnumF_ap, iZipV_ap, iZipF_ap, eTLen_ap, iRng3D_ap, sEnd_ap, eSs_ap, sPar3_ap, xPop_ap, xTup1_ap, xCat_ap, sSetX_ap, sAppX_ap, sParO_ap, sForEI_ap, sForK_ap, eRep_ap, eDicK_ap, eDicT_ap, sPut_ap, eAlt_ap, sTry_ap, eGetD_ap, eLockI_ap, iKeyF_ap, sSetDef_ap, eTupVals_ap, sNst_ap, frzNAt_ap, sAppN_ap, sStN_ap, eListRg2_ap, eLam_ap, eCallP_ap, runB_ap, gOne_ap, gMany_ap, dI_ap, yesC_ap, dCmp_int, setD, kill_nx, kill_rt, kill_bk, Option.bind_some, Option.map_some, Option.bind_none, Option.map_none, List.getElem?_cons_zero, List.getElem?_cons_succ, List.set_cons_zero, List.set_cons_succ, List.cons_append, List.nil_append, List.append_nil, List.replicate, List.length_cons, List.length_nil, Nat.reduceAdd, Nat.reduceSub, Nat.zero_add, wdat_no, wdat_d, wdat_town, wdat_ol, wdat_od, wfrz_no, wfrz_d, wfrz_town, wfrz_ol, wfrz_od, wval_no, wval_d, wval_town, wval_ol, wval_od, warg_no, warg_d, warg_town, warg_ol, warg_od, vals, gLen, gAbs, gMax2, gMin2, gInt, gTup, gList, wipeW, if_true, if_false, Bool.false_eq_true, Bool.not_true, Bool.not_false, reduceCtorEq, iSeq, hb, e]
/-- 1, 0, -1 -/
def tld (r : Rw) (s t : Th) : Int := (if lexB rGt zGt (wts r s) (wts r t) then 1 else 0) - (if lexB rLt zLt (wts r s) (wts r t) then 1 else 0)
theorem told_ok (r : Rw) (h : Rw.ok r) (hl : r.length ≤ 1000000) (s t : Th) (n : Nat) : m_told [.d (rowD r), .d s.d, .d t.d] n = some (I' (tld r s t), n) := by
  unfold m_told b_told
  simp -implicitDefEqProofs only [eVar_ap, dVar_ap, eC_ap, dOf_ap, eFrz_ap, eBin_ap, bTest_ap, bTru_ap, bAnd_ap, bOr_ap, bNot_ap, eIf_ap, eB_ap, eAnd_ap, eOr_ap, aNil_ap, aCons_ap, sNil_ap, sCons_ap, eTup_ap, eLst_ap, eCall_ap, eApp_ap, oNone_ap, oSome_ap, eSl_ap, sNil'_ap, sSeq_ap, sBrk_ap, sRet_ap, sRetN_ap, sRetO_ap, sDrop_ap, sIf_ap, sSet_ap, sApp_ap, sTown_ap, sExt_ap, sIns_ap, sSetIx_ap, sAsg_ap, sPar_ap, iOf_ap, iVal_ap, iRng1_ap, iRng2_ap, sFor_ap, eComp_ap, bYes_ap, frzAt_ap, eUn_ap, eNotD_ap, eOrD_ap, eChain_ap, eListRg1_ap, eIsa_ap, eMt_ap, iEnumV_ap, iEnumF_ap, iZipV_ap, iZipF_ap, eTLen_ap, iRng3D_ap, sEnd_ap, eSs_ap, sPar3_ap, xPop_ap, xTup1_ap, xCat_ap, sSetX_ap, sAppX_ap, sParO_ap, sForEI_ap, sForK_ap, eRep_ap, eDicK_ap, eDicT_ap, sPut_ap, eAlt_ap, sTry_ap, eGetD_ap, eLockI_ap, iKeyF_ap, sSetDef_ap, eTupVals_ap, sNst_ap, frzNAt_ap, sAppN_ap, sStN_ap, eListRg2_ap, eLam_ap, eCallP_ap, runB_ap, gOne_ap, gMany_ap, dI_ap, yesC_ap, dCmp_int, setD, kill_nx, kill_rt, kill_bk, Option.bind_some, Option.map_some, Option.bind_none, Option.map_none, List.getElem?_cons_zero, List.getElem?_cons_succ, List.set_cons_zero, List.set_cons_succ, List.cons_append, List.nil_append, List.append_nil, List.replicate, List.length_cons, List.length_nil, Nat.reduceAdd, Nat.reduceSub, Nat.zero_add, wdat_no, wdat_d, wdat_town, wdat_ol, wdat_od, wfrz_no, wfrz_d, wfrz_town, wfrz_ol, wfrz_od, wval_no, wval_d, wval_town, wval_ol, wval_od, warg_no, warg_d, warg_town, warg_ol, warg_od, vals, gLen, gAbs, gMax2, gMin2, gInt, gTup, gList, wipeW, if_true, if_false, Bool.false_eq_true, Bool.not_true, Bool.not_false, reduceCtorEq, worths_ok r h hl s n, worths_ok r h hl t n, dCmp_tup, dSub_int]
  rfl
end L2.Lv.Sh
namespace L2.Lv.Sh
open PySem PySem.Spec PyProof.Rows L2 L2.Lv

/-- the first key that tells -/
def wrd : Rw → Th → Th → Int
  | [], _, _ => 0
  | k :: r, s, t => if k.worth s = k.worth t then wrd r s t else if k.worth s < k.worth t then -1 else 1
theorem tld_wrd (r : Rw) (s t : Th) : tld r s t = wrd r s t := by
  unfold tld wts
  induction r with
  | nil => rfl
  | cons k r ih =>
    simp only [List.map_cons, lexB]
    by_cases e : k.worth s = k.worth t
    · rw [if_pos e, if_pos e, ih]
      exact (if_pos e).symm
    · rw [if_neg e, if_neg e]
      show _ = if _ then _ else _
      rw [if_neg e]
      by_cases l : k.worth s < k.worth t
      · simp [rLt, rGt, l]; omega
      · simp [rLt, rGt, l]; omega
theorem told_ok' (r : Rw) (h : Rw.ok r) (hl : r.length ≤ 1000000) (s t : Th) (n : Nat) : m_told [.d (rowD r), .d s.d, .d t.d] n = some (I' (wrd r s t), n) := by rw [told_ok r h hl, tld_wrd]
theorem wrd_anti (r : Rw) (s t : Th) : wrd r t s = 0 - wrd r s t := by
  induction r with
  | nil => rfl
  | cons k r ih =>
    simp only [wrd]
    by_cases e : k.worth s = k.worth t
    · rw [if_pos e.symm, if_pos e, ih]
    · rw [if_neg e, if_neg (Ne.symm e)]
      split <;> split <;> omega
theorem wrd_refl (r : Rw) (s : Th) : wrd r s s = 0 := by have := wrd_anti r s s; omega
/-- the order is one -/
theorem wrd_trans (r : Rw) (s t u : Th) (h1 : wrd r s t < 1) (h2 : wrd r t u < 1) : wrd r s u < 1 := by
  induction r with
  | nil => exact Int.one_pos
  | cons k r ih =>
    simp only [wrd] at h1 h2 ⊢
    by_cases e1 : k.worth s = k.worth t
    · by_cases e2 : k.worth t = k.worth u
      · rw [if_pos e1] at h1; rw [if_pos e2] at h2; rw [if_pos (e1.trans e2)]; exact ih h1 h2
      · rw [if_neg e2] at h2
        rw [e1, if_neg e2]
        exact h2
    · rw [if_neg e1] at h1
      split at h1
      · by_cases e2 : k.worth t = k.worth u
        · rw [← e2, if_neg e1, if_pos (by assumption)]; decide
        · rw [if_neg e2] at h2
          split at h2
          · rw [if_neg (by omega), if_pos (by omega)]; decide
          · omega
      · omega
/-! turned -/
def Ky.turn : Ky → Ky
  | pl p => dn p
  | dn p => pl p
theorem Ky.turn_ok {k : Ky} (h : k.ok) : k.turn.ok := by cases k <;> exact h
theorem Ky.turn_worth (k : Ky) (t : Th) : k.turn.worth t = 0 - k.worth t := by
  cases k with
  | pl p => rfl
  | dn p => show p.worth t = 0 - (0 - p.worth t); omega
theorem turned_key_ok (k : Ky) (n : Nat) : m_turned_key [.d k.d] n = some (.d k.turn.d, n) := by
  unfold m_turned_key b_turned_key
  cases k with
  | pl p =>
    obtain ⟨s, xs, e1, e2⟩ := p.d_tup
    show _ = some (W.d (.tuple [.str sDown, p.d]), n)
    rw [show (Ky.pl p).d = p.d from rfl, e1]
    simp -implicitDefEqProofs only [eVar_ap, dVar_ap, eC_ap, dOf_ap, eFrz_ap, eBin_ap, bTest_ap, bTru_ap, bAnd_ap, bOr_ap, bNot_ap, eIf_ap, eB_ap, eAnd_ap, eOr_ap, aNil_ap, aCons_ap, sNil_ap, sCons_ap, eTup_ap, eLst_ap, eCall_ap, eApp_ap, oNone_ap, oSome_ap, eSl_ap, sNil'_ap, sSeq_ap, sBrk_ap, sRet_ap, sRetN_ap, sRetO_ap, sDrop_ap, sIf_ap, sSet_ap, sApp_ap, sTown_ap, sExt_ap, sIns_ap, sSetIx_ap, sAsg_ap, sPar_ap, iOf_ap, iVal_ap, iRng1_ap, iRng2_ap, sFor_ap, eComp_ap, bYes_ap, frzAt_ap, eUn_ap, eNotD_ap, eOrD_ap, eChain_ap, eListRg1_ap, eIsa_ap, eMt_ap, iEnumV_ap, iEnumF_ap, iZipV_ap, iZipF_ap, eTLen_ap, iRng3D_ap, sEnd_ap, eSs_ap, sPar3_ap, xPop_ap, xTup1_ap, xCat_ap, sSetX_ap, sAppX_ap, sParO_ap, sForEI_ap, sForK_ap, eRep_ap, eDicK_ap, eDicT_ap, sPut_ap, eAlt_ap, sTry_ap, eGetD_ap, eLockI_ap, iKeyF_ap, sSetDef_ap, eTupVals_ap, sNst_ap, frzNAt_ap, sAppN_ap, sStN_ap, eListRg2_ap, eLam_ap, eCallP_ap, runB_ap, gOne_ap, gMany_ap, dI_ap, yesC_ap, dCmp_int, setD, kill_nx, kill_rt, kill_bk, Option.bind_some, Option.map_some, Option.bind_none, Option.map_none, List.getElem?_cons_zero, List.getElem?_cons_succ, List.set_cons_zero, List.set_cons_succ, List.cons_append, List.nil_append, List.append_nil, List.replicate, List.length_cons, List.length_nil, Nat.reduceAdd, Nat.reduceSub, Nat.zero_add, wdat_no, wdat_d, wdat_town, wdat_ol, wdat_od, wfrz_no, wfrz_d, wfrz_town, wfrz_ol, wfrz_od, wval_no, wval_d, wval_town, wval_ol, wval_od, warg_no, warg_d, warg_town, warg_ol, warg_od, vals, gLen, gAbs, gMax2, gMin2, gInt, gTup, gList, wipeW, if_true, if_false, Bool.false_eq_true, Bool.not_true, Bool.not_false, reduceCtorEq, q_Up_Up, q_Up_Down, q_Up_Part, q_Up_Rest, q_Up_Table, q_Up_Among, q_Up_Sum, q_Up_Gap, q_Down_Up, q_Down_Down, q_Down_Part, q_Down_Rest, q_Down_Table, q_Down_Among, q_Down_Sum, q_Down_Gap, q_Part_Up, q_Part_Down, q_Part_Part, q_Part_Rest, q_Part_Table, q_Part_Among, q_Part_Sum, q_Part_Gap, q_Rest_Up, q_Rest_Down, q_Rest_Part, q_Rest_Rest, q_Rest_Table, q_Rest_Among, q_Rest_Sum, q_Rest_Gap, q_Table_Up, q_Table_Down, q_Table_Part, q_Table_Rest, q_Table_Table, q_Table_Among, q_Table_Sum, q_Table_Gap, q_Among_Up, q_Among_Down, q_Among_Part, q_Among_Rest, q_Among_Table, q_Among_Among, q_Among_Sum, q_Among_Gap, q_Sum_Up, q_Sum_Down, q_Sum_Part, q_Sum_Rest, q_Sum_Table, q_Sum_Among, q_Sum_Sum, q_Sum_Gap, q_Gap_Up, q_Gap_Down, q_Gap_Part, q_Gap_Rest, q_Gap_Table, q_Gap_Among, q_Gap_Sum, q_Gap_Gap, q_Most_Up, q_Most_Down, q_Most_Part, q_Most_Rest, q_Most_Table, q_Most_Among, q_Most_Sum, q_Most_Gap, i0, i1, i2, dAdd_int, dSub_int, rLt, rLe, rGt, rGe, dEq_int, dNe_int, dIn_ints, dNotIn_ints, isTupD, isLstD, e2]
  | dn p => simp -implicitDefEqProofs only [eVar_ap, dVar_ap, eC_ap, dOf_ap, eFrz_ap, eBin_ap, bTest_ap, bTru_ap, bAnd_ap, bOr_ap, bNot_ap, eIf_ap, eB_ap, eAnd_ap, eOr_ap, aNil_ap, aCons_ap, sNil_ap, sCons_ap, eTup_ap, eLst_ap, eCall_ap, eApp_ap, oNone_ap, oSome_ap, eSl_ap, sNil'_ap, sSeq_ap, sBrk_ap, sRet_ap, sRetN_ap, sRetO_ap, sDrop_ap, sIf_ap, sSet_ap, sApp_ap, sTown_ap, sExt_ap, sIns_ap, sSetIx_ap, sAsg_ap, sPar_ap, iOf_ap, iVal_ap, iRng1_ap, iRng2_ap, sFor_ap, eComp_ap, bYes_ap, frzAt_ap, eUn_ap, eNotD_ap, eOrD_ap, eChain_ap, eListRg1_ap, eIsa_ap, eMt_ap, iEnumV_ap, iEnumF_ap, iZipV_ap, iZipF_ap, eTLen_ap, iRng3D_ap, sEnd_ap, eSs_ap, sPar3_ap, xPop_ap, xTup1_ap, xCat_ap, sSetX_ap, sAppX_ap, sParO_ap, sForEI_ap, sForK_ap, eRep_ap, eDicK_ap, eDicT_ap, sPut_ap, eAlt_ap, sTry_ap, eGetD_ap, eLockI_ap, iKeyF_ap, sSetDef_ap, eTupVals_ap, sNst_ap, frzNAt_ap, sAppN_ap, sStN_ap, eListRg2_ap, eLam_ap, eCallP_ap, runB_ap, gOne_ap, gMany_ap, dI_ap, yesC_ap, dCmp_int, setD, kill_nx, kill_rt, kill_bk, Option.bind_some, Option.map_some, Option.bind_none, Option.map_none, List.getElem?_cons_zero, List.getElem?_cons_succ, List.set_cons_zero, List.set_cons_succ, List.cons_append, List.nil_append, List.append_nil, List.replicate, List.length_cons, List.length_nil, Nat.reduceAdd, Nat.reduceSub, Nat.zero_add, wdat_no, wdat_d, wdat_town, wdat_ol, wdat_od, wfrz_no, wfrz_d, wfrz_town, wfrz_ol, wfrz_od, wval_no, wval_d, wval_town, wval_ol, wval_od, warg_no, warg_d, warg_town, warg_ol, warg_od, vals, gLen, gAbs, gMax2, gMin2, gInt, gTup, gList, wipeW, if_true, if_false, Bool.false_eq_true, Bool.not_true, Bool.not_false, reduceCtorEq, q_Up_Up, q_Up_Down, q_Up_Part, q_Up_Rest, q_Up_Table, q_Up_Among, q_Up_Sum, q_Up_Gap, q_Down_Up, q_Down_Down, q_Down_Part, q_Down_Rest, q_Down_Table, q_Down_Among, q_Down_Sum, q_Down_Gap, q_Part_Up, q_Part_Down, q_Part_Part, q_Part_Rest, q_Part_Table, q_Part_Among, q_Part_Sum, q_Part_Gap, q_Rest_Up, q_Rest_Down, q_Rest_Part, q_Rest_Rest, q_Rest_Table, q_Rest_Among, q_Rest_Sum, q_Rest_Gap, q_Table_Up, q_Table_Down, q_Table_Part, q_Table_Rest, q_Table_Table, q_Table_Among, q_Table_Sum, q_Table_Gap, q_Among_Up, q_Among_Down, q_Among_Part, q_Among_Rest, q_Among_Table, q_Among_Among, q_Among_Sum, q_Among_Gap, q_Sum_Up, q_Sum_Down, q_Sum_Part, q_Sum_Rest, q_Sum_Table, q_Sum_Among, q_Sum_Sum, q_Sum_Gap, q_Gap_Up, q_Gap_Down, q_Gap_Part, q_Gap_Rest, q_Gap_Table, q_Gap_Among, q_Gap_Sum, q_Gap_Gap, q_Most_Up, q_Most_Down, q_Most_Part, q_Most_Rest, q_Most_Table, q_Most_Among, q_Most_Sum, q_Most_Gap, i0, i1, i2, dAdd_int, dSub_int, rLt, rLe, rGt, rGe, dEq_int, dNe_int, dIn_ints, dNotIn_ints, isTupD, isLstD, Ky.d]; rfl
theorem turned_ok (r : Rw) (hl : r.length ≤ 1000000) (n : Nat) : m_turned [.d (rowD r)] n = some (.d (rowD (r.map Ky.turn)), n) := by
  have e : ∀ (ρ0 : W), loopC (gOne 1) [1] bYes (eCall m_turned_key (aCons (eVar 1) aNil)) [ρ0, .no] (r.map Ky.d) n = some ((r.map Ky.turn).map Ky.d, n) := by
    intro ρ0
    clear hl
    induction r with
    | nil => rfl
    | cons k r ih =>
      rw [List.map_cons, loopC_cons]
      simp -implicitDefEqProofs only [eVar_ap, dVar_ap, eC_ap, dOf_ap, eFrz_ap, eBin_ap, bTest_ap, bTru_ap, bAnd_ap, bOr_ap, bNot_ap, eIf_ap, eB_ap, eAnd_ap, eOr_ap, aNil_ap, aCons_ap, sNil_ap, sCons_ap, eTup_ap, eLst_ap, eCall_ap, eApp_ap, oNone_ap, oSome_ap, eSl_ap, sNil'_ap, sSeq_ap, sBrk_ap, sRet_ap, sRetN_ap, sRetO_ap, sDrop_ap, sIf_ap, sSet_ap, sApp_ap, sTown_ap, sExt_ap, sIns_ap, sSetIx_ap, sAsg_ap, sPar_ap, iOf_ap, iVal_ap, iRng1_ap, iRng2_ap, sFor_ap, eComp_ap, bYes_ap, frzAt_ap, eUn_ap, eNotD_ap, eOrD_ap, eChain_ap, eListRg1_ap, eIsa_ap, eMt_ap, iEnumV_ap, iEnumF_ap, iZipV_ap, iZipF_ap, eTLen_ap, iRng3D_ap, sEnd_ap, eSs_ap, sPar3_ap, xPop_ap, xTup1_ap, xCat_ap, sSetX_ap, sAppX_ap, sParO_ap, sForEI_ap, sForK_ap, eRep_ap, eDicK_ap, eDicT_ap, sPut_ap, eAlt_ap, sTry_ap, eGetD_ap, eLockI_ap, iKeyF_ap, sSetDef_ap, eTupVals_ap, sNst_ap, frzNAt_ap, sAppN_ap, sStN_ap, eListRg2_ap, eLam_ap, eCallP_ap, runB_ap, gOne_ap, gMany_ap, dI_ap, yesC_ap, dCmp_int, setD, kill_nx, kill_rt, kill_bk, Option.bind_some, Option.map_some, Option.bind_none, Option.map_none, List.getElem?_cons_zero, List.getElem?_cons_succ, List.set_cons_zero, List.set_cons_succ, List.cons_append, List.nil_append, List.append_nil, List.replicate, List.length_cons, List.length_nil, Nat.reduceAdd, Nat.reduceSub, Nat.zero_add, wdat_no, wdat_d, wdat_town, wdat_ol, wdat_od, wfrz_no, wfrz_d, wfrz_town, wfrz_ol, wfrz_od, wval_no, wval_d, wval_town, wval_ol, wval_od, warg_no, warg_d, warg_town, warg_ol, warg_od, vals, gLen, gAbs, gMax2, gMin2, gInt, gTup, gList, wipeW, if_true, if_false, Bool.false_eq_true, Bool.not_true, Bool.not_false, reduceCtorEq, turned_key_ok k n, ih, List.map_cons]
  have hb : (r.map Ky.d).length ≤ big := by rw [List.length_map]; exact le_big hl
  unfold m_turned b_turned
  simp -implicitDefEqProofs only [eVar_ap, dVar_ap, eC_ap, dOf_ap, eFrz_ap, eBin_ap, bTest_ap, bTru_ap, bAnd_ap, bOr_ap, bNot_ap, eIf_ap, eB_ap, eAnd_ap, eOr_ap, aNil_ap, aCons_ap, sNil_ap, sCons_ap, eTup_ap, eLst_ap, eCall_ap, eApp_ap, oNone_ap, oSome_ap, eSl_ap, sNil'_ap, sSeq_ap, sBrk_ap, sRet_ap, sRetN_ap, sRetO_ap, sDrop_ap, sIf_ap, sSet_ap, sApp_ap, sTown_ap, sExt_ap, sIns_ap, sSetIx_ap, sAsg_ap, sPar_ap, iOf_ap, iVal_ap, iRng1_ap, iRng2_ap, sFor_ap, eComp_ap, bYes_ap, frzAt_ap, eUn_ap, eNotD_ap, eOrD_ap, eChain_ap, eListRg1_ap, eIsa_ap, eMt_ap, iEnumV_ap, iEnumF_ap, iZipV_ap, iZipF_ap, eTLen_ap, iRng3D_ap, sEnd_ap, eSs_ap, sPar3_ap, xPop_ap, xTup1_ap, xCat_ap, sSetX_ap, sAppX_ap, sParO_ap, sForEI_ap, sForK_ap, eRep_ap, eDicK_ap, eDicT_ap, sPut_ap, eAlt_ap, sTry_ap, eGetD_ap, eLockI_ap, iKeyF_ap, sSetDef_ap, eTupVals_ap, sNst_ap, frzNAt_ap, sAppN_ap, sStN_ap, eListRg2_ap, eLam_ap, eCallP_ap, runB_ap, gOne_ap, gMany_ap, dI_ap, yesC_ap, dCmp_int, setD, kill_nx, kill_rt, kill_bk, Option.bind_some, Option.map_some, Option.bind_none, Option.map_none, List.getElem?_cons_zero, List.getElem?_cons_succ, List.set_cons_zero, List.set_cons_succ, List.cons_append, List.nil_append, List.append_nil, List.replicate, List.length_cons, List.length_nil, Nat.reduceAdd, Nat.reduceSub, Nat.zero_add, wdat_no, wdat_d, wdat_town, wdat_ol, wdat_od, wfrz_no, wfrz_d, wfrz_town, wfrz_ol, wfrz_od, wval_no, wval_d, wval_town, wval_ol, wval_od, warg_no, warg_d, warg_town, warg_ol, warg_od, vals, gLen, gAbs, gMax2, gMin2, gInt, gTup, gList, wipeW, if_true, if_false, Bool.false_eq_true, Bool.not_true, Bool.not_false, reduceCtorEq, iSeq, hb, e]
theorem wrd_turn (r : Rw) (s t : Th) : wrd (r.map Ky.turn) s t = 0 - wrd r s t := by
  induction r with
  | nil => rfl
  | cons k r ih =>
    simp only [List.map_cons, wrd, Ky.turn_worth, ih]
    by_cases e : k.worth s = k.worth t
    · rw [if_pos (by omega), if_pos e]
    · rw [if_neg (by omega), if_neg e]
      split <;> split <;> omega
end L2.Lv.Sh
namespace L2.Lv.Sh
open PySem PySem.Spec PyProof.Rows L2 L2.Lv
/-- plain data, of depth at most k, its tuples not too long -/
def nc : Nat → PyData → Bool
  | 0, _ => false
  | _ + 1, .none => true
  | _ + 1, .bool _ => true
  | _ + 1, .int _ => true
  | _ + 1, .str s => shp (.str s)
  | k + 1, .tuple xs => decide (xs.length ≤ 1000000) && xs.all (nc k)
  | _ + 1, _ => false
/-! all things -/
def six : List Int := [0, 1, 2, 3, 4, 5]
def allT : List Th := six.flatMap fun x => six.flatMap fun y => six.map fun z => (x, y, z)
theorem allT_len : allT.length = 216 := by decide
theorem all_in (E : W) (x : Int) (n : Nat) : ∀ (ys : List Int) (acc : List PyData) (w : W), acc.length + 6 * ys.length ≤ 1000000 → ∃ w',
    loopF (gOne 3) (sExt 1 (eComp (iOf (dVar 0)) (gOne 4) [4] bYes (eTup (aCons (eVar 2) (aCons (eVar 3) (aCons (eVar 4) aNil)))))) (ys.map .int) [.d (.list (six.map .int)), .ol acc, I' x, w, .no] n =
      some (.nx [.d (.list (six.map .int)), .ol (acc ++ ys.flatMap fun y => six.map fun z => ti [x, y, z]), I' x, w', .no] n)
  | [], acc, w, _ => ⟨w, by simp [loopF]⟩
  | y :: ys, acc, w, h => by
    rw [List.length_cons] at h
    obtain ⟨w', e⟩ := all_in E x n ys (acc ++ six.map fun z => ti [x, y, z]) (I' y) (by simp [six]; omega)
    refine ⟨w', ?_⟩
    have hc : loopC (gOne 4) [4] bYes (eTup (aCons (eVar 2) (aCons (eVar 3) (aCons (eVar 4) aNil)))) [.d (.list (six.map .int)), .ol acc, I' x, I' y, .no] (six.map .int) n = some (six.map fun z => ti [x, y, z], n) := rfl
    have h6 : (six.map PyData.int).length ≤ big := le_big (by decide)
    have h7 : acc.length + 6 ≤ big := le_big (by omega)
    have h8 : (six.map fun z => ti [x, y, z]).length = 6 := rfl
    rw [List.map_cons, loopF_cons]
    simp -implicitDefEqProofs only [eVar_ap, dVar_ap, eC_ap, dOf_ap, eFrz_ap, eBin_ap, bTest_ap, bTru_ap, bAnd_ap, bOr_ap, bNot_ap, eIf_ap, eB_ap, eAnd_ap, eOr_ap, aNil_ap, aCons_ap, sNil_ap, sCons_ap, eTup_ap, eLst_ap, eCall_ap, eApp_ap, oNone_ap, oSome_ap, eSl_ap, sNil'_ap, sSeq_ap, sBrk_ap, sRet_ap, sRetN_ap, sRetO_ap, sDrop_ap, sIf_ap, sSet_ap, sApp_ap, sTown_ap, sExt_ap, sIns_ap, sSetIx_ap, sAsg_ap, sPar_ap, iOf_ap, iVal_ap, iRng1_ap, iRng2_ap, sFor_ap, eComp_ap, bYes_ap, frzAt_ap, eUn_ap, eNotD_ap, eOrD_ap, eChain_ap, eListRg1_ap, eIsa_ap, eMt_ap, iEnumV_ap, iEnumF_ap, iZipV_ap, iZipF_ap, eTLen_ap, iRng3D_ap, sEnd_ap, eSs_ap, sPar3_ap, xPop_ap, xTup1_ap, xCat_ap, sSetX_ap, sAppX_ap, sParO_ap, sForEI_ap, sForK_ap, eRep_ap, eDicK_ap, eDicT_ap, sPut_ap, eAlt_ap, sTry_ap, eGetD_ap, eLockI_ap, iKeyF_ap, sSetDef_ap, eTupVals_ap, sNst_ap, frzNAt_ap, sAppN_ap, sStN_ap, eListRg2_ap, eLam_ap, eCallP_ap, runB_ap, gOne_ap, gMany_ap, dI_ap, yesC_ap, dCmp_int, setD, kill_nx, kill_rt, kill_bk, Option.bind_some, Option.map_some, Option.bind_none, Option.map_none, List.getElem?_cons_zero, List.getElem?_cons_succ, List.set_cons_zero, List.set_cons_succ, List.cons_append, List.nil_append, List.append_nil, List.replicate, List.length_cons, List.length_nil, Nat.reduceAdd, Nat.reduceSub, Nat.zero_add, wdat_no, wdat_d, wdat_town, wdat_ol, wdat_od, wfrz_no, wfrz_d, wfrz_town, wfrz_ol, wfrz_od, wval_no, wval_d, wval_town, wval_ol, wval_od, warg_no, warg_d, warg_town, warg_ol, warg_od, vals, gLen, gAbs, gMax2, gMin2, gInt, gTup, gList, wipeW, if_true, if_false, Bool.false_eq_true, Bool.not_true, Bool.not_false, reduceCtorEq, iSeq, h6, hc, h8, h7, e, List.flatMap_cons, List.append_assoc]
theorem all_out (n : Nat) : ∀ (xs : List Int) (acc : List PyData) (w2 w3 : W), acc.length + 36 * xs.length ≤ 1000000 → ∃ w2' w3',
    loopF (gOne 2) (sFor (iVal (eVar 0)) (gOne 3) (sExt 1 (eComp (iOf (dVar 0)) (gOne 4) [4] bYes (eTup (aCons (eVar 2) (aCons (eVar 3) (aCons (eVar 4) aNil))))))) (xs.map .int) [.d (.list (six.map .int)), .ol acc, w2, w3, .no] n =
      some (.nx [.d (.list (six.map .int)), .ol (acc ++ xs.flatMap fun x => six.flatMap fun y => six.map fun z => ti [x, y, z]), w2', w3', .no] n)
  | [], acc, w2, w3, _ => ⟨w2, w3, by simp [loopF]⟩
  | x :: xs, acc, w2, w3, h => by
    rw [List.length_cons] at h
    obtain ⟨w', e1⟩ := all_in .no x n six acc w3 (by simp [six]; omega)
    obtain ⟨v2, v3, e2⟩ := all_out n xs (acc ++ six.flatMap fun y => six.map fun z => ti [x, y, z]) (I' x) w' (by simp [six]; omega)
    refine ⟨v2, v3, ?_⟩
    rw [List.map_cons, loopF_cons]
    simp -implicitDefEqProofs only [eVar_ap, dVar_ap, eC_ap, dOf_ap, eFrz_ap, eBin_ap, bTest_ap, bTru_ap, bAnd_ap, bOr_ap, bNot_ap, eIf_ap, eB_ap, eAnd_ap, eOr_ap, aNil_ap, aCons_ap, sNil_ap, sCons_ap, eTup_ap, eLst_ap, eCall_ap, eApp_ap, oNone_ap, oSome_ap, eSl_ap, sNil'_ap, sSeq_ap, sBrk_ap, sRet_ap, sRetN_ap, sRetO_ap, sDrop_ap, sIf_ap, sSet_ap, sApp_ap, sTown_ap, sExt_ap, sIns_ap, sSetIx_ap, sAsg_ap, sPar_ap, iOf_ap, iVal_ap, iRng1_ap, iRng2_ap, sFor_ap, eComp_ap, bYes_ap, frzAt_ap, eUn_ap, eNotD_ap, eOrD_ap, eChain_ap, eListRg1_ap, eIsa_ap, eMt_ap, iEnumV_ap, iEnumF_ap, iZipV_ap, iZipF_ap, eTLen_ap, iRng3D_ap, sEnd_ap, eSs_ap, sPar3_ap, xPop_ap, xTup1_ap, xCat_ap, sSetX_ap, sAppX_ap, sParO_ap, sForEI_ap, sForK_ap, eRep_ap, eDicK_ap, eDicT_ap, sPut_ap, eAlt_ap, sTry_ap, eGetD_ap, eLockI_ap, iKeyF_ap, sSetDef_ap, eTupVals_ap, sNst_ap, frzNAt_ap, sAppN_ap, sStN_ap, eListRg2_ap, eLam_ap, eCallP_ap, runB_ap, gOne_ap, gMany_ap, dI_ap, yesC_ap, dCmp_int, setD, kill_nx, kill_rt, kill_bk, Option.bind_some, Option.map_some, Option.bind_none, Option.map_none, List.getElem?_cons_zero, List.getElem?_cons_succ, List.set_cons_zero, List.set_cons_succ, List.cons_append, List.nil_append, List.append_nil, List.replicate, List.length_cons, List.length_nil, Nat.reduceAdd, Nat.reduceSub, Nat.zero_add, wdat_no, wdat_d, wdat_town, wdat_ol, wdat_od, wfrz_no, wfrz_d, wfrz_town, wfrz_ol, wfrz_od, wval_no, wval_d, wval_town, wval_ol, wval_od, warg_no, warg_d, warg_town, warg_ol, warg_od, vals, gLen, gAbs, gMax2, gMin2, gInt, gTup, gList, wipeW, if_true, if_false, Bool.false_eq_true, Bool.not_true, Bool.not_false, reduceCtorEq, iSeq, e1, e2, List.flatMap_cons, List.append_assoc]
theorem all_things_ok (n : Nat) : m_all_things [] n = some (.d (.tuple (allT.map Th.d)), n) := by
  obtain ⟨v2, v3, e⟩ := all_out n six [] .no .no (by decide)
  have h6 : (0 : Int) ≤ 5 + 1 ∧ (5 : Int) + 1 ≤ big := ⟨by decide, by unfold big; decide⟩
  have h7 : rangeD 0 (5 + 1 : Int).toNat = six.map .int := rfl
  have hA : (six.flatMap fun x => six.flatMap fun y => six.map fun z => ti [x, y, z]) = allT.map Th.d := rfl
  rw [List.nil_append, hA] at e
  unfold m_all_things b_all_things l_all_things_1 l_all_things_2
  simp -implicitDefEqProofs only [eVar_ap, dVar_ap, eC_ap, dOf_ap, eFrz_ap, eBin_ap, bTest_ap, bTru_ap, bAnd_ap, bOr_ap, bNot_ap, eIf_ap, eB_ap, eAnd_ap, eOr_ap, aNil_ap, aCons_ap, sNil_ap, sCons_ap, eTup_ap, eLst_ap, eCall_ap, eApp_ap, oNone_ap, oSome_ap, eSl_ap, sNil'_ap, sSeq_ap, sBrk_ap, sRet_ap, sRetN_ap, sRetO_ap, sDrop_ap, sIf_ap, sSet_ap, sApp_ap, sTown_ap, sExt_ap, sIns_ap, sSetIx_ap, sAsg_ap, sPar_ap, iOf_ap, iVal_ap, iRng1_ap, iRng2_ap, sFor_ap, eComp_ap, bYes_ap, frzAt_ap, eUn_ap, eNotD_ap, eOrD_ap, eChain_ap, eListRg1_ap, eIsa_ap, eMt_ap, iEnumV_ap, iEnumF_ap, iZipV_ap, iZipF_ap, eTLen_ap, iRng3D_ap, sEnd_ap, eSs_ap, sPar3_ap, xPop_ap, xTup1_ap, xCat_ap, sSetX_ap, sAppX_ap, sParO_ap, sForEI_ap, sForK_ap, eRep_ap, eDicK_ap, eDicT_ap, sPut_ap, eAlt_ap, sTry_ap, eGetD_ap, eLockI_ap, iKeyF_ap, sSetDef_ap, eTupVals_ap, sNst_ap, frzNAt_ap, sAppN_ap, sStN_ap, eListRg2_ap, eLam_ap, eCallP_ap, runB_ap, gOne_ap, gMany_ap, dI_ap, yesC_ap, dCmp_int, setD, kill_nx, kill_rt, kill_bk, Option.bind_some, Option.map_some, Option.bind_none, Option.map_none, List.getElem?_cons_zero, List.getElem?_cons_succ, List.set_cons_zero, List.set_cons_succ, List.cons_append, List.nil_append, List.append_nil, List.replicate, List.length_cons, List.length_nil, Nat.reduceAdd, Nat.reduceSub, Nat.zero_add, wdat_no, wdat_d, wdat_town, wdat_ol, wdat_od, wfrz_no, wfrz_d, wfrz_town, wfrz_ol, wfrz_od, wval_no, wval_d, wval_town, wval_ol, wval_od, warg_no, warg_d, warg_town, warg_ol, warg_od, vals, gLen, gAbs, gMax2, gMin2, gInt, gTup, gList, wipeW, if_true, if_false, Bool.false_eq_true, Bool.not_true, Bool.not_false, reduceCtorEq, dAdd_int, h6, h7, and_self, iSeq, e]
end L2.Lv.Sh
namespace L2.Lv.Sh
open PySem PySem.Spec PyProof.Rows L2 L2.Lv
end L2.Lv.Sh
namespace L2.Lv.Sh
open PySem PySem.Spec PyProof.Rows L2 L2.Lv
/-! comprehensions over typed lists -/
theorem comp_mapA {α : Type} {g : Fg} {own : List Nat} {elt : Fe} {ρ : List W} {n : Nat} (enc f : α → PyData) : ∀ (xs : List α), (∀ x ∈ xs, ∃ ρ1, g (enc x) (wipeW ρ own) = some ρ1 ∧ elt ρ1 n = some (.d (f x), n)) →
    loopC g own bYes elt ρ (xs.map enc) n = some (xs.map f, n)
  | [], _ => rfl
  | x :: xs, h => by
    obtain ⟨ρ1, e1, e2⟩ := h x (List.mem_cons_self ..)
    rw [List.map_cons, loopC_cons]
    simp -implicitDefEqProofs only [eVar_ap, dVar_ap, eC_ap, dOf_ap, eFrz_ap, eBin_ap, bTest_ap, bTru_ap, bAnd_ap, bOr_ap, bNot_ap, eIf_ap, eB_ap, eAnd_ap, eOr_ap, aNil_ap, aCons_ap, sNil_ap, sCons_ap, eTup_ap, eLst_ap, eCall_ap, eApp_ap, oNone_ap, oSome_ap, eSl_ap, sNil'_ap, sSeq_ap, sBrk_ap, sRet_ap, sRetN_ap, sRetO_ap, sDrop_ap, sIf_ap, sSet_ap, sApp_ap, sTown_ap, sExt_ap, sIns_ap, sSetIx_ap, sAsg_ap, sPar_ap, iOf_ap, iVal_ap, iRng1_ap, iRng2_ap, sFor_ap, eComp_ap, bYes_ap, frzAt_ap, eUn_ap, eNotD_ap, eOrD_ap, eChain_ap, eListRg1_ap, eIsa_ap, eMt_ap, iEnumV_ap, iEnumF_ap, iZipV_ap, iZipF_ap, eTLen_ap, iRng3D_ap, sEnd_ap, eSs_ap, sPar3_ap, xPop_ap, xTup1_ap, xCat_ap, sSetX_ap, sAppX_ap, sParO_ap, sForEI_ap, sForK_ap, eRep_ap, eDicK_ap, eDicT_ap, sPut_ap, eAlt_ap, sTry_ap, eGetD_ap, eLockI_ap, iKeyF_ap, sSetDef_ap, eTupVals_ap, sNst_ap, frzNAt_ap, sAppN_ap, sStN_ap, eListRg2_ap, eLam_ap, eCallP_ap, runB_ap, gOne_ap, gMany_ap, dI_ap, yesC_ap, dCmp_int, setD, kill_nx, kill_rt, kill_bk, Option.bind_some, Option.map_some, Option.bind_none, Option.map_none, List.getElem?_cons_zero, List.getElem?_cons_succ, List.set_cons_zero, List.set_cons_succ, List.cons_append, List.nil_append, List.append_nil, List.replicate, List.length_cons, List.length_nil, Nat.reduceAdd, Nat.reduceSub, Nat.zero_add, wdat_no, wdat_d, wdat_town, wdat_ol, wdat_od, wfrz_no, wfrz_d, wfrz_town, wfrz_ol, wfrz_od, wval_no, wval_d, wval_town, wval_ol, wval_od, warg_no, warg_d, warg_town, warg_ol, warg_od, vals, gLen, gAbs, gMax2, gMin2, gInt, gTup, gList, wipeW, if_true, if_false, Bool.false_eq_true, Bool.not_true, Bool.not_false, reduceCtorEq, e1, e2, comp_mapA enc f xs fun z hz => h z (List.mem_cons_of_mem _ hz), List.map_cons]
/-! lists of things -/
/-! orders of things -/
/-- p stands ahead of q, or is q -/
def rle (r : Rw) (p q : Nat × Th) : Prop := wrd r p.2 q.2 < 0 ∨ (wrd r p.2 q.2 = 0 ∧ p.1 ≤ q.1)
instance (r : Rw) (p q : Nat × Th) : Decidable (rle r p q) := inferInstanceAs (Decidable (_ ∨ _))
theorem wrd_cases (r : Rw) (s t : Th) : wrd r s t = -1 ∨ wrd r s t = 0 ∨ wrd r s t = 1 := by
  induction r with
  | nil => exact .inr (.inl rfl)
  | cons k r ih =>
    simp only [wrd]
    split
    · exact ih
    split
    · exact .inl rfl
    · exact .inr (.inr rfl)
def enumT (ts : List Th) : List (Nat × Th) := ts.mapIdx fun i t => (i, t)
theorem enumT_get {ts : List Th} {p : Nat × Th} (h : p ∈ enumT ts) : ts[p.1]? = Option.some p.2 := by
  unfold enumT at h
  rw [List.mem_mapIdx] at h
  obtain ⟨i, hi, rfl⟩ := h
  exact List.getElem?_eq_getElem hi
end L2.Lv.Sh
namespace L2.Lv.Sh
open PySem PySem.Spec PyProof.Rows L2 L2.Lv
/-! sorted by worths and place -/
def lx (X Y : List (Int ⊕ List Nat)) : Bool := lexLt itemOrd X Y
theorem enumT_len (ts : List Th) : (enumT ts).length = ts.length := by simp [enumT]
end L2.Lv.Sh
namespace L2.Lv.Sh
open PySem PySem.Spec PyProof.Rows L2 L2.Lv
/-! slices -/
theorem cutD_drop (xs : List PyData) (k : Nat) (h : k ≤ xs.length) : cutD xs (some (k : Int)) none = xs.drop k := by
  unfold cutD
  rw [HT.sIx_none, HT.sIx_nat, Nat.min_eq_left h, ← List.length_drop, List.take_length]
/-! the list by hand -/
def ins (r : Rw) (p : Nat × Th) (L : List (Nat × Th)) : List (Nat × Th) := L.takeWhile (fun q => decide (wrd r q.2 p.2 < 1)) ++ p :: L.dropWhile (fun q => decide (wrd r q.2 p.2 < 1))
end L2.Lv.Sh
namespace L2.Lv.Sh
open PySem PySem.Spec PyProof.Rows L2 L2.Lv
/-! runs -/
def rStep (r : Rw) (acc : List (List Th)) (t : Th) : List (List Th) := match acc.getLast? with
  | none => acc ++ [[t]]
  | some l => match l.getLast? with
    | none => acc ++ [[t]]
    | some u => if wrd r u t < 1 then acc.dropLast ++ [l ++ [t]] else acc ++ [[t]]
theorem rStep_nil (r : Rw) (t : Th) : rStep r [] t = [[t]] := rfl
theorem rStep_app (r : Rw) (A : List (List Th)) (B : List Th) (u t : Th) : rStep r (A ++ [B ++ [u]]) t = if wrd r u t < 1 then A ++ [B ++ [u] ++ [t]] else A ++ [B ++ [u]] ++ [[t]] := by
  unfold rStep
  simp
/-- what holds of the list so far -/
def rInv (acc : List (List Th)) (k : Nat) : Prop := acc.length + k ≤ 1000 ∧ ∀ l ∈ acc, l ≠ [] ∧ l.length + k ≤ 1000
theorem rInv.step {r : Rw} {acc : List (List Th)} {k : Nat} {t : Th} (h : rInv acc (k + 1)) : rInv (rStep r acc t) k := by
  obtain ⟨h1, h2⟩ := h
  rcases List.eq_nil_or_concat acc with rfl | ⟨A, l, rfl⟩
  · rw [rStep_nil]; exact ⟨by simp at h1 ⊢; omega, fun l hl => by simp at hl; subst hl; exact ⟨by simp, by simp at h1 ⊢; omega⟩⟩
  · obtain ⟨n1, n2⟩ := h2 l (by simp)
    rcases List.eq_nil_or_concat l with rfl | ⟨B, u, rfl⟩
    · exact absurd rfl n1
    · simp only [List.concat_eq_append] at *
      rw [rStep_app]
      split
      · refine ⟨by simp at h1 ⊢; omega, fun l hl => ?_⟩
        rcases List.mem_append.mp hl with hl | hl
        · obtain ⟨m1, m2⟩ := h2 l (List.mem_append_left _ hl); exact ⟨m1, by omega⟩
        · simp at hl; subst hl; exact ⟨by simp, by simp at n2 ⊢; omega⟩
      · refine ⟨by simp at h1 ⊢; omega, fun l hl => ?_⟩
        rcases List.mem_append.mp hl with hl | hl
        · obtain ⟨m1, m2⟩ := h2 l hl; exact ⟨m1, by omega⟩
        · simp at hl; subst hl; exact ⟨by simp, by simp at h1 ⊢; omega⟩
/-! crossings -/
end L2.Lv.Sh
namespace L2.Lv.Sh
open PySem PySem.Spec PyProof.Rows L2 L2.Lv
/-! in order -/
theorem boolsOf_map {α : Type} (f : α → Bool) : ∀ l : List α, boolsOf (l.map fun x => .bool (f x)) = some (l.map f)
  | [] => rfl
  | x :: l => by
    show (boolsOf (l.map fun x => PyData.bool (f x))).map _ = _
    rw [boolsOf_map f l]; rfl
end L2.Lv.Sh
namespace L2.Lv.Sh
open PySem PySem.Spec PyProof.Rows L2 L2.Lv
/-! places in a list in order -/
theorem wrd_lt0 {r : Rw} {a b t : Th} (h1 : wrd r a b < 1) (h2 : wrd r b t < 0) : wrd r a t < 0 := by
  have q := wrd_trans r t a b
  have a1 := wrd_anti r a t
  have a2 := wrd_anti r b t
  by_cases h : wrd r a t < 0
  · exact h
  · have := q (by omega) h1; omega
end L2.Lv.Sh
namespace L2.Lv.Sh
open PySem PySem.Spec PyProof.Rows L2 L2.Lv
/-! groups -/
def gStep (r : Rw) (acc : List (List Th)) (t : Th) : List (List Th) := match acc.getLast? with
  | none => acc ++ [[t]]
  | some l => match l.head? with
    | none => acc ++ [[t]]
    | some u => if wrd r u t = 0 then acc.dropLast ++ [l ++ [t]] else acc ++ [[t]]
theorem gStep_nil (r : Rw) (t : Th) : gStep r [] t = [[t]] := rfl
theorem gStep_app (r : Rw) (A : List (List Th)) (u : Th) (B : List Th) (t : Th) : gStep r (A ++ [u :: B]) t = if wrd r u t = 0 then A ++ [u :: (B ++ [t])] else A ++ [u :: B] ++ [[t]] := by
  unfold gStep
  simp
/-- what holds of the list so far -/
def gInv (acc : List (List Th)) (k : Nat) : Prop := acc.flatten.length + k ≤ 1000 ∧ ∀ l ∈ acc, l ≠ []
theorem gInv.len {acc : List (List Th)} {k : Nat} (h : gInv acc k) : acc.length + k ≤ 1000 := by
  obtain ⟨h1, h2⟩ := h
  have key : acc.length ≤ acc.flatten.length := by
    clear h1
    induction acc with
    | nil => exact Nat.le_refl _
    | cons l acc ih =>
      have := ih fun z hz => h2 z (List.mem_cons_of_mem _ hz)
      have h3 := List.length_pos_iff.mpr (h2 l (List.mem_cons_self ..))
      simp at this ⊢; omega
  omega
theorem gInv.at {acc : List (List Th)} {k : Nat} (h : gInv acc k) {l : List Th} (hl : l ∈ acc) : l.length + k ≤ 1000 := by
  have h1 := h.1
  have : l.length ≤ acc.flatten.length := by
    obtain ⟨A, B, rfl⟩ := List.append_of_mem hl
    simp; omega
  omega
theorem gStep_flat (r : Rw) (acc : List (List Th)) (t : Th) (h : ∀ l ∈ acc, l ≠ []) : (gStep r acc t).flatten = acc.flatten ++ [t] ∧ ∀ l ∈ gStep r acc t, l ≠ [] := by
  rcases List.eq_nil_or_concat acc with rfl | ⟨A, l, rfl⟩
  · exact ⟨rfl, fun l hl => by rw [gStep_nil] at hl; simp at hl; subst hl; simp⟩
  · simp only [List.concat_eq_append] at *
    cases l with
    | nil => exact absurd rfl (h [] (by simp))
    | cons u B =>
      rw [gStep_app]
      split
      · refine ⟨by simp, fun l hl => ?_⟩
        rcases List.mem_append.mp hl with hl | hl
        · exact h l (List.mem_append_left _ hl)
        · simp at hl; subst hl; simp
      · refine ⟨by simp, fun l hl => ?_⟩
        rcases List.mem_append.mp hl with hl | hl
        · exact h l hl
        · simp at hl; subst hl; simp
theorem gInv.step {r : Rw} {acc : List (List Th)} {k : Nat} {t : Th} (h : gInv acc (k + 1)) : gInv (gStep r acc t) k := by
  obtain ⟨h1, h2⟩ := h
  obtain ⟨f1, f2⟩ := gStep_flat r acc t h2
  exact ⟨by rw [f1]; simp at h1 ⊢; omega, f2⟩
/-! the best -/
/-! lists told -/
end L2.Lv.Sh
namespace L2.Lv.Sh
open PySem PySem.Spec PyProof.Rows L2 L2.Lv
end L2.Lv.Sh
namespace L2.Lv.Sh
open PySem PySem.Spec PyProof.Rows L2 L2.Lv
/-! the one list in order, by its classes -/
def eqv (r : Rw) (x : Th) (l : List Th) : List Th := l.filter fun y => wrd r x y == 0
def srted (r : Rw) (l : List Th) : Prop := l.Pairwise fun s t => wrd r s t < 1
/-- l is ts put in order, what is alike left as it stood -/
def Is (r : Rw) (l ts : List Th) : Prop := srted r l ∧ ∀ x, eqv r x l = eqv r x ts
/-! two lists led together -/
end L2.Lv.Sh
namespace L2.Lv.Sh
open PySem PySem.Spec PyProof.Rows L2 L2.Lv
/-! loops whose state is known -/
theorem sSeq_nx {g h : Fs} {ρ ρ' : List W} {n n' : Nat} (e : g ρ n = some (.nx ρ' n')) : sSeq g h ρ n = h ρ' n' := by rw [sSeq_ap, e]; rfl
theorem rng2_any {i j : Int} (h : 0 ≤ i) (h0 : i < 1000000) (h1 : 0 ≤ j) (h2 : j < 1000000) : rng2 (.int i) (.int j) = some (rangeD i (j - i).toNat) := by
  show (if _ then _ else _) = _
  rw [if_pos (by omega)]
/-- .. with draws -/
theorem loopF_draw {β : Type} {g : Fg} {body : Fs} (env : β → List W) (J : Nat → β → Prop) (c : Nat)
    (h : ∀ (m : Nat) (b : β) (x : PyData) (n : Nat), J (m + 1) b → n + c ≤ big → ∃ ρ1 b' n', g x (env b) = some ρ1 ∧ body ρ1 n = some (.nx (env b') n') ∧ J m b' ∧ n ≤ n' ∧ n' ≤ n + c) :
    ∀ (xs : List PyData) (b : β) (n : Nat), J xs.length b → n + c * xs.length ≤ big → ∃ b' n', loopF g body xs (env b) n = some (.nx (env b') n') ∧ J 0 b' ∧ n ≤ n' ∧ n' ≤ n + c * xs.length
  | [], b, n, hJ, _ => ⟨b, n, rfl, hJ, Nat.le_refl _, Nat.le_add_right _ _⟩
  | x :: xs, b, n, hJ, hn => by
    rw [List.length_cons, Nat.mul_succ] at hn
    obtain ⟨ρ1, b1, n1, e1, e2, hJ1, l1, l2⟩ := h xs.length b x n hJ (by omega)
    obtain ⟨b2, n2, e3, hJ2, l3, l4⟩ := loopF_draw env J c h xs b1 n1 hJ1 (by omega)
    refine ⟨b2, n2, ?_, hJ2, by omega, by rw [List.length_cons, Nat.mul_succ]; omega⟩
    rw [loopF_cons]
    simp -implicitDefEqProofs only [eVar_ap, dVar_ap, eC_ap, dOf_ap, eFrz_ap, eBin_ap, bTest_ap, bTru_ap, bAnd_ap, bOr_ap, bNot_ap, eIf_ap, eB_ap, eAnd_ap, eOr_ap, aNil_ap, aCons_ap, sNil_ap, sCons_ap, eTup_ap, eLst_ap, eCall_ap, eApp_ap, oNone_ap, oSome_ap, eSl_ap, sNil'_ap, sSeq_ap, sBrk_ap, sRet_ap, sRetN_ap, sRetO_ap, sDrop_ap, sIf_ap, sSet_ap, sApp_ap, sTown_ap, sExt_ap, sIns_ap, sSetIx_ap, sAsg_ap, sPar_ap, iOf_ap, iVal_ap, iRng1_ap, iRng2_ap, sFor_ap, eComp_ap, bYes_ap, frzAt_ap, eUn_ap, eNotD_ap, eOrD_ap, eChain_ap, eListRg1_ap, eIsa_ap, eMt_ap, iEnumV_ap, iEnumF_ap, iZipV_ap, iZipF_ap, eTLen_ap, iRng3D_ap, sEnd_ap, eSs_ap, sPar3_ap, xPop_ap, xTup1_ap, xCat_ap, sSetX_ap, sAppX_ap, sParO_ap, sForEI_ap, sForK_ap, eRep_ap, eDicK_ap, eDicT_ap, sPut_ap, eAlt_ap, sTry_ap, eGetD_ap, eLockI_ap, iKeyF_ap, sSetDef_ap, eTupVals_ap, sNst_ap, frzNAt_ap, sAppN_ap, sStN_ap, eListRg2_ap, eLam_ap, eCallP_ap, runB_ap, gOne_ap, gMany_ap, dI_ap, yesC_ap, dCmp_int, setD, kill_nx, kill_rt, kill_bk, Option.bind_some, Option.map_some, Option.bind_none, Option.map_none, List.getElem?_cons_zero, List.getElem?_cons_succ, List.set_cons_zero, List.set_cons_succ, List.cons_append, List.nil_append, List.append_nil, List.replicate, List.length_cons, List.length_nil, Nat.reduceAdd, Nat.reduceSub, Nat.zero_add, wdat_no, wdat_d, wdat_town, wdat_ol, wdat_od, wfrz_no, wfrz_d, wfrz_town, wfrz_ol, wfrz_od, wval_no, wval_d, wval_town, wval_ol, wval_od, warg_no, warg_d, warg_town, warg_ol, warg_od, vals, gLen, gAbs, gMax2, gMin2, gInt, gTup, gList, wipeW, if_true, if_false, Bool.false_eq_true, Bool.not_true, Bool.not_false, reduceCtorEq, e1, e2, e3]
/-- the turns of a law -/
theorem loop_law {g : Fg} {body : Fs} {ρ : List W} (c : Nat) (h : ∀ (x : PyData) (n : Nat), n + c ≤ big → ∃ ρ1 n', g x ρ = some ρ1 ∧ body ρ1 n = some (.nx ρ n') ∧ n ≤ n' ∧ n' ≤ n + c) :
    ∀ (xs : List PyData) (n : Nat), n + c * xs.length ≤ big → ∃ n', loopF g body xs ρ n = some (.nx ρ n') ∧ n ≤ n' ∧ n' ≤ n + c * xs.length
  | [], n, _ => ⟨n, rfl, Nat.le_refl _, Nat.le_add_right _ _⟩
  | x :: xs, n, hn => by
    rw [List.length_cons, Nat.mul_succ] at hn
    obtain ⟨ρ1, n1, e1, e2, l1, l2⟩ := h x n (by omega)
    obtain ⟨n2, e3, l3, l4⟩ := loop_law c h xs n1 (by omega)
    refine ⟨n2, ?_, by omega, by rw [List.length_cons, Nat.mul_succ]; omega⟩
    rw [loopF_cons]
    simp -implicitDefEqProofs only [eVar_ap, dVar_ap, eC_ap, dOf_ap, eFrz_ap, eBin_ap, bTest_ap, bTru_ap, bAnd_ap, bOr_ap, bNot_ap, eIf_ap, eB_ap, eAnd_ap, eOr_ap, aNil_ap, aCons_ap, sNil_ap, sCons_ap, eTup_ap, eLst_ap, eCall_ap, eApp_ap, oNone_ap, oSome_ap, eSl_ap, sNil'_ap, sSeq_ap, sBrk_ap, sRet_ap, sRetN_ap, sRetO_ap, sDrop_ap, sIf_ap, sSet_ap, sApp_ap, sTown_ap, sExt_ap, sIns_ap, sSetIx_ap, sAsg_ap, sPar_ap, iOf_ap, iVal_ap, iRng1_ap, iRng2_ap, sFor_ap, eComp_ap, bYes_ap, frzAt_ap, eUn_ap, eNotD_ap, eOrD_ap, eChain_ap, eListRg1_ap, eIsa_ap, eMt_ap, iEnumV_ap, iEnumF_ap, iZipV_ap, iZipF_ap, eTLen_ap, iRng3D_ap, sEnd_ap, eSs_ap, sPar3_ap, xPop_ap, xTup1_ap, xCat_ap, sSetX_ap, sAppX_ap, sParO_ap, sForEI_ap, sForK_ap, eRep_ap, eDicK_ap, eDicT_ap, sPut_ap, eAlt_ap, sTry_ap, eGetD_ap, eLockI_ap, iKeyF_ap, sSetDef_ap, eTupVals_ap, sNst_ap, frzNAt_ap, sAppN_ap, sStN_ap, eListRg2_ap, eLam_ap, eCallP_ap, runB_ap, gOne_ap, gMany_ap, dI_ap, yesC_ap, dCmp_int, setD, kill_nx, kill_rt, kill_bk, Option.bind_some, Option.map_some, Option.bind_none, Option.map_none, List.getElem?_cons_zero, List.getElem?_cons_succ, List.set_cons_zero, List.set_cons_succ, List.cons_append, List.nil_append, List.append_nil, List.replicate, List.length_cons, List.length_nil, Nat.reduceAdd, Nat.reduceSub, Nat.zero_add, wdat_no, wdat_d, wdat_town, wdat_ol, wdat_od, wfrz_no, wfrz_d, wfrz_town, wfrz_ol, wfrz_od, wval_no, wval_d, wval_town, wval_ol, wval_od, warg_no, warg_d, warg_town, warg_ol, warg_od, vals, gLen, gAbs, gMax2, gMin2, gInt, gTup, gList, wipeW, if_true, if_false, Bool.false_eq_true, Bool.not_true, Bool.not_false, reduceCtorEq, e1, e2, e3]
/-! merged -/
end L2.Lv.Sh
namespace L2.Lv.Sh
open PySem PySem.Spec PyProof.Rows L2 L2.Lv
/-! lists led together two and two -/
end L2.Lv.Sh
namespace L2.Lv.Sh
open PySem PySem.Spec PyProof.Rows L2 L2.Lv L2.Lv.Sh
/-! what the runs are -/
/-! by hand -/
end L2.Lv.Sh
namespace L2.Lv.Sh
open PySem PySem.Spec PyProof.Rows L2 L2.Lv
/-! what rows tell, put together -/
theorem wrd_le_lt {r : Rw} {a b c : Th} (h1 : wrd r a b < 1) (h2 : wrd r b c < 0) : wrd r a c < 0 := wrd_lt0 h1 h2
theorem wrd_lt_le {r : Rw} {a b c : Th} (h1 : wrd r a b < 0) (h2 : wrd r b c < 1) : wrd r a c < 0 := by
  have a1 := wrd_anti r a b
  have a2 := wrd_anti r b c
  have a3 := wrd_anti r a c
  have t := wrd_trans r b c a h2
  by_cases h : wrd r a c < 0
  · exact h
  · have := t (by omega)
    omega
theorem wrd_eq_trans {r : Rw} {a b c : Th} (h1 : wrd r a b = 0) (h2 : wrd r b c = 0) : wrd r a c = 0 := by
  have a1 := wrd_anti r a b
  have a2 := wrd_anti r b c
  have a3 := wrd_anti r a c
  have t1 := wrd_trans r a b c (by omega) (by omega)
  have t2 := wrd_trans r c b a (by omega) (by omega)
  omega
theorem wrd_sym {r : Rw} {a b : Th} (h : wrd r a b = 0) : wrd r b a = 0 := by have := wrd_anti r a b; omega
theorem wrd_app (r q : Rw) (s t : Th) : wrd (r ++ q) s t = if wrd r s t = 0 then wrd q s t else wrd r s t := by
  induction r with
  | nil => rfl
  | cons k r ih =>
    have h1 : ∀ q : Rw, wrd (k :: q) s t = if k.worth s = k.worth t then wrd q s t else if k.worth s < k.worth t then -1 else 1 := fun _ => rfl
    rw [List.cons_append, h1 (r ++ q)]
    by_cases e : k.worth s = k.worth t
    · have h2 : wrd (k :: r) s t = wrd r s t := (h1 r).trans (if_pos e)
      rw [if_pos e, ih, h2]
    · have h2 : wrd (k :: r) s t = if k.worth s < k.worth t then -1 else 1 := (h1 r).trans (if_neg e)
      rw [if_neg e, h2]
      by_cases l : k.worth s < k.worth t
      · simp [l]
      · simp [l]
/-! groups -/
structure IsG (r : Rw) (G : List (List Th)) : Prop where
  eq : ∀ g ∈ G, ∀ a ∈ g, ∀ b ∈ g, wrd r a b = 0
  lt : G.Pairwise fun g h => ∀ a ∈ g, ∀ b ∈ h, wrd r a b < 0
  ne : ∀ g ∈ G, g ≠ []
theorem IsG.step {r : Rw} {acc : List (List Th)} {t : Th} (h : IsG r acc) (ht : ∀ a ∈ acc.flatten, wrd r a t < 1) : IsG r (gStep r acc t) := by
  rcases List.eq_nil_or_concat acc with rfl | ⟨A, l, rfl⟩
  · rw [gStep_nil]
    refine ⟨fun g hg a ha b hb => ?_, List.pairwise_singleton _ _, by simp⟩
    simp only [List.mem_singleton] at hg
    subst hg
    simp only [List.mem_singleton] at ha hb
    rw [ha, hb, wrd_refl]
  · simp only [List.concat_eq_append] at *
    cases l with
    | nil => exact absurd rfl (h.ne [] (by simp))
    | cons u B =>
      rw [gStep_app]
      have hu : wrd r u t < 1 := ht u (by simp)
      have hl := List.pairwise_append.mp h.lt
      have heq : ∀ a ∈ u :: B, wrd r a u = 0 := fun a ha => h.eq (u :: B) (by simp) a ha u (by simp)
      split
      · rename_i c
        have hat : ∀ a ∈ u :: B, wrd r a t = 0 := fun a ha => wrd_eq_trans (heq a ha) c
        refine ⟨fun g hg a ha b hb => ?_, List.pairwise_append.mpr ⟨hl.1, List.pairwise_singleton _ _, fun g hg k hk a ha b hb => ?_⟩, fun g hg => ?_⟩
        · rcases List.mem_append.mp hg with hg | hg
          · exact h.eq g (List.mem_append_left _ hg) a ha b hb
          · simp only [List.mem_singleton] at hg
            subst hg
            have ha : a ∈ (u :: B) ++ [t] := ha
            have hb : b ∈ (u :: B) ++ [t] := hb
            rcases List.mem_append.mp ha with ha | ha <;> rcases List.mem_append.mp hb with hb | hb
            · exact h.eq (u :: B) (by simp) a ha b hb
            · rw [List.mem_singleton.mp hb]; exact hat a ha
            · rw [List.mem_singleton.mp ha]; exact wrd_sym (hat b hb)
            · rw [List.mem_singleton.mp ha, List.mem_singleton.mp hb]; exact wrd_refl _ _
        · simp only [List.mem_singleton] at hk
          subst hk
          have hb : b ∈ (u :: B) ++ [t] := hb
          rcases List.mem_append.mp hb with hb | hb
          · exact hl.2.2 g hg (u :: B) (by simp) a ha b hb
          · simp only [List.mem_singleton] at hb; subst hb
            exact wrd_lt_le (hl.2.2 g hg (u :: B) (by simp) a ha u (by simp)) hu
        · rcases List.mem_append.mp hg with hg | hg
          · exact h.ne g (List.mem_append_left _ hg)
          · simp only [List.mem_singleton] at hg; subst hg; simp
      · rename_i c
        have hut : wrd r u t < 0 := by omega
        have hat : ∀ a ∈ u :: B, wrd r a t < 0 := fun a ha => wrd_le_lt (by have := heq a ha; omega) hut
        refine ⟨fun g hg a ha b hb => ?_, List.pairwise_append.mpr ⟨h.lt, List.pairwise_singleton _ _, fun g hg k hk a ha b hb => ?_⟩, fun g hg => ?_⟩
        · rcases List.mem_append.mp hg with hg | hg
          · exact h.eq g hg a ha b hb
          · simp only [List.mem_singleton] at hg; subst hg
            simp only [List.mem_singleton] at ha hb; subst ha hb; exact wrd_refl _ _
        · simp only [List.mem_singleton] at hk; subst hk
          simp only [List.mem_singleton] at hb; subst hb
          rcases List.mem_append.mp hg with hg | hg
          · exact wrd_lt_le (hl.2.2 g hg (u :: B) (by simp) a ha u (by simp)) hu
          · simp only [List.mem_singleton] at hg; subst hg; exact hat a ha
        · rcases List.mem_append.mp hg with hg | hg
          · exact h.ne g hg
          · simp only [List.mem_singleton] at hg; subst hg; simp
theorem IsG.tail {r : Rw} {g : List Th} {G : List (List Th)} (h : IsG r (g :: G)) : IsG r G := ⟨fun k hk => h.eq k (List.mem_cons_of_mem _ hk), (List.pairwise_cons.mp h.lt).2, fun k hk => h.ne k (List.mem_cons_of_mem _ hk)⟩
theorem IsG.srt {r : Rw} : ∀ {G : List (List Th)}, IsG r G → srted r G.flatten
  | [], _ => List.Pairwise.nil
  | g :: G, h => by
    rw [List.flatten_cons]
    refine List.pairwise_append.mpr ⟨?_, h.tail.srt, fun a ha b hb => ?_⟩
    · rw [List.pairwise_iff_getElem]
      intro i j hi hj _
      have := h.eq g (by simp) g[i] (List.getElem_mem _) g[j] (List.getElem_mem _)
      omega
    · obtain ⟨m, h1, h2⟩ := List.mem_flatten.mp hb
      have := (List.pairwise_cons.mp h.lt).1 m h1 a ha b h2
      omega
/-! crossings, pairs not told apart -/
def tieT (r : Rw) : List Th → Nat
  | [] => 0
  | t :: ts => (ts.filter fun u => wrd r t u == 0).length + tieT r ts
def tri : Nat → Nat
  | 0 => 0
  | n + 1 => tri n + n
theorem tri_two (n : Nat) : tri n * 2 = n * (n - 1) := by
  induction n with
  | zero => rfl
  | succ n ih =>
    rw [tri, Nat.add_mul, ih, Nat.add_sub_cancel]
    cases n with
    | zero => rfl
    | succ n =>
      rw [Nat.add_sub_cancel, ← Nat.mul_add, Nat.mul_comm]
theorem tri_int (n : Nat) : ((n : Int) * ((n : Int) - 1)) / 2 = (tri n : Nat) := by
  have h := tri_two n
  have e : (n : Int) * ((n : Int) - 1) = ((n * (n - 1) : Nat) : Int) := by
    cases n with
    | zero => rfl
    | succ n =>
      rw [Nat.add_sub_cancel, Int.natCast_mul]
      congr 1
      omega
  rw [e, ← h]
  omega
theorem tieT_all {r : Rw} : ∀ {g : List Th}, (∀ a ∈ g, ∀ b ∈ g, wrd r a b = 0) → tieT r g = tri g.length
  | [], _ => rfl
  | a :: g, h => by
    have ih := tieT_all (g := g) fun x hx y hy => h x (List.mem_cons_of_mem _ hx) y (List.mem_cons_of_mem _ hy)
    have : g.filter (fun u => wrd r a u == 0) = g := List.filter_eq_self.mpr fun b hb => by simpa using h a (by simp) b (List.mem_cons_of_mem _ hb)
    simp only [tieT, this, ih, List.length_cons, tri]
    omega
theorem tieT_app {r : Rw} {g m : List Th} (h : ∀ a ∈ g, ∀ b ∈ m, wrd r a b < 0) : tieT r (g ++ m) = tieT r g + tieT r m := by
  induction g with
  | nil => simp [tieT]
  | cons a g ih =>
    have ih := ih fun x hx => h x (List.mem_cons_of_mem _ hx)
    have : m.filter (fun u => wrd r a u == 0) = [] := List.filter_eq_nil_iff.mpr fun b hb => by
      have := h a (by simp) b hb
      simp; omega
    simp only [List.cons_append, tieT, ih, List.filter_append, List.length_append, this, List.length_nil]
    omega
theorem IsG.tie {r : Rw} : ∀ {G : List (List Th)}, IsG r G → tieT r G.flatten = (G.map fun g => tri g.length).sum
  | [], _ => rfl
  | g :: G, h => by
    rw [List.flatten_cons, tieT_app fun a ha b hb => by
      obtain ⟨m, h1, h2⟩ := List.mem_flatten.mp hb
      exact (List.pairwise_cons.mp h.lt).1 m h1 a ha b h2, h.tail.tie, tieT_all (h.eq g (by simp))]
    simp
/-! the best -/
/-! lists told go on -/
/-! places -/
end L2.Lv.Sh
namespace L2.Lv.Sh
open PySem PySem.Spec PyProof.Rows L2 L2.Lv
/-! plain data is like itself -/
mutual
theorem nc_self : ∀ (k : Nat) (x : PyData), nc k x = true → x.canLay0 = true ∧ x.depth ≤ k ∧ PyData.eqv x x = true
  | 0, _, h => by simp [nc] at h
  | k + 1, .none, _ => by simp [PyData.canLay0, PyData.depth, PyData.eqv]
  | k + 1, .bool b, _ => by simp [PyData.canLay0, PyData.depth, PyData.eqv]
  | k + 1, .int i, _ => by simp [PyData.canLay0, PyData.depth, PyData.eqv]
  | k + 1, .str s, h => by
    have h : shp (.str s) = true := h
    have := SeqAt.canLay_of_shaped h
    refine ⟨this, by simp [PyData.depth], by simp [PyData.eqv]⟩
  | k + 1, .tuple xs, h => by
    simp [nc] at h
    obtain ⟨h1, h2, h3⟩ := nc_selfAll k xs h.2
    exact ⟨by simpa [PyData.canLay0] using h1, by simp [PyData.depth]; omega, by simpa [PyData.eqv] using h3⟩
  | k + 1, .list _, h => by simp [nc] at h
  | k + 1, .dict _, h => by simp [nc] at h
theorem nc_selfAll : ∀ (k : Nat) (xs : List PyData), (∀ x ∈ xs, nc k x = true) → PyData.canLayAll0 xs = true ∧ PyData.depthAll xs ≤ k ∧ PyData.eqvAll xs xs = true
  | _, [], _ => by simp [PyData.canLayAll0, PyData.depthAll, PyData.eqvAll]
  | k, x :: xs, h => by
    obtain ⟨a1, a2, a3⟩ := nc_self k x (h x (List.mem_cons_self ..))
    obtain ⟨b1, b2, b3⟩ := nc_selfAll k xs fun z hz => h z (List.mem_cons_of_mem _ hz)
    refine ⟨by simp [PyData.canLayAll0, a1, b1], by simp [PyData.depthAll]; omega, by simp [PyData.eqvAll, a3, b3]⟩
end
/-- .. lists of plain data -/
theorem ls_shp {k : Nat} {xs : List PyData} (h : ∀ x ∈ xs, nc k x = true) (hk : k ≤ 60) : shp (.list xs) = true ∧ PyData.eqv (.list xs) (.list xs) = true := by
  obtain ⟨h1, h2, h3⟩ := nc_selfAll k xs h
  constructor
  · have e : (PyData.list xs).depth = PyData.depthAll xs + 1 := by simp [PyData.depth]
    have e2 : (PyData.list xs).canLay0 = true := by simpa [PyData.canLay0] using h1
    simp only [shp, SeqAt.shaped, e2, Bool.true_and, decide_eq_true_eq]
    omega
  · simpa [PyData.eqv] using h3
theorem dNe_ls {k : Nat} {xs : List PyData} (h : ∀ x ∈ xs, nc k x = true) (hk : k ≤ 60) : dNe (.list xs) (.list xs) = some (.d (.bool false)) := by
  rw [dNe, (ls_shp h hk).1, (ls_shp h hk).2]; rfl
theorem dNe_li (l : List Int) : dNe (.list (l.map .int)) (.list (l.map .int)) = some (.d (.bool false)) := dNe_ls (k := 1) (fun x hx => by
  obtain ⟨i, _, rfl⟩ := List.mem_map.mp hx; rfl) (by decide)
/-! a tuple the other way round -/
theorem rowT_ok {r : Rw} (h : Rw.ok r) : Rw.ok (r.map Ky.turn) := fun k hk => by
  obtain ⟨k', hk', rfl⟩ := List.mem_map.mp hk
  exact Ky.turn_ok (h k' hk')
end L2.Lv.Sh
namespace L2.Lv.Sh
open PySem PySem.Spec PyProof.Rows L2 L2.Lv
/-! orders put in one another -/
inductive Kd where
  | as | many | first | last
  deriving DecidableEq
abbrev kAs : Str := "as"
abbrev kMany : Str := "many"
abbrev kFirst : Str := "first"
abbrev kLast : Str := "last"
def Kd.s : Kd → Str
  | as => kAs
  | many => kMany
  | first => kFirst
  | last => kLast
theorem shp_as : shp (.str kAs) = true := by decide +kernel
theorem shp_many : shp (.str kMany) = true := by decide +kernel
theorem shp_first : shp (.str kFirst) = true := by decide +kernel
theorem shp_last : shp (.str kLast) = true := by decide +kernel
theorem Kd.shp (k : Kd) : L2.Lv.shp (.str k.s) = true := by
  cases k
  · exact shp_as
  · exact shp_many
  · exact shp_first
  · exact shp_last
/-! put in by kind -/
end L2.Lv.Sh
namespace L2.Lv.Sh
open PySem PySem.Spec PyProof.Rows L2 L2.Lv
/-! many lists led together -/
end L2.Lv.Sh
namespace L2.Lv.Sh
open PySem PySem.Spec PyProof.Rows L2 L2.Lv
/-! fronts -/
/-- one beats the other -/
def btT (R : List Rw) (a b : Th) : Bool := R.any (fun r => wrd r a b == -1) && R.all (fun r => !(wrd r a b == 1))
theorem bt_iff {R : List Rw} {a b : Th} : btT R a b = true ↔ (∃ r ∈ R, wrd r a b = -1) ∧ ∀ r ∈ R, wrd r a b < 1 := by
  unfold btT
  rw [Bool.and_eq_true, List.any_eq_true, List.all_eq_true]
  refine and_congr ⟨fun ⟨r, h1, h2⟩ => ⟨r, h1, by simpa using h2⟩, fun ⟨r, h1, h2⟩ => ⟨r, h1, by simpa using h2⟩⟩ ⟨fun h r hr => ?_, fun h r hr => ?_⟩
  · have := h r hr
    rcases wrd_cases r a b with e | e | e
    · omega
    · omega
    · rw [e] at this; simp at this
  · have := h r hr
    simp only [Bool.not_eq_true', beq_eq_false_iff_ne, ne_eq]
    omega
theorem bt_irr {R : List Rw} (a : Th) : btT R a a = false := by
  cases h : btT R a a with
  | false => rfl
  | true =>
    obtain ⟨⟨r, _, h2⟩, _⟩ := bt_iff.mp h
    rw [wrd_refl] at h2; cases h2
theorem bt_trans {R : List Rw} {a b c : Th} (h1 : btT R a b = true) (h2 : btT R b c = true) : btT R a c = true := by
  obtain ⟨⟨r, p1, p2⟩, p3⟩ := bt_iff.mp h1
  obtain ⟨_, q3⟩ := bt_iff.mp h2
  refine bt_iff.mpr ⟨⟨r, p1, ?_⟩, fun s hs => wrd_trans s a b c (p3 s hs) (q3 s hs)⟩
  have := wrd_lt_le (show wrd r a b < 0 by omega) (q3 r p1)
  rcases wrd_cases r a c with e | e | e <;> omega
/-- the ones that none beats -/
def nb (R : List Rw) (L : List (Nat × Th)) (p : Nat × Th) : Bool := !(L.any fun o => btT R o.2 p.2)
def frT (R : List Rw) (L : List (Nat × Th)) : List (Nat × Th) := L.filter (nb R L)
theorem gAny_map {α : Type} (f : α → Bool) (l : List α) : gAnyX [.list (l.map fun x => .bool (f x))] = some (.d (.bool (l.any f))) := by
  simp only [gAnyX, gAny, boolsOf_map, Option.map_some, Option.some_or]
  rw [List.any_map]; rfl
/-- what is left holds one that none beats -/
theorem fr_some {R : List Rw} : ∀ {L : List (Nat × Th)}, L ≠ [] → ∃ p ∈ L, nb R L p = true
  | [], h => absurd rfl h
  | a :: L, _ => by
    by_cases hL : L = []
    · subst hL
      exact ⟨a, by simp, by simp [nb, bt_irr]⟩
    · obtain ⟨m, hm, h⟩ := fr_some (R := R) hL
      have hn : ∀ o ∈ L, btT R o.2 m.2 = false := fun o ho => by
        simp only [nb, Bool.not_eq_true', List.any_eq_false] at h
        have := h o ho
        simpa using this
      cases q : btT R a.2 m.2 with
      | false =>
        refine ⟨m, by simp [hm], ?_⟩
        simp only [nb, Bool.not_eq_true', List.any_eq_false]
        intro o ho
        rcases List.mem_cons.mp ho with rfl | ho
        · simp [q]
        · simp [hn o ho]
      | true =>
        refine ⟨a, by simp, ?_⟩
        simp only [nb, Bool.not_eq_true', List.any_eq_false]
        intro o ho
        rcases List.mem_cons.mp ho with rfl | ho
        · simp [bt_irr]
        · cases q2 : btT R o.2 a.2 with
          | false => simp
          | true =>
            have := bt_trans q2 q
            rw [hn o ho] at this; cases this
theorem frT_ne {R : List Rw} {L : List (Nat × Th)} (h : L ≠ []) : frT R L ≠ [] := by
  obtain ⟨p, hp, hq⟩ := fr_some (R := R) h
  exact List.ne_nil_of_mem (List.mem_filter.mpr ⟨hp, hq⟩)
/-- what is left behind a layer -/
def rsT (R : List Rw) (L : List (Nat × Th)) : List (Nat × Th) := L.filter fun p => !nb R L p
theorem rsT_lt {R : List Rw} {L : List (Nat × Th)} (h : L ≠ []) : (rsT R L).length < L.length := by
  have h1 := List.length_pos_iff.mpr (frT_ne (R := R) h)
  have : (frT R L).length + (rsT R L).length = L.length := by
    unfold frT rsT
    have : ∀ (p : Nat × Th → Bool) (l : List (Nat × Th)), (l.filter p).length + (l.filter fun x => !p x).length = l.length := by
      intro p l
      induction l with
      | nil => rfl
      | cons a l ih =>
        rw [List.filter_cons, List.filter_cons]
        cases p a <;> simp <;> omega
    exact this _ L
  omega
def layF (R : List Rw) : Nat → List (Nat × Th) → List (List (Nat × Th))
  | 0, _ => []
  | k + 1, L => if L = [] then [] else frT R L :: layF R k (rsT R L)
def layT (R : List Rw) (ts : List Th) : List (List (Nat × Th)) := layF R 100000 (enumT ts)
/-- the pairs -/
def agT (R : List Rw) (ts : List Th) : List ((Nat × Th) × (Nat × Th)) := (enumT ts).flatMap fun p => ((enumT ts).filter fun q => btT R p.2 q.2).map fun q => (p, q)
theorem agT_mem {R : List Rw} {ts : List Th} {p q : Nat × Th} : (p, q) ∈ agT R ts ↔ p ∈ enumT ts ∧ q ∈ enumT ts ∧ btT R p.2 q.2 = true := by
  unfold agT
  rw [List.mem_flatMap]
  constructor
  · rintro ⟨a, h1, h2⟩
    obtain ⟨b, h3, h4⟩ := List.mem_map.mp h2
    obtain ⟨h5, h6⟩ := List.mem_filter.mp h3
    cases h4
    exact ⟨h1, h5, h6⟩
  · rintro ⟨h1, h2, h3⟩
    exact ⟨p, h1, List.mem_map.mpr ⟨q, List.mem_filter.mpr ⟨h2, h3⟩, rfl⟩⟩
end L2.Lv.Sh
namespace L2.Lv.Sh
open PySem PySem.Spec PyProof.Rows L2 L2.Lv
def drawH (c1 c2 c3 c4 c5 c6 c7 : Int) : Fs :=
    (sSeq (sTown 1)
    (sSeq (sEnd [1] (sSet 3 (eTLen 1)))
    (sSeq (sSet 4 (eC (.int 0)))
    (sSeq (sEnd [0] (sIf (bTru (dVar 0))
    (sEnd [0] (sSet 4 (eBin dIx (dVar 0) (dOf (eBin dMod (dVar 3) (dOf (eApp gLen (sCons (dVar 0) sNil))))))))
    sNil'))
    (sSeq (sEnd [3, 4] (sSet 5 (eBin dMod (dOf (eBin dAdd (dVar 4) (dOf (eBin dMul (dOf (eC (.int c1))) (dVar 3))))) (dOf (eC (.int c2))))))
    (sSeq (sSet 5 (eBin dMod (dOf (eBin dMul (dOf (eBin dMod (dOf (eBin dMul (dVar 5) (dVar 5))) (dOf (eC (.int c3))))) (dOf (eC (.int c4))))) (dOf (eC (.int c2)))))
    (sSeq (sSet 6 (eBin dMod (dOf (eBin dMul (dOf (eBin dMod (dOf (eBin dMul (dVar 5) (dVar 5))) (dOf (eC (.int c3))))) (dOf (eC (.int c5))))) (dOf (eC (.int c2)))))
    (sRet (eBin dMod (dOf (eBin dAdd (dOf (eBin dMul (dOf (eBin dDiv (dVar 5) (dOf (eC (.int c6))))) (dOf (eC (.int c7))))) (dOf (eBin dDiv (dVar 6) (dOf (eC (.int c6))))))) (dVar 2))))))))))
theorem drawH_ok (c1 c2 c3 c4 c5 c6 c7 : Int) (h1 : ∀ k : Int, mulC c1 k = true) (h2 : ∀ k : Int, mulC (k % c2) (k % c2) = true) (h3 : ∀ k : Int, mulC (k % c3) c4 = true) (h3' : ∀ k : Int, mulC (k % c3) c5 = true) (h4 : ∀ k : Int, modC k c2 = true) (h5 : ∀ k : Int, modC k c3 = true) (h6 : ∀ k : Int, divC k c6 = true) (h9 : ∀ k : Int, mulC (k % c2 / c6) c7 = true)
    (ns : List Int) (n : Nat) (hn : n < big) (many : Int) (hm : 0 < many) : ∃ r : Int, 0 ≤ r ∧ r < many ∧ runB 7 (drawH c1 c2 c3 c4 c5 c6 c7) [Sc ns, .town, I' many] n = some (I' r, n + 1) := by
  have h7 : ∀ k : Int, modC k many = true := fun k => modC_ok hm
  unfold drawH
  cases ns with
  | nil =>
    simp -implicitDefEqProofs only [eVar_ap, dVar_ap, eC_ap, dOf_ap, eFrz_ap, eBin_ap, bTest_ap, bTru_ap, bAnd_ap, bOr_ap, bNot_ap, eIf_ap, eB_ap, eAnd_ap, eOr_ap, aNil_ap, aCons_ap, sNil_ap, sCons_ap, eTup_ap, eLst_ap, eCall_ap, eApp_ap, oNone_ap, oSome_ap, eSl_ap, sNil'_ap, sSeq_ap, sBrk_ap, sRet_ap, sRetN_ap, sRetO_ap, sDrop_ap, sIf_ap, sSet_ap, sApp_ap, sTown_ap, sExt_ap, sIns_ap, sSetIx_ap, sAsg_ap, sPar_ap, iOf_ap, iVal_ap, iRng1_ap, iRng2_ap, sFor_ap, eComp_ap, bYes_ap, frzAt_ap, eUn_ap, eNotD_ap, eOrD_ap, eChain_ap, eListRg1_ap, eIsa_ap, eMt_ap, iEnumV_ap, iEnumF_ap, iZipV_ap, iZipF_ap, eTLen_ap, iRng3D_ap, sEnd_ap, eSs_ap, sPar3_ap, xPop_ap, xTup1_ap, xCat_ap, sSetX_ap, sAppX_ap, sParO_ap, sForEI_ap, sForK_ap, eRep_ap, eDicK_ap, eDicT_ap, sPut_ap, eAlt_ap, sTry_ap, eGetD_ap, eLockI_ap, iKeyF_ap, sSetDef_ap, eTupVals_ap, sNst_ap, frzNAt_ap, sAppN_ap, sStN_ap, eListRg2_ap, eLam_ap, eCallP_ap, runB_ap, gOne_ap, gMany_ap, dI_ap, yesC_ap, dCmp_int, setD, kill_nx, kill_rt, kill_bk, Option.bind_some, Option.map_some, Option.bind_none, Option.map_none, List.getElem?_cons_zero, List.getElem?_cons_succ, List.set_cons_zero, List.set_cons_succ, List.cons_append, List.nil_append, List.append_nil, List.replicate, List.length_cons, List.length_nil, Nat.reduceAdd, Nat.reduceSub, Nat.zero_add, wdat_no, wdat_d, wdat_town, wdat_ol, wdat_od, wfrz_no, wfrz_d, wfrz_town, wfrz_ol, wfrz_od, wval_no, wval_d, wval_town, wval_ol, wval_od, warg_no, warg_d, warg_town, warg_ol, warg_od, vals, gLen, gAbs, gMax2, gMin2, gInt, gTup, gList, wipeW, if_true, if_false, Bool.false_eq_true, Bool.not_true, Bool.not_false, reduceCtorEq, Sc, I', List.map_nil]
    rw [if_pos hn]
    simp -implicitDefEqProofs only [eVar_ap, dVar_ap, eC_ap, dOf_ap, eFrz_ap, eBin_ap, bTest_ap, bTru_ap, bAnd_ap, bOr_ap, bNot_ap, eIf_ap, eB_ap, eAnd_ap, eOr_ap, aNil_ap, aCons_ap, sNil_ap, sCons_ap, eTup_ap, eLst_ap, eCall_ap, eApp_ap, oNone_ap, oSome_ap, eSl_ap, sNil'_ap, sSeq_ap, sBrk_ap, sRet_ap, sRetN_ap, sRetO_ap, sDrop_ap, sIf_ap, sSet_ap, sApp_ap, sTown_ap, sExt_ap, sIns_ap, sSetIx_ap, sAsg_ap, sPar_ap, iOf_ap, iVal_ap, iRng1_ap, iRng2_ap, sFor_ap, eComp_ap, bYes_ap, frzAt_ap, eUn_ap, eNotD_ap, eOrD_ap, eChain_ap, eListRg1_ap, eIsa_ap, eMt_ap, iEnumV_ap, iEnumF_ap, iZipV_ap, iZipF_ap, eTLen_ap, iRng3D_ap, sEnd_ap, eSs_ap, sPar3_ap, xPop_ap, xTup1_ap, xCat_ap, sSetX_ap, sAppX_ap, sParO_ap, sForEI_ap, sForK_ap, eRep_ap, eDicK_ap, eDicT_ap, sPut_ap, eAlt_ap, sTry_ap, eGetD_ap, eLockI_ap, iKeyF_ap, sSetDef_ap, eTupVals_ap, sNst_ap, frzNAt_ap, sAppN_ap, sStN_ap, eListRg2_ap, eLam_ap, eCallP_ap, runB_ap, gOne_ap, gMany_ap, dI_ap, yesC_ap, dCmp_int, setD, kill_nx, kill_rt, kill_bk, Option.bind_some, Option.map_some, Option.bind_none, Option.map_none, List.getElem?_cons_zero, List.getElem?_cons_succ, List.set_cons_zero, List.set_cons_succ, List.cons_append, List.nil_append, List.append_nil, List.replicate, List.length_cons, List.length_nil, Nat.reduceAdd, Nat.reduceSub, Nat.zero_add, wdat_no, wdat_d, wdat_town, wdat_ol, wdat_od, wfrz_no, wfrz_d, wfrz_town, wfrz_ol, wfrz_od, wval_no, wval_d, wval_town, wval_ol, wval_od, warg_no, warg_d, warg_town, warg_ol, warg_od, vals, gLen, gAbs, gMax2, gMin2, gInt, gTup, gList, wipeW, if_true, if_false, Bool.false_eq_true, Bool.not_true, Bool.not_false, reduceCtorEq, dTru, List.isEmpty_nil]
    simp -implicitDefEqProofs only [eVar_ap, dVar_ap, eC_ap, dOf_ap, eFrz_ap, eBin_ap, bTest_ap, bTru_ap, bAnd_ap, bOr_ap, bNot_ap, eIf_ap, eB_ap, eAnd_ap, eOr_ap, aNil_ap, aCons_ap, sNil_ap, sCons_ap, eTup_ap, eLst_ap, eCall_ap, eApp_ap, oNone_ap, oSome_ap, eSl_ap, sNil'_ap, sSeq_ap, sBrk_ap, sRet_ap, sRetN_ap, sRetO_ap, sDrop_ap, sIf_ap, sSet_ap, sApp_ap, sTown_ap, sExt_ap, sIns_ap, sSetIx_ap, sAsg_ap, sPar_ap, iOf_ap, iVal_ap, iRng1_ap, iRng2_ap, sFor_ap, eComp_ap, bYes_ap, frzAt_ap, eUn_ap, eNotD_ap, eOrD_ap, eChain_ap, eListRg1_ap, eIsa_ap, eMt_ap, iEnumV_ap, iEnumF_ap, iZipV_ap, iZipF_ap, eTLen_ap, iRng3D_ap, sEnd_ap, eSs_ap, sPar3_ap, xPop_ap, xTup1_ap, xCat_ap, sSetX_ap, sAppX_ap, sParO_ap, sForEI_ap, sForK_ap, eRep_ap, eDicK_ap, eDicT_ap, sPut_ap, eAlt_ap, sTry_ap, eGetD_ap, eLockI_ap, iKeyF_ap, sSetDef_ap, eTupVals_ap, sNst_ap, frzNAt_ap, sAppN_ap, sStN_ap, eListRg2_ap, eLam_ap, eCallP_ap, runB_ap, gOne_ap, gMany_ap, dI_ap, yesC_ap, dCmp_int, setD, kill_nx, kill_rt, kill_bk, Option.bind_some, Option.map_some, Option.bind_none, Option.map_none, List.getElem?_cons_zero, List.getElem?_cons_succ, List.set_cons_zero, List.set_cons_succ, List.cons_append, List.nil_append, List.append_nil, List.replicate, List.length_cons, List.length_nil, Nat.reduceAdd, Nat.reduceSub, Nat.zero_add, wdat_no, wdat_d, wdat_town, wdat_ol, wdat_od, wfrz_no, wfrz_d, wfrz_town, wfrz_ol, wfrz_od, wval_no, wval_d, wval_town, wval_ol, wval_od, warg_no, warg_d, warg_town, warg_ol, warg_od, vals, gLen, gAbs, gMax2, gMin2, gInt, gTup, gList, wipeW, if_true, if_false, Bool.false_eq_true, Bool.not_true, Bool.not_false, reduceCtorEq, dAdd, dMul, dMod, dDiv, h1, h2, h3, h3', h4, h5, h6, h7, h9]
    exact ⟨_, Int.emod_nonneg _ (by omega), Int.emod_lt_of_pos _ hm, rfl⟩
  | cons a ns =>
    simp -implicitDefEqProofs only [eVar_ap, dVar_ap, eC_ap, dOf_ap, eFrz_ap, eBin_ap, bTest_ap, bTru_ap, bAnd_ap, bOr_ap, bNot_ap, eIf_ap, eB_ap, eAnd_ap, eOr_ap, aNil_ap, aCons_ap, sNil_ap, sCons_ap, eTup_ap, eLst_ap, eCall_ap, eApp_ap, oNone_ap, oSome_ap, eSl_ap, sNil'_ap, sSeq_ap, sBrk_ap, sRet_ap, sRetN_ap, sRetO_ap, sDrop_ap, sIf_ap, sSet_ap, sApp_ap, sTown_ap, sExt_ap, sIns_ap, sSetIx_ap, sAsg_ap, sPar_ap, iOf_ap, iVal_ap, iRng1_ap, iRng2_ap, sFor_ap, eComp_ap, bYes_ap, frzAt_ap, eUn_ap, eNotD_ap, eOrD_ap, eChain_ap, eListRg1_ap, eIsa_ap, eMt_ap, iEnumV_ap, iEnumF_ap, iZipV_ap, iZipF_ap, eTLen_ap, iRng3D_ap, sEnd_ap, eSs_ap, sPar3_ap, xPop_ap, xTup1_ap, xCat_ap, sSetX_ap, sAppX_ap, sParO_ap, sForEI_ap, sForK_ap, eRep_ap, eDicK_ap, eDicT_ap, sPut_ap, eAlt_ap, sTry_ap, eGetD_ap, eLockI_ap, iKeyF_ap, sSetDef_ap, eTupVals_ap, sNst_ap, frzNAt_ap, sAppN_ap, sStN_ap, eListRg2_ap, eLam_ap, eCallP_ap, runB_ap, gOne_ap, gMany_ap, dI_ap, yesC_ap, dCmp_int, setD, kill_nx, kill_rt, kill_bk, Option.bind_some, Option.map_some, Option.bind_none, Option.map_none, List.getElem?_cons_zero, List.getElem?_cons_succ, List.set_cons_zero, List.set_cons_succ, List.cons_append, List.nil_append, List.append_nil, List.replicate, List.length_cons, List.length_nil, Nat.reduceAdd, Nat.reduceSub, Nat.zero_add, wdat_no, wdat_d, wdat_town, wdat_ol, wdat_od, wfrz_no, wfrz_d, wfrz_town, wfrz_ol, wfrz_od, wval_no, wval_d, wval_town, wval_ol, wval_od, warg_no, warg_d, warg_town, warg_ol, warg_od, vals, gLen, gAbs, gMax2, gMin2, gInt, gTup, gList, wipeW, if_true, if_false, Bool.false_eq_true, Bool.not_true, Bool.not_false, reduceCtorEq, Sc, I', List.map_cons]
    rw [if_pos hn]
    simp -implicitDefEqProofs only [eVar_ap, dVar_ap, eC_ap, dOf_ap, eFrz_ap, eBin_ap, bTest_ap, bTru_ap, bAnd_ap, bOr_ap, bNot_ap, eIf_ap, eB_ap, eAnd_ap, eOr_ap, aNil_ap, aCons_ap, sNil_ap, sCons_ap, eTup_ap, eLst_ap, eCall_ap, eApp_ap, oNone_ap, oSome_ap, eSl_ap, sNil'_ap, sSeq_ap, sBrk_ap, sRet_ap, sRetN_ap, sRetO_ap, sDrop_ap, sIf_ap, sSet_ap, sApp_ap, sTown_ap, sExt_ap, sIns_ap, sSetIx_ap, sAsg_ap, sPar_ap, iOf_ap, iVal_ap, iRng1_ap, iRng2_ap, sFor_ap, eComp_ap, bYes_ap, frzAt_ap, eUn_ap, eNotD_ap, eOrD_ap, eChain_ap, eListRg1_ap, eIsa_ap, eMt_ap, iEnumV_ap, iEnumF_ap, iZipV_ap, iZipF_ap, eTLen_ap, iRng3D_ap, sEnd_ap, eSs_ap, sPar3_ap, xPop_ap, xTup1_ap, xCat_ap, sSetX_ap, sAppX_ap, sParO_ap, sForEI_ap, sForK_ap, eRep_ap, eDicK_ap, eDicT_ap, sPut_ap, eAlt_ap, sTry_ap, eGetD_ap, eLockI_ap, iKeyF_ap, sSetDef_ap, eTupVals_ap, sNst_ap, frzNAt_ap, sAppN_ap, sStN_ap, eListRg2_ap, eLam_ap, eCallP_ap, runB_ap, gOne_ap, gMany_ap, dI_ap, yesC_ap, dCmp_int, setD, kill_nx, kill_rt, kill_bk, Option.bind_some, Option.map_some, Option.bind_none, Option.map_none, List.getElem?_cons_zero, List.getElem?_cons_succ, List.set_cons_zero, List.set_cons_succ, List.cons_append, List.nil_append, List.append_nil, List.replicate, List.length_cons, List.length_nil, Nat.reduceAdd, Nat.reduceSub, Nat.zero_add, wdat_no, wdat_d, wdat_town, wdat_ol, wdat_od, wfrz_no, wfrz_d, wfrz_town, wfrz_ol, wfrz_od, wval_no, wval_d, wval_town, wval_ol, wval_od, warg_no, warg_d, warg_town, warg_ol, warg_od, vals, gLen, gAbs, gMax2, gMin2, gInt, gTup, gList, wipeW, if_true, if_false, Bool.false_eq_true, Bool.not_true, Bool.not_false, reduceCtorEq, dTru, List.isEmpty_cons]
    have h8 : modC ((n + 1 : Nat) : Int) ((List.map PyData.int ns).length + 1 : Nat) = true := modC_ok (by omega)
    have h9' : ∃ c : Int, dIx (.list (PyData.int a :: List.map PyData.int ns)) (.int (((n + 1 : Nat) : Int) % ((List.map PyData.int ns).length + 1 : Nat))) = some (.d (.int c)) := by
      have e : PyData.int a :: List.map PyData.int ns = (a :: ns).map .int := rfl
      rw [e]
      have l0 := Int.emod_nonneg ((n + 1 : Nat) : Int) (show (((List.map PyData.int ns).length + 1 : Nat) : Int) ≠ 0 by omega)
      have l1 := Int.emod_lt_of_pos ((n + 1 : Nat) : Int) (show 0 < (((List.map PyData.int ns).length + 1 : Nat) : Int) by omega)
      have l2 : (((n + 1 : Nat) : Int) % ((List.map PyData.int ns).length + 1 : Nat)).toNat < ((a :: ns).map PyData.int).length := by
        simp only [List.length_map, List.length_cons] at l0 l1 ⊢
        omega
      refine ⟨(a :: ns)[(((n + 1 : Nat) : Int) % ((List.map PyData.int ns).length + 1 : Nat)).toNat]'(by simpa using l2), ?_⟩
      show (atI _ _).map W.d = _
      rw [atI_ok l0 l2, Option.map_some, List.getElem_map]
    obtain ⟨c, h10⟩ := h9'
    simp -implicitDefEqProofs only [eVar_ap, dVar_ap, eC_ap, dOf_ap, eFrz_ap, eBin_ap, bTest_ap, bTru_ap, bAnd_ap, bOr_ap, bNot_ap, eIf_ap, eB_ap, eAnd_ap, eOr_ap, aNil_ap, aCons_ap, sNil_ap, sCons_ap, eTup_ap, eLst_ap, eCall_ap, eApp_ap, oNone_ap, oSome_ap, eSl_ap, sNil'_ap, sSeq_ap, sBrk_ap, sRet_ap, sRetN_ap, sRetO_ap, sDrop_ap, sIf_ap, sSet_ap, sApp_ap, sTown_ap, sExt_ap, sIns_ap, sSetIx_ap, sAsg_ap, sPar_ap, iOf_ap, iVal_ap, iRng1_ap, iRng2_ap, sFor_ap, eComp_ap, bYes_ap, frzAt_ap, eUn_ap, eNotD_ap, eOrD_ap, eChain_ap, eListRg1_ap, eIsa_ap, eMt_ap, iEnumV_ap, iEnumF_ap, iZipV_ap, iZipF_ap, eTLen_ap, iRng3D_ap, sEnd_ap, eSs_ap, sPar3_ap, xPop_ap, xTup1_ap, xCat_ap, sSetX_ap, sAppX_ap, sParO_ap, sForEI_ap, sForK_ap, eRep_ap, eDicK_ap, eDicT_ap, sPut_ap, eAlt_ap, sTry_ap, eGetD_ap, eLockI_ap, iKeyF_ap, sSetDef_ap, eTupVals_ap, sNst_ap, frzNAt_ap, sAppN_ap, sStN_ap, eListRg2_ap, eLam_ap, eCallP_ap, runB_ap, gOne_ap, gMany_ap, dI_ap, yesC_ap, dCmp_int, setD, kill_nx, kill_rt, kill_bk, Option.bind_some, Option.map_some, Option.bind_none, Option.map_none, List.getElem?_cons_zero, List.getElem?_cons_succ, List.set_cons_zero, List.set_cons_succ, List.cons_append, List.nil_append, List.append_nil, List.replicate, List.length_cons, List.length_nil, Nat.reduceAdd, Nat.reduceSub, Nat.zero_add, wdat_no, wdat_d, wdat_town, wdat_ol, wdat_od, wfrz_no, wfrz_d, wfrz_town, wfrz_ol, wfrz_od, wval_no, wval_d, wval_town, wval_ol, wval_od, warg_no, warg_d, warg_town, warg_ol, warg_od, vals, gLen, gAbs, gMax2, gMin2, gInt, gTup, gList, wipeW, if_true, if_false, Bool.false_eq_true, Bool.not_true, Bool.not_false, reduceCtorEq, dAdd, dMul, dMod, dDiv, h1, h2, h3, h3', h4, h5, h6, h7, h8, h9, h10]
    exact ⟨_, Int.emod_nonneg _ (by omega), Int.emod_lt_of_pos _ hm, rfl⟩
theorem draw2_ok (ns : List Int) (n : Nat) (hn : n < big) (many : Int) (hm : 0 < many) : ∃ r : Int, 0 ≤ r ∧ r < many ∧ m__law_draw_v2 [Sc ns, .town, I' many] n = some (I' r, n + 1) :=
  drawH_ok 104729 4294967291 4294967279 48271 69621 64 67108864 (fun k => mulC_l (by decide) (by decide)) (fun k => mulC_l (by omega) (by omega)) (fun k => mulC_l (by omega) (by omega)) (fun k => mulC_l (by omega) (by omega)) (fun k => modC_ok (by decide)) (fun k => modC_ok (by decide)) (fun k => divC_ok (by decide) (by decide)) (fun k => mulC_l (by omega) (by omega)) ns n hn many hm
theorem pick2_ok (ns : List Int) (n : Nat) (hn : n < big) (xs : List PyData) (hx : xs ≠ []) : ∃ x ∈ xs, m__law_pick_v2 [Sc ns, .town, .d (.list xs)] n = some (.d x, n + 1) := by
  have hl : 0 < xs.length := List.length_pos_iff.mpr hx
  obtain ⟨r, h0, h1, h2⟩ := draw2_ok ns n hn xs.length (by omega)
  have hr : r.toNat < xs.length := by omega
  refine ⟨xs[r.toNat], List.getElem_mem _, ?_⟩
  unfold m__law_pick_v2 b__law_pick_v2
  simp -implicitDefEqProofs only [eVar_ap, dVar_ap, eC_ap, dOf_ap, eFrz_ap, eBin_ap, bTest_ap, bTru_ap, bAnd_ap, bOr_ap, bNot_ap, eIf_ap, eB_ap, eAnd_ap, eOr_ap, aNil_ap, aCons_ap, sNil_ap, sCons_ap, eTup_ap, eLst_ap, eCall_ap, eApp_ap, oNone_ap, oSome_ap, eSl_ap, sNil'_ap, sSeq_ap, sBrk_ap, sRet_ap, sRetN_ap, sRetO_ap, sDrop_ap, sIf_ap, sSet_ap, sApp_ap, sTown_ap, sExt_ap, sIns_ap, sSetIx_ap, sAsg_ap, sPar_ap, iOf_ap, iVal_ap, iRng1_ap, iRng2_ap, sFor_ap, eComp_ap, bYes_ap, frzAt_ap, eUn_ap, eNotD_ap, eOrD_ap, eChain_ap, eListRg1_ap, eIsa_ap, eMt_ap, iEnumV_ap, iEnumF_ap, iZipV_ap, iZipF_ap, eTLen_ap, iRng3D_ap, sEnd_ap, eSs_ap, sPar3_ap, xPop_ap, xTup1_ap, xCat_ap, sSetX_ap, sAppX_ap, sParO_ap, sForEI_ap, sForK_ap, eRep_ap, eDicK_ap, eDicT_ap, sPut_ap, eAlt_ap, sTry_ap, eGetD_ap, eLockI_ap, iKeyF_ap, sSetDef_ap, eTupVals_ap, sNst_ap, frzNAt_ap, sAppN_ap, sStN_ap, eListRg2_ap, eLam_ap, eCallP_ap, runB_ap, gOne_ap, gMany_ap, dI_ap, yesC_ap, dCmp_int, setD, kill_nx, kill_rt, kill_bk, Option.bind_some, Option.map_some, Option.bind_none, Option.map_none, List.getElem?_cons_zero, List.getElem?_cons_succ, List.set_cons_zero, List.set_cons_succ, List.cons_append, List.nil_append, List.append_nil, List.replicate, List.length_cons, List.length_nil, Nat.reduceAdd, Nat.reduceSub, Nat.zero_add, wdat_no, wdat_d, wdat_town, wdat_ol, wdat_od, wfrz_no, wfrz_d, wfrz_town, wfrz_ol, wfrz_od, wval_no, wval_d, wval_town, wval_ol, wval_od, warg_no, warg_d, warg_town, warg_ol, warg_od, vals, gLen, gAbs, gMax2, gMin2, gInt, gTup, gList, wipeW, if_true, if_false, Bool.false_eq_true, Bool.not_true, Bool.not_false, reduceCtorEq, h2, dIx, atI_ok h0 hr]
theorem ixN_ok {k : Nat} {z : Int} (h0 : 0 ≤ z) (h1 : z < k) : ixN k z = some z.toNat := by
  unfold ixN
  simp [h0]
  omega
theorem erase_perm {α : Type} (l : List α) (j : Nat) (h : j < l.length) : (l[j] :: l.eraseIdx j).Perm l := by
  rw [List.eraseIdx_eq_take_drop_succ]
  have e : l = l.take j ++ l[j] :: l.drop (j + 1) := by
    rw [List.getElem_cons_drop, List.take_append_drop]
  have := (List.perm_middle (a := l[j]) (l₁ := l.take j) (l₂ := l.drop (j + 1))).symm
  rwa [← e] at this
theorem plain2_loop (M : Nat) (ns : List Int) (w3 : W) (a : Int) : ∀ (xs : List PyData) (b : List Int × List Int) (n : Nat), (xs.length ≤ b.1.length ∧ (b.1 ++ b.2).Perm six ∧ b.2.length + xs.length = M) → n + 1 * xs.length ≤ big → ∃ (b' : List Int × List Int) (n' : Nat),
    loopF (gOne 8) l__law_plain_v2_1 xs [Sc ns, .town, I' a, w3, .no, .no, .ol (b.1.map .int), .d (ti b.2), .no] n = some (.nx [Sc ns, .town, I' a, w3, .no, .no, .ol (b'.1.map .int), .d (ti b'.2), .no] n') ∧ (0 ≤ b'.1.length ∧ (b'.1 ++ b'.2).Perm six ∧ b'.2.length + 0 = M) ∧ n ≤ n' ∧ n' ≤ n + 1 * xs.length :=
  loopF_draw (g := gOne 8) (body := l__law_plain_v2_1) (fun b : List Int × List Int => [Sc ns, .town, I' a, w3, .no, .no, .ol (b.1.map .int), .d (ti b.2), .no]) (fun m b => m ≤ b.1.length ∧ (b.1 ++ b.2).Perm six ∧ b.2.length + m = M) 1 fun m b x n ⟨h1, h2, h3⟩ hn => by
    obtain ⟨L, t⟩ := b
    simp only at h1 h2 h3
    have hlen := h2.length_eq
    rw [List.length_append] at hlen
    have hs : six.length = 6 := rfl
    obtain ⟨r, r0, r1, e1⟩ := draw2_ok ns n (by omega) (L.length : Int) (by omega)
    have hr : r.toNat < L.length := by omega
    have i1 : ixN L.length r = some r.toNat := ixN_ok r0 r1
    have i2 : (L.map PyData.int)[r.toNat]? = some (.int L[r.toNat]) := by rw [List.getElem?_map, List.getElem?_eq_getElem hr]; rfl
    have hb : L.length ≤ big := le_big (by omega)
    have ea : dAdd (ti t) (.tuple [.int L[r.toNat]]) = some (.d (ti (t ++ [L[r.toNat]]))) := by
      rw [dAdd_tup _ _ (le_big (by simp; omega))]
      simp [ti]
    have he : (L.map PyData.int).eraseIdx r.toNat = (L.eraseIdx r.toNat).map .int := by
      rw [List.eraseIdx_eq_take_drop_succ, List.eraseIdx_eq_take_drop_succ, List.map_append, List.map_take, List.map_drop]
    refine ⟨_, (L.eraseIdx r.toNat, t ++ [L[r.toNat]]), n + 1, rfl, ?_, ⟨?_, ?_, ?_⟩, by omega, by omega⟩
    · unfold l__law_plain_v2_1
      simp -implicitDefEqProofs only [eVar_ap, dVar_ap, eC_ap, dOf_ap, eFrz_ap, eBin_ap, bTest_ap, bTru_ap, bAnd_ap, bOr_ap, bNot_ap, eIf_ap, eB_ap, eAnd_ap, eOr_ap, aNil_ap, aCons_ap, sNil_ap, sCons_ap, eTup_ap, eLst_ap, eCall_ap, eApp_ap, oNone_ap, oSome_ap, eSl_ap, sNil'_ap, sSeq_ap, sBrk_ap, sRet_ap, sRetN_ap, sRetO_ap, sDrop_ap, sIf_ap, sSet_ap, sApp_ap, sTown_ap, sExt_ap, sIns_ap, sSetIx_ap, sAsg_ap, sPar_ap, iOf_ap, iVal_ap, iRng1_ap, iRng2_ap, sFor_ap, eComp_ap, bYes_ap, frzAt_ap, eUn_ap, eNotD_ap, eOrD_ap, eChain_ap, eListRg1_ap, eIsa_ap, eMt_ap, iEnumV_ap, iEnumF_ap, iZipV_ap, iZipF_ap, eTLen_ap, iRng3D_ap, sEnd_ap, eSs_ap, sPar3_ap, xPop_ap, xTup1_ap, xCat_ap, sSetX_ap, sAppX_ap, sParO_ap, sForEI_ap, sForK_ap, eRep_ap, eDicK_ap, eDicT_ap, sPut_ap, eAlt_ap, sTry_ap, eGetD_ap, eLockI_ap, iKeyF_ap, sSetDef_ap, eTupVals_ap, sNst_ap, frzNAt_ap, sAppN_ap, sStN_ap, eListRg2_ap, eLam_ap, eCallP_ap, runB_ap, gOne_ap, gMany_ap, dI_ap, yesC_ap, dCmp_int, setD, kill_nx, kill_rt, kill_bk, Option.bind_some, Option.map_some, Option.bind_none, Option.map_none, List.getElem?_cons_zero, List.getElem?_cons_succ, List.set_cons_zero, List.set_cons_succ, List.cons_append, List.nil_append, List.append_nil, List.replicate, List.length_cons, List.length_nil, Nat.reduceAdd, Nat.reduceSub, Nat.zero_add, wdat_no, wdat_d, wdat_town, wdat_ol, wdat_od, wfrz_no, wfrz_d, wfrz_town, wfrz_ol, wfrz_od, wval_no, wval_d, wval_town, wval_ol, wval_od, warg_no, warg_d, warg_town, warg_ol, warg_od, vals, gLen, gAbs, gMax2, gMin2, gInt, gTup, gList, wipeW, if_true, if_false, Bool.false_eq_true, Bool.not_true, Bool.not_false, reduceCtorEq, List.length_map, e1, hb, i1, i2, he, ea]
    · rw [List.length_eraseIdx]; split <;> omega
    · refine List.Perm.trans ?_ h2
      have p := erase_perm L r.toNat hr
      have : (L.eraseIdx r.toNat ++ (t ++ [L[r.toNat]])).Perm ((L[r.toNat] :: L.eraseIdx r.toNat) ++ t) := by
        rw [← List.append_assoc]
        refine (List.perm_append_comm).trans ?_
        rfl
      exact this.trans (p.append_right t)
    · simp; omega
theorem six_ok {L t : List Int} (h : (L ++ t).Perm six) (hne : t ≠ []) : tOk t := by
  have h6 : six.length = 6 := rfl
  have hl := h.length_eq
  rw [List.length_append] at hl
  have hnd : (L ++ t).Nodup := h.nodup_iff.mpr (by decide)
  refine ⟨hne, by omega, (List.nodup_append.mp hnd).2.1, fun x hx => ?_⟩
  have : x ∈ six := h.mem_iff.mp (List.mem_append_right _ hx)
  simp only [six, List.mem_cons, List.not_mem_nil, or_false] at this
  omega
def _root_.L2.Lv.Sh.PK.few : PK → Prop
  | .table _ t => t.length ≤ 4
  | .among _ t => t.length ≤ 4
  | _ => True
theorem plain2_few (ns : List Int) (n : Nat) (hn : n + 8 ≤ big) : Ran (m__law_plain_v2 [Sc ns, .town] n) n 8 fun w => ∃ p : PK, p.ok ∧ p.few ∧ w = .d p.d := by
  obtain ⟨a, a0, a1, e2⟩ := draw2_ok ns n (by omega) 3 (by decide)
  obtain ⟨k, k0, k1, e1⟩ := draw2_ok ns (n + 1) (by omega) 6 (by decide)
  unfold m__law_plain_v2 b__law_plain_v2
  by_cases c1 : k < 2
  · refine ⟨_, n + 2, ?_, by omega, by omega, .up a, ⟨a0, a1⟩, trivial, rfl⟩
    simp -implicitDefEqProofs only [eVar_ap, dVar_ap, eC_ap, dOf_ap, eFrz_ap, eBin_ap, bTest_ap, bTru_ap, bAnd_ap, bOr_ap, bNot_ap, eIf_ap, eB_ap, eAnd_ap, eOr_ap, aNil_ap, aCons_ap, sNil_ap, sCons_ap, eTup_ap, eLst_ap, eCall_ap, eApp_ap, oNone_ap, oSome_ap, eSl_ap, sNil'_ap, sSeq_ap, sBrk_ap, sRet_ap, sRetN_ap, sRetO_ap, sDrop_ap, sIf_ap, sSet_ap, sApp_ap, sTown_ap, sExt_ap, sIns_ap, sSetIx_ap, sAsg_ap, sPar_ap, iOf_ap, iVal_ap, iRng1_ap, iRng2_ap, sFor_ap, eComp_ap, bYes_ap, frzAt_ap, eUn_ap, eNotD_ap, eOrD_ap, eChain_ap, eListRg1_ap, eIsa_ap, eMt_ap, iEnumV_ap, iEnumF_ap, iZipV_ap, iZipF_ap, eTLen_ap, iRng3D_ap, sEnd_ap, eSs_ap, sPar3_ap, xPop_ap, xTup1_ap, xCat_ap, sSetX_ap, sAppX_ap, sParO_ap, sForEI_ap, sForK_ap, eRep_ap, eDicK_ap, eDicT_ap, sPut_ap, eAlt_ap, sTry_ap, eGetD_ap, eLockI_ap, iKeyF_ap, sSetDef_ap, eTupVals_ap, sNst_ap, frzNAt_ap, sAppN_ap, sStN_ap, eListRg2_ap, eLam_ap, eCallP_ap, runB_ap, gOne_ap, gMany_ap, dI_ap, yesC_ap, dCmp_int, setD, kill_nx, kill_rt, kill_bk, Option.bind_some, Option.map_some, Option.bind_none, Option.map_none, List.getElem?_cons_zero, List.getElem?_cons_succ, List.set_cons_zero, List.set_cons_succ, List.cons_append, List.nil_append, List.append_nil, List.replicate, List.length_cons, List.length_nil, Nat.reduceAdd, Nat.reduceSub, Nat.zero_add, wdat_no, wdat_d, wdat_town, wdat_ol, wdat_od, wfrz_no, wfrz_d, wfrz_town, wfrz_ol, wfrz_od, wval_no, wval_d, wval_town, wval_ol, wval_od, warg_no, warg_d, warg_town, warg_ol, warg_od, vals, gLen, gAbs, gMax2, gMin2, gInt, gTup, gList, wipeW, if_true, if_false, Bool.false_eq_true, Bool.not_true, Bool.not_false, reduceCtorEq, e1, e2, dCmp_int, rLt_t c1]
    rfl
  by_cases c2 : k = 2
  · subst c2
    obtain ⟨x, hx, e4⟩ := pick2_ok ns (n + 2) (by omega) [.str sPart, .str sRest] (by simp)
    obtain ⟨d, d0, d1, e3⟩ := draw2_ok ns (n + 3) (by omega) 2 (by decide)
    have hd : 2 + d = 2 ∨ 2 + d = 3 := by omega
    simp at hx
    rcases hx with rfl | rfl
    · refine ⟨_, n + 4, ?_, by omega, by omega, .part a (2 + d), ⟨⟨a0, a1⟩, hd⟩, trivial, rfl⟩
      simp -implicitDefEqProofs only [eVar_ap, dVar_ap, eC_ap, dOf_ap, eFrz_ap, eBin_ap, bTest_ap, bTru_ap, bAnd_ap, bOr_ap, bNot_ap, eIf_ap, eB_ap, eAnd_ap, eOr_ap, aNil_ap, aCons_ap, sNil_ap, sCons_ap, eTup_ap, eLst_ap, eCall_ap, eApp_ap, oNone_ap, oSome_ap, eSl_ap, sNil'_ap, sSeq_ap, sBrk_ap, sRet_ap, sRetN_ap, sRetO_ap, sDrop_ap, sIf_ap, sSet_ap, sApp_ap, sTown_ap, sExt_ap, sIns_ap, sSetIx_ap, sAsg_ap, sPar_ap, iOf_ap, iVal_ap, iRng1_ap, iRng2_ap, sFor_ap, eComp_ap, bYes_ap, frzAt_ap, eUn_ap, eNotD_ap, eOrD_ap, eChain_ap, eListRg1_ap, eIsa_ap, eMt_ap, iEnumV_ap, iEnumF_ap, iZipV_ap, iZipF_ap, eTLen_ap, iRng3D_ap, sEnd_ap, eSs_ap, sPar3_ap, xPop_ap, xTup1_ap, xCat_ap, sSetX_ap, sAppX_ap, sParO_ap, sForEI_ap, sForK_ap, eRep_ap, eDicK_ap, eDicT_ap, sPut_ap, eAlt_ap, sTry_ap, eGetD_ap, eLockI_ap, iKeyF_ap, sSetDef_ap, eTupVals_ap, sNst_ap, frzNAt_ap, sAppN_ap, sStN_ap, eListRg2_ap, eLam_ap, eCallP_ap, runB_ap, gOne_ap, gMany_ap, dI_ap, yesC_ap, dCmp_int, setD, kill_nx, kill_rt, kill_bk, Option.bind_some, Option.map_some, Option.bind_none, Option.map_none, List.getElem?_cons_zero, List.getElem?_cons_succ, List.set_cons_zero, List.set_cons_succ, List.cons_append, List.nil_append, List.append_nil, List.replicate, List.length_cons, List.length_nil, Nat.reduceAdd, Nat.reduceSub, Nat.zero_add, wdat_no, wdat_d, wdat_town, wdat_ol, wdat_od, wfrz_no, wfrz_d, wfrz_town, wfrz_ol, wfrz_od, wval_no, wval_d, wval_town, wval_ol, wval_od, warg_no, warg_d, warg_town, warg_ol, warg_od, vals, gLen, gAbs, gMax2, gMin2, gInt, gTup, gList, wipeW, if_true, if_false, Bool.false_eq_true, Bool.not_true, Bool.not_false, reduceCtorEq, e1, e2, dCmp_int, rLt_f c1, dEq_int, beq_self_eq_true, e4, e3, dAdd_int]
      rfl
    · refine ⟨_, n + 4, ?_, by omega, by omega, .rest a (2 + d), ⟨⟨a0, a1⟩, hd⟩, trivial, rfl⟩
      simp -implicitDefEqProofs only [eVar_ap, dVar_ap, eC_ap, dOf_ap, eFrz_ap, eBin_ap, bTest_ap, bTru_ap, bAnd_ap, bOr_ap, bNot_ap, eIf_ap, eB_ap, eAnd_ap, eOr_ap, aNil_ap, aCons_ap, sNil_ap, sCons_ap, eTup_ap, eLst_ap, eCall_ap, eApp_ap, oNone_ap, oSome_ap, eSl_ap, sNil'_ap, sSeq_ap, sBrk_ap, sRet_ap, sRetN_ap, sRetO_ap, sDrop_ap, sIf_ap, sSet_ap, sApp_ap, sTown_ap, sExt_ap, sIns_ap, sSetIx_ap, sAsg_ap, sPar_ap, iOf_ap, iVal_ap, iRng1_ap, iRng2_ap, sFor_ap, eComp_ap, bYes_ap, frzAt_ap, eUn_ap, eNotD_ap, eOrD_ap, eChain_ap, eListRg1_ap, eIsa_ap, eMt_ap, iEnumV_ap, iEnumF_ap, iZipV_ap, iZipF_ap, eTLen_ap, iRng3D_ap, sEnd_ap, eSs_ap, sPar3_ap, xPop_ap, xTup1_ap, xCat_ap, sSetX_ap, sAppX_ap, sParO_ap, sForEI_ap, sForK_ap, eRep_ap, eDicK_ap, eDicT_ap, sPut_ap, eAlt_ap, sTry_ap, eGetD_ap, eLockI_ap, iKeyF_ap, sSetDef_ap, eTupVals_ap, sNst_ap, frzNAt_ap, sAppN_ap, sStN_ap, eListRg2_ap, eLam_ap, eCallP_ap, runB_ap, gOne_ap, gMany_ap, dI_ap, yesC_ap, dCmp_int, setD, kill_nx, kill_rt, kill_bk, Option.bind_some, Option.map_some, Option.bind_none, Option.map_none, List.getElem?_cons_zero, List.getElem?_cons_succ, List.set_cons_zero, List.set_cons_succ, List.cons_append, List.nil_append, List.append_nil, List.replicate, List.length_cons, List.length_nil, Nat.reduceAdd, Nat.reduceSub, Nat.zero_add, wdat_no, wdat_d, wdat_town, wdat_ol, wdat_od, wfrz_no, wfrz_d, wfrz_town, wfrz_ol, wfrz_od, wval_no, wval_d, wval_town, wval_ol, wval_od, warg_no, warg_d, warg_town, warg_ol, warg_od, vals, gLen, gAbs, gMax2, gMin2, gInt, gTup, gList, wipeW, if_true, if_false, Bool.false_eq_true, Bool.not_true, Bool.not_false, reduceCtorEq, e1, e2, dCmp_int, rLt_f c1, dEq_int, beq_self_eq_true, e4, e3, dAdd_int]
      rfl
  have b2 : (k == 2) = false := by simpa using c2
  by_cases c5 : k = 5
  · subst c5
    obtain ⟨x, hx, e3⟩ := pick2_ok ns (n + 2) (by omega) [.tuple [.int 0, .int 1], .tuple [.int 0, .int 2], .tuple [.int 1, .int 2]] (by simp)
    obtain ⟨y, hy, e4⟩ := pick2_ok ns (n + 3) (by omega) [.str sSum, .str sGap, .str sMost] (by simp)
    have hx' : ∃ i j : Int, prOk i j ∧ x = .tuple [.int i, .int j] := by
      simp at hx
      rcases hx with rfl | rfl | rfl
      · exact ⟨_, _, .inl ⟨rfl, rfl⟩, rfl⟩
      · exact ⟨_, _, .inr (.inl ⟨rfl, rfl⟩), rfl⟩
      · exact ⟨_, _, .inr (.inr ⟨rfl, rfl⟩), rfl⟩
    obtain ⟨i, j, pr, rfl⟩ := hx'
    simp at hy
    rcases hy with rfl | rfl | rfl
    · refine ⟨_, n + 4, ?_, by omega, by omega, .sum i j, pr, trivial, rfl⟩
      simp -implicitDefEqProofs only [eVar_ap, dVar_ap, eC_ap, dOf_ap, eFrz_ap, eBin_ap, bTest_ap, bTru_ap, bAnd_ap, bOr_ap, bNot_ap, eIf_ap, eB_ap, eAnd_ap, eOr_ap, aNil_ap, aCons_ap, sNil_ap, sCons_ap, eTup_ap, eLst_ap, eCall_ap, eApp_ap, oNone_ap, oSome_ap, eSl_ap, sNil'_ap, sSeq_ap, sBrk_ap, sRet_ap, sRetN_ap, sRetO_ap, sDrop_ap, sIf_ap, sSet_ap, sApp_ap, sTown_ap, sExt_ap, sIns_ap, sSetIx_ap, sAsg_ap, sPar_ap, iOf_ap, iVal_ap, iRng1_ap, iRng2_ap, sFor_ap, eComp_ap, bYes_ap, frzAt_ap, eUn_ap, eNotD_ap, eOrD_ap, eChain_ap, eListRg1_ap, eIsa_ap, eMt_ap, iEnumV_ap, iEnumF_ap, iZipV_ap, iZipF_ap, eTLen_ap, iRng3D_ap, sEnd_ap, eSs_ap, sPar3_ap, xPop_ap, xTup1_ap, xCat_ap, sSetX_ap, sAppX_ap, sParO_ap, sForEI_ap, sForK_ap, eRep_ap, eDicK_ap, eDicT_ap, sPut_ap, eAlt_ap, sTry_ap, eGetD_ap, eLockI_ap, iKeyF_ap, sSetDef_ap, eTupVals_ap, sNst_ap, frzNAt_ap, sAppN_ap, sStN_ap, eListRg2_ap, eLam_ap, eCallP_ap, runB_ap, gOne_ap, gMany_ap, dI_ap, yesC_ap, dCmp_int, setD, kill_nx, kill_rt, kill_bk, Option.bind_some, Option.map_some, Option.bind_none, Option.map_none, List.getElem?_cons_zero, List.getElem?_cons_succ, List.set_cons_zero, List.set_cons_succ, List.cons_append, List.nil_append, List.append_nil, List.replicate, List.length_cons, List.length_nil, Nat.reduceAdd, Nat.reduceSub, Nat.zero_add, wdat_no, wdat_d, wdat_town, wdat_ol, wdat_od, wfrz_no, wfrz_d, wfrz_town, wfrz_ol, wfrz_od, wval_no, wval_d, wval_town, wval_ol, wval_od, warg_no, warg_d, warg_town, warg_ol, warg_od, vals, gLen, gAbs, gMax2, gMin2, gInt, gTup, gList, wipeW, if_true, if_false, Bool.false_eq_true, Bool.not_true, Bool.not_false, reduceCtorEq, e1, e2, dCmp_int, rLt_f c1, dEq_int, b2, beq_self_eq_true, e3, e4]
      rfl
    · refine ⟨_, n + 4, ?_, by omega, by omega, .gap i j, pr, trivial, rfl⟩
      simp -implicitDefEqProofs only [eVar_ap, dVar_ap, eC_ap, dOf_ap, eFrz_ap, eBin_ap, bTest_ap, bTru_ap, bAnd_ap, bOr_ap, bNot_ap, eIf_ap, eB_ap, eAnd_ap, eOr_ap, aNil_ap, aCons_ap, sNil_ap, sCons_ap, eTup_ap, eLst_ap, eCall_ap, eApp_ap, oNone_ap, oSome_ap, eSl_ap, sNil'_ap, sSeq_ap, sBrk_ap, sRet_ap, sRetN_ap, sRetO_ap, sDrop_ap, sIf_ap, sSet_ap, sApp_ap, sTown_ap, sExt_ap, sIns_ap, sSetIx_ap, sAsg_ap, sPar_ap, iOf_ap, iVal_ap, iRng1_ap, iRng2_ap, sFor_ap, eComp_ap, bYes_ap, frzAt_ap, eUn_ap, eNotD_ap, eOrD_ap, eChain_ap, eListRg1_ap, eIsa_ap, eMt_ap, iEnumV_ap, iEnumF_ap, iZipV_ap, iZipF_ap, eTLen_ap, iRng3D_ap, sEnd_ap, eSs_ap, sPar3_ap, xPop_ap, xTup1_ap, xCat_ap, sSetX_ap, sAppX_ap, sParO_ap, sForEI_ap, sForK_ap, eRep_ap, eDicK_ap, eDicT_ap, sPut_ap, eAlt_ap, sTry_ap, eGetD_ap, eLockI_ap, iKeyF_ap, sSetDef_ap, eTupVals_ap, sNst_ap, frzNAt_ap, sAppN_ap, sStN_ap, eListRg2_ap, eLam_ap, eCallP_ap, runB_ap, gOne_ap, gMany_ap, dI_ap, yesC_ap, dCmp_int, setD, kill_nx, kill_rt, kill_bk, Option.bind_some, Option.map_some, Option.bind_none, Option.map_none, List.getElem?_cons_zero, List.getElem?_cons_succ, List.set_cons_zero, List.set_cons_succ, List.cons_append, List.nil_append, List.append_nil, List.replicate, List.length_cons, List.length_nil, Nat.reduceAdd, Nat.reduceSub, Nat.zero_add, wdat_no, wdat_d, wdat_town, wdat_ol, wdat_od, wfrz_no, wfrz_d, wfrz_town, wfrz_ol, wfrz_od, wval_no, wval_d, wval_town, wval_ol, wval_od, warg_no, warg_d, warg_town, warg_ol, warg_od, vals, gLen, gAbs, gMax2, gMin2, gInt, gTup, gList, wipeW, if_true, if_false, Bool.false_eq_true, Bool.not_true, Bool.not_false, reduceCtorEq, e1, e2, dCmp_int, rLt_f c1, dEq_int, b2, beq_self_eq_true, e3, e4]
      rfl
    · refine ⟨_, n + 4, ?_, by omega, by omega, .most i j, pr, trivial, rfl⟩
      simp -implicitDefEqProofs only [eVar_ap, dVar_ap, eC_ap, dOf_ap, eFrz_ap, eBin_ap, bTest_ap, bTru_ap, bAnd_ap, bOr_ap, bNot_ap, eIf_ap, eB_ap, eAnd_ap, eOr_ap, aNil_ap, aCons_ap, sNil_ap, sCons_ap, eTup_ap, eLst_ap, eCall_ap, eApp_ap, oNone_ap, oSome_ap, eSl_ap, sNil'_ap, sSeq_ap, sBrk_ap, sRet_ap, sRetN_ap, sRetO_ap, sDrop_ap, sIf_ap, sSet_ap, sApp_ap, sTown_ap, sExt_ap, sIns_ap, sSetIx_ap, sAsg_ap, sPar_ap, iOf_ap, iVal_ap, iRng1_ap, iRng2_ap, sFor_ap, eComp_ap, bYes_ap, frzAt_ap, eUn_ap, eNotD_ap, eOrD_ap, eChain_ap, eListRg1_ap, eIsa_ap, eMt_ap, iEnumV_ap, iEnumF_ap, iZipV_ap, iZipF_ap, eTLen_ap, iRng3D_ap, sEnd_ap, eSs_ap, sPar3_ap, xPop_ap, xTup1_ap, xCat_ap, sSetX_ap, sAppX_ap, sParO_ap, sForEI_ap, sForK_ap, eRep_ap, eDicK_ap, eDicT_ap, sPut_ap, eAlt_ap, sTry_ap, eGetD_ap, eLockI_ap, iKeyF_ap, sSetDef_ap, eTupVals_ap, sNst_ap, frzNAt_ap, sAppN_ap, sStN_ap, eListRg2_ap, eLam_ap, eCallP_ap, runB_ap, gOne_ap, gMany_ap, dI_ap, yesC_ap, dCmp_int, setD, kill_nx, kill_rt, kill_bk, Option.bind_some, Option.map_some, Option.bind_none, Option.map_none, List.getElem?_cons_zero, List.getElem?_cons_succ, List.set_cons_zero, List.set_cons_succ, List.cons_append, List.nil_append, List.append_nil, List.replicate, List.length_cons, List.length_nil, Nat.reduceAdd, Nat.reduceSub, Nat.zero_add, wdat_no, wdat_d, wdat_town, wdat_ol, wdat_od, wfrz_no, wfrz_d, wfrz_town, wfrz_ol, wfrz_od, wval_no, wval_d, wval_town, wval_ol, wval_od, warg_no, warg_d, warg_town, warg_ol, warg_od, vals, gLen, gAbs, gMax2, gMin2, gInt, gTup, gList, wipeW, if_true, if_false, Bool.false_eq_true, Bool.not_true, Bool.not_false, reduceCtorEq, e1, e2, dCmp_int, rLt_f c1, dEq_int, b2, beq_self_eq_true, e3, e4]
      rfl
  have b5 : (k == 5) = false := by simpa using c5
  obtain ⟨m, m0, m1, e3⟩ := draw2_ok ns (n + 2) (by omega) 4 (by decide)
  have hr := rng1_ok (j := 1 + m) (by omega) (by omega)
  obtain ⟨⟨L, t⟩, n', e5, ⟨q1, q2, q3⟩, l1, l2⟩ := plain2_loop (1 + m).toNat ns (I' k) a (rangeD 0 (1 + m).toNat) (six, []) (n + 3) ⟨by rw [rangeD_len]; show _ ≤ 6; omega, by rw [List.append_nil], by rw [rangeD_len]; exact Nat.zero_add _⟩ (by rw [rangeD_len]; omega)
  rw [rangeD_len] at l2
  have e5 : loopF (gOne 8) l__law_plain_v2_1 (rangeD 0 (1 + m).toNat) [Sc ns, .town, I' a, I' k, .no, .no, .ol [.int 0, .int 1, .int 2, .int 3, .int 4, .int 5], .d (.tuple []), .no] (n + 3) = _ := e5
  simp only at q2 q3
  have tk : tOk t := six_ok q2 (fun e => by rw [e] at q3; simp at q3; omega)
  have t4 : t.length ≤ 4 := by omega
  by_cases c3 : k = 3
  · subst c3
    refine ⟨_, n', ?_, by omega, by omega, .table a t, ⟨⟨a0, a1⟩, tk⟩, t4, rfl⟩
    simp -implicitDefEqProofs only [eVar_ap, dVar_ap, eC_ap, dOf_ap, eFrz_ap, eBin_ap, bTest_ap, bTru_ap, bAnd_ap, bOr_ap, bNot_ap, eIf_ap, eB_ap, eAnd_ap, eOr_ap, aNil_ap, aCons_ap, sNil_ap, sCons_ap, eTup_ap, eLst_ap, eCall_ap, eApp_ap, oNone_ap, oSome_ap, eSl_ap, sNil'_ap, sSeq_ap, sBrk_ap, sRet_ap, sRetN_ap, sRetO_ap, sDrop_ap, sIf_ap, sSet_ap, sApp_ap, sTown_ap, sExt_ap, sIns_ap, sSetIx_ap, sAsg_ap, sPar_ap, iOf_ap, iVal_ap, iRng1_ap, iRng2_ap, sFor_ap, eComp_ap, bYes_ap, frzAt_ap, eUn_ap, eNotD_ap, eOrD_ap, eChain_ap, eListRg1_ap, eIsa_ap, eMt_ap, iEnumV_ap, iEnumF_ap, iZipV_ap, iZipF_ap, eTLen_ap, iRng3D_ap, sEnd_ap, eSs_ap, sPar3_ap, xPop_ap, xTup1_ap, xCat_ap, sSetX_ap, sAppX_ap, sParO_ap, sForEI_ap, sForK_ap, eRep_ap, eDicK_ap, eDicT_ap, sPut_ap, eAlt_ap, sTry_ap, eGetD_ap, eLockI_ap, iKeyF_ap, sSetDef_ap, eTupVals_ap, sNst_ap, frzNAt_ap, sAppN_ap, sStN_ap, eListRg2_ap, eLam_ap, eCallP_ap, runB_ap, gOne_ap, gMany_ap, dI_ap, yesC_ap, dCmp_int, setD, kill_nx, kill_rt, kill_bk, Option.bind_some, Option.map_some, Option.bind_none, Option.map_none, List.getElem?_cons_zero, List.getElem?_cons_succ, List.set_cons_zero, List.set_cons_succ, List.cons_append, List.nil_append, List.append_nil, List.replicate, List.length_cons, List.length_nil, Nat.reduceAdd, Nat.reduceSub, Nat.zero_add, wdat_no, wdat_d, wdat_town, wdat_ol, wdat_od, wfrz_no, wfrz_d, wfrz_town, wfrz_ol, wfrz_od, wval_no, wval_d, wval_town, wval_ol, wval_od, warg_no, warg_d, warg_town, warg_ol, warg_od, vals, gLen, gAbs, gMax2, gMin2, gInt, gTup, gList, wipeW, if_true, if_false, Bool.false_eq_true, Bool.not_true, Bool.not_false, reduceCtorEq, e1, e2, dCmp_int, rLt_f c1, dEq_int, b2, b5, e3, dAdd_int, hr, e5, beq_self_eq_true]
    rfl
  · have b3 : (k == 3) = false := by simpa using c3
    refine ⟨_, n', ?_, by omega, by omega, .among a (srtI t), ⟨⟨a0, a1⟩, tk.srt.1, tk.srt.2⟩, (by show (srtI t).length ≤ 4; rw [(srtI_perm t).length_eq]; exact t4), rfl⟩
    simp -implicitDefEqProofs only [eVar_ap, dVar_ap, eC_ap, dOf_ap, eFrz_ap, eBin_ap, bTest_ap, bTru_ap, bAnd_ap, bOr_ap, bNot_ap, eIf_ap, eB_ap, eAnd_ap, eOr_ap, aNil_ap, aCons_ap, sNil_ap, sCons_ap, eTup_ap, eLst_ap, eCall_ap, eApp_ap, oNone_ap, oSome_ap, eSl_ap, sNil'_ap, sSeq_ap, sBrk_ap, sRet_ap, sRetN_ap, sRetO_ap, sDrop_ap, sIf_ap, sSet_ap, sApp_ap, sTown_ap, sExt_ap, sIns_ap, sSetIx_ap, sAsg_ap, sPar_ap, iOf_ap, iVal_ap, iRng1_ap, iRng2_ap, sFor_ap, eComp_ap, bYes_ap, frzAt_ap, eUn_ap, eNotD_ap, eOrD_ap, eChain_ap, eListRg1_ap, eIsa_ap, eMt_ap, iEnumV_ap, iEnumF_ap, iZipV_ap, iZipF_ap, eTLen_ap, iRng3D_ap, sEnd_ap, eSs_ap, sPar3_ap, xPop_ap, xTup1_ap, xCat_ap, sSetX_ap, sAppX_ap, sParO_ap, sForEI_ap, sForK_ap, eRep_ap, eDicK_ap, eDicT_ap, sPut_ap, eAlt_ap, sTry_ap, eGetD_ap, eLockI_ap, iKeyF_ap, sSetDef_ap, eTupVals_ap, sNst_ap, frzNAt_ap, sAppN_ap, sStN_ap, eListRg2_ap, eLam_ap, eCallP_ap, runB_ap, gOne_ap, gMany_ap, dI_ap, yesC_ap, dCmp_int, setD, kill_nx, kill_rt, kill_bk, Option.bind_some, Option.map_some, Option.bind_none, Option.map_none, List.getElem?_cons_zero, List.getElem?_cons_succ, List.set_cons_zero, List.set_cons_succ, List.cons_append, List.nil_append, List.append_nil, List.replicate, List.length_cons, List.length_nil, Nat.reduceAdd, Nat.reduceSub, Nat.zero_add, wdat_no, wdat_d, wdat_town, wdat_ol, wdat_od, wfrz_no, wfrz_d, wfrz_town, wfrz_ol, wfrz_od, wval_no, wval_d, wval_town, wval_ol, wval_od, warg_no, warg_d, warg_town, warg_ol, warg_od, vals, gLen, gAbs, gMax2, gMin2, gInt, gTup, gList, wipeW, if_true, if_false, Bool.false_eq_true, Bool.not_true, Bool.not_false, reduceCtorEq, e1, e2, dCmp_int, rLt_f c1, dEq_int, b2, b5, b3, e3, dAdd_int, hr, e5, gSorted_ints]
    rfl
theorem row2_loop (M : Nat) (hM : M ≤ 1000) (ns : List Int) : ∀ (xs : List PyData) (r : List Ky) (n : Nat), (r.length + xs.length ≤ M ∧ ∀ k ∈ r, k.ok ∧ k.pk.few) → n + 9 * xs.length ≤ big → ∃ (r' : List Ky) (n' : Nat),
    loopF (gOne 4) l__law_row_v2_1 xs [Sc ns, .town, .no, .d (rowD r), .no, .no] n = some (.nx [Sc ns, .town, .no, .d (rowD r'), .no, .no] n') ∧ (r'.length + 0 ≤ M ∧ ∀ k ∈ r', k.ok ∧ k.pk.few) ∧ n ≤ n' ∧ n' ≤ n + 9 * xs.length :=
  loopF_draw (g := gOne 4) (body := l__law_row_v2_1) (fun r : List Ky => [Sc ns, .town, .no, .d (rowD r), .no, .no]) (fun m r => r.length + m ≤ M ∧ ∀ k ∈ r, k.ok ∧ k.pk.few) 9 fun m r x n ⟨h1, h2⟩ hn => by
    obtain ⟨_, n1, e1, l1, l2, p, hp, hf, rfl⟩ := plain2_few ns n (by omega)
    obtain ⟨d, d0, d1, e2⟩ := draw2_ok ns n1 (by omega) 3 (by decide)
    have ea : ∀ k : Ky, dAdd (rowD r) (.tuple [k.d]) = some (.d (rowD (r ++ [k]))) := fun k => by
      rw [dAdd_tup _ _ (le_big (by simp; omega))]; simp
    by_cases h : d = 0
    · subst h
      have ea := ea (.dn p)
      refine ⟨_, r ++ [.dn p], n1 + 1, rfl, ?_, ⟨by simp; omega, fun k hk => ?_⟩, by omega, by omega⟩
      · unfold l__law_row_v2_1
        have ea : dAdd (rowD r) (.tuple [.tuple [.str "down", p.d]]) = some (.d (rowD (r ++ [.dn p]))) := ea
        simp -implicitDefEqProofs only [eVar_ap, dVar_ap, eC_ap, dOf_ap, eFrz_ap, eBin_ap, bTest_ap, bTru_ap, bAnd_ap, bOr_ap, bNot_ap, eIf_ap, eB_ap, eAnd_ap, eOr_ap, aNil_ap, aCons_ap, sNil_ap, sCons_ap, eTup_ap, eLst_ap, eCall_ap, eApp_ap, oNone_ap, oSome_ap, eSl_ap, sNil'_ap, sSeq_ap, sBrk_ap, sRet_ap, sRetN_ap, sRetO_ap, sDrop_ap, sIf_ap, sSet_ap, sApp_ap, sTown_ap, sExt_ap, sIns_ap, sSetIx_ap, sAsg_ap, sPar_ap, iOf_ap, iVal_ap, iRng1_ap, iRng2_ap, sFor_ap, eComp_ap, bYes_ap, frzAt_ap, eUn_ap, eNotD_ap, eOrD_ap, eChain_ap, eListRg1_ap, eIsa_ap, eMt_ap, iEnumV_ap, iEnumF_ap, iZipV_ap, iZipF_ap, eTLen_ap, iRng3D_ap, sEnd_ap, eSs_ap, sPar3_ap, xPop_ap, xTup1_ap, xCat_ap, sSetX_ap, sAppX_ap, sParO_ap, sForEI_ap, sForK_ap, eRep_ap, eDicK_ap, eDicT_ap, sPut_ap, eAlt_ap, sTry_ap, eGetD_ap, eLockI_ap, iKeyF_ap, sSetDef_ap, eTupVals_ap, sNst_ap, frzNAt_ap, sAppN_ap, sStN_ap, eListRg2_ap, eLam_ap, eCallP_ap, runB_ap, gOne_ap, gMany_ap, dI_ap, yesC_ap, dCmp_int, setD, kill_nx, kill_rt, kill_bk, Option.bind_some, Option.map_some, Option.bind_none, Option.map_none, List.getElem?_cons_zero, List.getElem?_cons_succ, List.set_cons_zero, List.set_cons_succ, List.cons_append, List.nil_append, List.append_nil, List.replicate, List.length_cons, List.length_nil, Nat.reduceAdd, Nat.reduceSub, Nat.zero_add, wdat_no, wdat_d, wdat_town, wdat_ol, wdat_od, wfrz_no, wfrz_d, wfrz_town, wfrz_ol, wfrz_od, wval_no, wval_d, wval_town, wval_ol, wval_od, warg_no, warg_d, warg_town, warg_ol, warg_od, vals, gLen, gAbs, gMax2, gMin2, gInt, gTup, gList, wipeW, if_true, if_false, Bool.false_eq_true, Bool.not_true, Bool.not_false, reduceCtorEq, e1, e2, dEq_int, beq_self_eq_true, ea]
      · rcases List.mem_append.mp hk with hk | hk
        · exact h2 k hk
        · rw [List.mem_singleton.mp hk]; exact ⟨hp, hf⟩
    · have h0 : (d == 0) = false := by simpa using h
      have ea : dAdd (rowD r) (.tuple [p.d]) = some (.d (rowD (r ++ [.pl p]))) := ea (.pl p)
      refine ⟨_, r ++ [.pl p], n1 + 1, rfl, ?_, ⟨by simp; omega, fun k hk => ?_⟩, by omega, by omega⟩
      · unfold l__law_row_v2_1
        simp -implicitDefEqProofs only [eVar_ap, dVar_ap, eC_ap, dOf_ap, eFrz_ap, eBin_ap, bTest_ap, bTru_ap, bAnd_ap, bOr_ap, bNot_ap, eIf_ap, eB_ap, eAnd_ap, eOr_ap, aNil_ap, aCons_ap, sNil_ap, sCons_ap, eTup_ap, eLst_ap, eCall_ap, eApp_ap, oNone_ap, oSome_ap, eSl_ap, sNil'_ap, sSeq_ap, sBrk_ap, sRet_ap, sRetN_ap, sRetO_ap, sDrop_ap, sIf_ap, sSet_ap, sApp_ap, sTown_ap, sExt_ap, sIns_ap, sSetIx_ap, sAsg_ap, sPar_ap, iOf_ap, iVal_ap, iRng1_ap, iRng2_ap, sFor_ap, eComp_ap, bYes_ap, frzAt_ap, eUn_ap, eNotD_ap, eOrD_ap, eChain_ap, eListRg1_ap, eIsa_ap, eMt_ap, iEnumV_ap, iEnumF_ap, iZipV_ap, iZipF_ap, eTLen_ap, iRng3D_ap, sEnd_ap, eSs_ap, sPar3_ap, xPop_ap, xTup1_ap, xCat_ap, sSetX_ap, sAppX_ap, sParO_ap, sForEI_ap, sForK_ap, eRep_ap, eDicK_ap, eDicT_ap, sPut_ap, eAlt_ap, sTry_ap, eGetD_ap, eLockI_ap, iKeyF_ap, sSetDef_ap, eTupVals_ap, sNst_ap, frzNAt_ap, sAppN_ap, sStN_ap, eListRg2_ap, eLam_ap, eCallP_ap, runB_ap, gOne_ap, gMany_ap, dI_ap, yesC_ap, dCmp_int, setD, kill_nx, kill_rt, kill_bk, Option.bind_some, Option.map_some, Option.bind_none, Option.map_none, List.getElem?_cons_zero, List.getElem?_cons_succ, List.set_cons_zero, List.set_cons_succ, List.cons_append, List.nil_append, List.append_nil, List.replicate, List.length_cons, List.length_nil, Nat.reduceAdd, Nat.reduceSub, Nat.zero_add, wdat_no, wdat_d, wdat_town, wdat_ol, wdat_od, wfrz_no, wfrz_d, wfrz_town, wfrz_ol, wfrz_od, wval_no, wval_d, wval_town, wval_ol, wval_od, warg_no, warg_d, warg_town, warg_ol, warg_od, vals, gLen, gAbs, gMax2, gMin2, gInt, gTup, gList, wipeW, if_true, if_false, Bool.false_eq_true, Bool.not_true, Bool.not_false, reduceCtorEq, e1, e2, dEq_int, h0, ea]
      · rcases List.mem_append.mp hk with hk | hk
        · exact h2 k hk
        · rw [List.mem_singleton.mp hk]; exact ⟨hp, hf⟩
theorem row2_few (ns : List Int) (n : Nat) (k : Nat) (hk : k ≤ 100) (hn : n + 1 + 9 * k ≤ big) : Ran (m__law_row_v2 [Sc ns, .town, I' k] n) n (1 + 9 * k) fun w => ∃ r : List Ky, (∀ x ∈ r, x.ok ∧ x.pk.few) ∧ r.length ≤ k ∧ w = .d (rowD r) := by
  obtain ⟨m, m0, m1, e1⟩ := draw2_ok ns n (by omega) ((k : Int) + 1) (by omega)
  obtain ⟨r, n', e2, ⟨h1, h2⟩, l1, l2⟩ := row2_loop k (by omega) ns (rangeD 0 m.toNat) [] (n + 1) ⟨by rw [rangeD_len]; simp; omega, by simp⟩ (by rw [rangeD_len]; omega)
  rw [rangeD_len] at l2
  have e2 : loopF (gOne 4) l__law_row_v2_1 (rangeD 0 m.toNat) [Sc ns, .town, .no, .d (.tuple []), .no, .no] (n + 1) = _ := e2
  have hr := rng1_ok (j := m) (by omega) (by omega)
  refine ⟨_, n', ?_, by omega, by omega, r, h2, by omega, rfl⟩
  unfold m__law_row_v2 b__law_row_v2
  simp -implicitDefEqProofs only [eVar_ap, dVar_ap, eC_ap, dOf_ap, eFrz_ap, eBin_ap, bTest_ap, bTru_ap, bAnd_ap, bOr_ap, bNot_ap, eIf_ap, eB_ap, eAnd_ap, eOr_ap, aNil_ap, aCons_ap, sNil_ap, sCons_ap, eTup_ap, eLst_ap, eCall_ap, eApp_ap, oNone_ap, oSome_ap, eSl_ap, sNil'_ap, sSeq_ap, sBrk_ap, sRet_ap, sRetN_ap, sRetO_ap, sDrop_ap, sIf_ap, sSet_ap, sApp_ap, sTown_ap, sExt_ap, sIns_ap, sSetIx_ap, sAsg_ap, sPar_ap, iOf_ap, iVal_ap, iRng1_ap, iRng2_ap, sFor_ap, eComp_ap, bYes_ap, frzAt_ap, eUn_ap, eNotD_ap, eOrD_ap, eChain_ap, eListRg1_ap, eIsa_ap, eMt_ap, iEnumV_ap, iEnumF_ap, iZipV_ap, iZipF_ap, eTLen_ap, iRng3D_ap, sEnd_ap, eSs_ap, sPar3_ap, xPop_ap, xTup1_ap, xCat_ap, sSetX_ap, sAppX_ap, sParO_ap, sForEI_ap, sForK_ap, eRep_ap, eDicK_ap, eDicT_ap, sPut_ap, eAlt_ap, sTry_ap, eGetD_ap, eLockI_ap, iKeyF_ap, sSetDef_ap, eTupVals_ap, sNst_ap, frzNAt_ap, sAppN_ap, sStN_ap, eListRg2_ap, eLam_ap, eCallP_ap, runB_ap, gOne_ap, gMany_ap, dI_ap, yesC_ap, dCmp_int, setD, kill_nx, kill_rt, kill_bk, Option.bind_some, Option.map_some, Option.bind_none, Option.map_none, List.getElem?_cons_zero, List.getElem?_cons_succ, List.set_cons_zero, List.set_cons_succ, List.cons_append, List.nil_append, List.append_nil, List.replicate, List.length_cons, List.length_nil, Nat.reduceAdd, Nat.reduceSub, Nat.zero_add, wdat_no, wdat_d, wdat_town, wdat_ol, wdat_od, wfrz_no, wfrz_d, wfrz_town, wfrz_ol, wfrz_od, wval_no, wval_d, wval_town, wval_ol, wval_od, warg_no, warg_d, warg_town, warg_ol, warg_od, vals, gLen, gAbs, gMax2, gMin2, gInt, gTup, gList, wipeW, if_true, if_false, Bool.false_eq_true, Bool.not_true, Bool.not_false, reduceCtorEq, e1, dAdd_int, hr, e2]
theorem row2_ok (ns : List Int) (n : Nat) (k : Nat) (hk : k ≤ 100) (hn : n + 1 + 9 * k ≤ big) : Ran (m__law_row_v2 [Sc ns, .town, I' k] n) n (1 + 9 * k) fun w => ∃ r : List Ky, (∀ x ∈ r, x.ok) ∧ r.length ≤ k ∧ w = .d (rowD r) := by
  obtain ⟨w, n', e, h1, h2, r, hr, hl, rfl⟩ := row2_few ns n k hk hn
  exact ⟨_, n', e, h1, h2, r, fun x hx => (hr x hx).1, hl, rfl⟩
end L2.Lv.Sh
namespace L2.Lv.Sh
open PySem PySem.Spec PyProof.Rows L2 L2.Lv
/-! runs: between one and the next the order breaks -/
def jn (r : Rw) (a b : List Th) : Prop := ∀ x ∈ a.getLast?, ∀ y ∈ b.head?, ¬ wrd r x y < 1
def brk (r : Rw) : List (List Th) → Prop
  | a :: b :: ls => jn r a b ∧ brk r (b :: ls)
  | _ => True
/-! crossings of two parts -/
/-! things sorted as they are -/
def thle (a b : Th) : Prop := a.1 < b.1 ∨ (a.1 = b.1 ∧ (a.2.1 < b.2.1 ∨ (a.2.1 = b.2.1 ∧ a.2.2 ≤ b.2.2)))
instance (a b : Th) : Decidable (thle a b) := inferInstanceAs (Decidable (_ ∨ _))
end L2.Lv.Sh
namespace L2.Lv.Sh
open PySem PySem.Spec PyProof.Rows L2 L2.Lv
theorem loopF_enumD {α : Type} {g : Fg} {body : Fs} {n : Nat} (enc : α → PyData) (env : Nat → List W) (xs : List α) (h : ∀ (i : Nat) (x : α), xs[i]? = some x → ∃ ρ1, g (.tuple [.int (i : Int), enc x]) (env i) = some ρ1 ∧ body ρ1 n = some (.nx (env (i + 1)) n)) :
    ∀ (ys : List α) (k : Nat), xs.drop k = ys → loopF g body (ys.mapIdx fun j y => .tuple [.int ((k + j : Nat) : Int), enc y]) (env k) n = some (.nx (env (k + ys.length)) n)
  | [], k, _ => rfl
  | y :: ys, k, hk => by
    have h1 : xs[k]? = some y := by have := congrArg (·[0]?) hk; simpa [List.getElem?_drop] using this
    have h2 : xs.drop (k + 1) = ys := by
      have := congrArg List.tail hk
      simpa [List.tail_drop] using this
    obtain ⟨ρ1, e1, e2⟩ := h k y h1
    have ih := loopF_enumD enc env xs h ys (k + 1) h2
    have hm : ((y :: ys).mapIdx fun j y => PyData.tuple [.int ((k + j : Nat) : Int), enc y]) = .tuple [.int (k : Int), enc y] :: (ys.mapIdx fun j y => PyData.tuple [.int ((k + 1 + j : Nat) : Int), enc y]) := by
      rw [List.mapIdx_cons]
      congr 1
      congr 1
      funext j z
      rw [show k + (j + 1) = k + 1 + j by omega]
    rw [hm, loopF_cons, List.length_cons, show k + (ys.length + 1) = k + 1 + ys.length by omega, ← ih]
    simp -implicitDefEqProofs only [eVar_ap, dVar_ap, eC_ap, dOf_ap, eFrz_ap, eBin_ap, bTest_ap, bTru_ap, bAnd_ap, bOr_ap, bNot_ap, eIf_ap, eB_ap, eAnd_ap, eOr_ap, aNil_ap, aCons_ap, sNil_ap, sCons_ap, eTup_ap, eLst_ap, eCall_ap, eApp_ap, oNone_ap, oSome_ap, eSl_ap, sNil'_ap, sSeq_ap, sBrk_ap, sRet_ap, sRetN_ap, sRetO_ap, sDrop_ap, sIf_ap, sSet_ap, sApp_ap, sTown_ap, sExt_ap, sIns_ap, sSetIx_ap, sAsg_ap, sPar_ap, iOf_ap, iVal_ap, iRng1_ap, iRng2_ap, sFor_ap, eComp_ap, bYes_ap, frzAt_ap, eUn_ap, eNotD_ap, eOrD_ap, eChain_ap, eListRg1_ap, eIsa_ap, eMt_ap, iEnumV_ap, iEnumF_ap, iZipV_ap, iZipF_ap, eTLen_ap, iRng3D_ap, sEnd_ap, eSs_ap, sPar3_ap, xPop_ap, xTup1_ap, xCat_ap, sSetX_ap, sAppX_ap, sParO_ap, sForEI_ap, sForK_ap, eRep_ap, eDicK_ap, eDicT_ap, sPut_ap, eAlt_ap, sTry_ap, eGetD_ap, eLockI_ap, iKeyF_ap, sSetDef_ap, eTupVals_ap, sNst_ap, frzNAt_ap, sAppN_ap, sStN_ap, eListRg2_ap, eLam_ap, eCallP_ap, runB_ap, gOne_ap, gMany_ap, dI_ap, yesC_ap, dCmp_int, setD, kill_nx, kill_rt, kill_bk, Option.bind_some, Option.map_some, Option.bind_none, Option.map_none, List.getElem?_cons_zero, List.getElem?_cons_succ, List.set_cons_zero, List.set_cons_succ, List.cons_append, List.nil_append, List.append_nil, List.replicate, List.length_cons, List.length_nil, Nat.reduceAdd, Nat.reduceSub, Nat.zero_add, wdat_no, wdat_d, wdat_town, wdat_ol, wdat_od, wfrz_no, wfrz_d, wfrz_town, wfrz_ol, wfrz_od, wval_no, wval_d, wval_town, wval_ol, wval_od, warg_no, warg_d, warg_town, warg_ol, warg_od, vals, gLen, gAbs, gMax2, gMin2, gInt, gTup, gList, wipeW, if_true, if_false, Bool.false_eq_true, Bool.not_true, Bool.not_false, reduceCtorEq, e1, e2]
theorem loopF_enum {α : Type} {g : Fg} {body : Fs} {n : Nat} (enc : α → PyData) (env : Nat → List W) (xs : List α) (h : ∀ (i : Nat) (x : α), xs[i]? = some x → ∃ ρ1, g (.tuple [.int (i : Int), enc x]) (env i) = some ρ1 ∧ body ρ1 n = some (.nx (env (i + 1)) n)) :
    loopF g body (enumD (xs.map enc)) (env 0) n = some (.nx (env xs.length) n) := by
  have := loopF_enumD enc env xs h xs 0 rfl
  rw [Nat.zero_add] at this
  rw [← this]
  congr 1
  unfold enumD
  apply List.ext_getElem?
  intro i
  simp only [List.getElem?_mapIdx, List.getElem?_map, Nat.zero_add, Option.map_map]
  rfl
theorem take_at {α : Type} {xs : List α} {i : Nat} {x : α} (h : xs[i]? = some x) : xs.take (i + 1) = xs.take i ++ [x] := by
  rw [List.take_add_one, h]; rfl
end L2.Lv.Sh
namespace L2.Lv.Sh
open PySem PySem.Spec PyProof.Rows L2 L2.Lv
/-! layer by layer -/
def rsI (R : List Rw) : Nat → List (Nat × Th) → List (Nat × Th)
  | 0, L => L
  | i + 1, L => rsI R i (rsT R L)
theorem rsI_succ (R : List Rw) : ∀ (i : Nat) (L : List (Nat × Th)), rsI R (i + 1) L = rsT R (rsI R i L)
  | 0, _ => rfl
  | i + 1, L => rsI_succ R i (rsT R L)
theorem layF_end (R : List Rw) : ∀ (k : Nat) (L : List (Nat × Th)), L.length < k → rsI R (layF R k L).length L = []
  | 0, _, h => absurd h (Nat.not_lt_zero _)
  | k + 1, L, h => by
    unfold layF
    by_cases hL : L = []
    · rw [if_pos hL]; exact hL
    · rw [if_neg hL, List.length_cons]
      have h2 := rsT_lt (R := R) hL
      exact layF_end R k (rsT R L) (by omega)
/-! put in stably -/
end L2.Lv.Sh
namespace L2.Lv.Sh
open PySem PySem.Spec PyProof.Rows L2 L2.Lv
/-! loops that come back with the first one found -/
theorem loopF_find {α : Type} {g : Fg} {body : Fs} {ρ : List W} {n : Nat} (enc : α → PyData) (ret : α → Option W) : ∀ xs : List α, (∀ x ∈ xs, ∃ ρ1, g (enc x) ρ = some ρ1 ∧ body ρ1 n = some (match ret x with | some w => .rt w n | none => .nx ρ n)) →
    loopF g body (xs.map enc) ρ n = some (match xs.findSome? ret with | some w => .rt w n | none => .nx ρ n)
  | [], _ => rfl
  | x :: xs, h => by
    obtain ⟨ρ1, e1, e2⟩ := h x (List.mem_cons_self ..)
    have ih := loopF_find enc ret xs fun z hz => h z (List.mem_cons_of_mem _ hz)
    rw [List.map_cons, loopF_cons, List.findSome?_cons]
    cases hr : ret x with
    | some w => rw [hr] at e2; simp -implicitDefEqProofs only [eVar_ap, dVar_ap, eC_ap, dOf_ap, eFrz_ap, eBin_ap, bTest_ap, bTru_ap, bAnd_ap, bOr_ap, bNot_ap, eIf_ap, eB_ap, eAnd_ap, eOr_ap, aNil_ap, aCons_ap, sNil_ap, sCons_ap, eTup_ap, eLst_ap, eCall_ap, eApp_ap, oNone_ap, oSome_ap, eSl_ap, sNil'_ap, sSeq_ap, sBrk_ap, sRet_ap, sRetN_ap, sRetO_ap, sDrop_ap, sIf_ap, sSet_ap, sApp_ap, sTown_ap, sExt_ap, sIns_ap, sSetIx_ap, sAsg_ap, sPar_ap, iOf_ap, iVal_ap, iRng1_ap, iRng2_ap, sFor_ap, eComp_ap, bYes_ap, frzAt_ap, eUn_ap, eNotD_ap, eOrD_ap, eChain_ap, eListRg1_ap, eIsa_ap, eMt_ap, iEnumV_ap, iEnumF_ap, iZipV_ap, iZipF_ap, eTLen_ap, iRng3D_ap, sEnd_ap, eSs_ap, sPar3_ap, xPop_ap, xTup1_ap, xCat_ap, sSetX_ap, sAppX_ap, sParO_ap, sForEI_ap, sForK_ap, eRep_ap, eDicK_ap, eDicT_ap, sPut_ap, eAlt_ap, sTry_ap, eGetD_ap, eLockI_ap, iKeyF_ap, sSetDef_ap, eTupVals_ap, sNst_ap, frzNAt_ap, sAppN_ap, sStN_ap, eListRg2_ap, eLam_ap, eCallP_ap, runB_ap, gOne_ap, gMany_ap, dI_ap, yesC_ap, dCmp_int, setD, kill_nx, kill_rt, kill_bk, Option.bind_some, Option.map_some, Option.bind_none, Option.map_none, List.getElem?_cons_zero, List.getElem?_cons_succ, List.set_cons_zero, List.set_cons_succ, List.cons_append, List.nil_append, List.append_nil, List.replicate, List.length_cons, List.length_nil, Nat.reduceAdd, Nat.reduceSub, Nat.zero_add, wdat_no, wdat_d, wdat_town, wdat_ol, wdat_od, wfrz_no, wfrz_d, wfrz_town, wfrz_ol, wfrz_od, wval_no, wval_d, wval_town, wval_ol, wval_od, warg_no, warg_d, warg_town, warg_ol, warg_od, vals, gLen, gAbs, gMax2, gMin2, gInt, gTup, gList, wipeW, if_true, if_false, Bool.false_eq_true, Bool.not_true, Bool.not_false, reduceCtorEq, e1, e2]
    | none => rw [hr] at e2; simp -implicitDefEqProofs only [eVar_ap, dVar_ap, eC_ap, dOf_ap, eFrz_ap, eBin_ap, bTest_ap, bTru_ap, bAnd_ap, bOr_ap, bNot_ap, eIf_ap, eB_ap, eAnd_ap, eOr_ap, aNil_ap, aCons_ap, sNil_ap, sCons_ap, eTup_ap, eLst_ap, eCall_ap, eApp_ap, oNone_ap, oSome_ap, eSl_ap, sNil'_ap, sSeq_ap, sBrk_ap, sRet_ap, sRetN_ap, sRetO_ap, sDrop_ap, sIf_ap, sSet_ap, sApp_ap, sTown_ap, sExt_ap, sIns_ap, sSetIx_ap, sAsg_ap, sPar_ap, iOf_ap, iVal_ap, iRng1_ap, iRng2_ap, sFor_ap, eComp_ap, bYes_ap, frzAt_ap, eUn_ap, eNotD_ap, eOrD_ap, eChain_ap, eListRg1_ap, eIsa_ap, eMt_ap, iEnumV_ap, iEnumF_ap, iZipV_ap, iZipF_ap, eTLen_ap, iRng3D_ap, sEnd_ap, eSs_ap, sPar3_ap, xPop_ap, xTup1_ap, xCat_ap, sSetX_ap, sAppX_ap, sParO_ap, sForEI_ap, sForK_ap, eRep_ap, eDicK_ap, eDicT_ap, sPut_ap, eAlt_ap, sTry_ap, eGetD_ap, eLockI_ap, iKeyF_ap, sSetDef_ap, eTupVals_ap, sNst_ap, frzNAt_ap, sAppN_ap, sStN_ap, eListRg2_ap, eLam_ap, eCallP_ap, runB_ap, gOne_ap, gMany_ap, dI_ap, yesC_ap, dCmp_int, setD, kill_nx, kill_rt, kill_bk, Option.bind_some, Option.map_some, Option.bind_none, Option.map_none, List.getElem?_cons_zero, List.getElem?_cons_succ, List.set_cons_zero, List.set_cons_succ, List.cons_append, List.nil_append, List.append_nil, List.replicate, List.length_cons, List.length_nil, Nat.reduceAdd, Nat.reduceSub, Nat.zero_add, wdat_no, wdat_d, wdat_town, wdat_ol, wdat_od, wfrz_no, wfrz_d, wfrz_town, wfrz_ol, wfrz_od, wval_no, wval_d, wval_town, wval_ol, wval_od, warg_no, warg_d, warg_town, warg_ol, warg_od, vals, gLen, gAbs, gMax2, gMin2, gInt, gTup, gList, wipeW, if_true, if_false, Bool.false_eq_true, Bool.not_true, Bool.not_false, reduceCtorEq, e1, e2, ih]
/-! tables -/
end L2.Lv.Sh
namespace L2.Lv.Sh
open PySem PySem.Spec PyProof.Rows L2 L2.Lv
/-- a table that tells an order -/
structure OrdB (n : Nat) (f : Nat → Nat → Int) : Prop where
  anti : ∀ i j, i < n → j < n → f i j = 0 - f j i
  ch : ∀ i j k, i < n → j < n → k < n → f i j < 1 → f j k < 1 → f i k = if f j k < f i j then f j k else f i j
theorem fil_mono {α : Type} {p q : α → Bool} : ∀ (l : List α), (∀ x ∈ l, p x = true → q x = true) → (l.filter p).length ≤ (l.filter q).length ∧ ((∃ x ∈ l, q x = true ∧ p x = false) → (l.filter p).length < (l.filter q).length)
  | [], _ => ⟨Nat.le_refl _, fun ⟨x, hx, _⟩ => by cases hx⟩
  | x :: l, h => by
    obtain ⟨h1, h2⟩ := fil_mono l fun y hy => h y (List.mem_cons_of_mem _ hy)
    have hx := h x (List.mem_cons_self ..)
    rw [List.filter_cons, List.filter_cons]
    cases hp : p x with
    | true =>
      rw [hx hp]
      simp only [if_true, List.length_cons]
      refine ⟨by omega, fun ⟨y, hy, a, b⟩ => ?_⟩
      rcases List.mem_cons.mp hy with rfl | hy
      · rw [hp] at b; cases b
      · have := h2 ⟨y, hy, a, b⟩; omega
    | false =>
      cases hq : q x with
      | true =>
        simp only [if_true, Bool.false_eq_true, if_false, List.length_cons]
        exact ⟨by omega, fun _ => by omega⟩
      | false =>
        simp only [Bool.false_eq_true, if_false]
        refine ⟨h1, fun ⟨y, hy, a, b⟩ => ?_⟩
        rcases List.mem_cons.mp hy with rfl | hy
        · rw [hq] at a; cases a
        · exact h2 ⟨y, hy, a, b⟩
def cntT (n : Nat) (f : Nat → Nat → Int) (i : Nat) : Nat := ((List.range n).filter fun k => f i k == 1).length
theorem OrdB.gt {n : Nat} {f : Nat → Nat → Int} (h : OrdB n f) {i j : Nat} (hi : i < n) (hj : j < n) (e : f i j = 1) : cntT n f j < cntT n f i := by
  have a1 := h.anti i j hi hj
  have a2 := h.anti j j hj hj
  refine (fil_mono (List.range n) fun k hk q => ?_).2 ⟨j, List.mem_range.mpr hj, by simpa using e, ?_⟩
  · have hk := List.mem_range.mp hk
    have q : f j k = 1 := by simpa using q
    have a3 := h.anti j k hj hk
    have a4 := h.anti i k hi hk
    have := h.ch k j i hk hj hi (by omega) (by omega)
    have : f k i = -1 := by rw [this]; split <;> omega
    simp; omega
  · have : f j j = 0 := by omega
    simp [this]
theorem OrdB.eq {n : Nat} {f : Nat → Nat → Int} (h : OrdB n f) {i j : Nat} (hi : i < n) (hj : j < n) (e : f i j = 0) : cntT n f i = cntT n f j := by
  have a1 := h.anti i j hi hj
  have one : ∀ {a b : Nat}, a < n → b < n → f a b = 0 → ∀ k, k < n → f b k = 1 → f a k = 1 := fun {a b} ha hb e k hk q => by
    have a1 := h.anti a b ha hb
    have a3 := h.anti b k hb hk
    have a4 := h.anti a k ha hk
    have := h.ch k b a hk hb ha (by omega) (by omega)
    have : f k a = -1 := by rw [this]; split <;> omega
    omega
  have h1 := (fil_mono (p := fun k => f i k == 1) (q := fun k => f j k == 1) (List.range n) fun k hk q => by
    have := one hj hi (by omega) k (List.mem_range.mp hk) (by simpa using q)
    simpa using this).1
  have h2 := (fil_mono (p := fun k => f j k == 1) (q := fun k => f i k == 1) (List.range n) fun k hk q => by
    have := one hi hj e k (List.mem_range.mp hk) (by simpa using q)
    simpa using this).1
  exact Nat.le_antisymm h1 h2
/-- the words that a table may hold -/
def Wd (n : Nat) (f : Nat → Nat → Int) : Prop := ∀ i j, i < n → j < n → f i j = -1 ∨ f i j = 0 ∨ f i j = 1
def sgn (a b : Nat) : Int := (if b < a then 1 else 0) - (if a < b then 1 else 0)
theorem OrdB.sg {n : Nat} {f : Nat → Nat → Int} (h : OrdB n f) (hw : Wd n f) {i j : Nat} (hi : i < n) (hj : j < n) : f i j = sgn (cntT n f i) (cntT n f j) := by
  unfold sgn
  have a1 := h.anti i j hi hj
  rcases hw i j hi hj with e | e | e
  · have := h.gt hj hi (by omega)
    rw [if_neg (by omega), if_pos (by omega)]; omega
  · have := h.eq hi hj e
    rw [if_neg (by omega), if_neg (by omega)]; omega
  · have := h.gt hi hj e
    rw [if_pos (by omega), if_neg (by omega)]; omega
end L2.Lv.Sh
namespace L2.Lv.Sh
open PySem PySem.Spec PyProof.Rows L2 L2.Lv
end L2.Lv.Sh
namespace L2.Lv.Sh
open PySem PySem.Spec PyProof.Rows L2 L2.Lv
/-! shapes of parts -/
/-! whole numbers -/
/-! things -/
/-! worths -/
/-! keys -/
/-! keys and rows that are drawn are so -/
end L2.Lv.Sh
namespace L2.Lv.Sh
open PySem PySem.Spec PyProof.Rows L2 L2.Lv
/-! pairs of numbers -/
abbrev NN := Nat × Nat
def iN (k : Nat) : PyData := .int (k : Int)
def prN (p : NN) : PyData := .tuple [.int (p.1 : Int), .int (p.2 : Int)]
def nle (p q : NN) : Prop := p.1 < q.1 ∨ (p.1 = q.1 ∧ p.2 ≤ q.2)
def nlt (p q : NN) : Prop := p.1 < q.1 ∨ (p.1 = q.1 ∧ p.2 < q.2)
instance (p q : NN) : Decidable (nle p q) := inferInstanceAs (Decidable (_ ∨ _))
instance (p q : NN) : Decidable (nlt p q) := inferInstanceAs (Decidable (_ ∨ _))
theorem nlt_nodup {P : List NN} (h : P.Pairwise nlt) : P.Nodup := h.imp fun {a b} q e => by subst e; unfold nlt at q; omega
/-- a strict order, its pairs rising -/
structure So (P : List NN) : Prop where
  irr : ∀ a, (a, a) ∉ P
  tr : ∀ a b c, (a, b) ∈ P → (b, c) ∈ P → (a, c) ∈ P
  lt : ∀ p ∈ P, p.1 < 6 ∧ p.2 < 6
  few : P.length ≤ 60
  srt : P.Pairwise nlt
/-! behind -/
/-! no ring -/
theorem nodup6 {w : List Nat} (h : w.Nodup) (h6 : ∀ x ∈ w, x < 6) : w.length ≤ 6 := by
  have hp : w.Nodup → (∀ x ∈ w, x ∈ List.range 6) → w.length ≤ (List.range 6).length := fun a b => by
    have key : ∀ (l m : List Nat), l.Nodup → (∀ x ∈ l, x ∈ m) → l.length ≤ m.length := by
      intro l
      induction l with
      | nil => intro m _ _; exact Nat.zero_le _
      | cons x l ih =>
        intro m hn hs
        have hx := hs x (by simp)
        have hl := List.length_erase_of_mem hx
        have hp : 0 < m.length := List.length_pos_of_mem hx
        have := ih (m.erase x) (List.nodup_cons.mp hn).2 fun y hy => by
          refine (List.mem_erase_of_ne ?_).mpr (hs y (List.mem_cons_of_mem _ hy))
          intro e
          exact (List.nodup_cons.mp hn).1 (e ▸ hy)
        rw [List.length_cons]; omega
    exact key w _ a b
  have := hp h fun x hx => List.mem_range.mpr (h6 x hx)
  simpa using this
/-! all that follow -/
def addP (L : List NN) (p : NN) : List NN := if p ∈ L then L else L ++ [p]
end L2.Lv.Sh
namespace L2.Lv.Sh
open PySem PySem.Spec PyProof.Rows L2 L2.Lv
/-! orders -/
end L2.Lv.Sh
namespace L2.Lv.Sh
open PySem PySem.Spec PyProof.Rows L2 L2.Lv
theorem sub_len {α : Type} [DecidableEq α] : ∀ (l m : List α), l.Nodup → (∀ x ∈ l, x ∈ m) → l.length ≤ m.length
  | [], m, _, _ => Nat.zero_le _
  | x :: l, m, hn, hs => by
    have hx := hs x (by simp)
    have hl := List.length_erase_of_mem hx
    have hp : 0 < m.length := List.length_pos_of_mem hx
    have := sub_len l (m.erase x) (List.nodup_cons.mp hn).2 fun y hy => by
      refine (List.mem_erase_of_ne ?_).mpr (hs y (List.mem_cons_of_mem _ hy))
      intro e
      exact (List.nodup_cons.mp hn).1 (e ▸ hy)
    rw [List.length_cons]; omega
/-- those ahead of it -/
def ahd (P : List NN) (x : Nat) : List Nat := (P.filter fun p => p.2 == x).map (·.1)
theorem ahd_mem {P : List NN} {f x : Nat} : f ∈ ahd P x ↔ (f, x) ∈ P := by
  unfold ahd
  rw [List.mem_map]
  constructor
  · rintro ⟨⟨a, b⟩, h, rfl⟩
    rw [List.mem_filter] at h
    have e : b = x := by simpa using h.2
    subst e
    exact h.1
  · intro h
    exact ⟨(f, x), List.mem_filter.mpr ⟨h, by simp⟩, rfl⟩
theorem ahd_nodup {P : List NN} (h : P.Pairwise nlt) (x : Nat) : (ahd P x).Nodup := by
  unfold ahd
  have h1 : (P.filter fun p => p.2 == x).Pairwise nlt := h.sublist List.filter_sublist
  have h2 : (P.filter fun p => p.2 == x).Pairwise (fun p q => p.1 ≠ q.1) := by
    refine List.Pairwise.imp_of_mem (fun {a b} ha hb q => ?_) h1
    have ea := (List.mem_filter.mp ha).2
    have eb := (List.mem_filter.mp hb).2
    simp only [beq_iff_eq] at ea eb
    unfold nlt at q
    omega
  exact List.pairwise_map.mpr h2
def cnt (P : List NN) (x : Nat) : Nat := (ahd P x).length
theorem cnt_lt {P : List NN} (S : So P) {f x : Nat} (h : (f, x) ∈ P) : cnt P f < cnt P x := by
  have := sub_len (f :: ahd P f) (ahd P x) (List.nodup_cons.mpr ⟨fun q => S.irr f (ahd_mem.mp q), ahd_nodup S.srt f⟩) fun y hy => by
    rcases List.mem_cons.mp hy with rfl | hy
    · exact ahd_mem.mpr h
    · exact ahd_mem.mpr (S.tr _ _ _ (ahd_mem.mp hy) h)
  rw [List.length_cons] at this
  exact this
theorem cnt_le (P : List NN) (x : Nat) : cnt P x ≤ P.length := by
  unfold cnt ahd
  rw [List.length_map]
  exact List.length_filter_le _ _
/-! the least order -/
/-! heights -/
def maxN (l : List Nat) : Nat := l.foldr max 0
theorem maxN_spec : ∀ l : List Nat, (maxN l = 0 ∨ maxN l ∈ l) ∧ ∀ z ∈ l, z ≤ maxN l
  | [] => ⟨.inl rfl, fun z h => by cases h⟩
  | x :: l => by
    obtain ⟨h1, h2⟩ := maxN_spec l
    have e : maxN (x :: l) = max x (maxN l) := rfl
    rw [e]
    refine ⟨?_, fun z hz => ?_⟩
    · rcases Nat.le_total x (maxN l) with c | c
      · rw [Nat.max_eq_right c]
        exact h1.imp id fun q => List.mem_cons_of_mem _ q
      · rw [Nat.max_eq_left c]
        exact .inr (by simp)
    · rcases List.mem_cons.mp hz with rfl | hz
      · exact Nat.le_max_left _ _
      · exact Nat.le_trans (h2 z hz) (Nat.le_max_right _ _)
def hF (P : List NN) : Nat → Nat → Nat
  | 0, _ => 0
  | k + 1, x => maxN ((ahd P x).map fun f => hF P k f + 1)
theorem hF_stab {P : List NN} (S : So P) : ∀ (k x : Nat), cnt P x < k → hF P (k + 1) x = hF P k x
  | 0, x, h => by omega
  | k + 1, x, h => by
    show maxN _ = maxN _
    congr 1
    refine List.map_congr_left fun f hf => ?_
    rw [hF_stab S k f (by have := cnt_lt S (ahd_mem.mp hf); omega)]
def hgt (P : List NN) (x : Nat) : Nat := hF P 100 x
theorem hgt_eq {P : List NN} (S : So P) (x : Nat) : hgt P x = maxN ((ahd P x).map fun f => hgt P f + 1) := by
  have := hF_stab S 100 x (by have := cnt_le P x; have := S.few; omega)
  unfold hgt
  rw [← this]
  rfl
end L2.Lv.Sh
namespace L2.Lv.Sh
open PySem PySem.Spec PyProof.Rows L2 L2.Lv
/-! what is agreed, as a strict order -/
def agP (R : List Rw) (ts : List Th) : List NN := (agT R ts).map fun x => (x.1.1, x.2.1)
theorem enum_inj {ts : List Th} {p q : Nat × Th} (hp : p ∈ enumT ts) (hq : q ∈ enumT ts) (h : p.1 = q.1) : p = q := by
  have a := enumT_get hp
  have b := enumT_get hq
  rw [h, b] at a
  obtain ⟨i, x⟩ := p
  obtain ⟨j, y⟩ := q
  simp only at h a
  cases h
  cases a
  rfl
theorem agP_mem {R : List Rw} {ts : List Th} {p q : Nat × Th} (hp : p ∈ enumT ts) (hq : q ∈ enumT ts) : (p.1, q.1) ∈ agP R ts ↔ btT R p.2 q.2 = true := by
  unfold agP
  rw [List.mem_map]
  constructor
  · rintro ⟨⟨a, b⟩, h, e⟩
    obtain ⟨h1, h2, h3⟩ := agT_mem.mp h
    simp only [Prod.mk.injEq] at e
    rw [← enum_inj h1 hp e.1, ← enum_inj h2 hq e.2]
    exact h3
  · intro h
    exact ⟨(p, q), agT_mem.mpr ⟨hp, hq, h⟩, rfl⟩
theorem agP_both {R : List Rw} {ts : List Th} {i j : Nat} (h : (i, j) ∈ agP R ts) : ∃ p q, p ∈ enumT ts ∧ q ∈ enumT ts ∧ p.1 = i ∧ q.1 = j ∧ btT R p.2 q.2 = true := by
  unfold agP at h
  obtain ⟨⟨a, b⟩, h, e⟩ := List.mem_map.mp h
  obtain ⟨h1, h2, h3⟩ := agT_mem.mp h
  simp only [Prod.mk.injEq] at e
  exact ⟨a, b, h1, h2, e.1, e.2, h3⟩
/-! layers by heights -/
theorem hgt_up {P : List NN} (S : So P) {f x : Nat} (h : (f, x) ∈ P) : hgt P f + 1 ≤ hgt P x := by
  rw [hgt_eq S x]
  exact (maxN_spec _).2 _ (List.mem_map.mpr ⟨f, ahd_mem.mpr h, rfl⟩)
theorem hgt_dn {P : List NN} (S : So P) {x i : Nat} (h : i + 1 ≤ hgt P x) : ∃ f, (f, x) ∈ P ∧ i ≤ hgt P f := by
  have e := hgt_eq S x
  rcases (maxN_spec ((ahd P x).map fun f => hgt P f + 1)).1 with q | q
  · omega
  · rw [← e] at q
    obtain ⟨f, hf, q⟩ := List.mem_map.mp q
    exact ⟨f, ahd_mem.mp hf, by omega⟩
theorem nb_iff {R : List Rw} {L : List (Nat × Th)} {p : Nat × Th} : nb R L p = false ↔ ∃ o ∈ L, btT R o.2 p.2 = true := by
  unfold nb
  rw [Bool.not_eq_false', List.any_eq_true]
theorem rsI_hgt {R : List Rw} {ts : List Th} (S : So (agP R ts)) : ∀ i, rsI R i (enumT ts) = (enumT ts).filter fun p => decide (i ≤ hgt (agP R ts) p.1)
  | 0 => by
    show enumT ts = _
    exact (List.filter_eq_self.mpr fun p _ => by simp).symm
  | i + 1 => by
    rw [rsI_succ, rsI_hgt S i]
    unfold rsT
    rw [List.filter_filter]
    refine List.filter_congr fun p hp => ?_
    rw [Bool.eq_iff_iff, Bool.and_eq_true, decide_eq_true_eq, decide_eq_true_eq, Bool.not_eq_true', nb_iff]
    constructor
    · rintro ⟨⟨o, ho, hb⟩, h⟩
      rw [List.mem_filter, decide_eq_true_eq] at ho
      have := hgt_up S ((agP_mem ho.1 hp).mpr hb)
      omega
    · intro h
      obtain ⟨f, hf, hi⟩ := hgt_dn S h
      obtain ⟨a, b, ha, hb, e1, e2, hbt⟩ := agP_both hf
      have := enum_inj hb hp e2
      subst this
      exact ⟨⟨a, List.mem_filter.mpr ⟨ha, by rw [e1]; simpa using hi⟩, hbt⟩, by omega⟩
theorem lay_all {R : List Rw} {ts : List Th} (S : So (agP R ts)) (hts : ts.length ≤ 1000) {p : Nat × Th} (hp : p ∈ enumT ts) : hgt (agP R ts) p.1 < (layT R ts).length := by
  have e := layF_end R 100000 (enumT ts) (by rw [enumT_len]; omega)
  have e : rsI R (layT R ts).length (enumT ts) = [] := e
  rw [rsI_hgt S] at e
  have := List.filter_eq_nil_iff.mp e p hp
  simpa using this
/-! of one row -/
/-! places are an order -/
end L2.Lv.Sh
namespace L2.Lv.Sh
open PySem PySem.Spec PyProof.Rows L2 L2.Lv
/-! what follows from pairs -/
inductive TC (P : List NN) : Nat → Nat → Prop
  | base {a b : Nat} : (a, b) ∈ P → TC P a b
  | step {a b c : Nat} : TC P a b → (b, c) ∈ P → TC P a c
theorem TC.trans {P : List NN} {a b c : Nat} (h : TC P a b) (g : TC P b c) : TC P a c := by
  induction g with
  | base q => exact .step h q
  | step _ q ih => exact .step ih q
theorem TC.mono {P Q : List NN} (h : ∀ p ∈ P, p ∈ Q) {a b : Nat} (t : TC P a b) : TC Q a b := by
  induction t with
  | base q => exact .base (h _ q)
  | step _ q ih => exact .step ih (h _ q)
/-- pairs of numbers below six, each once -/
structure Pr (P : List NN) : Prop where
  lt : ∀ p ∈ P, p.1 < 6 ∧ p.2 < 6
  nd : P.Nodup
theorem nodup_le : ∀ (l m : List Nat), l.Nodup → (∀ x ∈ l, x ∈ m) → l.length ≤ m.length
  | [], m, _, _ => Nat.zero_le _
  | x :: l, m, hn, hs => by
    have hx := hs x (by simp)
    have hl := List.length_erase_of_mem hx
    have hp : 0 < m.length := List.length_pos_of_mem hx
    have := nodup_le l (m.erase x) (List.nodup_cons.mp hn).2 fun y hy => by
      refine (List.mem_erase_of_ne ?_).mpr (hs y (List.mem_cons_of_mem _ hy))
      intro e
      exact (List.nodup_cons.mp hn).1 (e ▸ hy)
    rw [List.length_cons]; omega
theorem Pr.few {P : List NN} (h : Pr P) : P.length ≤ 36 := by
  have nd : (P.map fun p => 6 * p.1 + p.2).Nodup := by
    unfold List.Nodup
    rw [List.pairwise_map]
    refine List.Pairwise.imp_of_mem (fun {a b} ha hb ne e => ?_) h.nd
    have := h.lt a ha
    have := h.lt b hb
    refine ne ?_
    obtain ⟨a1, a2⟩ := a
    obtain ⟨b1, b2⟩ := b
    simp only [Prod.mk.injEq] at *
    omega
  have := nodup_le _ (List.range 36) nd fun x hx => by
    obtain ⟨p, hp, rfl⟩ := List.mem_map.mp hx
    have := h.lt p hp
    exact List.mem_range.mpr (by omega)
  simpa using this
theorem TC.lt {P : List NN} (h : Pr P) {a b : Nat} (t : TC P a b) : a < 6 ∧ b < 6 := by
  induction t with
  | base q => exact h.lt _ q
  | step _ q ih => exact ⟨ih.1, (h.lt _ q).2⟩
/-! adding up -/
theorem addP_mem {L : List NN} {p x : NN} : x ∈ addP L p ↔ x ∈ L ∨ x = p := by
  unfold addP
  split
  · rename_i h
    exact ⟨.inl, fun q => q.elim id fun e => e ▸ h⟩
  · rw [List.mem_append, List.mem_singleton]
theorem addP_nd {L : List NN} {p : NN} (h : L.Nodup) : (addP L p).Nodup := by
  unfold addP
  split
  · exact h
  · rename_i hp
    rw [List.nodup_append]
    exact ⟨h, by simp, fun a ha b hb => by rw [List.mem_singleton.mp hb]; exact fun e => hp (e ▸ ha)⟩
/-- one step on -/
def Nx (P A A' : List NN) : Prop := ∀ a c, (a, c) ∈ A' ↔ (a, c) ∈ A ∨ ∃ b, (a, b) ∈ A ∧ (b, c) ∈ P
def Sat (P A : List NN) : Prop := ∀ a b c, (a, b) ∈ A → (b, c) ∈ P → (a, c) ∈ A
structure Within (P A : List NN) : Prop where
  low : ∀ p ∈ P, p ∈ A
  up : ∀ a b, (a, b) ∈ A → TC P a b
  nd : A.Nodup
theorem Within.pr {P A : List NN} (W : Within P A) (h : Pr P) : Pr A := ⟨fun p hp => (W.up p.1 p.2 hp).lt h, W.nd⟩
theorem Within.next {P A A' : List NN} (W : Within P A) (x : Nx P A A') (nd : A'.Nodup) : Within P A' := ⟨fun p hp => (x p.1 p.2).mpr (.inl (W.low p hp)), fun a b h => by
  rcases (x a b).mp h with h | ⟨c, h1, h2⟩
  · exact W.up a b h
  · exact .step (W.up a c h1) h2, nd⟩
theorem Within.tc {P A : List NN} (W : Within P A) (s : Sat P A) (a b : Nat) : (a, b) ∈ A ↔ TC P a b := ⟨W.up a b, fun t => by
  induction t with
  | base q => exact W.low _ q
  | step _ q ih => exact s _ _ _ ih q⟩
/-! closed -/
end L2.Lv.Sh
namespace L2.Lv.Sh
open PySem PySem.Spec PyProof.Rows L2 L2.Lv
/-! rings -/
def hdw (w : List Nat) : Nat := w.headD 0
def ls0 (w : List Nat) : Nat := w.getLastD 0
theorem ls0_snoc (i : List Nat) (l : Nat) : ls0 (i ++ [l]) = l := by simp [ls0]
theorem snoc_of {w : List Nat} (h : w ≠ []) : ∃ i, w = i ++ [ls0 w] := by
  have e := List.getLast?_eq_some_getLast h
  obtain ⟨i, hi⟩ := List.getLast?_eq_some_iff.mp e
  refine ⟨i, ?_⟩
  have g : ls0 w = w.getLast h := by
    unfold ls0
    rw [List.getLastD_eq_getLast?, e]; rfl
  rw [g]
  exact hi
def sc (P : List NN) (l : Nat) : List Nat := (P.filter fun q => q.1 == l).map (·.2)
theorem sc_mem {P : List NN} {l b : Nat} : b ∈ sc P l ↔ (l, b) ∈ P := by
  unfold sc
  rw [List.mem_map]
  constructor
  · rintro ⟨⟨a, c⟩, h, rfl⟩
    rw [List.mem_filter, beq_iff_eq] at h
    have e : a = l := h.2
    subst e
    exact h.1
  · intro h
    exact ⟨(l, b), List.mem_filter.mpr ⟨h, by simp⟩, rfl⟩
structure Wy (w : List Nat) : Prop where
  ne : w ≠ []
  nd : w.Nodup
  lt : ∀ x ∈ w, x < 6
theorem Wy.one {x : Nat} (h : x < 6) : Wy [x] := ⟨by simp, by simp, by simpa using h⟩
theorem Wy.len {w : List Nat} (h : Wy w) : w.length ≤ 6 := nodup6 h.nd h.lt
def rgP (r : List Nat → List (List Nat)) (w : List Nat) (b : Nat) : List (List Nat) := if b = hdw w then [w] else if hdw w < b ∧ b ∉ w then r (w ++ [b]) else []
def rgF (P : List NN) : Nat → List Nat → List (List Nat)
  | 0, _ => []
  | k + 1, w => (sc P (ls0 w)).flatMap (rgP (rgF P k) w)
/-! .. by hand -/
/-! .. the first one -/
/-- all rings, from 0 on -/
def allR (P : List NN) (m : Nat) : List (List Nat) := (List.range m).flatMap fun x => rgF P 10 [x]
end L2.Lv.Sh
namespace L2.Lv.Sh
open PySem PySem.Spec PyProof.Rows L2 L2.Lv
/-! the first ring is the least -/
def kt (w : List Nat) : List (Int ⊕ List Nat) := PySem.W.keyToksAll (w.map iN)
def nl (x y : List Nat) : Prop := lx (kt y) (kt x) = false
theorem rgF_pre (P : List NN) : ∀ (k : Nat) (w : List Nat), ∀ r ∈ rgF P k w, ∃ t, r = w ++ t
  | 0, _, _, h => by cases h
  | k + 1, w, r, h => by
    obtain ⟨b, _, h⟩ := List.mem_flatMap.mp h
    unfold rgP at h
    split at h
    · rw [List.mem_singleton.mp h]; exact ⟨[], by simp⟩
    · split at h
      · obtain ⟨t, e⟩ := rgF_pre P k (w ++ [b]) r h
        exact ⟨b :: t, by rw [e]; simp⟩
      · cases h
theorem rgP_pre {P : List NN} {k : Nat} {w : List Nat} {b : Nat} {r : List Nat} (h : r ∈ rgP (rgF P k) w b) : (b = hdw w ∧ r = w) ∨ (hdw w < b ∧ b ∉ w ∧ r ∈ rgF P k (w ++ [b]) ∧ ∃ t, r = w ++ b :: t) := by
  unfold rgP at h
  split at h
  · rename_i e; exact .inl ⟨e, List.mem_singleton.mp h⟩
  · split at h
    · rename_i c
      obtain ⟨t, e⟩ := rgF_pre P k (w ++ [b]) r h
      exact .inr ⟨c.1, c.2, h, t, by rw [e]; simp⟩
    · cases h
/-! ways along the pairs -/
def Pth (P : List NN) : List Nat → Prop
  | a :: b :: l => (a, b) ∈ P ∧ Pth P (b :: l)
  | _ => True
theorem pth_app {P : List NN} : ∀ (a : List Nat) (v : Nat) (c : List Nat), Pth P (a ++ v :: c) ↔ Pth P (a ++ [v]) ∧ Pth P (v :: c)
  | [], v, c => by simp [Pth]
  | [x], v, c => by simp [Pth]
  | x :: y :: a, v, c => by
    have ih := pth_app (P := P) (y :: a) v c
    show ((x, y) ∈ P ∧ Pth P (y :: a ++ v :: c)) ↔ ((x, y) ∈ P ∧ Pth P (y :: a ++ [v])) ∧ _
    rw [ih, and_assoc]
theorem pth_snoc {P : List NN} {w : List Nat} (h : w ≠ []) {b : Nat} (hp : Pth P w) (hb : (ls0 w, b) ∈ P) : Pth P (w ++ [b]) := by
  obtain ⟨i, e⟩ := snoc_of h
  generalize ls0 w = l at *
  subst e
  rw [List.append_assoc]
  exact (pth_app i l [b]).mpr ⟨hp, hb, trivial⟩
theorem hdw_app {w : List Nat} (h : w ≠ []) (t : List Nat) : hdw (w ++ t) = hdw w := by
  cases w with
  | nil => exact absurd rfl h
  | cons a w => rfl
/-- what is found is a ring -/
structure Rg (P : List NN) (w : List Nat) : Prop where
  ne : w ≠ []
  pth : Pth P w
  cl : (ls0 w, hdw w) ∈ P
  nd : w.Nodup
  lo : ∀ x ∈ w, hdw w ≤ x
theorem rgF_rg {P : List NN} : ∀ (k : Nat) (w : List Nat), w ≠ [] → Pth P w → w.Nodup → (∀ x ∈ w, hdw w ≤ x) → ∀ r ∈ rgF P k w, Rg P r
  | 0, _, _, _, _, _, _, h => by cases h
  | k + 1, w, ne, hp, nd, lo, r, h => by
    obtain ⟨b, hb, h⟩ := List.mem_flatMap.mp h
    have hb := sc_mem.mp hb
    rcases rgP_pre h with ⟨e1, e2⟩ | ⟨c1, c2, c3, _⟩
    · subst e2
      exact ⟨ne, hp, e1 ▸ hb, nd, lo⟩
    · refine rgF_rg k (w ++ [b]) (by simp) (pth_snoc ne hp hb) ?_ ?_ r c3
      · rw [List.nodup_append]
        exact ⟨nd, by simp, fun a ha c hc => by rw [List.mem_singleton.mp hc]; exact fun e => c2 (e ▸ ha)⟩
      · intro x hx
        rw [hdw_app ne]
        rcases List.mem_append.mp hx with hx | hx
        · exact lo x hx
        · rw [List.mem_singleton.mp hx]; omega
theorem allR_rg {P : List NN} {m : Nat} {r : List Nat} (h : r ∈ allR P m) : Rg P r := by
  obtain ⟨x, _, h⟩ := List.mem_flatMap.mp h
  exact rgF_rg 10 [x] (by simp) trivial (by simp) (fun y hy => by rw [List.mem_singleton.mp hy]; exact Nat.le_refl _) r h
/-- and each ring is found -/
theorem rgF_has {P : List NN} : ∀ (t w : List Nat) (k : Nat), w ≠ [] → Pth P (w ++ t) → (ls0 (w ++ t), hdw w) ∈ P → (w ++ t).Nodup → (∀ x ∈ t, hdw w < x) → t.length < k → w ++ t ∈ rgF P k w
  | _, _, 0, _, _, _, _, _, hk => by omega
  | [], w, k + 1, ne, _, hc, _, _, _ => by
    rw [List.append_nil] at hc ⊢
    exact List.mem_flatMap.mpr ⟨hdw w, sc_mem.mpr hc, by unfold rgP; rw [if_pos rfl]; simp⟩
  | b :: t, w, k + 1, ne, hp, hc, nd, lo, hk => by
    have e : w ++ b :: t = (w ++ [b]) ++ t := by simp
    rw [e] at hp hc nd ⊢
    have hb := lo b (by simp)
    have nb : b ∉ w := fun q => by
      rw [List.nodup_append] at nd
      have := (List.nodup_append.mp nd.1).2.2 b q b (by simp)
      exact this rfl
    have ih := rgF_has t (w ++ [b]) k (by simp) hp (by rw [hdw_app ne]; exact hc) nd (fun x hx => by rw [hdw_app ne]; exact lo x (List.mem_cons_of_mem _ hx)) (by simp at hk; omega)
    refine List.mem_flatMap.mpr ⟨b, sc_mem.mpr ?_, by unfold rgP; rw [if_neg (by omega), if_pos ⟨hb, nb⟩]; exact ih⟩
    obtain ⟨i, ei⟩ := snoc_of ne
    generalize ls0 w = l at *
    subst ei
    have e2 : (i ++ [l] ++ [b]) ++ t = i ++ l :: (b :: t) := by simp
    rw [e2, pth_app] at hp
    exact hp.2.1
/-- a ring follows itself -/
theorem pth_tc {P : List NN} : ∀ (w : List Nat), Pth P w → ∀ x ∈ w.tail, TC P (hdw w) x
  | [], _, x, hx => by cases hx
  | [_], _, x, hx => by cases hx
  | a :: b :: l, h, x, hx => by
    rcases List.mem_cons.mp (show x ∈ b :: l from hx) with rfl | hx
    · exact .base h.1
    · exact TC.trans (.base h.1) (pth_tc (b :: l) h.2 x hx)
theorem ls0_mem {w : List Nat} (h : w ≠ []) : ls0 w ∈ w := by
  obtain ⟨i, e⟩ := snoc_of h
  generalize ls0 w = l at *
  subst e
  simp
theorem closed_tc {P : List NN} {w : List Nat} (ne : w ≠ []) (hp : Pth P w) (hc : (ls0 w, hdw w) ∈ P) : TC P (hdw w) (hdw w) := by
  cases w with
  | nil => exact absurd rfl ne
  | cons a t =>
    rcases List.mem_cons.mp (ls0_mem ne) with e | e
    · have : hdw (a :: t) = a := rfl
      rw [this] at hc ⊢
      rw [e] at hc
      exact .base hc
    · exact .step (pth_tc (a :: t) hp _ e) hc
theorem tc_way {P : List NN} {a b : Nat} (t : TC P a b) : ∃ w, w ≠ [] ∧ hdw w = a ∧ Pth P w ∧ (ls0 w, b) ∈ P := by
  induction t with
  | base h => exact ⟨[a], by simp, rfl, trivial, h⟩
  | step _ h ih =>
    obtain ⟨w, h1, h2, h3, h4⟩ := ih
    exact ⟨w ++ [_], by simp, by rw [hdw_app h1]; exact h2, pth_snoc h1 h3 h4, by rw [ls0_snoc]; exact h⟩
theorem dup_split : ∀ (l : List Nat), ¬ l.Nodup → ∃ a v b c, l = a ++ v :: (b ++ v :: c)
  | [], h => absurd List.nodup_nil h
  | x :: l, h => by
    by_cases hx : x ∈ l
    · obtain ⟨b, c, e⟩ := List.append_of_mem hx
      exact ⟨[], x, b, c, by rw [e]; rfl⟩
    · obtain ⟨a, v, b, c, e⟩ := dup_split l fun n => h (List.nodup_cons.mpr ⟨hx, n⟩)
      exact ⟨x :: a, v, b, c, by rw [e]; rfl⟩
theorem ls0_app (a : List Nat) {c : List Nat} (h : c ≠ []) : ls0 (a ++ c) = ls0 c := by
  obtain ⟨i, e⟩ := snoc_of h
  generalize ls0 c = l at *
  subst e
  rw [← List.append_assoc, ls0_snoc]
theorem way_nd {P : List NN} : ∀ (k : Nat) (w : List Nat), w.length < k → w ≠ [] → Pth P w → ∃ w', w' ≠ [] ∧ hdw w' = hdw w ∧ ls0 w' = ls0 w ∧ Pth P w' ∧ w'.Nodup
  | 0, _, h, _, _ => by omega
  | k + 1, w, h, ne, hp => by
    by_cases nd : w.Nodup
    · exact ⟨w, ne, rfl, rfl, hp, nd⟩
    · obtain ⟨a, v, b, c, e⟩ := dup_split w nd
      subst e
      have h1 := (pth_app a v (b ++ v :: c)).mp hp
      have h2 := (pth_app (v :: b) v c).mp (by rw [List.cons_append]; exact h1.2)
      obtain ⟨w', q1, q2, q3, q4, q5⟩ := way_nd k (a ++ v :: c) (by simp at h ⊢; omega) (by simp) ((pth_app a v c).mpr ⟨h1.1, h2.2⟩)
      refine ⟨w', q1, ?_, ?_, q4, q5⟩
      · rw [q2]
        cases a with
        | nil => rfl
        | cons x a => rfl
      · rw [q3, ls0_app a (by simp), ls0_app a (by simp)]
        have : v :: (b ++ v :: c) = (v :: b) ++ v :: c := rfl
        rw [this, ls0_app (v :: b) (by simp)]
theorem least_of {p : Nat → Prop} : ∀ n, p n → ∃ k, p k ∧ ∀ j, j < k → ¬ p j := by
  intro n
  induction n using Nat.strongRecOn with
  | ind n ih =>
    intro h
    by_cases c : ∃ j, j < n ∧ p j
    · obtain ⟨j, hj, pj⟩ := c
      exact ih j hj pj
    · exact ⟨n, h, fun j hj pj => c ⟨j, hj, pj⟩⟩
theorem pth_all {P : List NN} : ∀ (w : List Nat), Pth P w → w ≠ [] → ∀ x ∈ w, x = ls0 w ∨ TC P x (ls0 w)
  | [], _, ne, _, _ => absurd rfl ne
  | [a], _, _, x, hx => .inl (List.mem_singleton.mp hx)
  | a :: b :: l, h, _, x, hx => by
    have ih := pth_all (b :: l) h.2 (by simp)
    have e : ls0 (a :: b :: l) = ls0 (b :: l) := ls0_app [a] (by simp)
    rw [e]
    rcases List.mem_cons.mp hx with rfl | hx
    · right
      rcases ih b (by simp) with q | q
      · rw [← q]; exact .base h.1
      · exact TC.trans (.base h.1) q
    · exact ih x hx
theorem ring_has {P : List NN} {m : Nat} (h6 : m ≤ 6) (hm : ∀ p ∈ P, p.1 < m ∧ p.2 < m) (hc : ∃ a, TC P a a) : allR P m ≠ [] := by
  obtain ⟨a, ha⟩ := hc
  obtain ⟨x, hx, mn⟩ := least_of (p := fun x => TC P x x) a ha
  obtain ⟨w, q1, q2, q3, q4⟩ := tc_way hx
  obtain ⟨w', p1, p2, p3, p4, p5⟩ := way_nd (w.length + 1) w (by omega) q1 q3
  rw [q2] at p2
  rw [← p3] at q4
  have lt : ∀ y ∈ w', y < m := fun y hy => by
    rcases pth_all w' p4 p1 y hy with e | t
    · rw [e]; exact (hm _ q4).1
    · cases t with
      | base h => exact (hm _ h).1
      | step t h =>
        clear h
        induction t with
        | base h => exact (hm _ h).1
        | step _ _ ih => exact ih
  have lo : ∀ y ∈ w', x ≤ y := fun y hy => by
    refine Classical.byContradiction fun c => mn y (by omega) ?_
    have t1 : TC P y x := by
      rcases pth_all w' p4 p1 y hy with e | t
      · rw [e]; exact .base q4
      · exact .step t q4
    cases w' with
    | nil => exact absurd rfl p1
    | cons z t =>
      have e : z = x := p2
      subst e
      rcases List.mem_cons.mp hy with e | hy
      · omega
      · exact TC.trans t1 (pth_tc (z :: t) p4 y hy)
  cases w' with
  | nil => exact absurd rfl p1
  | cons z t =>
    have e : z = x := p2
    subst e
    have l6 : (z :: t).length ≤ 6 := nodup6 p5 fun y hy => by have := lt y hy; omega
    have g := rgF_has t [z] 10 (by simp) p4 q4 p5 (fun y hy => by
      have := lo y (List.mem_cons_of_mem _ hy)
      have ne : y ≠ z := fun e => (List.nodup_cons.mp p5).1 (e ▸ hy)
      show z < y
      omega) (by simp at l6; omega)
    intro en
    have : (z :: t) ∈ allR P m := List.mem_flatMap.mpr ⟨z, List.mem_range.mpr (lt z (by simp)), g⟩
    rw [en] at this
    cases this
theorem no_ring {P : List NN} {m : Nat} (h6 : m ≤ 6) (hm : ∀ p ∈ P, p.1 < m ∧ p.2 < m) : allR P m = [] ↔ ∀ a, ¬ TC P a a := by
  constructor
  · intro e a t
    exact ring_has h6 hm ⟨a, t⟩ e
  · intro h
    refine List.eq_nil_iff_forall_not_mem.mpr fun r hr => ?_
    have R := allR_rg hr
    exact h _ (closed_tc R.ne R.pth R.cl)
end L2.Lv.Sh
set_option maxHeartbeats 1000000
namespace L2.Lv.Sh
open PySem PySem.Spec PyProof.Rows L2 L2.Lv
/-! dicts of pairs, 0 for each -/
def encZ (L : List NN) : List (PyData × PyData) := L.map fun p => (prN p, .int 0)
/-! what follows, by hand -/
/-! pairs are drawn -/
structure Gp (m : Nat) (P : List NN) : Prop where
  lt : ∀ p ∈ P, p.1 < m ∧ p.2 < m
  ne : ∀ p ∈ P, p.1 ≠ p.2
  nd : P.Nodup
theorem Gp.add {m : Nat} {P : List NN} (h : Gp m P) {p : NN} (h1 : p.1 < m ∧ p.2 < m) (h2 : p.1 ≠ p.2) : Gp m (addP P p) := ⟨fun q hq => by
  rcases addP_mem.mp hq with hq | rfl
  · exact h.lt q hq
  · exact h1, fun q hq => by
  rcases addP_mem.mp hq with hq | rfl
  · exact h.ne q hq
  · exact h2, addP_nd h.nd⟩
/-- pairs as they are drawn -/
structure Dp (m : Nat) (P : List NN) : Prop where
  pos : 0 < m
  six : m ≤ 6
  few : P.length ≤ 8
  lt : ∀ p ∈ P, p.1 < m ∧ p.2 < m
  ne : ∀ p ∈ P, p.1 ≠ p.2
  srt : P.Pairwise nlt
theorem Dp.pr {m : Nat} {P : List NN} (h : Dp m P) : Pr P := ⟨fun p hp => by have := h.lt p hp; have := h.six; omega, nlt_nodup h.srt⟩
end L2.Lv.Sh
set_option maxHeartbeats 1000000
namespace L2.Lv.Sh
open PySem PySem.Spec PyProof.Rows L2 L2.Lv
/-! pairs in lists of pairs; free pairs; bare pairs -/
theorem eqv_ti : ∀ s t : List Int, PyData.eqv (ti s) (ti t) = decide (s = t) := by
  have key : ∀ s t : List Int, PyData.eqvAll (s.map .int) (t.map .int) = decide (s = t) := by
    intro s
    induction s with
    | nil => intro t; cases t <;> simp [PyData.eqvAll]
    | cons a s ih =>
      intro t
      cases t with
      | nil => simp [PyData.eqvAll]
      | cons b t =>
        simp only [List.map_cons, PyData.eqvAll, ih, PyData.eqv]
        rw [Bool.eq_iff_iff]
        simp
  intro s t
  simp only [ti, PyData.eqv, key]
/-! bare -/
end L2.Lv.Sh
set_option maxHeartbeats 1000000
namespace L2.Lv.Sh
open PySem PySem.Spec PyProof.Rows L2 L2.Lv
/-! pairs without rings: each number has its height -/
structure Rk (P : List NN) where
  c : Nat → Nat
  lt : ∀ f x, (f, x) ∈ P → c f < c x
  le : ∀ x, c x ≤ 8
  few : P.length ≤ 60
theorem Rk.irr {P : List NN} (S : Rk P) (a : Nat) : (a, a) ∉ P := fun h => Nat.lt_irrefl _ (S.lt _ _ h)
/-! .. refused where there is a ring -/
structure Ac (P : List NN) (m : Nat) : Prop where
  pr : Pr P
  srt : P.Pairwise nlt
  six : m ≤ 6
  lt : ∀ p ∈ P, p.1 < m ∧ p.2 < m
  no : ∀ a, ¬ TC P a a
theorem Ac.nil {P : List NN} {m : Nat} (A : Ac P m) : allR P m = [] := (no_ring A.six A.lt).mpr A.no
end L2.Lv.Sh
set_option maxHeartbeats 1000000
namespace L2.Lv.Sh
open PySem PySem.Spec PyProof.Rows L2 L2.Lv
/-! the first of all orders -/
/-! orders by hand -/
/-! heights by hand -/
/-! bare pairs -/
/-! a free pair stands either way -/
end L2.Lv.Sh
set_option maxHeartbeats 1000000
namespace L2.Lv.Sh
open PySem PySem.Spec PyProof.Rows L2 L2.Lv
/-! tuples put in order, each once -/
theorem ll_tot {a b : List Int} (h : a ≠ b) (h2 : ¬ b < a) : a < b := by
  rcases List.le_total a b with q | q
  · exact Classical.byContradiction fun c => h (List.le_antisymm q (List.not_lt.mp c))
  · exact absurd (List.le_antisymm q (List.not_lt.mp h2)) (Ne.symm h)
/-! dicts by tuples of ints -/
def encF (f : List Int → Nat) (K : List (List Int)) : List (PyData × PyData) := K.map fun k => (tI k, .int (f k : Int))
theorem key_ti (a b : List Int) : (intsOf (a.map .int) = some b) ↔ a = b := by rw [intsOf_map]; simp
theorem putF_in {f : List Int → Nat} {k : List Int} : ∀ {K : List (List Int)}, k ∈ K → putT (encF f K) k (.int (f k : Int)) = encF f K
  | q :: K, h => by
    unfold encF putT
    rw [List.map_cons]
    show (if intsOf (q.map .int) = some k then _ else _) = _
    by_cases c : q = k
    · subst c
      rw [if_pos ((key_ti q q).mpr rfl)]
    · rw [if_neg (fun e => c ((key_ti q k).mp e))]
      have := putF_in (f := f) (List.mem_of_ne_of_mem (Ne.symm c) h)
      unfold encF at this
      rw [this]
theorem putF_out {f : List Int → Nat} {k : List Int} : ∀ {K : List (List Int)}, k ∉ K → putT (encF f K) k (.int (f k : Int)) = encF f (K ++ [k])
  | [], _ => rfl
  | q :: K, h => by
    rw [List.mem_cons, not_or] at h
    unfold encF putT
    rw [List.map_cons]
    show (if intsOf (q.map .int) = some k then _ else _) = _
    rw [if_neg (fun e => h.1 ((key_ti q k).mp e).symm)]
    have := putF_out (f := f) h.2
    unfold encF at this
    rw [this]
    rfl
theorem lookF {f : List Int → Nat} {k : List Int} : ∀ (K : List (List Int)), lookT (encF f K) k = if k ∈ K then some (.int (f k : Int)) else none
  | [] => rfl
  | q :: K => by
    have ih := lookF (f := f) (k := k) K
    unfold encF at ih ⊢
    rw [List.map_cons]
    unfold lookT
    show (if intsOf (q.map .int) = some k then _ else _) = _
    by_cases c : q = k
    · subst c
      rw [if_pos ((key_ti q q).mpr rfl), if_pos (List.mem_cons_self ..)]
    · rw [if_neg (fun e => c ((key_ti q k).mp e)), ih]
      simp only [List.mem_cons, Ne.symm c, false_or]
theorem putD_F (f : List Int → Nat) (K : List (List Int)) (k : List Int) (hl : K.length < big) : putD (markT :: encF f K) (tI k) (.int (f k : Int)) = some (markT :: encF f (if k ∈ K then K else K ++ [k])) := by
  have hl : (encF f K).length < big := by unfold encF; rw [List.length_map]; exact hl
  have e : putD (markT :: encF f K) (tI k) (.int (f k : Int)) = some (markT :: putT (encF f K) k (.int (f k : Int))) := by
    show (intsOf (k.map .int)).bind (fun ns => if (encF f K).length < big then some (markT :: putT (encF f K) ns (.int (f k : Int))) else none) = _
    rw [intsOf_map, Option.bind_some, if_pos hl]
  rw [e]
  split
  · rename_i h; rw [putF_in h]
  · rename_i h; rw [putF_out h]
theorem lookD_F (f : List Int → Nat) (K : List (List Int)) (k : List Int) : lookD (markT :: encF f K) (tI k) = some (if k ∈ K then some (.int (f k : Int)) else none) := by
  rw [← lookF]
  show (intsOf (k.map .int)).map _ = _
  rw [intsOf_map]; rfl
theorem dIxD_F {f : List Int → Nat} {K : List (List Int)} {k : List Int} (h : k ∈ K) : dIxD (.dict (markT :: encF f K)) (tI k) = some (.d (.int (f k : Int))) := by
  show (lookD (markT :: encF f K) (tI k)).bind (fun r => r.map W.d) = _
  rw [lookD_F, if_pos h]; rfl
theorem idx_take {K : List (List Int)} {i : Nat} {k : List Int} (hn : K.Nodup) (h : K[i]? = some k) : K.idxOf k = i ∧ k ∉ K.take i := by
  obtain ⟨hi, rfl⟩ := List.getElem?_eq_some_iff.mp h
  refine ⟨hn.idxOf_getElem i hi, fun c => ?_⟩
  obtain ⟨j, hj, e⟩ := List.mem_iff_getElem.mp c
  rw [List.length_take] at hj
  rw [List.getElem_take] at e
  have := (List.getElem_inj hn).mp e
  omega
/-! the form of a row -/
def evK (r : Rw) : List (List Int) := allT.map (wts r)
def sK (r : Rw) : List (List Int) := sortI (ddup (evK r))
def rnk (r : Rw) (t : Th) : Nat := (sK r).idxOf (wts r t)
def frm (r : Rw) : List Int := allT.map fun t => (rnk r t : Int)
theorem sK_mem {r : Rw} {k : List Int} : k ∈ sK r ↔ k ∈ evK r := by unfold sK; rw [(sortI_perm _).mem_iff, ddup_mem]
theorem sK_nd (r : Rw) : (sK r).Nodup := (sortI_perm _).nodup_iff.mpr (ddup_nd _)
theorem sK_len (r : Rw) : (sK r).length ≤ 216 := by
  have h : ∀ z ∈ sK r, z ∈ evK r := fun z hz => sK_mem.mp hz
  have := List.Nodup.length_le_of_subset (sK_nd r) h
  unfold evK at this
  rwa [List.length_map, allT_len] at this
theorem okK_ev (r : Rw) : okK (evK r) = true := by
  unfold okK evK
  rw [Bool.or_eq_true, List.all_eq_true, List.all_eq_true]
  cases r with
  | nil => exact .inr fun k hk => by obtain ⟨t, _, rfl⟩ := List.mem_map.mp hk; rfl
  | cons a r => exact .inl fun k hk => by obtain ⟨t, _, rfl⟩ := List.mem_map.mp hk; rfl
theorem sortSet_ok (r : Rw) : gSortSetT [.list ((evK r).map tI)] = some (.ol ((sK r).map tI)) := by
  show (keysT _).bind _ = _
  have hl : (evK r).length ≤ 300 := by unfold evK; rw [List.length_map, allT_len]; decide
  rw [keysT_map, Option.bind_some, okK_ev, if_pos (by simp [hl])]
  rfl
theorem form_loop (f : List Int → Nat) (K : List (List Int)) (hn : K.Nodup) (hl : K.length ≤ 1000) (hf : ∀ k, f k = K.idxOf k) (w0 w1 w2 : W) (n : Nat) :
    loopF (gMany [4, 5]) l_form_1 (enumD (K.map tI)) [w0, w1, w2, .od [markT], .no, .no] n = some (.nx [w0, w1, w2, .od (markT :: encF f K), .no, .no] n) := by
  have e := loopF_enum (g := gMany [4, 5]) (body := l_form_1) (n := n) tI (fun i => [w0, w1, w2, .od (markT :: encF f (K.take i)), .no, .no]) K fun i k hk => by
    obtain ⟨h1, h2⟩ := idx_take hn hk
    have e1 : K.take (i + 1) = K.take i ++ [k] := take_at hk
    have p := putD_F f (K.take i) k (by rw [List.length_take]; unfold big; omega)
    rw [hf, h1, if_neg h2] at p
    refine ⟨[w0, w1, w2, .od (markT :: encF f (K.take i)), .d (.int (i : Int)), .d (tI k)], rfl, ?_⟩
    unfold l_form_1
    rw [e1]
    simp -implicitDefEqProofs only [eVar_ap, dVar_ap, eC_ap, dOf_ap, eFrz_ap, eBin_ap, bTest_ap, bTru_ap, bAnd_ap, bOr_ap, bNot_ap, eIf_ap, eB_ap, eAnd_ap, eOr_ap, aNil_ap, aCons_ap, sNil_ap, sCons_ap, eTup_ap, eLst_ap, eCall_ap, eApp_ap, oNone_ap, oSome_ap, eSl_ap, sNil'_ap, sSeq_ap, sBrk_ap, sRet_ap, sRetN_ap, sRetO_ap, sDrop_ap, sIf_ap, sSet_ap, sApp_ap, sTown_ap, sExt_ap, sIns_ap, sSetIx_ap, sAsg_ap, sPar_ap, iOf_ap, iVal_ap, iRng1_ap, iRng2_ap, sFor_ap, eComp_ap, bYes_ap, frzAt_ap, eUn_ap, eNotD_ap, eOrD_ap, eChain_ap, eListRg1_ap, eIsa_ap, eMt_ap, iEnumV_ap, iEnumF_ap, iZipV_ap, iZipF_ap, eTLen_ap, iRng3D_ap, sEnd_ap, eSs_ap, sPar3_ap, xPop_ap, xTup1_ap, xCat_ap, sSetX_ap, sAppX_ap, sParO_ap, sForEI_ap, sForK_ap, eRep_ap, eDicK_ap, eDicT_ap, sPut_ap, eAlt_ap, sTry_ap, eGetD_ap, eLockI_ap, iKeyF_ap, sSetDef_ap, eTupVals_ap, sNst_ap, frzNAt_ap, sAppN_ap, sStN_ap, eListRg2_ap, eLam_ap, eCallP_ap, runB_ap, gOne_ap, gMany_ap, dI_ap, yesC_ap, dCmp_int, setD, kill_nx, kill_rt, kill_bk, Option.bind_some, Option.map_some, Option.bind_none, Option.map_none, List.getElem?_cons_zero, List.getElem?_cons_succ, List.set_cons_zero, List.set_cons_succ, List.cons_append, List.nil_append, List.append_nil, List.replicate, List.length_cons, List.length_nil, Nat.reduceAdd, Nat.reduceSub, Nat.zero_add, wdat_no, wdat_d, wdat_town, wdat_ol, wdat_od, wfrz_no, wfrz_d, wfrz_town, wfrz_ol, wfrz_od, wval_no, wval_d, wval_town, wval_ol, wval_od, warg_no, warg_d, warg_town, warg_ol, warg_od, vals, gLen, gAbs, gMax2, gMin2, gInt, gTup, gList, wipeW, if_true, if_false, Bool.false_eq_true, Bool.not_true, Bool.not_false, reduceCtorEq, p]
  rw [List.take_length] at e
  exact e
theorem allT_wts (r : Rw) : (allT.map fun t => ti (wts r t)) = (evK r).map tI := by unfold evK; rw [List.map_map]; rfl
theorem form_ok (r : Rw) (h : Rw.ok r) (hl : r.length ≤ 1000000) (n : Nat) : m_form [.d (rowD r)] n = some (.d (ti (frm r)), n) := by
  have a := all_things_ok n
  have c1 := comp_mapA (g := gOne 2) (own := [2]) (elt := eCall m_worths (aCons (eVar 0) (aCons (eVar 2) aNil))) (ρ := [.d (rowD r), .no, .no, .no, .no, .no]) (n := n) Th.d (fun t => ti (wts r t)) allT fun t _ => ⟨_, rfl, by simp -implicitDefEqProofs only [eVar_ap, dVar_ap, eC_ap, dOf_ap, eFrz_ap, eBin_ap, bTest_ap, bTru_ap, bAnd_ap, bOr_ap, bNot_ap, eIf_ap, eB_ap, eAnd_ap, eOr_ap, aNil_ap, aCons_ap, sNil_ap, sCons_ap, eTup_ap, eLst_ap, eCall_ap, eApp_ap, oNone_ap, oSome_ap, eSl_ap, sNil'_ap, sSeq_ap, sBrk_ap, sRet_ap, sRetN_ap, sRetO_ap, sDrop_ap, sIf_ap, sSet_ap, sApp_ap, sTown_ap, sExt_ap, sIns_ap, sSetIx_ap, sAsg_ap, sPar_ap, iOf_ap, iVal_ap, iRng1_ap, iRng2_ap, sFor_ap, eComp_ap, bYes_ap, frzAt_ap, eUn_ap, eNotD_ap, eOrD_ap, eChain_ap, eListRg1_ap, eIsa_ap, eMt_ap, iEnumV_ap, iEnumF_ap, iZipV_ap, iZipF_ap, eTLen_ap, iRng3D_ap, sEnd_ap, eSs_ap, sPar3_ap, xPop_ap, xTup1_ap, xCat_ap, sSetX_ap, sAppX_ap, sParO_ap, sForEI_ap, sForK_ap, eRep_ap, eDicK_ap, eDicT_ap, sPut_ap, eAlt_ap, sTry_ap, eGetD_ap, eLockI_ap, iKeyF_ap, sSetDef_ap, eTupVals_ap, sNst_ap, frzNAt_ap, sAppN_ap, sStN_ap, eListRg2_ap, eLam_ap, eCallP_ap, runB_ap, gOne_ap, gMany_ap, dI_ap, yesC_ap, dCmp_int, setD, kill_nx, kill_rt, kill_bk, Option.bind_some, Option.map_some, Option.bind_none, Option.map_none, List.getElem?_cons_zero, List.getElem?_cons_succ, List.set_cons_zero, List.set_cons_succ, List.cons_append, List.nil_append, List.append_nil, List.replicate, List.length_cons, List.length_nil, Nat.reduceAdd, Nat.reduceSub, Nat.zero_add, wdat_no, wdat_d, wdat_town, wdat_ol, wdat_od, wfrz_no, wfrz_d, wfrz_town, wfrz_ol, wfrz_od, wval_no, wval_d, wval_town, wval_ol, wval_od, warg_no, warg_d, warg_town, warg_ol, warg_od, vals, gLen, gAbs, gMax2, gMin2, gInt, gTup, gList, wipeW, if_true, if_false, Bool.false_eq_true, Bool.not_true, Bool.not_false, reduceCtorEq, worths_ok r h hl t n]⟩
  rw [allT_wts] at c1
  have s := sortSet_ok r
  have l := form_loop (fun k => (sK r).idxOf k) (sK r) (sK_nd r) (by have := sK_len r; omega) (fun _ => rfl) .no (.d (.list ((evK r).map tI))) .no n
  have c2 := comp_mapA (g := gOne 5) (own := [5]) (elt := eBin dIxD (dVar 3) (dVar 5)) (ρ := [.no, .d (.list ((evK r).map tI)), .no, .od (markT :: encF (fun k => (sK r).idxOf k) (sK r)), .no, .no]) (n := n) (fun t => tI (wts r t)) (fun t => .int (rnk r t : Int)) allT fun t ht => by
    have := dIxD_F (f := fun k => (sK r).idxOf k) (sK_mem.mpr (List.mem_map.mpr ⟨t, ht, rfl⟩) : wts r t ∈ sK r)
    exact ⟨_, rfl, by simp -implicitDefEqProofs only [eVar_ap, dVar_ap, eC_ap, dOf_ap, eFrz_ap, eBin_ap, bTest_ap, bTru_ap, bAnd_ap, bOr_ap, bNot_ap, eIf_ap, eB_ap, eAnd_ap, eOr_ap, aNil_ap, aCons_ap, sNil_ap, sCons_ap, eTup_ap, eLst_ap, eCall_ap, eApp_ap, oNone_ap, oSome_ap, eSl_ap, sNil'_ap, sSeq_ap, sBrk_ap, sRet_ap, sRetN_ap, sRetO_ap, sDrop_ap, sIf_ap, sSet_ap, sApp_ap, sTown_ap, sExt_ap, sIns_ap, sSetIx_ap, sAsg_ap, sPar_ap, iOf_ap, iVal_ap, iRng1_ap, iRng2_ap, sFor_ap, eComp_ap, bYes_ap, frzAt_ap, eUn_ap, eNotD_ap, eOrD_ap, eChain_ap, eListRg1_ap, eIsa_ap, eMt_ap, iEnumV_ap, iEnumF_ap, iZipV_ap, iZipF_ap, eTLen_ap, iRng3D_ap, sEnd_ap, eSs_ap, sPar3_ap, xPop_ap, xTup1_ap, xCat_ap, sSetX_ap, sAppX_ap, sParO_ap, sForEI_ap, sForK_ap, eRep_ap, eDicK_ap, eDicT_ap, sPut_ap, eAlt_ap, sTry_ap, eGetD_ap, eLockI_ap, iKeyF_ap, sSetDef_ap, eTupVals_ap, sNst_ap, frzNAt_ap, sAppN_ap, sStN_ap, eListRg2_ap, eLam_ap, eCallP_ap, runB_ap, gOne_ap, gMany_ap, dI_ap, yesC_ap, dCmp_int, setD, kill_nx, kill_rt, kill_bk, Option.bind_some, Option.map_some, Option.bind_none, Option.map_none, List.getElem?_cons_zero, List.getElem?_cons_succ, List.set_cons_zero, List.set_cons_succ, List.cons_append, List.nil_append, List.append_nil, List.replicate, List.length_cons, List.length_nil, Nat.reduceAdd, Nat.reduceSub, Nat.zero_add, wdat_no, wdat_d, wdat_town, wdat_ol, wdat_od, wfrz_no, wfrz_d, wfrz_town, wfrz_ol, wfrz_od, wval_no, wval_d, wval_town, wval_ol, wval_od, warg_no, warg_d, warg_town, warg_ol, warg_od, vals, gLen, gAbs, gMax2, gMin2, gInt, gTup, gList, wipeW, if_true, if_false, Bool.false_eq_true, Bool.not_true, Bool.not_false, reduceCtorEq, this]; rfl⟩
  have hb : (allT.map Th.d).length ≤ big := by rw [List.length_map, allT_len]; decide
  have hb2 : ((evK r).map tI).length ≤ big := by unfold evK; rw [List.length_map, List.length_map, allT_len]; decide
  have hb3 : ((sK r).map tI).length ≤ big := by rw [List.length_map]; have := sK_len r; unfold big; omega
  have e2 : (allT.map fun t => tI (wts r t)) = (evK r).map tI := allT_wts r
  rw [e2] at c2
  have e3 : (allT.map fun t => PyData.int (rnk r t : Int)) = (frm r).map .int := by unfold frm; rw [List.map_map]; rfl
  rw [e3] at c2
  unfold m_form b_form
  simp -implicitDefEqProofs only [eVar_ap, dVar_ap, eC_ap, dOf_ap, eFrz_ap, eBin_ap, bTest_ap, bTru_ap, bAnd_ap, bOr_ap, bNot_ap, eIf_ap, eB_ap, eAnd_ap, eOr_ap, aNil_ap, aCons_ap, sNil_ap, sCons_ap, eTup_ap, eLst_ap, eCall_ap, eApp_ap, oNone_ap, oSome_ap, eSl_ap, sNil'_ap, sSeq_ap, sBrk_ap, sRet_ap, sRetN_ap, sRetO_ap, sDrop_ap, sIf_ap, sSet_ap, sApp_ap, sTown_ap, sExt_ap, sIns_ap, sSetIx_ap, sAsg_ap, sPar_ap, iOf_ap, iVal_ap, iRng1_ap, iRng2_ap, sFor_ap, eComp_ap, bYes_ap, frzAt_ap, eUn_ap, eNotD_ap, eOrD_ap, eChain_ap, eListRg1_ap, eIsa_ap, eMt_ap, iEnumV_ap, iEnumF_ap, iZipV_ap, iZipF_ap, eTLen_ap, iRng3D_ap, sEnd_ap, eSs_ap, sPar3_ap, xPop_ap, xTup1_ap, xCat_ap, sSetX_ap, sAppX_ap, sParO_ap, sForEI_ap, sForK_ap, eRep_ap, eDicK_ap, eDicT_ap, sPut_ap, eAlt_ap, sTry_ap, eGetD_ap, eLockI_ap, iKeyF_ap, sSetDef_ap, eTupVals_ap, sNst_ap, frzNAt_ap, sAppN_ap, sStN_ap, eListRg2_ap, eLam_ap, eCallP_ap, runB_ap, gOne_ap, gMany_ap, dI_ap, yesC_ap, dCmp_int, setD, kill_nx, kill_rt, kill_bk, Option.bind_some, Option.map_some, Option.bind_none, Option.map_none, List.getElem?_cons_zero, List.getElem?_cons_succ, List.set_cons_zero, List.set_cons_succ, List.cons_append, List.nil_append, List.append_nil, List.replicate, List.length_cons, List.length_nil, Nat.reduceAdd, Nat.reduceSub, Nat.zero_add, wdat_no, wdat_d, wdat_town, wdat_ol, wdat_od, wfrz_no, wfrz_d, wfrz_town, wfrz_ol, wfrz_od, wval_no, wval_d, wval_town, wval_ol, wval_od, warg_no, warg_d, warg_town, warg_ol, warg_od, vals, gLen, gAbs, gMax2, gMin2, gInt, gTup, gList, wipeW, if_true, if_false, Bool.false_eq_true, Bool.not_true, Bool.not_false, reduceCtorEq, iSeq, a, hb, hb2, hb3, c1, s, seqOf, l, c2, gTup]
/-! all things, by hand -/
theorem allT_ok {t : Th} (h : t ∈ allT) : t.ok := by
  unfold allT six at h
  obtain ⟨x, hx, h⟩ := List.mem_flatMap.mp h
  obtain ⟨y, hy, h⟩ := List.mem_flatMap.mp h
  obtain ⟨z, hz, rfl⟩ := List.mem_map.mp h
  have six : ∀ v : Int, v ∈ ([0, 1, 2, 3, 4, 5] : List Int) → 0 ≤ v ∧ v < 6 := by
    intro v hv
    simp only [List.mem_cons, List.not_mem_nil, or_false] at hv
    omega
  exact ⟨six x hx, six y hy, six z hz⟩
/-! the form, by hand -/
/-! alike -/
theorem dEq_ti (a b : List Int) : dEq (ti a) (ti b) = some (.d (.bool (decide (a = b)))) := by
  have key : ∀ s t : List Int, PyData.eqvAll (s.map .int) (t.map .int) = decide (s = t) := by
    intro s
    induction s with
    | nil => intro t; cases t <;> simp [PyData.eqvAll]
    | cons x s ih =>
      intro t
      cases t with
      | nil => simp [PyData.eqvAll]
      | cons y t =>
        simp only [List.map_cons, PyData.eqvAll, ih, PyData.eqv, List.cons.injEq]
        rw [Bool.decide_and]
        rfl
  have h1 := shp_ti a
  have h2 := shp_ti b
  unfold dEq
  rw [h1, h2]
  show some (W.d (.bool (PyData.eqvAll (a.map .int) (b.map .int)))) = _
  rw [key]
end L2.Lv.Sh
set_option maxHeartbeats 1000000
namespace L2.Lv.Sh
open PySem PySem.Spec PyProof.Rows L2 L2.Lv
/-! rising places -/
/-! all choices, by hand -/
def ez (l : List Nat) : List Int := (l.length : Int) :: l.map fun (i : Nat) => (i : Int)
end L2.Lv.Sh
set_option maxHeartbeats 1000000
namespace L2.Lv.Sh
open PySem PySem.Spec PyProof.Rows L2 L2.Lv
/-! keys chosen, keys left out -/
/-! short rows -/
/-! the fewest keys -/
/-! rows drawn, keys near one another -/
end L2.Lv.Sh
set_option maxHeartbeats 1000000
namespace L2.Lv.Sh
open PySem PySem.Spec PyProof.Rows L2 L2.Lv
/-! forms and words -/
theorem wts_eq (r : Rw) (s t : Th) : wts r s = wts r t ↔ wrd r s t = 0 := by
  induction r with
  | nil => simp [wts, wrd]
  | cons k r ih =>
    have e : ∀ u, wts (k :: r) u = k.worth u :: wts r u := fun _ => rfl
    have ew : wrd (k :: r) s t = if k.worth s = k.worth t then wrd r s t else if k.worth s < k.worth t then -1 else 1 := rfl
    rw [e, e, List.cons.injEq, ih, ew]
    by_cases c : k.worth s = k.worth t
    · rw [if_pos c]; simp [c]
    · rw [if_neg c]
      constructor
      · intro h; exact absurd h.1 c
      · split <;> omega
theorem wts_lt (r : Rw) (s t : Th) : wts r s < wts r t ↔ wrd r s t < 0 := by
  induction r with
  | nil => simp [wts, wrd]
  | cons k r ih =>
    have e : ∀ u, wts (k :: r) u = k.worth u :: wts r u := fun _ => rfl
    have ew : wrd (k :: r) s t = if k.worth s = k.worth t then wrd r s t else if k.worth s < k.worth t then -1 else 1 := rfl
    rw [e, e, List.cons_lt_cons_iff, ih, ew]
    by_cases c : k.worth s = k.worth t
    · rw [if_pos c]
      constructor
      · rintro (h | h)
        · omega
        · exact h.2
      · intro h; exact .inr ⟨c, h⟩
    · rw [if_neg c]
      by_cases l : k.worth s < k.worth t
      · rw [if_pos l]; exact ⟨fun _ => by decide, fun _ => .inl l⟩
      · rw [if_neg l]
        constructor
        · rintro (h | h)
          · exact absurd h l
          · exact absurd h.1 c
        · intro h; omega
theorem sK_pw (r : Rw) : (sK r).Pairwise (· < ·) := by
  have h := sortI_pw (ddup (evK r))
  exact (h.and (sK_nd r)).imp fun q => ll_tot q.2 q.1
theorem idx_mono {l : List (List Int)} (h : l.Pairwise (· < ·)) {x y : List Int} (hx : x ∈ l) (hy : y ∈ l) : l.idxOf x < l.idxOf y ↔ x < y := by
  have ix := List.idxOf_lt_length_of_mem hx
  have iy := List.idxOf_lt_length_of_mem hy
  have go : ∀ {x y : List Int} (hx : l.idxOf x < l.length) (hy : l.idxOf y < l.length), l.idxOf x < l.idxOf y → x < y := fun {x y} hx hy c => by
    have := List.pairwise_iff_getElem.mp h _ _ hx hy c
    rwa [List.getElem_idxOf, List.getElem_idxOf] at this
  refine ⟨go ix iy, fun c => ?_⟩
  rcases Nat.lt_trichotomy (l.idxOf x) (l.idxOf y) with q | q | q
  · exact q
  · have : x = y := by
      have e1 := List.getElem_idxOf ix
      have e2 := List.getElem_idxOf iy
      rw [← e1, ← e2]
      exact getElem_congr_idx q
    rw [this] at c
    exact absurd c (List.lt_irrefl _)
  · exact absurd (List.lt_trans c (go iy ix q)) (List.lt_irrefl _)
theorem ev_in {r : Rw} {t : Th} (h : t ∈ allT) : wts r t ∈ sK r := sK_mem.mpr (List.mem_map.mpr ⟨t, h, rfl⟩)
theorem rnk_lt (r : Rw) {s t : Th} (hs : s ∈ allT) (ht : t ∈ allT) : rnk r s < rnk r t ↔ wrd r s t < 0 := by
  unfold rnk
  rw [idx_mono (sK_pw r) (ev_in hs) (ev_in ht), wts_lt]
theorem rnk_eq (r : Rw) {s t : Th} (hs : s ∈ allT) (ht : t ∈ allT) : rnk r s = rnk r t ↔ wrd r s t = 0 := by
  have h1 := rnk_lt r hs ht
  have h2 := rnk_lt r ht hs
  rw [wrd_anti] at h2
  omega
theorem rnk_below {r : Rw} {t : Th} (ht : t ∈ allT) {j : Nat} (h : j < rnk r t) : ∃ s ∈ allT, rnk r s = j := by
  have l := List.idxOf_lt_length_of_mem (ev_in (r := r) ht)
  have hj : j < (sK r).length := Nat.lt_trans h l
  obtain ⟨s, hs, e⟩ := List.mem_map.mp (sK_mem.mp (List.getElem_mem hj))
  refine ⟨s, hs, ?_⟩
  unfold rnk
  rw [e]
  exact (sK_nd r).idxOf_getElem j hj
theorem rnk_le {a b : Rw} (h : ∀ s ∈ allT, ∀ t ∈ allT, wrd a s t < 0 → wrd b s t < 0) : ∀ (m : Nat) (t : Th), t ∈ allT → m ≤ rnk a t → m ≤ rnk b t
  | 0, _, _, _ => Nat.zero_le _
  | m + 1, t, ht, hm => by
    obtain ⟨s, hs, e⟩ := rnk_below ht (show m < rnk a t by omega)
    have i := rnk_le h m s hs (by omega)
    have l := (rnk_lt b hs ht).mpr (h s hs t ht ((rnk_lt a hs ht).mp (by omega)))
    omega
theorem wrd_3 (r : Rw) (s t : Th) : wrd r s t = -1 ∨ wrd r s t = 0 ∨ wrd r s t = 1 := by
  induction r with
  | nil => exact .inr (.inl rfl)
  | cons k r ih =>
    unfold wrd
    split
    · exact ih
    · split
      · exact .inl rfl
      · exact .inr (.inr rfl)
theorem frm_iff (a b : Rw) : frm a = frm b ↔ ∀ s ∈ allT, ∀ t ∈ allT, wrd a s t = wrd b s t := by
  unfold frm
  constructor
  · intro h s hs t ht
    have e : ∀ u ∈ allT, rnk a u = rnk b u := fun u hu => by
      have := List.map_inj_left.mp h u hu
      omega
    have h1 := rnk_lt a hs ht
    have h2 := rnk_lt b hs ht
    have h3 := rnk_eq a hs ht
    have h4 := rnk_eq b hs ht
    rw [e s hs, e t ht] at h1 h3
    have c1 := wrd_3 a s t
    have c2 := wrd_3 b s t
    omega
  · intro h
    refine List.map_congr_left fun t ht => ?_
    have l1 := rnk_le (a := a) (b := b) (fun s hs t ht c => by rw [← h s hs t ht]; exact c) _ t ht (Nat.le_refl _)
    have l2 := rnk_le (a := b) (b := a) (fun s hs t ht c => by rw [h s hs t ht]; exact c) _ t ht (Nat.le_refl _)
    omega
/-! how many pairs -/
def cP {α : Type} (P : α → α → Bool) : List α → Nat
  | [] => 0
  | x :: xs => xs.countP (P x) + cP P xs
theorem cP_snoc {α : Type} (P : α → α → Bool) (x : α) : ∀ xs : List α, cP P (xs ++ [x]) = cP P xs + xs.countP fun y => P y x
  | [] => rfl
  | y :: xs => by
    have ih := cP_snoc P x xs
    show (xs ++ [x]).countP (P y) + cP P (xs ++ [x]) = _
    rw [ih, List.countP_append, List.countP_singleton]
    show _ = xs.countP (P y) + cP P xs + (y :: xs).countP _
    rw [List.countP_cons]
    omega
theorem cP_map {α β : Type} (P : β → β → Bool) (f : α → β) : ∀ xs : List α, cP P (xs.map f) = cP (fun x y => P (f x) (f y)) xs
  | [] => rfl
  | x :: xs => by
    show (xs.map f).countP (P (f x)) + cP P (xs.map f) = _
    rw [cP_map P f xs, List.countP_map]
    rfl
theorem cP_congr {α : Type} {P Q : α → α → Bool} : ∀ {xs : List α}, (∀ x ∈ xs, ∀ y ∈ xs, P x y = Q x y) → cP P xs = cP Q xs
  | [], _ => rfl
  | x :: xs, h => by
    show xs.countP (P x) + cP P xs = xs.countP (Q x) + cP Q xs
    rw [cP_congr fun a ha b hb => h a (List.mem_cons_of_mem _ ha) b (List.mem_cons_of_mem _ hb), List.countP_congr fun y hy => by rw [h x (List.mem_cons_self ..) y (List.mem_cons_of_mem _ hy)]]
/-! counts by a dict -/
def addZ (L : List Int) (x : Int) : List Int := if x ∈ L then L else L ++ [x]
def nubZ (xs : List Int) : List Int := xs.foldl addZ []
theorem nubZ_snoc (xs : List Int) (x : Int) : nubZ (xs ++ [x]) = addZ (nubZ xs) x := by unfold nubZ; rw [List.foldl_append]; rfl
theorem fold_mem (z : Int) : ∀ (xs acc : List Int), z ∈ xs.foldl addZ acc ↔ z ∈ acc ∨ z ∈ xs
  | [], acc => by simp
  | x :: xs, acc => by
    rw [List.foldl_cons, fold_mem z xs]
    unfold addZ
    split
    · rename_i c
      rw [List.mem_cons]
      constructor
      · rintro (h | h)
        · exact .inl h
        · exact .inr (.inr h)
      · rintro (h | rfl | h)
        · exact .inl h
        · exact .inl c
        · exact .inr h
    · rw [List.mem_append, List.mem_singleton, List.mem_cons, or_assoc]
theorem nubZ_mem {z : Int} {xs : List Int} : z ∈ nubZ xs ↔ z ∈ xs := by unfold nubZ; rw [fold_mem]; simp
theorem fold_nd : ∀ (xs acc : List Int), acc.Nodup → (xs.foldl addZ acc).Nodup
  | [], acc, h => h
  | x :: xs, acc, h => by
    refine fold_nd xs _ ?_
    unfold addZ
    split
    · exact h
    · rename_i c
      refine List.nodup_append.mpr ⟨h, by simp, fun a ha b hb => ?_⟩
      rw [List.mem_singleton] at hb
      subst hb
      intro e
      exact c (e ▸ ha)
theorem nubZ_nd (xs : List Int) : (nubZ xs).Nodup := fold_nd xs [] List.nodup_nil
theorem nubZ_len (xs : List Int) : (nubZ xs).length ≤ xs.length := List.Nodup.length_le_of_subset (nubZ_nd xs) fun z hz => nubZ_mem.mp hz
theorem sum_upd {x : Int} {f g : Int → Nat} {d : Nat} (hx : f x = g x + d) : ∀ {L : List Int}, L.Nodup → x ∈ L → (∀ k ∈ L, k ≠ x → f k = g k) → (L.map f).sum = (L.map g).sum + d
  | y :: L, hn, hm, hk => by
    obtain ⟨n1, n2⟩ := List.nodup_cons.mp hn
    rw [List.map_cons, List.map_cons, List.sum_cons, List.sum_cons]
    by_cases c : y = x
    · subst c
      have : L.map f = L.map g := List.map_congr_left fun k h => hk k (List.mem_cons_of_mem _ h) fun e => n1 (e ▸ h)
      rw [this, hx]; omega
    · have hm : x ∈ L := by
        rcases List.mem_cons.mp hm with h | h
        · exact absurd h.symm c
        · exact h
      have := sum_upd hx n2 hm fun k h => hk k (List.mem_cons_of_mem _ h)
      rw [this, hk y (List.mem_cons_self ..) c]; omega
theorem tri_succ (n : Nat) : tri (n + 1) = tri n + n := rfl
theorem nub_sum : ∀ (n : Nat) (xs : List Int), xs.length = n → ((nubZ xs).map fun k => tri (xs.count k)).sum = cP (fun x y => x == y) xs
  | 0, xs, h => by rw [List.length_eq_zero_iff.mp h]; rfl
  | n + 1, xs, h => by
    have ne : xs ≠ [] := by intro c; rw [c] at h; cases h
    obtain ⟨ys, x, rfl⟩ : ∃ ys x, xs = ys ++ [x] := ⟨xs.dropLast, xs.getLast ne, (List.dropLast_concat_getLast ne).symm⟩
    have ih := nub_sum n ys (by rw [List.length_append] at h; simpa using h)
    rw [cP_snoc, ← ih, nubZ_snoc]
    have ec : (ys.countP fun y => y == x) = ys.count x := rfl
    rw [ec]
    have ck : ∀ k, k ≠ x → (ys ++ [x]).count k = ys.count k := fun k hk => by
      rw [List.count_append, List.count_singleton, if_neg (by simpa using Ne.symm hk)]; rfl
    have cx : (ys ++ [x]).count x = ys.count x + 1 := by rw [List.count_append, List.count_singleton_self]
    unfold addZ
    split
    · rename_i c
      exact sum_upd (x := x) (by rw [cx, tri_succ]) (nubZ_nd ys) c fun k _ hk => by rw [ck k hk]
    · rename_i c
      rw [List.map_append, List.sum_append]
      have z : ys.count x = 0 := List.count_eq_zero.mpr fun q => c (nubZ_mem.mpr q)
      have : (nubZ ys).map (fun k => tri ((ys ++ [x]).count k)) = (nubZ ys).map fun k => tri (ys.count k) := List.map_congr_left fun k hk => by rw [ck k fun e => c (e ▸ hk)]
      rw [this]
      simp only [List.map_cons, List.map_nil, List.sum_cons, List.sum_nil]
      rw [cx, z, tri_succ]
      rfl
end L2.Lv.Sh
set_option maxHeartbeats 1000000
namespace L2.Lv.Sh
open PySem PySem.Spec PyProof.Rows L2 L2.Lv
/-! the dict of counts -/
def encC (acc : List Int) : List (PyData × PyData) := (nubZ acc).map fun k => (.int k, .int ((acc.count k : Nat) : Int))
theorem lookI_c {f : Int → Nat} {x : Int} : ∀ {L : List Int}, lookI (L.map fun k => (PyData.int k, PyData.int (f k : Int))) x = if x ∈ L then some (.int (f x : Int)) else none
  | [] => rfl
  | k :: L => by
    have ih := lookI_c (f := f) (x := x) (L := L)
    rw [List.map_cons]
    unfold lookI
    show (if k = x then _ else _) = _
    by_cases c : k = x
    · subst c
      rw [if_pos rfl, if_pos (List.mem_cons_self ..)]
    · rw [if_neg c, ih]
      simp only [List.mem_cons, Ne.symm c, false_or]
theorem putI_c {f g : Int → Nat} {x : Int} (hx : ∀ k, k ≠ x → g k = f k) : ∀ {L : List Int}, L.Nodup → putI (L.map fun k => (PyData.int k, PyData.int (f k : Int))) x (.int (g x : Int)) = (addZ L x).map fun k => (PyData.int k, PyData.int (g k : Int))
  | [], _ => rfl
  | k :: L, hn => by
    obtain ⟨n1, n2⟩ := List.nodup_cons.mp hn
    have ih := putI_c (f := f) (g := g) hx n2
    rw [List.map_cons]
    unfold putI
    show (if some k = some x then _ else _) = _
    by_cases c : k = x
    · subst c
      have : addZ (k :: L) k = k :: L := if_pos (List.mem_cons_self ..)
      rw [if_pos rfl, this, List.map_cons]
      congr 1
      refine List.map_congr_left fun z hz => ?_
      rw [hx z fun e => n1 (e ▸ hz)]
    · have : addZ (k :: L) x = k :: addZ L x := by
        unfold addZ
        by_cases m : x ∈ L
        · rw [if_pos m, if_pos (List.mem_cons_of_mem _ m)]
        · rw [if_neg m, if_neg (by simp [Ne.symm c, m])]; rfl
      rw [if_neg (fun e => c (Option.some.inj e)), ih, this, List.map_cons, hx k c]
theorem lookD_C (acc : List Int) (x : Int) : lookD (encC acc) (.int x) = some (if x ∈ nubZ acc then some (.int ((acc.count x : Nat) : Int)) else none) := by
  have h := lookI_c (f := fun k => acc.count k) (x := x) (L := nubZ acc)
  rw [← h]
  unfold encC
  cases nubZ acc <;> rfl
theorem putD_C (acc : List Int) (x : Int) (hl : acc.length < 1000) : putD (encC acc) (.int x) (.int ((acc.count x : Nat) + 1 : Int)) = some (encC (acc ++ [x])) := by
  have h := putI_c (f := fun k => acc.count k) (g := fun k => (acc ++ [x]).count k) (x := x) (fun k hk => by
    show (acc ++ [x]).count k = acc.count k
    rw [List.count_append, List.count_singleton, if_neg (by simpa using Ne.symm hk)]; rfl) (nubZ_nd acc)
  have cx : (acc ++ [x]).count x = acc.count x + 1 := by rw [List.count_append, List.count_singleton_self]
  simp only [cx] at h
  rw [← nubZ_snoc] at h
  have e : ((acc.count x + 1 : Nat) : Int) = (acc.count x : Int) + 1 := by omega
  rw [e] at h
  have nl := nubZ_len acc
  unfold encC
  rw [← h]
  cases hq : nubZ acc with
  | nil => rfl
  | cons k L =>
    rw [hq, List.length_cons] at nl
    unfold putD
    simp only [List.map_cons]
    rw [if_neg (by simp [isMk, isFz]), if_pos (by rw [List.length_cons, List.length_map]; unfold big; omega)]
theorem ties_loop (n : Nat) : ∀ (xs acc : List Int), acc.length + xs.length ≤ 999 →
    loopF (gOne 2) l_ties_of_1 (xs.map .int) [.no, .od (encC acc), .no] n = some (.nx [.no, .od (encC (acc ++ xs)), .no] n)
  | [], acc, _ => by simp [loopF]
  | x :: xs, acc, hl => by
    rw [List.length_cons] at hl
    have ih := ties_loop n xs (acc ++ [x]) (by rw [List.length_append, List.length_singleton]; omega)
    have g : dGet3 (.dict (encC acc)) (.int x) (.int 0) = some (.d (.int ((acc.count x : Nat) : Int))) := by
      unfold dGet3
      simp only
      rw [lookD_C, Option.map_some]
      split
      · rfl
      · rename_i c
        have : acc.count x = 0 := List.count_eq_zero.mpr fun q => c (nubZ_mem.mpr q)
        rw [this]; rfl
    have p := putD_C acc x (by omega)
    rw [List.append_assoc] at ih
    rw [List.map_cons, loopF_cons]
    unfold l_ties_of_1 at ih ⊢
    simp -implicitDefEqProofs only [eVar_ap, dVar_ap, eC_ap, dOf_ap, eFrz_ap, eBin_ap, bTest_ap, bTru_ap, bAnd_ap, bOr_ap, bNot_ap, eIf_ap, eB_ap, eAnd_ap, eOr_ap, aNil_ap, aCons_ap, sNil_ap, sCons_ap, eTup_ap, eLst_ap, eCall_ap, eApp_ap, oNone_ap, oSome_ap, eSl_ap, sNil'_ap, sSeq_ap, sBrk_ap, sRet_ap, sRetN_ap, sRetO_ap, sDrop_ap, sIf_ap, sSet_ap, sApp_ap, sTown_ap, sExt_ap, sIns_ap, sSetIx_ap, sAsg_ap, sPar_ap, iOf_ap, iVal_ap, iRng1_ap, iRng2_ap, sFor_ap, eComp_ap, bYes_ap, frzAt_ap, eUn_ap, eNotD_ap, eOrD_ap, eChain_ap, eListRg1_ap, eIsa_ap, eMt_ap, iEnumV_ap, iEnumF_ap, iZipV_ap, iZipF_ap, eTLen_ap, iRng3D_ap, sEnd_ap, eSs_ap, sPar3_ap, xPop_ap, xTup1_ap, xCat_ap, sSetX_ap, sAppX_ap, sParO_ap, sForEI_ap, sForK_ap, eRep_ap, eDicK_ap, eDicT_ap, sPut_ap, eAlt_ap, sTry_ap, eGetD_ap, eLockI_ap, iKeyF_ap, sSetDef_ap, eTupVals_ap, sNst_ap, frzNAt_ap, sAppN_ap, sStN_ap, eListRg2_ap, eLam_ap, eCallP_ap, runB_ap, gOne_ap, gMany_ap, dI_ap, yesC_ap, dCmp_int, setD, kill_nx, kill_rt, kill_bk, Option.bind_some, Option.map_some, Option.bind_none, Option.map_none, List.getElem?_cons_zero, List.getElem?_cons_succ, List.set_cons_zero, List.set_cons_succ, List.cons_append, List.nil_append, List.append_nil, List.replicate, List.length_cons, List.length_nil, Nat.reduceAdd, Nat.reduceSub, Nat.zero_add, wdat_no, wdat_d, wdat_town, wdat_ol, wdat_od, wfrz_no, wfrz_d, wfrz_town, wfrz_ol, wfrz_od, wval_no, wval_d, wval_town, wval_ol, wval_od, warg_no, warg_d, warg_town, warg_ol, warg_od, vals, gLen, gAbs, gMax2, gMin2, gInt, gTup, gList, wipeW, if_true, if_false, Bool.false_eq_true, Bool.not_true, Bool.not_false, reduceCtorEq, g, dAdd_int, p]
    exact ih
theorem pairs_of_ok (c : Nat) (hc : c ≤ 1000000) (n : Nat) : m_pairs_of [.d (.int (c : Int))] n = some (.d (.int (tri c : Nat)), n) := by
  have m1 : mulC (c : Int) ((c : Int) - 1) = true := mulC_l (by omega) (by omega)
  have m2 : divC ((c : Int) * ((c : Int) - 1)) 2 = true := divC_ok (by decide) (by decide)
  unfold m_pairs_of b_pairs_of
  simp -implicitDefEqProofs only [eVar_ap, dVar_ap, eC_ap, dOf_ap, eFrz_ap, eBin_ap, bTest_ap, bTru_ap, bAnd_ap, bOr_ap, bNot_ap, eIf_ap, eB_ap, eAnd_ap, eOr_ap, aNil_ap, aCons_ap, sNil_ap, sCons_ap, eTup_ap, eLst_ap, eCall_ap, eApp_ap, oNone_ap, oSome_ap, eSl_ap, sNil'_ap, sSeq_ap, sBrk_ap, sRet_ap, sRetN_ap, sRetO_ap, sDrop_ap, sIf_ap, sSet_ap, sApp_ap, sTown_ap, sExt_ap, sIns_ap, sSetIx_ap, sAsg_ap, sPar_ap, iOf_ap, iVal_ap, iRng1_ap, iRng2_ap, sFor_ap, eComp_ap, bYes_ap, frzAt_ap, eUn_ap, eNotD_ap, eOrD_ap, eChain_ap, eListRg1_ap, eIsa_ap, eMt_ap, iEnumV_ap, iEnumF_ap, iZipV_ap, iZipF_ap, eTLen_ap, iRng3D_ap, sEnd_ap, eSs_ap, sPar3_ap, xPop_ap, xTup1_ap, xCat_ap, sSetX_ap, sAppX_ap, sParO_ap, sForEI_ap, sForK_ap, eRep_ap, eDicK_ap, eDicT_ap, sPut_ap, eAlt_ap, sTry_ap, eGetD_ap, eLockI_ap, iKeyF_ap, sSetDef_ap, eTupVals_ap, sNst_ap, frzNAt_ap, sAppN_ap, sStN_ap, eListRg2_ap, eLam_ap, eCallP_ap, runB_ap, gOne_ap, gMany_ap, dI_ap, yesC_ap, dCmp_int, setD, kill_nx, kill_rt, kill_bk, Option.bind_some, Option.map_some, Option.bind_none, Option.map_none, List.getElem?_cons_zero, List.getElem?_cons_succ, List.set_cons_zero, List.set_cons_succ, List.cons_append, List.nil_append, List.append_nil, List.replicate, List.length_cons, List.length_nil, Nat.reduceAdd, Nat.reduceSub, Nat.zero_add, wdat_no, wdat_d, wdat_town, wdat_ol, wdat_od, wfrz_no, wfrz_d, wfrz_town, wfrz_ol, wfrz_od, wval_no, wval_d, wval_town, wval_ol, wval_od, warg_no, warg_d, warg_town, warg_ol, warg_od, vals, gLen, gAbs, gMax2, gMin2, gInt, gTup, gList, wipeW, if_true, if_false, Bool.false_eq_true, Bool.not_true, Bool.not_false, reduceCtorEq, dSub_int, dMul, m1, dDiv, m2, tri_int]
/-- pairs not told apart -/
def tieR (r : Rw) : Nat := cP (fun s t => decide (wts r s = wts r t)) allT
theorem tie_frm (r : Rw) : cP (fun x y : Int => x == y) (frm r) = tieR r := by
  unfold frm tieR
  rw [cP_map]
  refine cP_congr fun s hs t ht => ?_
  rw [Bool.eq_iff_iff, beq_iff_eq, decide_eq_true_eq, wts_eq, ← rnk_eq r hs ht]
  omega
theorem frm_len (r : Rw) : (frm r).length = 216 := by unfold frm; rw [List.length_map, allT_len]
theorem sumN (L : List Nat) : (L.map fun (k : Nat) => (k : Int)).sum = (L.sum : Nat) := by
  induction L with
  | nil => rfl
  | cons g G ih => simp [ih]
theorem sum_lock (xs : List Int) (hl : xs.length ≤ 999) (n : Nat) : eLockI 1 (eApp gSum (sCons (dOf (eComp (iKeyF 1) (gOne 2) [2] bYes (eCall m_pairs_of (aCons (eBin dIxD (dVar 1) (dVar 2)) aNil)))) sNil)) [.no, .od (encC xs), .no] n = some (.d (.int (cP (fun x y : Int => x == y) xs : Nat)), n) := by
  have nl := nubZ_len xs
  have hm : hdM (encC xs) = false := by unfold encC; cases nubZ xs <;> rfl
  have hk : (encC xs).map (·.1) = (nubZ xs).map .int := by unfold encC; rw [List.map_map]; rfl
  have hb2 : ((nubZ xs).map PyData.int).length ≤ big := le_big (by rw [List.length_map]; omega)
  have c1 := comp_mapA (g := gOne 2) (own := [2]) (elt := eCall m_pairs_of (aCons (eBin dIxD (dVar 1) (dVar 2)) aNil)) (ρ := [.no, .od (markF :: encC xs), .no]) (n := n) PyData.int (fun k => .int (tri (xs.count k) : Nat)) (nubZ xs) fun k hk => by
    have d : dIxD (.dict (markF :: encC xs)) (.int k) = some (.d (.int ((xs.count k : Nat) : Int))) := by
      have l := lookI_c (f := fun k => xs.count k) (x := k) (L := nubZ xs)
      rw [if_pos hk] at l
      show (some (lookI (encC xs) k)).bind (fun r => r.map W.d) = _
      unfold encC
      rw [l]; rfl
    have cl : xs.count k ≤ 1000000 := Nat.le_trans List.count_le_length (by omega)
    exact ⟨_, rfl, by simp -implicitDefEqProofs only [eVar_ap, dVar_ap, eC_ap, dOf_ap, eFrz_ap, eBin_ap, bTest_ap, bTru_ap, bAnd_ap, bOr_ap, bNot_ap, eIf_ap, eB_ap, eAnd_ap, eOr_ap, aNil_ap, aCons_ap, sNil_ap, sCons_ap, eTup_ap, eLst_ap, eCall_ap, eApp_ap, oNone_ap, oSome_ap, eSl_ap, sNil'_ap, sSeq_ap, sBrk_ap, sRet_ap, sRetN_ap, sRetO_ap, sDrop_ap, sIf_ap, sSet_ap, sApp_ap, sTown_ap, sExt_ap, sIns_ap, sSetIx_ap, sAsg_ap, sPar_ap, iOf_ap, iVal_ap, iRng1_ap, iRng2_ap, sFor_ap, eComp_ap, bYes_ap, frzAt_ap, eUn_ap, eNotD_ap, eOrD_ap, eChain_ap, eListRg1_ap, eIsa_ap, eMt_ap, iEnumV_ap, iEnumF_ap, iZipV_ap, iZipF_ap, eTLen_ap, iRng3D_ap, sEnd_ap, eSs_ap, sPar3_ap, xPop_ap, xTup1_ap, xCat_ap, sSetX_ap, sAppX_ap, sParO_ap, sForEI_ap, sForK_ap, eRep_ap, eDicK_ap, eDicT_ap, sPut_ap, eAlt_ap, sTry_ap, eGetD_ap, eLockI_ap, iKeyF_ap, sSetDef_ap, eTupVals_ap, sNst_ap, frzNAt_ap, sAppN_ap, sStN_ap, eListRg2_ap, eLam_ap, eCallP_ap, runB_ap, gOne_ap, gMany_ap, dI_ap, yesC_ap, dCmp_int, setD, kill_nx, kill_rt, kill_bk, Option.bind_some, Option.map_some, Option.bind_none, Option.map_none, List.getElem?_cons_zero, List.getElem?_cons_succ, List.set_cons_zero, List.set_cons_succ, List.cons_append, List.nil_append, List.append_nil, List.replicate, List.length_cons, List.length_nil, Nat.reduceAdd, Nat.reduceSub, Nat.zero_add, wdat_no, wdat_d, wdat_town, wdat_ol, wdat_od, wfrz_no, wfrz_d, wfrz_town, wfrz_ol, wfrz_od, wval_no, wval_d, wval_town, wval_ol, wval_od, warg_no, warg_d, warg_town, warg_ol, warg_od, vals, gLen, gAbs, gMax2, gMin2, gInt, gTup, gList, wipeW, if_true, if_false, Bool.false_eq_true, Bool.not_true, Bool.not_false, reduceCtorEq, d, pairs_of_ok _ cl]⟩
  have gs : gSum [.list ((nubZ xs).map fun k => PyData.int (tri (xs.count k) : Nat))] = some (.d (.int (cP (fun x y : Int => x == y) xs : Nat))) := by
    have e1 : (nubZ xs).map (fun k => PyData.int (tri (xs.count k) : Nat)) = ((nubZ xs).map fun k => ((tri (xs.count k) : Nat) : Int)).map .int := by rw [List.map_map]; rfl
    rw [e1]
    simp only [gSum, intsOf_map, Option.map_some]
    have := sumN ((nubZ xs).map fun k => tri (xs.count k))
    rw [List.map_map, nub_sum _ _ rfl] at this
    rw [← this]; rfl
  have fz : isFz markF = true := rfl
  generalize encC xs = D at hm hk c1 ⊢
  generalize hL : (nubZ xs).map PyData.int = L at hk hb2 c1
  simp -implicitDefEqProofs only [eVar_ap, dVar_ap, eC_ap, dOf_ap, eFrz_ap, eBin_ap, bTest_ap, bTru_ap, bAnd_ap, bOr_ap, bNot_ap, eIf_ap, eB_ap, eAnd_ap, eOr_ap, aNil_ap, aCons_ap, sNil_ap, sCons_ap, eTup_ap, eLst_ap, eCall_ap, eApp_ap, oNone_ap, oSome_ap, eSl_ap, sNil'_ap, sSeq_ap, sBrk_ap, sRet_ap, sRetN_ap, sRetO_ap, sDrop_ap, sIf_ap, sSet_ap, sApp_ap, sTown_ap, sExt_ap, sIns_ap, sSetIx_ap, sAsg_ap, sPar_ap, iOf_ap, iVal_ap, iRng1_ap, iRng2_ap, sFor_ap, eComp_ap, bYes_ap, frzAt_ap, eUn_ap, eNotD_ap, eOrD_ap, eChain_ap, eListRg1_ap, eIsa_ap, eMt_ap, iEnumV_ap, iEnumF_ap, iZipV_ap, iZipF_ap, eTLen_ap, iRng3D_ap, sEnd_ap, eSs_ap, sPar3_ap, xPop_ap, xTup1_ap, xCat_ap, sSetX_ap, sAppX_ap, sParO_ap, sForEI_ap, sForK_ap, eRep_ap, eDicK_ap, eDicT_ap, sPut_ap, eAlt_ap, sTry_ap, eGetD_ap, eLockI_ap, iKeyF_ap, sSetDef_ap, eTupVals_ap, sNst_ap, frzNAt_ap, sAppN_ap, sStN_ap, eListRg2_ap, eLam_ap, eCallP_ap, runB_ap, gOne_ap, gMany_ap, dI_ap, yesC_ap, dCmp_int, setD, kill_nx, kill_rt, kill_bk, Option.bind_some, Option.map_some, Option.bind_none, Option.map_none, List.getElem?_cons_zero, List.getElem?_cons_succ, List.set_cons_zero, List.set_cons_succ, List.cons_append, List.nil_append, List.append_nil, List.replicate, List.length_cons, List.length_nil, Nat.reduceAdd, Nat.reduceSub, Nat.zero_add, wdat_no, wdat_d, wdat_town, wdat_ol, wdat_od, wfrz_no, wfrz_d, wfrz_town, wfrz_ol, wfrz_od, wval_no, wval_d, wval_town, wval_ol, wval_od, warg_no, warg_d, warg_town, warg_ol, warg_od, vals, gLen, gAbs, gMax2, gMin2, gInt, gTup, gList, wipeW, if_true, if_false, Bool.false_eq_true, Bool.not_true, Bool.not_false, reduceCtorEq, hm, fz, hk, hb2, c1, gs]
theorem ties_ok (r : Rw) (hr : Rw.ok r) (hl : r.length ≤ 1000000) (n : Nat) : m_ties_of [.d (rowD r)] n = some (.d (.int (tieR r : Nat)), n) := by
  have f := form_ok r hr hl n
  have fl := frm_len r
  have tf := tie_frm r
  generalize frm r = F at f fl tf
  have lp := ties_loop n F [] (by rw [fl]; simp)
  rw [List.nil_append] at lp
  have lp : loopF (gOne 2) l_ties_of_1 (F.map .int) [.no, .od [], .no] n = _ := lp
  have hb : (F.map PyData.int).length ≤ big := le_big (by rw [List.length_map]; omega)
  have e5 := sum_lock F (by omega) n
  rw [tf] at e5
  unfold m_ties_of b_ties_of
  generalize eLockI 1 (eApp gSum (sCons (dOf (eComp (iKeyF 1) (gOne 2) [2] bYes (eCall m_pairs_of (aCons (eBin dIxD (dVar 1) (dVar 2)) aNil)))) sNil)) = G at e5 ⊢
  simp -implicitDefEqProofs only [eVar_ap, dVar_ap, eC_ap, dOf_ap, eFrz_ap, eBin_ap, bTest_ap, bTru_ap, bAnd_ap, bOr_ap, bNot_ap, eIf_ap, eB_ap, eAnd_ap, eOr_ap, aNil_ap, aCons_ap, sNil_ap, sCons_ap, eTup_ap, eLst_ap, eCall_ap, eApp_ap, oNone_ap, oSome_ap, eSl_ap, sNil'_ap, sSeq_ap, sBrk_ap, sRet_ap, sRetN_ap, sRetO_ap, sDrop_ap, sIf_ap, sSet_ap, sApp_ap, sTown_ap, sExt_ap, sIns_ap, sSetIx_ap, sAsg_ap, sPar_ap, iOf_ap, iVal_ap, iRng1_ap, iRng2_ap, sFor_ap, eComp_ap, bYes_ap, frzAt_ap, eUn_ap, eNotD_ap, eOrD_ap, eChain_ap, eListRg1_ap, eIsa_ap, eMt_ap, iEnumV_ap, iEnumF_ap, iZipV_ap, iZipF_ap, eTLen_ap, iRng3D_ap, sEnd_ap, eSs_ap, sPar3_ap, xPop_ap, xTup1_ap, xCat_ap, sSetX_ap, sAppX_ap, sParO_ap, sForEI_ap, sForK_ap, eRep_ap, eDicK_ap, eDicT_ap, sPut_ap, eAlt_ap, sTry_ap, eGetD_ap, eLockI_ap, iKeyF_ap, sSetDef_ap, eTupVals_ap, sNst_ap, frzNAt_ap, sAppN_ap, sStN_ap, eListRg2_ap, eLam_ap, eCallP_ap, runB_ap, gOne_ap, gMany_ap, dI_ap, yesC_ap, dCmp_int, setD, kill_nx, kill_rt, kill_bk, Option.bind_some, Option.map_some, Option.bind_none, Option.map_none, List.getElem?_cons_zero, List.getElem?_cons_succ, List.set_cons_zero, List.set_cons_succ, List.cons_append, List.nil_append, List.append_nil, List.replicate, List.length_cons, List.length_nil, Nat.reduceAdd, Nat.reduceSub, Nat.zero_add, wdat_no, wdat_d, wdat_town, wdat_ol, wdat_od, wfrz_no, wfrz_d, wfrz_town, wfrz_ol, wfrz_od, wval_no, wval_d, wval_town, wval_ol, wval_od, warg_no, warg_d, warg_town, warg_ol, warg_od, vals, gLen, gAbs, gMax2, gMin2, gInt, gTup, gList, wipeW, if_true, if_false, Bool.false_eq_true, Bool.not_true, Bool.not_false, reduceCtorEq, f, iSeq, hb, lp, e5]
end L2.Lv.Sh
set_option maxHeartbeats 1000000
namespace L2.Lv.Sh
open PySem PySem.Spec PyProof.Rows L2 L2.Lv
/-! pairs that a key decides -/
/-! keys that are silent, or needless -/
/-! the same, pair by pair -/
end L2.Lv.Sh
set_option maxHeartbeats 1000000
namespace L2.Lv.Sh
open PySem PySem.Spec PyProof.Rows L2 L2.Lv
/-! what is short has no needless key -/
end L2.Lv.Sh
set_option maxHeartbeats 1000000
namespace L2.Lv.Sh
open PySem PySem.Spec PyProof.Rows L2 L2.Lv
/-! keys said again -/
/-! a silent key is needless -/
/-! the fewest -/
/-! choices, first by first -/
/-! tuples of places -/
end L2.Lv.Sh
set_option maxHeartbeats 1000000
namespace L2.Lv.Sh
open PySem PySem.Spec PyProof.Rows L2 L2.Lv
/-! pairs drawn, rising mostly -/
def Eq (ns : List Int) (m : Nat) (got : List NN) : List W := [Sc ns, .town, .d (.int (m : Int)), .od (markT :: encZ got), .no, .no, .no, .no]
/-! sorted(dict(..)) of what is sorted -/
end L2.Lv.Sh
set_option maxHeartbeats 1000000
namespace L2.Lv.Sh
open PySem PySem.Spec PyProof.Rows L2 L2.Lv
/-! orders: each keeps the pairs, they rise -/
/-! free ones and those that follow are all -/
end L2.Lv.Sh
namespace L2.Lv.Sh
open PySem PySem.Spec PyProof.Rows L2 L2.Lv
/-! rows found -/
def pk : List Ky := [.pl (.up 0), .pl (.up 1), .pl (.up 2), .dn (.up 0), .dn (.up 1), .dn (.up 2), .pl (.rest 0 2), .pl (.rest 1 2), .pl (.rest 2 2), .pl (.part 0 2), .pl (.part 1 2), .pl (.part 2 2), .pl (.sum 0 1), .pl (.sum 0 2), .pl (.sum 1 2)]
def neB (k k' : Ky) : Bool := !PyData.eqv k.d k'.d
def U : List Rw := pk.map (fun k => [k]) ++ pk.flatMap fun k => (pk.filter fun k' => neB k' k).map fun k' => [k, k']
/-! what a list agrees with -/
/-! rows of like orders: the first of each -/
end L2.Lv.Sh
namespace L2.Lv.Sh
open PySem PySem.Spec PyProof.Rows L2 L2.Lv
/-! tables by hand -/
end L2.Lv.Sh
namespace L2.Lv.Sh
open PySem PySem.Spec PyProof.Rows L2 L2.Lv
end L2.Lv.Sh
set_option maxHeartbeats 1000000
namespace L2.Lv.Sh
open PySem PySem.Spec PyProof.Rows L2 L2.Lv
/-! the first pair of things that a test tells of -/
def sg (a b : Int) : Int := (if b < a then 1 else 0) - (if a < b then 1 else 0)
theorem sign_ok (a b : Int) (n : Nat) : m_sign [.d (.int a), .d (.int b)] n = some (.d (.int (sg a b)), n) := by
  unfold m_sign b_sign sg
  simp -implicitDefEqProofs only [eVar_ap, dVar_ap, eC_ap, dOf_ap, eFrz_ap, eBin_ap, bTest_ap, bTru_ap, bAnd_ap, bOr_ap, bNot_ap, eIf_ap, eB_ap, eAnd_ap, eOr_ap, aNil_ap, aCons_ap, sNil_ap, sCons_ap, eTup_ap, eLst_ap, eCall_ap, eApp_ap, oNone_ap, oSome_ap, eSl_ap, sNil'_ap, sSeq_ap, sBrk_ap, sRet_ap, sRetN_ap, sRetO_ap, sDrop_ap, sIf_ap, sSet_ap, sApp_ap, sTown_ap, sExt_ap, sIns_ap, sSetIx_ap, sAsg_ap, sPar_ap, iOf_ap, iVal_ap, iRng1_ap, iRng2_ap, sFor_ap, eComp_ap, bYes_ap, frzAt_ap, eUn_ap, eNotD_ap, eOrD_ap, eChain_ap, eListRg1_ap, eIsa_ap, eMt_ap, iEnumV_ap, iEnumF_ap, iZipV_ap, iZipF_ap, eTLen_ap, iRng3D_ap, sEnd_ap, eSs_ap, sPar3_ap, xPop_ap, xTup1_ap, xCat_ap, sSetX_ap, sAppX_ap, sParO_ap, sForEI_ap, sForK_ap, eRep_ap, eDicK_ap, eDicT_ap, sPut_ap, eAlt_ap, sTry_ap, eGetD_ap, eLockI_ap, iKeyF_ap, sSetDef_ap, eTupVals_ap, sNst_ap, frzNAt_ap, sAppN_ap, sStN_ap, eListRg2_ap, eLam_ap, eCallP_ap, runB_ap, gOne_ap, gMany_ap, dI_ap, yesC_ap, dCmp_int, setD, kill_nx, kill_rt, kill_bk, Option.bind_some, Option.map_some, Option.bind_none, Option.map_none, List.getElem?_cons_zero, List.getElem?_cons_succ, List.set_cons_zero, List.set_cons_succ, List.cons_append, List.nil_append, List.append_nil, List.replicate, List.length_cons, List.length_nil, Nat.reduceAdd, Nat.reduceSub, Nat.zero_add, wdat_no, wdat_d, wdat_town, wdat_ol, wdat_od, wfrz_no, wfrz_d, wfrz_town, wfrz_ol, wfrz_od, wval_no, wval_d, wval_town, wval_ol, wval_od, warg_no, warg_d, warg_town, warg_ol, warg_od, vals, gLen, gAbs, gMax2, gMin2, gInt, gTup, gList, wipeW, if_true, if_false, Bool.false_eq_true, Bool.not_true, Bool.not_false, reduceCtorEq]
  unfold rGt rLt
  simp
def fndP (p : Nat → Nat → Bool) (N : Nat) : Option (Nat × Nat) :=
  (List.range N).findSome? fun i => (List.range (N - (i + 1))).findSome? fun k => if p i (i + 1 + k) then some (i, i + 1 + k) else none
def thD (i : Nat) : PyData := (allT.getD i (0, 0, 0)).d
def fpD : Option (Nat × Nat) → PyData
  | none => .none
  | some (i, j) => .tuple [thD i, thD j]
def fq (g : Int → Int → Bool) (r s : Rw) (i j : Nat) : Bool := g (sg ((frm r).getD i 0) ((frm r).getD j 0)) (sg ((frm s).getD i 0) ((frm s).getD j 0))
theorem ixFrm (r : Rw) (i : Nat) (h : i < 216) : dIx (ti (frm r)) (.int (i : Int)) = some (.d (.int ((frm r).getD i 0))) := by
  have hl := frm_len r
  rw [ixT _ _ (by omega) (by simp [hl]; omega)]
  simp [hl, h]
theorem ixAll (i : Nat) (h : i < 216) : dIx (.tuple (allT.map Th.d)) (.int (i : Int)) = some (.d (thD i)) := by
  have hl := allT_len
  rw [ixT _ _ (by omega) (by simp [hl]; omega)]
  simp [thD, hl, h]
theorem fnd_map {α β : Type} (f : α → β) : ∀ (p : Nat → Option α) (xs : List Nat), xs.findSome? (fun i => (p i).map f) = (xs.findSome? p).map f
  | p, [] => rfl
  | p, x :: xs => by
    rw [List.findSome?_cons, List.findSome?_cons, fnd_map f p xs]
    cases p x <;> rfl
theorem fndP_map {β : Type} (f : Nat × Nat → β) (p : Nat → Nat → Bool) (N : Nat) :
    (List.range N).findSome? (fun i => (List.range (N - (i + 1))).findSome? fun k => if p i (i + 1 + k) then some (f (i, i + 1 + k)) else none) = (fndP p N).map f := by
  unfold fndP
  rw [← fnd_map]
  have : (fun i => (List.range (N - (i + 1))).findSome? fun k => if p i (i + 1 + k) then some (f (i, i + 1 + k)) else none) = fun i => ((List.range (N - (i + 1))).findSome? fun k => if p i (i + 1 + k) then some (i, i + 1 + k) else none).map f := by
    funext i
    rw [← fnd_map]
    have : (fun k => if p i (i + 1 + k) then some (f (i, i + 1 + k)) else none) = fun k => (if p i (i + 1 + k) then some (i, i + 1 + k) else none).map f := by
      funext k
      split <;> rfl
    rw [this]
  rw [this]
section
variable (g : Int → Int → Bool) (r s : Rw) (n : Nat)
abbrev fpR (T A B : PyData) (w : W) : List W := [.no, .no, .fn g, .d T, .d A, .d B, w, .no]
theorem fp_inner (i : Nat) (hi : i < 216) (M : Nat) (hM : M = 216 - (i + 1)) : loopF (gOne 7) l_first_pair_2 (rangeD ((i : Int) + 1) M) (fpR g (.tuple (allT.map Th.d)) (ti (frm r)) (ti (frm s)) (.d (.int (i : Int)))) n =
      some (match (List.range M).findSome? fun k => if fq g r s i (i + 1 + k) then some (W.d (.tuple [thD i, thD (i + 1 + k)])) else none with
        | some w => .rt w n | none => .nx (fpR g (.tuple (allT.map Th.d)) (ti (frm r)) (ti (frm s)) (.d (.int (i : Int)))) n) := by
    refine loopF_find (fun k : Nat => .int ((i : Int) + 1 + (k : Int))) (fun k => if fq g r s i (i + 1 + k) then some (W.d (.tuple [thD i, thD (i + 1 + k)])) else none) (List.range M) fun k hk => ⟨_, rfl, ?_⟩
    have hk : k < M := List.mem_range.mp hk
    have e : (i : Int) + 1 + (k : Int) = ((i + 1 + k : Nat) : Int) := by omega
    have x1 := ixFrm r i hi
    have x2 := ixFrm r (i + 1 + k) (by omega)
    have y1 := ixFrm s i hi
    have y2 := ixFrm s (i + 1 + k) (by omega)
    have z1 := ixAll i hi
    have z2 := ixAll (i + 1 + k) (by omega)
    have s1 := sign_ok ((frm r).getD i 0) ((frm r).getD (i + 1 + k) 0) n
    have s2 := sign_ok ((frm s).getD i 0) ((frm s).getD (i + 1 + k) 0) n
    unfold l_first_pair_2
    rw [e]
    cases hq : fq g r s i (i + 1 + k) with
    | true =>
      unfold fq at hq
      simp -implicitDefEqProofs only [eVar_ap, dVar_ap, eC_ap, dOf_ap, eFrz_ap, eBin_ap, bTest_ap, bTru_ap, bAnd_ap, bOr_ap, bNot_ap, eIf_ap, eB_ap, eAnd_ap, eOr_ap, aNil_ap, aCons_ap, sNil_ap, sCons_ap, eTup_ap, eLst_ap, eCall_ap, eApp_ap, oNone_ap, oSome_ap, eSl_ap, sNil'_ap, sSeq_ap, sBrk_ap, sRet_ap, sRetN_ap, sRetO_ap, sDrop_ap, sIf_ap, sSet_ap, sApp_ap, sTown_ap, sExt_ap, sIns_ap, sSetIx_ap, sAsg_ap, sPar_ap, iOf_ap, iVal_ap, iRng1_ap, iRng2_ap, sFor_ap, eComp_ap, bYes_ap, frzAt_ap, eUn_ap, eNotD_ap, eOrD_ap, eChain_ap, eListRg1_ap, eIsa_ap, eMt_ap, iEnumV_ap, iEnumF_ap, iZipV_ap, iZipF_ap, eTLen_ap, iRng3D_ap, sEnd_ap, eSs_ap, sPar3_ap, xPop_ap, xTup1_ap, xCat_ap, sSetX_ap, sAppX_ap, sParO_ap, sForEI_ap, sForK_ap, eRep_ap, eDicK_ap, eDicT_ap, sPut_ap, eAlt_ap, sTry_ap, eGetD_ap, eLockI_ap, iKeyF_ap, sSetDef_ap, eTupVals_ap, sNst_ap, frzNAt_ap, sAppN_ap, sStN_ap, eListRg2_ap, eLam_ap, eCallP_ap, runB_ap, gOne_ap, gMany_ap, dI_ap, yesC_ap, dCmp_int, setD, kill_nx, kill_rt, kill_bk, Option.bind_some, Option.map_some, Option.bind_none, Option.map_none, List.getElem?_cons_zero, List.getElem?_cons_succ, List.set_cons_zero, List.set_cons_succ, List.cons_append, List.nil_append, List.append_nil, List.replicate, List.length_cons, List.length_nil, Nat.reduceAdd, Nat.reduceSub, Nat.zero_add, wdat_no, wdat_d, wdat_town, wdat_ol, wdat_od, wfrz_no, wfrz_d, wfrz_town, wfrz_ol, wfrz_od, wval_no, wval_d, wval_town, wval_ol, wval_od, warg_no, warg_d, warg_town, warg_ol, warg_od, vals, gLen, gAbs, gMax2, gMin2, gInt, gTup, gList, wipeW, if_true, if_false, Bool.false_eq_true, Bool.not_true, Bool.not_false, reduceCtorEq, x1, x2, y1, y2, z1, z2, s1, s2, hq] <;> rfl
    | false =>
      unfold fq at hq
      simp -implicitDefEqProofs only [eVar_ap, dVar_ap, eC_ap, dOf_ap, eFrz_ap, eBin_ap, bTest_ap, bTru_ap, bAnd_ap, bOr_ap, bNot_ap, eIf_ap, eB_ap, eAnd_ap, eOr_ap, aNil_ap, aCons_ap, sNil_ap, sCons_ap, eTup_ap, eLst_ap, eCall_ap, eApp_ap, oNone_ap, oSome_ap, eSl_ap, sNil'_ap, sSeq_ap, sBrk_ap, sRet_ap, sRetN_ap, sRetO_ap, sDrop_ap, sIf_ap, sSet_ap, sApp_ap, sTown_ap, sExt_ap, sIns_ap, sSetIx_ap, sAsg_ap, sPar_ap, iOf_ap, iVal_ap, iRng1_ap, iRng2_ap, sFor_ap, eComp_ap, bYes_ap, frzAt_ap, eUn_ap, eNotD_ap, eOrD_ap, eChain_ap, eListRg1_ap, eIsa_ap, eMt_ap, iEnumV_ap, iEnumF_ap, iZipV_ap, iZipF_ap, eTLen_ap, iRng3D_ap, sEnd_ap, eSs_ap, sPar3_ap, xPop_ap, xTup1_ap, xCat_ap, sSetX_ap, sAppX_ap, sParO_ap, sForEI_ap, sForK_ap, eRep_ap, eDicK_ap, eDicT_ap, sPut_ap, eAlt_ap, sTry_ap, eGetD_ap, eLockI_ap, iKeyF_ap, sSetDef_ap, eTupVals_ap, sNst_ap, frzNAt_ap, sAppN_ap, sStN_ap, eListRg2_ap, eLam_ap, eCallP_ap, runB_ap, gOne_ap, gMany_ap, dI_ap, yesC_ap, dCmp_int, setD, kill_nx, kill_rt, kill_bk, Option.bind_some, Option.map_some, Option.bind_none, Option.map_none, List.getElem?_cons_zero, List.getElem?_cons_succ, List.set_cons_zero, List.set_cons_succ, List.cons_append, List.nil_append, List.append_nil, List.replicate, List.length_cons, List.length_nil, Nat.reduceAdd, Nat.reduceSub, Nat.zero_add, wdat_no, wdat_d, wdat_town, wdat_ol, wdat_od, wfrz_no, wfrz_d, wfrz_town, wfrz_ol, wfrz_od, wval_no, wval_d, wval_town, wval_ol, wval_od, warg_no, warg_d, warg_town, warg_ol, warg_od, vals, gLen, gAbs, gMax2, gMin2, gInt, gTup, gList, wipeW, if_true, if_false, Bool.false_eq_true, Bool.not_true, Bool.not_false, reduceCtorEq, x1, x2, y1, y2, z1, z2, s1, s2, hq] <;> rfl
theorem lenAll : (((allT.map Th.d).length : Nat) : Int) = 216 := by rw [List.length_map, allT_len]; rfl
theorem fp_outer (M : Nat) (hM : M = 216) : loopF (gOne 6) l_first_pair_1 (rangeD 0 M) (fpR g (.tuple (allT.map Th.d)) (ti (frm r)) (ti (frm s)) .no) n =
    some (match (fndP (fq g r s) M).map fun p => W.d (.tuple [thD p.1, thD p.2]) with | some w => .rt w n | none => .nx (fpR g (.tuple (allT.map Th.d)) (ti (frm r)) (ti (frm s)) .no) n) := by
  rw [← fndP_map]
  refine loopF_find (g := gOne 6) (body := l_first_pair_1) (n := n) (fun i : Nat => .int (0 + (i : Int)))
    (fun i => (List.range (M - (i + 1))).findSome? fun k => if fq g r s i (i + 1 + k) then some (W.d (.tuple [thD i, thD (i + 1 + k)])) else none) (List.range M) (fun i hi => ⟨_, rfl, ?_⟩)
  have hi : i < 216 := by rw [← hM]; exact List.mem_range.mp hi
  have e := fp_inner g r s n i hi (M - (i + 1)) (by rw [hM])
  have e2 : rng2 (.int ((i : Int) + 1)) (.int 216) = some (rangeD ((i : Int) + 1) (M - (i + 1))) := by
    have e3 : ((216 : Int) - ((i : Int) + 1)).toNat = M - (i + 1) := by omega
    rw [rng2_any (by omega) (by omega) (by omega) (by omega), e3]
  have l := lenAll
  have z : (0 : Int) + (i : Int) = (i : Int) := by omega
  have a1 : dAdd (.int (i : Int)) (.int 1) = some (.d (.int ((i : Int) + 1))) := rfl
  unfold l_first_pair_1
  rw [z]
  generalize (allT.map Th.d) = TT at *
  generalize hf : ((List.range (M - (i + 1))).findSome? fun k => if fq g r s i (i + 1 + k) then some (W.d (.tuple [thD i, thD (i + 1 + k)])) else none) = F at *
  cases F with
  | some w => simp -implicitDefEqProofs only [eVar_ap, dVar_ap, eC_ap, dOf_ap, eFrz_ap, eBin_ap, bTest_ap, bTru_ap, bAnd_ap, bOr_ap, bNot_ap, eIf_ap, eB_ap, eAnd_ap, eOr_ap, aNil_ap, aCons_ap, sNil_ap, sCons_ap, eTup_ap, eLst_ap, eCall_ap, eApp_ap, oNone_ap, oSome_ap, eSl_ap, sNil'_ap, sSeq_ap, sBrk_ap, sRet_ap, sRetN_ap, sRetO_ap, sDrop_ap, sIf_ap, sSet_ap, sApp_ap, sTown_ap, sExt_ap, sIns_ap, sSetIx_ap, sAsg_ap, sPar_ap, iOf_ap, iVal_ap, iRng1_ap, iRng2_ap, sFor_ap, eComp_ap, bYes_ap, frzAt_ap, eUn_ap, eNotD_ap, eOrD_ap, eChain_ap, eListRg1_ap, eIsa_ap, eMt_ap, iEnumV_ap, iEnumF_ap, iZipV_ap, iZipF_ap, eTLen_ap, iRng3D_ap, sEnd_ap, eSs_ap, sPar3_ap, xPop_ap, xTup1_ap, xCat_ap, sSetX_ap, sAppX_ap, sParO_ap, sForEI_ap, sForK_ap, eRep_ap, eDicK_ap, eDicT_ap, sPut_ap, eAlt_ap, sTry_ap, eGetD_ap, eLockI_ap, iKeyF_ap, sSetDef_ap, eTupVals_ap, sNst_ap, frzNAt_ap, sAppN_ap, sStN_ap, eListRg2_ap, eLam_ap, eCallP_ap, runB_ap, gOne_ap, gMany_ap, dI_ap, yesC_ap, dCmp_int, setD, kill_nx, kill_rt, kill_bk, Option.bind_some, Option.map_some, Option.bind_none, Option.map_none, List.getElem?_cons_zero, List.getElem?_cons_succ, List.set_cons_zero, List.set_cons_succ, List.cons_append, List.nil_append, List.append_nil, List.replicate, List.length_cons, List.length_nil, Nat.reduceAdd, Nat.reduceSub, Nat.zero_add, wdat_no, wdat_d, wdat_town, wdat_ol, wdat_od, wfrz_no, wfrz_d, wfrz_town, wfrz_ol, wfrz_od, wval_no, wval_d, wval_town, wval_ol, wval_od, warg_no, warg_d, warg_town, warg_ol, warg_od, vals, gLen, gAbs, gMax2, gMin2, gInt, gTup, gList, wipeW, if_true, if_false, Bool.false_eq_true, Bool.not_true, Bool.not_false, reduceCtorEq, l, e2, e, a1] <;> rfl
  | none => simp -implicitDefEqProofs only [eVar_ap, dVar_ap, eC_ap, dOf_ap, eFrz_ap, eBin_ap, bTest_ap, bTru_ap, bAnd_ap, bOr_ap, bNot_ap, eIf_ap, eB_ap, eAnd_ap, eOr_ap, aNil_ap, aCons_ap, sNil_ap, sCons_ap, eTup_ap, eLst_ap, eCall_ap, eApp_ap, oNone_ap, oSome_ap, eSl_ap, sNil'_ap, sSeq_ap, sBrk_ap, sRet_ap, sRetN_ap, sRetO_ap, sDrop_ap, sIf_ap, sSet_ap, sApp_ap, sTown_ap, sExt_ap, sIns_ap, sSetIx_ap, sAsg_ap, sPar_ap, iOf_ap, iVal_ap, iRng1_ap, iRng2_ap, sFor_ap, eComp_ap, bYes_ap, frzAt_ap, eUn_ap, eNotD_ap, eOrD_ap, eChain_ap, eListRg1_ap, eIsa_ap, eMt_ap, iEnumV_ap, iEnumF_ap, iZipV_ap, iZipF_ap, eTLen_ap, iRng3D_ap, sEnd_ap, eSs_ap, sPar3_ap, xPop_ap, xTup1_ap, xCat_ap, sSetX_ap, sAppX_ap, sParO_ap, sForEI_ap, sForK_ap, eRep_ap, eDicK_ap, eDicT_ap, sPut_ap, eAlt_ap, sTry_ap, eGetD_ap, eLockI_ap, iKeyF_ap, sSetDef_ap, eTupVals_ap, sNst_ap, frzNAt_ap, sAppN_ap, sStN_ap, eListRg2_ap, eLam_ap, eCallP_ap, runB_ap, gOne_ap, gMany_ap, dI_ap, yesC_ap, dCmp_int, setD, kill_nx, kill_rt, kill_bk, Option.bind_some, Option.map_some, Option.bind_none, Option.map_none, List.getElem?_cons_zero, List.getElem?_cons_succ, List.set_cons_zero, List.set_cons_succ, List.cons_append, List.nil_append, List.append_nil, List.replicate, List.length_cons, List.length_nil, Nat.reduceAdd, Nat.reduceSub, Nat.zero_add, wdat_no, wdat_d, wdat_town, wdat_ol, wdat_od, wfrz_no, wfrz_d, wfrz_town, wfrz_ol, wfrz_od, wval_no, wval_d, wval_town, wval_ol, wval_od, warg_no, warg_d, warg_town, warg_ol, warg_od, vals, gLen, gAbs, gMax2, gMin2, gInt, gTup, gList, wipeW, if_true, if_false, Bool.false_eq_true, Bool.not_true, Bool.not_false, reduceCtorEq, l, e2, e, a1] <;> rfl
theorem first_pair_ok (hr : Rw.ok r) (hl : r.length ≤ 1000000) (hs : Rw.ok s) (hl2 : s.length ≤ 1000000) :
    m_first_pair [.d (rowD r), .d (rowD s), .fn g] n = some (.d (fpD (fndP (fq g r s) 216)), n) := by
  have a := all_things_ok n
  have f1 := form_ok r hr hl n
  have f2 := form_ok s hs hl2 n
  have lA := lenAll
  have e1 : rng1 (.int 216) = some (rangeD 0 216) := rng1_ok (by decide) (by decide)
  have o := fp_outer g r s n 216 rfl
  unfold m_first_pair b_first_pair
  generalize hM : rangeD 0 216 = RR at *
  generalize (allT.map Th.d) = TT at *
  generalize fndP (fq g r s) 216 = F at *
  cases F with
  | none => simp -implicitDefEqProofs only [eVar_ap, dVar_ap, eC_ap, dOf_ap, eFrz_ap, eBin_ap, bTest_ap, bTru_ap, bAnd_ap, bOr_ap, bNot_ap, eIf_ap, eB_ap, eAnd_ap, eOr_ap, aNil_ap, aCons_ap, sNil_ap, sCons_ap, eTup_ap, eLst_ap, eCall_ap, eApp_ap, oNone_ap, oSome_ap, eSl_ap, sNil'_ap, sSeq_ap, sBrk_ap, sRet_ap, sRetN_ap, sRetO_ap, sDrop_ap, sIf_ap, sSet_ap, sApp_ap, sTown_ap, sExt_ap, sIns_ap, sSetIx_ap, sAsg_ap, sPar_ap, iOf_ap, iVal_ap, iRng1_ap, iRng2_ap, sFor_ap, eComp_ap, bYes_ap, frzAt_ap, eUn_ap, eNotD_ap, eOrD_ap, eChain_ap, eListRg1_ap, eIsa_ap, eMt_ap, iEnumV_ap, iEnumF_ap, iZipV_ap, iZipF_ap, eTLen_ap, iRng3D_ap, sEnd_ap, eSs_ap, sPar3_ap, xPop_ap, xTup1_ap, xCat_ap, sSetX_ap, sAppX_ap, sParO_ap, sForEI_ap, sForK_ap, eRep_ap, eDicK_ap, eDicT_ap, sPut_ap, eAlt_ap, sTry_ap, eGetD_ap, eLockI_ap, iKeyF_ap, sSetDef_ap, eTupVals_ap, sNst_ap, frzNAt_ap, sAppN_ap, sStN_ap, eListRg2_ap, eLam_ap, eCallP_ap, runB_ap, gOne_ap, gMany_ap, dI_ap, yesC_ap, dCmp_int, setD, kill_nx, kill_rt, kill_bk, Option.bind_some, Option.map_some, Option.bind_none, Option.map_none, List.getElem?_cons_zero, List.getElem?_cons_succ, List.set_cons_zero, List.set_cons_succ, List.cons_append, List.nil_append, List.append_nil, List.replicate, List.length_cons, List.length_nil, Nat.reduceAdd, Nat.reduceSub, Nat.zero_add, wdat_no, wdat_d, wdat_town, wdat_ol, wdat_od, wfrz_no, wfrz_d, wfrz_town, wfrz_ol, wfrz_od, wval_no, wval_d, wval_town, wval_ol, wval_od, warg_no, warg_d, warg_town, warg_ol, warg_od, vals, gLen, gAbs, gMax2, gMin2, gInt, gTup, gList, wipeW, if_true, if_false, Bool.false_eq_true, Bool.not_true, Bool.not_false, reduceCtorEq, a, f1, f2, lA, e1, o] <;> rfl
  | some p => simp -implicitDefEqProofs only [eVar_ap, dVar_ap, eC_ap, dOf_ap, eFrz_ap, eBin_ap, bTest_ap, bTru_ap, bAnd_ap, bOr_ap, bNot_ap, eIf_ap, eB_ap, eAnd_ap, eOr_ap, aNil_ap, aCons_ap, sNil_ap, sCons_ap, eTup_ap, eLst_ap, eCall_ap, eApp_ap, oNone_ap, oSome_ap, eSl_ap, sNil'_ap, sSeq_ap, sBrk_ap, sRet_ap, sRetN_ap, sRetO_ap, sDrop_ap, sIf_ap, sSet_ap, sApp_ap, sTown_ap, sExt_ap, sIns_ap, sSetIx_ap, sAsg_ap, sPar_ap, iOf_ap, iVal_ap, iRng1_ap, iRng2_ap, sFor_ap, eComp_ap, bYes_ap, frzAt_ap, eUn_ap, eNotD_ap, eOrD_ap, eChain_ap, eListRg1_ap, eIsa_ap, eMt_ap, iEnumV_ap, iEnumF_ap, iZipV_ap, iZipF_ap, eTLen_ap, iRng3D_ap, sEnd_ap, eSs_ap, sPar3_ap, xPop_ap, xTup1_ap, xCat_ap, sSetX_ap, sAppX_ap, sParO_ap, sForEI_ap, sForK_ap, eRep_ap, eDicK_ap, eDicT_ap, sPut_ap, eAlt_ap, sTry_ap, eGetD_ap, eLockI_ap, iKeyF_ap, sSetDef_ap, eTupVals_ap, sNst_ap, frzNAt_ap, sAppN_ap, sStN_ap, eListRg2_ap, eLam_ap, eCallP_ap, runB_ap, gOne_ap, gMany_ap, dI_ap, yesC_ap, dCmp_int, setD, kill_nx, kill_rt, kill_bk, Option.bind_some, Option.map_some, Option.bind_none, Option.map_none, List.getElem?_cons_zero, List.getElem?_cons_succ, List.set_cons_zero, List.set_cons_succ, List.cons_append, List.nil_append, List.append_nil, List.replicate, List.length_cons, List.length_nil, Nat.reduceAdd, Nat.reduceSub, Nat.zero_add, wdat_no, wdat_d, wdat_town, wdat_ol, wdat_od, wfrz_no, wfrz_d, wfrz_town, wfrz_ol, wfrz_od, wval_no, wval_d, wval_town, wval_ol, wval_od, warg_no, warg_d, warg_town, warg_ol, warg_od, vals, gLen, gAbs, gMax2, gMin2, gInt, gTup, gList, wipeW, if_true, if_false, Bool.false_eq_true, Bool.not_true, Bool.not_false, reduceCtorEq, a, f1, f2, lA, e1, o] <;> rfl
end
end L2.Lv.Sh
set_option maxHeartbeats 1000000
namespace L2.Lv.Sh
open PySem PySem.Spec PyProof.Rows L2 L2.Lv
/-! classes: how many ranks there are -/
theorem getD_in {α : Type} {l : List α} {i : Nat} {d : α} (h : i < l.length) : l.getD i d = l[i] := by simp [List.getD, h]
theorem ddup_le : ∀ xs : List (List Int), (ddup xs).length ≤ xs.length
  | [] => Nat.le_refl _
  | x :: xs => by
    have := ddup_le xs
    unfold ddup
    split <;> simp <;> omega
theorem ddup_full : ∀ xs : List (List Int), (ddup xs).length = xs.length ↔ xs.Nodup
  | [] => ⟨fun _ => List.nodup_nil, fun _ => rfl⟩
  | x :: xs => by
    have l := ddup_le xs
    have ih := ddup_full xs
    unfold ddup
    rw [List.nodup_cons]
    split
    · rename_i c
      constructor
      · intro h; rw [List.length_cons] at h; omega
      · intro h; exact absurd c h.1
    · rename_i c
      rw [List.length_cons, List.length_cons]
      constructor
      · intro h; exact ⟨c, ih.mp (by omega)⟩
      · intro h; rw [ih.mpr h.2]
def cl (r : Rw) : Nat := (sK r).length
def tha (i : Nat) : Th := allT.getD i (0, 0, 0)
theorem tha_mem {i : Nat} (h : i < 216) : tha i ∈ allT := by
  have hl := allT_len
  unfold tha
  rw [getD_in (by omega)]
  exact List.getElem_mem _
theorem allT_nd : allT.Nodup := by decide +kernel
theorem tha_inj {i j : Nat} (hi : i < 216) (hj : j < 216) (e : tha i = tha j) : i = j := by
  have hl := allT_len
  unfold tha at e
  rw [getD_in (by omega), getD_in (by omega)] at e
  exact (List.getElem_inj allT_nd).mp e
theorem tha_of {t : Th} (h : t ∈ allT) : ∃ i, i < 216 ∧ tha i = t := by
  obtain ⟨i, hi, e⟩ := List.getElem_of_mem h
  have hl := allT_len
  refine ⟨i, by omega, ?_⟩
  unfold tha
  rw [getD_in hi, e]
theorem frm_at (r : Rw) {i : Nat} (h : i < 216) : (frm r).getD i 0 = (rnk r (tha i) : Int) := by
  have hl := allT_len
  unfold frm tha
  rw [getD_in (by rw [List.length_map]; omega), List.getElem_map, getD_in (by omega)]
theorem rnk_cl (r : Rw) {t : Th} (h : t ∈ allT) : rnk r t < cl r := List.idxOf_lt_length_of_mem (ev_in h)
theorem rnk_onto (r : Rw) {j : Nat} (h : j < cl r) : ∃ t ∈ allT, rnk r t = j := by
  obtain ⟨s, hs, e⟩ := List.mem_map.mp (sK_mem.mp (List.getElem_mem (h : j < (sK r).length)))
  refine ⟨s, hs, ?_⟩
  unfold rnk
  rw [e]
  exact (sK_nd r).idxOf_getElem j h
theorem cl_pos (r : Rw) : 0 < cl r := Nat.lt_of_le_of_lt (Nat.zero_le _) (rnk_cl r (tha_mem (i := 0) (by decide)))
theorem sg_rnk (r : Rw) {s t : Th} (hs : s ∈ allT) (ht : t ∈ allT) : sg (rnk r s : Int) (rnk r t : Int) = wrd r s t := by
  have h1 := rnk_lt r hs ht
  have h2 := rnk_lt r ht hs
  have h3 := rnk_eq r hs ht
  rw [wrd_anti] at h2
  have c := wrd_3 r s t
  unfold sg
  split <;> split <;> omega
theorem fq_wrd (g : Int → Int → Bool) (r s : Rw) {i j : Nat} (hi : i < 216) (hj : j < 216) : fq g r s i j = g (wrd r (tha i) (tha j)) (wrd s (tha i) (tha j)) := by
  unfold fq
  rw [frm_at r hi, frm_at r hj, frm_at s hi, frm_at s hj, sg_rnk r (tha_mem hi) (tha_mem hj), sg_rnk s (tha_mem hi) (tha_mem hj)]
/-- the first pair, told by what it is -/
theorem fndP_some {p : Nat → Nat → Bool} {N i j : Nat} (h : fndP p N = some (i, j)) : i < j ∧ j < N ∧ p i j = true ∧ (∀ i' j', i' < j' → j' < N → i' < i → p i' j' = false) ∧ ∀ j', i < j' → j' < j → p i j' = false := by
  unfold fndP at h
  obtain ⟨l1, a, l2, e, h1, h2⟩ := List.findSome?_eq_some_iff.mp h
  obtain ⟨m1, b, m2, f, g1, g2⟩ := List.findSome?_eq_some_iff.mp h1
  have hp : p a (a + 1 + b) = true := by
    by_cases c : p a (a + 1 + b) = true
    · exact c
    · rw [if_neg c] at g1; cases g1
  rw [if_pos hp] at g1
  obtain ⟨e1, e2⟩ := Prod.mk.inj (Option.some.inj g1)
  have ha := List.getElem?_append_right (l₁ := l1) (l₂ := a :: l2) (Nat.le_refl _)
  rw [← e, Nat.sub_self] at ha
  have la : l1.length = a ∧ a < N := by
    by_cases c : l1.length < N
    · rw [List.getElem?_range c] at ha
      have := Option.some.inj ha
      exact ⟨this, by omega⟩
    · rw [List.getElem?_eq_none (by rw [List.length_range]; omega)] at ha; cases ha
  have hb := List.getElem?_append_right (l₁ := m1) (l₂ := b :: m2) (Nat.le_refl _)
  rw [← f, Nat.sub_self] at hb
  have lb : m1.length = b ∧ b < N - (a + 1) := by
    by_cases c : m1.length < N - (a + 1)
    · rw [List.getElem?_range c] at hb
      have := Option.some.inj hb
      exact ⟨this, by omega⟩
    · rw [List.getElem?_eq_none (by rw [List.length_range]; omega)] at hb; cases hb
  have in1 : ∀ i', i' < a → i' ∈ l1 := fun i' hi => by
    have q := List.getElem?_append_left (l₁ := l1) (l₂ := a :: l2) (i := i') (by omega)
    rw [← e, List.getElem?_range (by omega)] at q
    exact List.mem_of_getElem? q.symm
  have in2 : ∀ i', i' < b → i' ∈ m1 := fun i' hi => by
    have q := List.getElem?_append_left (l₁ := m1) (l₂ := b :: m2) (i := i') (by omega)
    rw [← f, List.getElem?_range (by omega)] at q
    exact List.mem_of_getElem? q.symm
  subst e1
  subst e2
  refine ⟨by omega, by omega, hp, fun i' j' h1 h3 h4 => ?_, fun j' h1 h3 => ?_⟩
  · have q := h2 i' (in1 i' h4)
    rw [List.findSome?_eq_none_iff] at q
    have q2 := q (j' - (i' + 1)) (List.mem_range.mpr (by omega))
    rw [show i' + 1 + (j' - (i' + 1)) = j' by omega] at q2
    by_cases c : p i' j' = true
    · rw [if_pos c] at q2; cases q2
    · exact Bool.eq_false_iff.mpr c
  · have q2 := g2 (j' - (a + 1)) (in2 _ (by omega))
    rw [show a + 1 + (j' - (a + 1)) = j' by omega] at q2
    by_cases c : p a j' = true
    · rw [if_pos c] at q2; cases q2
    · exact Bool.eq_false_iff.mpr c
theorem fndP_none {p : Nat → Nat → Bool} {N : Nat} (h : fndP p N = none) : ∀ i j, i < j → j < N → p i j = false := fun i j h1 h2 => by
  unfold fndP at h
  rw [List.findSome?_eq_none_iff] at h
  have q := h i (List.mem_range.mpr (by omega))
  rw [List.findSome?_eq_none_iff] at q
  have q2 := q (j - (i + 1)) (List.mem_range.mpr (by omega))
  rw [show i + 1 + (j - (i + 1)) = j by omega] at q2
  by_cases c : p i j = true
  · rw [if_pos c] at q2; cases q2
  · exact Bool.eq_false_iff.mpr c
/-! all in order: no two things are alike -/
theorem inj_cl {r : Rw} : cl r = 216 ↔ ∀ s ∈ allT, ∀ t ∈ allT, wrd r s t = 0 → s = t := by
  have hm : cl r = (ddup (evK r)).length := (sortI_perm _).length_eq
  constructor
  · intro h s hs t ht e
    have hn : (evK r).Nodup := by
      have hlen : (evK r).length = 216 := by unfold evK; rw [List.length_map, allT_len]
      exact (ddup_full _).mp (by rw [hlen, ← hm]; exact h)
    have inj : ∀ (l : List Th), (l.map (wts r)).Nodup → ∀ s ∈ l, ∀ t ∈ l, wts r s = wts r t → s = t := by
      intro l
      induction l with
      | nil => intro _ s hs; cases hs
      | cons x l ih =>
        intro hn s hs t ht e
        rw [List.map_cons, List.nodup_cons] at hn
        rcases List.mem_cons.mp hs with h1 | hs <;> rcases List.mem_cons.mp ht with h2 | ht
        · rw [h1, h2]
        · exact absurd (List.mem_map.mpr ⟨t, ht, by rw [← e, h1]⟩) hn.1
        · exact absurd (List.mem_map.mpr ⟨s, hs, by rw [e, h2]⟩) hn.1
        · exact ih hn.2 s hs t ht e
    exact inj allT hn s hs t ht ((wts_eq r s t).mpr e)
  · intro h
    have hn : (evK r).Nodup := by
      unfold evK
      have go : ∀ l : List Th, l.Nodup → (∀ s ∈ l, ∀ t ∈ l, wrd r s t = 0 → s = t) → (l.map (wts r)).Nodup := by
        intro l
        induction l with
        | nil => intro _ _; exact List.nodup_nil
        | cons x l ih =>
          intro hn h
          rw [List.nodup_cons] at hn
          rw [List.map_cons, List.nodup_cons]
          refine ⟨fun z => ?_, ih hn.2 fun s hs t ht => h s (List.mem_cons_of_mem _ hs) t (List.mem_cons_of_mem _ ht)⟩
          obtain ⟨y, hy, e⟩ := List.mem_map.mp z
          have := h y (List.mem_cons_of_mem _ hy) x (List.mem_cons_self ..) ((wts_eq r y x).mp e)
          exact hn.1 (this ▸ hy)
      exact go allT allT_nd h
    have hlen : (evK r).length = 216 := by unfold evK; rw [List.length_map, allT_len]
    rw [hm, (ddup_full _).mpr hn]; exact hlen
/-- a rank by what it is -/
theorem rank_uniq {r : Rw} {f : Th → Nat} (h1 : ∀ s ∈ allT, ∀ t ∈ allT, f s < f t ↔ wrd r s t < 0) (h2 : ∀ t ∈ allT, ∀ j, j < f t → ∃ s ∈ allT, f s = j) : ∀ t ∈ allT, rnk r t = f t := by
  have a : ∀ (m : Nat) (t : Th), t ∈ allT → m ≤ f t → m ≤ rnk r t := by
    intro m
    induction m with
    | zero => intro _ _ _; exact Nat.zero_le _
    | succ m ih =>
      intro t ht hm
      obtain ⟨s, hs, e⟩ := h2 t ht m (by omega)
      have i := ih s hs (by omega)
      have l := (rnk_lt r hs ht).mpr ((h1 s hs t ht).mp (by omega))
      omega
  have b : ∀ (m : Nat) (t : Th), t ∈ allT → m ≤ rnk r t → m ≤ f t := by
    intro m
    induction m with
    | zero => intro _ _ _; exact Nat.zero_le _
    | succ m ih =>
      intro t ht hm
      obtain ⟨s, hs, e⟩ := rnk_below ht (show m < rnk r t by omega)
      have i := ih s hs (by omega)
      have l := (h1 s hs t ht).mpr ((rnk_lt r hs ht).mp (by omega))
      omega
  intro t ht
  exact Nat.le_antisymm (b _ t ht (Nat.le_refl _)) (a _ t ht (Nat.le_refl _))
theorem rnk_turn (r : Rw) : ∀ t ∈ allT, rnk (r.map Ky.turn) t = cl r - 1 - rnk r t := by
  refine rank_uniq (fun s hs t ht => ?_) fun t ht j hj => ?_
  · have a := rnk_cl r hs
    have b := rnk_cl r ht
    have c := rnk_lt r ht hs
    rw [wrd_anti] at c
    rw [wrd_turn]
    omega
  · obtain ⟨s, hs, e⟩ := rnk_onto r (j := cl r - 1 - j) (by have := cl_pos r; omega)
    exact ⟨s, hs, by rw [e]; have := rnk_cl r ht; omega⟩
theorem cl_app (r u : Rw) : cl r ≤ cl (r ++ u) := by
  have p := cl_pos r
  obtain ⟨t, ht, e⟩ := rnk_onto r (j := cl r - 1) (by omega)
  have l := rnk_le (a := r) (b := r ++ u) (fun s hs t ht c => by rw [wrd_app, if_neg (by omega)]; exact c) _ t ht (Nat.le_refl _)
  have := rnk_cl (r ++ u) ht
  omega
theorem frm_app {r : Rw} (u : Rw) (h : cl r = 216) : frm (r ++ u) = frm r := by
  rw [frm_iff]
  intro s hs t ht
  rw [wrd_app]
  split
  · rename_i e
    have := inj_cl.mp h s hs t ht e
    subst this
    rw [e, wrd_refl]
  · rfl
theorem cP_mono {α : Type} {P Q : α → α → Bool} : ∀ {xs : List α}, (∀ x ∈ xs, ∀ y ∈ xs, P x y = true → Q x y = true) → cP P xs ≤ cP Q xs
  | [], _ => Nat.le_refl _
  | x :: xs, h => by
    have ih := cP_mono (P := P) (Q := Q) (xs := xs) fun a ha b hb => h a (List.mem_cons_of_mem _ ha) b (List.mem_cons_of_mem _ hb)
    have c : xs.countP (P x) ≤ xs.countP (Q x) := List.countP_mono_left fun y hy => h x (List.mem_cons_self ..) y (List.mem_cons_of_mem _ hy)
    show xs.countP (P x) + cP P xs ≤ xs.countP (Q x) + cP Q xs
    omega
theorem tie_app (r u : Rw) : tieR (r ++ u) ≤ tieR r := by
  unfold tieR
  refine cP_mono fun s _ t _ h => ?_
  rw [decide_eq_true_eq, wts_eq] at h ⊢
  rw [wrd_app] at h
  split at h
  · assumption
  · contradiction
/-- pairs alike, counted by value -/
theorem sum_updK {f g : Nat → Nat} {x d : Nat} : ∀ {K : Nat}, x < K → g x = f x + d → (∀ k, k ≠ x → g k = f k) → ((List.range K).map g).sum = ((List.range K).map f).sum + d
  | 0, h, _, _ => by omega
  | K + 1, h, e, o => by
    rw [List.range_succ, List.map_append, List.map_append, List.sum_append, List.sum_append]
    simp only [List.map_cons, List.map_nil, List.sum_cons, List.sum_nil]
    by_cases c : x = K
    · subst c
      have same : (List.range x).map g = (List.range x).map f := List.map_congr_left fun k hk => o k (by have := List.mem_range.mp hk; omega)
      rw [same, e]
      omega
    · have ih := sum_updK (K := K) (f := f) (g := g) (x := x) (d := d) (by omega) e o
      rw [ih, o K (fun z => c z.symm)]
      omega
theorem cP_sum (K : Nat) : ∀ xs : List Nat, (∀ x ∈ xs, x < K) → ((List.range K).map fun k => tri (xs.count k)).sum = cP (fun x y : Nat => x == y) xs
  | [], _ => by
    have z : ∀ K : Nat, ((List.range K).map fun k => tri (([] : List Nat).count k)).sum = 0 := fun K => by
      induction K with
      | zero => rfl
      | succ K ih => rw [List.range_succ, List.map_append, List.sum_append, ih]; rfl
    exact z K
  | x :: xs, h => by
    have ih := cP_sum K xs fun y hy => h y (List.mem_cons_of_mem _ hy)
    show _ = xs.countP (fun y => x == y) + cP _ xs
    rw [← ih]
    have e : xs.countP (fun y => x == y) = xs.count x := by
      unfold List.count
      refine List.countP_congr fun y _ => ?_
      simp only [beq_iff_eq]
      exact eq_comm
    rw [e, Nat.add_comm]
    refine sum_updK (x := x) (h x (List.mem_cons_self ..)) ?_ fun k hk => ?_
    · rw [List.count_cons_self]
      exact tri_succ _
    · rw [List.count_cons_of_ne (fun z => hk z.symm)]
end L2.Lv.Sh
set_option maxHeartbeats 1000000
namespace L2.Lv.Sh
open PySem PySem.Spec PyProof.Rows L2 L2.Lv
/-! classes, tie -/
theorem max_frm (r : Rw) : gMax1 [ti (frm r)] = some (.d (.int ((cl r : Int) - 1))) := by
  have hl := frm_len r
  have p := cl_pos r
  cases hf : frm r with
  | nil => rw [hf] at hl; cases hl
  | cons x xs =>
    have hm : (cl r : Int) - 1 = topI x xs := by
      refine top_uniq ?_ fun y hy => ?_
      · rw [← hf]
        obtain ⟨t, ht, e⟩ := rnk_onto r (j := cl r - 1) (by omega)
        exact List.mem_map.mpr ⟨t, ht, by omega⟩
      · rw [← hf] at hy
        obtain ⟨t, ht, rfl⟩ := List.mem_map.mp hy
        have := rnk_cl r ht
        omega
    show ((none : Option W).or (gMaxT _)) = _
    rw [Option.none_or]
    have i1 := intsOf_map (x :: xs)
    simp only [gMaxT, i1, Option.bind_some, hm]
theorem dEq216 (c : Nat) : dEq (.int (c : Int)) (.int 216) = some (.d (.bool (decide (c = 216)))) := by
  have e : ((c : Int) == 216) = decide (c = 216) := by
    rw [Bool.eq_iff_iff, beq_iff_eq, decide_eq_true_eq]
    omega
  rw [dEq_int, e]
theorem dTru_b (b : Bool) : dTru (.bool b) = some b := rfl
theorem fn_arg (g : Int → Int → Bool) : (W.fn g).arg = some (.fn g) := rfl
theorem gIT_none (TT : List PyData) (t : Th) : gIndexT (.tuple TT) [t.d] = none := rfl
section
variable (r : Rw) (hr : Rw.ok r) (hl : r.length ≤ 1000000) (n : Nat)
include hr hl
theorem classes_ok : m_classes [.d (rowD r)] n = some (I' (cl r : Nat), n) := by
  have f := form_ok r hr hl n
  have m := max_frm r
  have e : (cl r : Int) - 1 + 1 = (cl r : Int) := by omega
  unfold m_classes b_classes
  simp -implicitDefEqProofs only [eVar_ap, dVar_ap, eC_ap, dOf_ap, eFrz_ap, eBin_ap, bTest_ap, bTru_ap, bAnd_ap, bOr_ap, bNot_ap, eIf_ap, eB_ap, eAnd_ap, eOr_ap, aNil_ap, aCons_ap, sNil_ap, sCons_ap, eTup_ap, eLst_ap, eCall_ap, eApp_ap, oNone_ap, oSome_ap, eSl_ap, sNil'_ap, sSeq_ap, sBrk_ap, sRet_ap, sRetN_ap, sRetO_ap, sDrop_ap, sIf_ap, sSet_ap, sApp_ap, sTown_ap, sExt_ap, sIns_ap, sSetIx_ap, sAsg_ap, sPar_ap, iOf_ap, iVal_ap, iRng1_ap, iRng2_ap, sFor_ap, eComp_ap, bYes_ap, frzAt_ap, eUn_ap, eNotD_ap, eOrD_ap, eChain_ap, eListRg1_ap, eIsa_ap, eMt_ap, iEnumV_ap, iEnumF_ap, iZipV_ap, iZipF_ap, eTLen_ap, iRng3D_ap, sEnd_ap, eSs_ap, sPar3_ap, xPop_ap, xTup1_ap, xCat_ap, sSetX_ap, sAppX_ap, sParO_ap, sForEI_ap, sForK_ap, eRep_ap, eDicK_ap, eDicT_ap, sPut_ap, eAlt_ap, sTry_ap, eGetD_ap, eLockI_ap, iKeyF_ap, sSetDef_ap, eTupVals_ap, sNst_ap, frzNAt_ap, sAppN_ap, sStN_ap, eListRg2_ap, eLam_ap, eCallP_ap, runB_ap, gOne_ap, gMany_ap, dI_ap, yesC_ap, dCmp_int, setD, kill_nx, kill_rt, kill_bk, Option.bind_some, Option.map_some, Option.bind_none, Option.map_none, List.getElem?_cons_zero, List.getElem?_cons_succ, List.set_cons_zero, List.set_cons_succ, List.cons_append, List.nil_append, List.append_nil, List.replicate, List.length_cons, List.length_nil, Nat.reduceAdd, Nat.reduceSub, Nat.zero_add, wdat_no, wdat_d, wdat_town, wdat_ol, wdat_od, wfrz_no, wfrz_d, wfrz_town, wfrz_ol, wfrz_od, wval_no, wval_d, wval_town, wval_ol, wval_od, warg_no, warg_d, warg_town, warg_ol, warg_od, vals, gLen, gAbs, gMax2, gMin2, gInt, gTup, gList, wipeW, if_true, if_false, Bool.false_eq_true, Bool.not_true, Bool.not_false, reduceCtorEq, f, m, dAdd_int, e]
theorem is_whole_order_ok : m_is_whole_order [.d (rowD r)] n = some (.d (.bool (decide (cl r = 216))), n) := by
  have f := classes_ok r hr hl n
  have a := all_things_ok n
  have l := lenAll
  have e := dEq216 (cl r)
  unfold m_is_whole_order b_is_whole_order
  generalize (allT.map Th.d) = TT at *
  generalize cl r = c at *
  simp -implicitDefEqProofs only [eVar_ap, dVar_ap, eC_ap, dOf_ap, eFrz_ap, eBin_ap, bTest_ap, bTru_ap, bAnd_ap, bOr_ap, bNot_ap, eIf_ap, eB_ap, eAnd_ap, eOr_ap, aNil_ap, aCons_ap, sNil_ap, sCons_ap, eTup_ap, eLst_ap, eCall_ap, eApp_ap, oNone_ap, oSome_ap, eSl_ap, sNil'_ap, sSeq_ap, sBrk_ap, sRet_ap, sRetN_ap, sRetO_ap, sDrop_ap, sIf_ap, sSet_ap, sApp_ap, sTown_ap, sExt_ap, sIns_ap, sSetIx_ap, sAsg_ap, sPar_ap, iOf_ap, iVal_ap, iRng1_ap, iRng2_ap, sFor_ap, eComp_ap, bYes_ap, frzAt_ap, eUn_ap, eNotD_ap, eOrD_ap, eChain_ap, eListRg1_ap, eIsa_ap, eMt_ap, iEnumV_ap, iEnumF_ap, iZipV_ap, iZipF_ap, eTLen_ap, iRng3D_ap, sEnd_ap, eSs_ap, sPar3_ap, xPop_ap, xTup1_ap, xCat_ap, sSetX_ap, sAppX_ap, sParO_ap, sForEI_ap, sForK_ap, eRep_ap, eDicK_ap, eDicT_ap, sPut_ap, eAlt_ap, sTry_ap, eGetD_ap, eLockI_ap, iKeyF_ap, sSetDef_ap, eTupVals_ap, sNst_ap, frzNAt_ap, sAppN_ap, sStN_ap, eListRg2_ap, eLam_ap, eCallP_ap, runB_ap, gOne_ap, gMany_ap, dI_ap, yesC_ap, dCmp_int, setD, kill_nx, kill_rt, kill_bk, Option.bind_some, Option.map_some, Option.bind_none, Option.map_none, List.getElem?_cons_zero, List.getElem?_cons_succ, List.set_cons_zero, List.set_cons_succ, List.cons_append, List.nil_append, List.append_nil, List.replicate, List.length_cons, List.length_nil, Nat.reduceAdd, Nat.reduceSub, Nat.zero_add, wdat_no, wdat_d, wdat_town, wdat_ol, wdat_od, wfrz_no, wfrz_d, wfrz_town, wfrz_ol, wfrz_od, wval_no, wval_d, wval_town, wval_ol, wval_od, warg_no, warg_d, warg_town, warg_ol, warg_od, vals, gLen, gAbs, gMax2, gMin2, gInt, gTup, gList, wipeW, if_true, if_false, Bool.false_eq_true, Bool.not_true, Bool.not_false, reduceCtorEq, f, a, l, e]
/-- the first two things that are alike -/
def tieP : Option (Nat × Nat) := fndP (fq (fun i _ => i == 0) r r) 216
end
section
variable (r : Rw) (hr : Rw.ok r) (hl : r.length ≤ 1000000) (n : Nat)
theorem tieP_some {i j : Nat} (h : tieP r = some (i, j)) : i < j ∧ j < 216 ∧ wrd r (tha i) (tha j) = 0 ∧ (∀ i' j', i' < j' → j' < 216 → i' < i → wrd r (tha i') (tha j') ≠ 0) ∧ ∀ j', i < j' → j' < j → wrd r (tha i) (tha j') ≠ 0 := by
  obtain ⟨h1, h2, h3, h4, h5⟩ := fndP_some h
  refine ⟨h1, h2, ?_, fun i' j' a b c => ?_, fun j' a b => ?_⟩
  · rw [fq_wrd _ _ _ (by omega) h2] at h3; simpa using h3
  · have := h4 i' j' a b c
    rw [fq_wrd _ _ _ (by omega) b] at this; simpa using this
  · have := h5 j' a b
    rw [fq_wrd _ _ _ (by omega) (by omega)] at this; simpa using this
theorem tieP_none : tieP r = none ↔ cl r = 216 := by
  constructor
  · intro h
    rw [inj_cl]
    intro s hs t ht e
    obtain ⟨i, hi, rfl⟩ := tha_of hs
    obtain ⟨j, hj, rfl⟩ := tha_of ht
    have no : ∀ i j, i < j → j < 216 → wrd r (tha i) (tha j) ≠ 0 := fun i j h1 h2 => by
      have := fndP_none h i j h1 h2
      rw [fq_wrd _ _ _ (by omega) h2] at this; simpa using this
    rcases Nat.lt_trichotomy i j with c | c | c
    · exact absurd e (no i j c hj)
    · rw [c]
    · have := no j i c hi
      rw [wrd_anti] at this
      omega
  · intro h
    cases c : tieP r with
    | none => rfl
    | some p =>
      obtain ⟨i, j⟩ := p
      obtain ⟨h1, h2, h3, _⟩ := tieP_some r c
      have := tha_inj (by omega) h2 (inj_cl.mp h _ (tha_mem (by omega)) _ (tha_mem h2) h3)
      omega
include hr hl
theorem tie_ok : m_tie [.d (rowD r)] n = some (.d (fpD (tieP r)), n) := by
  have f := is_whole_order_ok r hr hl n
  have g := first_pair_ok (fun i _ => i == 0) r r n hr hl hr hl
  have g : m_first_pair [.d (rowD r), .d (rowD r), .fn fun i _ => i == 0] n = some (.d (fpD (tieP r)), n) := g
  unfold m_tie b_tie
  by_cases c : cl r = 216
  · have t := (tieP_none r).mpr c
    have d : decide (cl r = 216) = true := decide_eq_true c
    rw [d] at f
    rw [t]
    simp -implicitDefEqProofs only [eVar_ap, dVar_ap, eC_ap, dOf_ap, eFrz_ap, eBin_ap, bTest_ap, bTru_ap, bAnd_ap, bOr_ap, bNot_ap, eIf_ap, eB_ap, eAnd_ap, eOr_ap, aNil_ap, aCons_ap, sNil_ap, sCons_ap, eTup_ap, eLst_ap, eCall_ap, eApp_ap, oNone_ap, oSome_ap, eSl_ap, sNil'_ap, sSeq_ap, sBrk_ap, sRet_ap, sRetN_ap, sRetO_ap, sDrop_ap, sIf_ap, sSet_ap, sApp_ap, sTown_ap, sExt_ap, sIns_ap, sSetIx_ap, sAsg_ap, sPar_ap, iOf_ap, iVal_ap, iRng1_ap, iRng2_ap, sFor_ap, eComp_ap, bYes_ap, frzAt_ap, eUn_ap, eNotD_ap, eOrD_ap, eChain_ap, eListRg1_ap, eIsa_ap, eMt_ap, iEnumV_ap, iEnumF_ap, iZipV_ap, iZipF_ap, eTLen_ap, iRng3D_ap, sEnd_ap, eSs_ap, sPar3_ap, xPop_ap, xTup1_ap, xCat_ap, sSetX_ap, sAppX_ap, sParO_ap, sForEI_ap, sForK_ap, eRep_ap, eDicK_ap, eDicT_ap, sPut_ap, eAlt_ap, sTry_ap, eGetD_ap, eLockI_ap, iKeyF_ap, sSetDef_ap, eTupVals_ap, sNst_ap, frzNAt_ap, sAppN_ap, sStN_ap, eListRg2_ap, eLam_ap, eCallP_ap, runB_ap, gOne_ap, gMany_ap, dI_ap, yesC_ap, dCmp_int, setD, kill_nx, kill_rt, kill_bk, Option.bind_some, Option.map_some, Option.bind_none, Option.map_none, List.getElem?_cons_zero, List.getElem?_cons_succ, List.set_cons_zero, List.set_cons_succ, List.cons_append, List.nil_append, List.append_nil, List.replicate, List.length_cons, List.length_nil, Nat.reduceAdd, Nat.reduceSub, Nat.zero_add, wdat_no, wdat_d, wdat_town, wdat_ol, wdat_od, wfrz_no, wfrz_d, wfrz_town, wfrz_ol, wfrz_od, wval_no, wval_d, wval_town, wval_ol, wval_od, warg_no, warg_d, warg_town, warg_ol, warg_od, vals, gLen, gAbs, gMax2, gMin2, gInt, gTup, gList, wipeW, if_true, if_false, Bool.false_eq_true, Bool.not_true, Bool.not_false, reduceCtorEq, f, dTru_b] <;> rfl
  · have d : decide (cl r = 216) = false := decide_eq_false c
    rw [d] at f
    clear c d
    generalize fpD (tieP r) = F at *
    simp -implicitDefEqProofs only [eVar_ap, dVar_ap, eC_ap, dOf_ap, eFrz_ap, eBin_ap, bTest_ap, bTru_ap, bAnd_ap, bOr_ap, bNot_ap, eIf_ap, eB_ap, eAnd_ap, eOr_ap, aNil_ap, aCons_ap, sNil_ap, sCons_ap, eTup_ap, eLst_ap, eCall_ap, eApp_ap, oNone_ap, oSome_ap, eSl_ap, sNil'_ap, sSeq_ap, sBrk_ap, sRet_ap, sRetN_ap, sRetO_ap, sDrop_ap, sIf_ap, sSet_ap, sApp_ap, sTown_ap, sExt_ap, sIns_ap, sSetIx_ap, sAsg_ap, sPar_ap, iOf_ap, iVal_ap, iRng1_ap, iRng2_ap, sFor_ap, eComp_ap, bYes_ap, frzAt_ap, eUn_ap, eNotD_ap, eOrD_ap, eChain_ap, eListRg1_ap, eIsa_ap, eMt_ap, iEnumV_ap, iEnumF_ap, iZipV_ap, iZipF_ap, eTLen_ap, iRng3D_ap, sEnd_ap, eSs_ap, sPar3_ap, xPop_ap, xTup1_ap, xCat_ap, sSetX_ap, sAppX_ap, sParO_ap, sForEI_ap, sForK_ap, eRep_ap, eDicK_ap, eDicT_ap, sPut_ap, eAlt_ap, sTry_ap, eGetD_ap, eLockI_ap, iKeyF_ap, sSetDef_ap, eTupVals_ap, sNst_ap, frzNAt_ap, sAppN_ap, sStN_ap, eListRg2_ap, eLam_ap, eCallP_ap, runB_ap, gOne_ap, gMany_ap, dI_ap, yesC_ap, dCmp_int, setD, kill_nx, kill_rt, kill_bk, Option.bind_some, Option.map_some, Option.bind_none, Option.map_none, List.getElem?_cons_zero, List.getElem?_cons_succ, List.set_cons_zero, List.set_cons_succ, List.cons_append, List.nil_append, List.append_nil, List.replicate, List.length_cons, List.length_nil, Nat.reduceAdd, Nat.reduceSub, Nat.zero_add, wdat_no, wdat_d, wdat_town, wdat_ol, wdat_od, wfrz_no, wfrz_d, wfrz_town, wfrz_ol, wfrz_od, wval_no, wval_d, wval_town, wval_ol, wval_od, warg_no, warg_d, warg_town, warg_ol, warg_od, vals, gLen, gAbs, gMax2, gMin2, gInt, gTup, gList, wipeW, if_true, if_false, Bool.false_eq_true, Bool.not_true, Bool.not_false, reduceCtorEq, f, g, dTru_b, fn_arg]
end
/-! the place of a thing -/
theorem thd_eqv (s t : Th) : PyData.eqv s.d t.d = decide (s = t) := by
  show PyData.eqv (ti [s.1, s.2.1, s.2.2]) (ti [t.1, t.2.1, t.2.2]) = _
  rw [eqv_ti]
  obtain ⟨a, b, c⟩ := s
  obtain ⟨a', b', c'⟩ := t
  simp
theorem thD_tha (i : Nat) : thD i = (tha i).d := rfl
theorem shp_all : shp (.tuple (allT.map Th.d)) = true := by decide +kernel
theorem shp_th {t : Th} (h : t ∈ allT) : shp t.d = true := shp_ti [t.1, t.2.1, t.2.2]
theorem place_all {i : Nat} (h : i < 216) : gIndexTX (.tuple (allT.map Th.d)) [thD i] = some (.d (.int (i : Nat))) := by
  have hl := allT_len
  have g1 : gIndexT (.tuple (allT.map Th.d)) [thD i] = none := gIT_none _ _
  have g2 : SeqAt.dataPlace (allT.map Th.d) (thD i) = some i := by
    unfold SeqAt.dataPlace
    rw [List.findIdx?_eq_some_iff_getElem]
    have e : ∀ k (hk : k < allT.length), allT[k] = tha k := fun k hk => by unfold tha; rw [getD_in hk]
    refine ⟨by rw [List.length_map]; omega, ?_, fun j hj => ?_⟩
    · rw [List.getElem_map, e, thD_tha, thd_eqv]; simp
    · rw [List.getElem_map, e, thD_tha, thd_eqv, decide_eq_true_eq]
      intro q
      have := tha_inj (by omega) h q
      omega
  unfold gIndexTX
  rw [g1, Option.none_or]
  unfold gIndexTD
  simp only [shp_all, thD_tha, shp_th (tha_mem h), Bool.and_self, if_true]
  rw [← thD_tha, g2]
  rfl
end L2.Lv.Sh
namespace L2.Lv.K29
open PySem PySem.Spec PyProof.Rows L2 L2.Lv L2.Lv.Sh
def topS (i : Nat) : Stmt := PySem.Challenge.pw_keyorders_k29_whole_forms_and_classes.main.body.getD i (.Pass ⟨0, 0, 0, 0⟩)
structure Facts (K : PySem.W.Frag) (mg : Str → Option Value) where
  d_all_things : DF K mg "all_things" (topS 7) []
  d_worth : DF K mg "worth" (topS 2) ["key", "thing"]
  d_worths : DF K mg "worths" (topS 3) ["row", "thing"]
  d_form : DF K mg "form" (topS 9) ["row"]
  d_classes : DF K mg "classes" (topS 12) ["row"]
  d_sign : DF K mg "sign" (topS 10) ["one", "other"]
  d_first_pair : DF K mg "first_pair" (topS 11) ["one", "other", "test"]
  d_is_whole_order : DF K mg "is_whole_order" (topS 14) ["row"]
  d_tie : DF K mg "tie" (topS 13) ["row"]
  d_pairs_of : DF K mg "pairs_of" (topS 15) ["many"]
  d_ties_of : DF K mg "ties_of" (topS 16) ["row"]
  d__law_draw : DF K mg "_law_draw" (topS 18) ["_law_script", "_law_town", "_law_many"]
  d__law_pick : DF K mg "_law_pick" (topS 19) ["_law_script", "_law_town", "_law_some"]
  d__law_plain : DF K mg "_law_plain" (topS 20) ["_law_script", "_law_town"]
  d__law_row : DF K mg "_law_row" (topS 21) ["_law_script", "_law_town", "_law_most"]
  d_told : DF K mg "told" (topS 4) ["row", "one", "other"]
  d_turned_key : DF K mg "turned_key" (topS 5) ["key"]
  d_turned : DF K mg "turned" (topS 6) ["row"]
  d__law_form_holds : DF K mg "_law_form_holds" (topS 24) ["_law_script", "_law_town", "_law_row_here", "_law_every"]
  d_law : DF K mg "law" (topS 25) ["_law_script"]
  z_abs : mg "abs" = none
  z_any : mg "any" = none
  z_dict : mg "dict" = none
  z_enumerate : mg "enumerate" = none
  z_int : mg "int" = none
  z_len : mg "len" = none
  z_list : mg "list" = none
  z_max : mg "max" = none
  z_range : mg "range" = none
  z_set : mg "set" = none
  z_sorted : mg "sorted" = none
  z_sum : mg "sum" = none
  z_tuple : mg "tuple" = none
  c_WORTH_MOST : ∃ t, mg "WORTH_MOST" = some (.int 5 t)
section
variable {P : Program} {w : World} {K : PySem.W.Frag} {mg : Str → Option Value} {base : Heap}
/-! ### all_things -/
abbrev st_all_things : Stmt := topS 7
abbrev N_all_things : List Str := ["every", "found", "one", "other", "last"]
theorem sc_all_things : FnScope N_all_things [] (defScope st_all_things) := ⟨rfl, rfl, rfl, by decide +kernel, rfl, by decide +kernel, by decide +kernel⟩
theorem ok_all_things (T : Facts K mg)  : FnOk P w K mg base CX0 1 T.d_all_things.f T.d_all_things.fd [] (spOf K 0 m_all_things) :=
  fn_val (N := N_all_things) T.d_all_things.F sc_all_things fun cdv A outer s H E hr => (by exact (ss_cons (by exact (ss_set (i := 0) sc_all_things.nd (by rfl) (by first | exact .inl rfl | exact .inr rfl) (ev_frz (by exact (ev_listRg1 (by rfl) (by rfl) T.z_list (by rfl) T.z_range (by exact (eb_of (by exact (ev_bin ov_add (by exact (eb_of (by exact (ev_gint (by rfl) T.c_WORTH_MOST)))) (by exact (eb_of (by exact ev_int))))))))))))
    (by exact (ss_cons (by exact (ss_set (i := 1) sc_all_things.nd (by rfl) (by first | exact .inl rfl | exact .inr rfl) (by exact (ev_lst (by exact ea_nil)))))
    (by exact (ss_cons (by exact (ss_for PassesOwn.never (by rfl) (by exact (ei_seq (by exact (ev_var (pv 0))))) (by exact (eg_one (pg_name (i := 2) sc_all_things.nd (by rfl) (by first | exact .inl rfl | exact .inr rfl))))
    (by exact (ss_one (by exact (ss_for PassesOwn.never (by rfl) (by exact (ei_seq (by exact (ev_var (pv 0))))) (by exact (eg_one (pg_name (i := 3) sc_all_things.nd (by rfl) (by first | exact .inl rfl | exact .inr rfl))))
    (by exact (ss_one (by exact (ss_extend (pv 1) (by exact (ev_lc (own:=[("last",4)]) (by rfl) sc_all_things.nd (by exact (ej_seq (by exact (eb_var (pv 0))))) (blkOk_by (N := N_all_things) (sc := defScope st_all_things) (by decide +kernel)) (fun _ _ _ _ _ => (by exact (eg_one (pg_name (i := 4) sc_all_things.nd (by rfl) (by first | exact .inl rfl | exact .inr rfl))))) (fun _ _ _ _ _ => ets_nil) (fun _ _ _ _ _ => (by exact (ev_tup (by exact (ea_cons (by exact (ev_var (pv 2))) (by exact (ea_cons (by exact (ev_var (pv 3))) (by exact (ea_cons (by exact (ev_var (pv 4))) (by exact ea_nil))))))))))))))))))))))
    (by exact (ss_one (by exact (ss_ret (by exact (ev_callTy cv_tup (by rfl) T.z_tuple bt_tuple (by exact (ed_cons (by exact (eb_var (pv 1))) (by exact ed_nil)))))))))))))))
/-! ### worth -/
abbrev st_worth : Stmt := topS 2
abbrev N_worth : List Str := ["key", "thing", "word", "one", "other"]
theorem sc_worth : FnScope N_worth ["key", "thing"] (defScope st_worth) := ⟨rfl, rfl, rfl, by decide +kernel, rfl, by decide +kernel, by decide +kernel⟩
theorem ok_worth_ (T : Facts K mg)  : ∀ k, FnOk P w K mg base CX0 (k + 0) T.d_worth.f T.d_worth.fd ["key", "thing"] (spOf K 2 (m_worth_ k))
  | 0 => fn_none
  | k + 1 => by
    have G := ok_worth_ T  k
    have h0 : k + 0 ≤ k + 0 := Nat.le_refl _
    show FnOk P w K mg base CX0 (k + 0 + 1) _ _ _ _
    exact fn_val (N := N_worth) T.d_worth.F sc_worth fun cdv A outer s H E hr => ((by exact (ss_cons (by exact (ss_set (i := 2) sc_worth.nd (by rfl) (by first | exact .inl rfl | exact .inr rfl) (by exact (ev_ix ixv (by exact (eb_var (pv 0))) (by exact (eb_of (by exact ev_int))) (fun _ _ => by rfl)))))
    (by exact (ss_cons (by exact (ss_if (by exact (et_cmp (ov_eq (hu64 hr)) (by exact (eb_var (pv 2))) (by exact (eb_of (by exact ev_str))) (nomark _)))
    (by exact (ss_one (by exact (ss_ret (by exact (ev_bin ov_sub (by exact (eb_of (by exact ev_int))) (by exact (eb_of (by exact (ev_callD T.d_worth G hr h0 (by rfl) (by exact (ea_cons (by exact (ev_ix ixv (by exact (eb_var (pv 0))) (by exact (eb_of (by exact ev_int))) (fun _ _ => by rfl))) (by exact (ea_cons (by exact (ev_var (pv 1))) (by exact ea_nil)))))))))))))))
    (by exact ss_nil)))
    (by exact (ss_cons (by exact (ss_set (i := 3) sc_worth.nd (by rfl) (by first | exact .inl rfl | exact .inr rfl) (by exact (ev_ix ixv (by exact (eb_var (pv 1))) (by exact (eb_of (by exact (ev_ix ixv (by exact (eb_var (pv 0))) (by exact (eb_of (by exact ev_int))) (fun _ _ => by rfl))))) (fun _ _ => by rfl)))))
    (by exact (ss_cons (by exact (ss_if (by exact (et_cmp (ov_eq (hu64 hr)) (by exact (eb_var (pv 2))) (by exact (eb_of (by exact ev_str))) (nomark _)))
    (by exact (ss_one (by exact (ss_ret (by exact (ev_var (pv 3)))))))
    (by exact ss_nil)))
    (by exact (ss_cons (by exact (ss_if (by exact (et_cmp (ov_eq (hu64 hr)) (by exact (eb_var (pv 2))) (by exact (eb_of (by exact ev_str))) (nomark _)))
    (by exact (ss_one (by exact (ss_ret (by exact (ev_bin ov_div (by exact (eb_var (pv 3))) (by exact (eb_of (by exact (ev_ix ixv (by exact (eb_var (pv 0))) (by exact (eb_of (by exact ev_int))) (fun _ _ => by rfl)))))))))))
    (by exact ss_nil)))
    (by exact (ss_cons (by exact (ss_if (by exact (et_cmp (ov_eq (hu64 hr)) (by exact (eb_var (pv 2))) (by exact (eb_of (by exact ev_str))) (nomark _)))
    (by exact (ss_one (by exact (ss_ret (by exact (ev_bin ov_mod (by exact (eb_var (pv 3))) (by exact (eb_of (by exact (ev_ix ixv (by exact (eb_var (pv 0))) (by exact (eb_of (by exact ev_int))) (fun _ _ => by rfl)))))))))))
    (by exact ss_nil)))
    (by exact (ss_cons (by exact (ss_if (by exact (et_cmp (ov_eq (hu64 hr)) (by exact (eb_var (pv 2))) (by exact (eb_of (by exact ev_str))) (nomark _)))
    (by exact (ss_one (by exact (ss_ret (by exact (ev_ife (by exact (et_cmp (ov_in (hu65 hr)) (by exact (eb_var (pv 3))) (by exact (eb_of (by exact (ev_ix ixv (by exact (eb_var (pv 0))) (by exact (eb_of (by exact ev_int))) (fun _ _ => by rfl))))) (by with_unfolding_all rfl))) (by exact (ev_tm PySem.F.slot_tuple_index PySem.F.type_tuple_index mv_tindex (by exact (eb_of (by exact (ev_ix ixv (by exact (eb_var (pv 0))) (by exact (eb_of (by exact ev_int))) (fun _ _ => by rfl))))) (by exact (ed_cons (by exact (eb_var (pv 3))) (by exact ed_nil))))) (by exact (ev_callB cv_len (by rfl) T.z_len bt_len (by exact (ed_cons (by exact (eb_of (by exact (ev_ix ixv (by exact (eb_var (pv 0))) (by exact (eb_of (by exact ev_int))) (fun _ _ => by rfl))))) (by exact ed_nil)))))))))))
    (by exact ss_nil)))
    (by exact (ss_cons (by exact (ss_if (by exact (et_cmp (ov_eq (hu64 hr)) (by exact (eb_var (pv 2))) (by exact (eb_of (by exact ev_str))) (nomark _)))
    (by exact (ss_one (by exact (ss_ret (by exact (ev_callTy cv_int (by rfl) T.z_int bt_int (by exact (ed_cons (by exact (eb_of (by exact (ev_cmp (ov_notIn (hu65 hr)) (by exact (eb_var (pv 3))) (by exact (eb_of (by exact (ev_ix ixv (by exact (eb_var (pv 0))) (by exact (eb_of (by exact ev_int))) (fun _ _ => by rfl))))) (by with_unfolding_all rfl))))) (by exact ed_nil)))))))))
    (by exact ss_nil)))
    (by exact (ss_cons (by exact (ss_set (i := 4) sc_worth.nd (by rfl) (by first | exact .inl rfl | exact .inr rfl) (by exact (ev_ix ixv (by exact (eb_var (pv 1))) (by exact (eb_of (by exact (ev_ix ixv (by exact (eb_var (pv 0))) (by exact (eb_of (by exact ev_int))) (fun _ _ => by rfl))))) (fun _ _ => by rfl)))))
    (by exact (ss_cons (by exact (ss_if (by exact (et_cmp (ov_eq (hu64 hr)) (by exact (eb_var (pv 2))) (by exact (eb_of (by exact ev_str))) (nomark _)))
    (by exact (ss_one (by exact (ss_ret (by exact (ev_bin ov_add (by exact (eb_var (pv 3))) (by exact (eb_var (pv 4)))))))))
    (by exact ss_nil)))
    (by exact (ss_cons (by exact (ss_if (by exact (et_cmp (ov_eq (hu64 hr)) (by exact (eb_var (pv 2))) (by exact (eb_of (by exact ev_str))) (nomark _)))
    (by exact (ss_one (by exact (ss_ret (by exact (ev_callB cv_abs (by rfl) T.z_abs bt_abs (by exact (ed_cons (by exact (eb_of (by exact (ev_bin ov_sub (by exact (eb_var (pv 3))) (by exact (eb_var (pv 4))))))) (by exact ed_nil)))))))))
    (by exact ss_nil)))
    (by exact (ss_one (by exact (ss_ret (by exact (ev_callB (cv_max2 (by rfl)) (by rfl) T.z_max bt_max (by exact (ed_cons (by exact (eb_var (pv 3))) (by exact (ed_cons (by exact (eb_var (pv 4))) (by exact ed_nil))))))))))))))))))))))))))))))))))
theorem ok_worth (T : Facts K mg)  : FnOk P w K mg base CX0 4 T.d_worth.f T.d_worth.fd ["key", "thing"] (spOf K 2 m_worth) := ok_worth_ T  4
/-! ### worths -/
abbrev st_worths : Stmt := topS 3
abbrev N_worths : List Str := ["row", "thing", "key"]
theorem sc_worths : FnScope N_worths ["row", "thing"] (defScope st_worths) := ⟨rfl, rfl, rfl, by decide +kernel, rfl, by decide +kernel, by decide +kernel⟩
theorem ok_worths (T : Facts K mg) (G_worth : FnOk P w K mg base CX0 4 T.d_worth.f T.d_worth.fd ["key", "thing"] (spOf K 2 m_worth)) : FnOk P w K mg base CX0 5 T.d_worths.f T.d_worths.fd ["row", "thing"] (spOf K 2 m_worths) :=
  fn_val (N := N_worths) T.d_worths.F sc_worths fun cdv A outer s H E hr => (by exact (ss_one (by exact (ss_ret (by exact (ev_callTy cv_tup (by rfl) T.z_tuple bt_tuple (by exact (ed_cons (by exact (eb_of (by exact (ev_lc (own:=[("key",2)]) (by rfl) sc_worths.nd (by exact (ej_seq (by exact (eb_var (pv 0))))) (blkOk_by (N := N_worths) (sc := defScope st_worths) (by decide +kernel)) (fun _ _ _ _ _ => (by exact (eg_one (pg_name (i := 2) sc_worths.nd (by rfl) (by first | exact .inl rfl | exact .inr rfl))))) (fun _ _ _ _ _ => ets_nil) (fun _ _ _ _ _ => (by exact (ev_callD T.d_worth G_worth hr (by decide) (by rfl) (by exact (ea_cons (by exact (ev_var (pv 2))) (by exact (ea_cons (by exact (ev_var (pv 1))) (by exact ea_nil)))))))))))) (by exact ed_nil)))))))))
/-! ### form -/
abbrev st_form : Stmt := topS 9
abbrev N_form : List Str := ["row", "every", "thing", "ranks", "rank", "one"]
theorem sc_form : FnScope N_form ["row"] (defScope st_form) := ⟨rfl, rfl, rfl, by decide +kernel, rfl, by decide +kernel, by decide +kernel⟩
theorem ok_form (T : Facts K mg) (G_worths : FnOk P w K mg base CX0 5 T.d_worths.f T.d_worths.fd ["row", "thing"] (spOf K 2 m_worths)) (G_all_things : FnOk P w K mg base CX0 1 T.d_all_things.f T.d_all_things.fd [] (spOf K 0 m_all_things)) : FnOk P w K mg base CX0 6 T.d_form.f T.d_form.fd ["row"] (spOf K 1 m_form) :=
  fn_val (N := N_form) T.d_form.F sc_form fun cdv A outer s H E hr => (by exact (ss_cons (by exact (ss_end [0] (by exact (ss_setLcF (i := 1) (own:=[("thing",2)]) (by rfl) sc_form.nd (by rfl) (by rfl) (by rfl) (by exact (ej_seq (by exact (eb_of (by exact (ev_callD0 T.d_all_things G_all_things hr (by decide) (by rfl))))))) (blkOk_by (N := N_form) (sc := defScope st_form) (by decide +kernel)) (fun _ _ _ _ _ => (by exact (eg_one (pg_name (i := 2) sc_form.nd (by rfl) (by first | exact .inl rfl | exact .inr rfl))))) (fun _ _ _ _ _ => ets_nil) (fun _ _ _ _ _ => (by exact (ev_callD T.d_worths G_worths hr (by decide) (by rfl) (by exact (ea_cons (by exact (ev_var (pv 0))) (by exact (ea_cons (by exact (ev_var (pv 2))) (by exact ea_nil))))))))))))
    (by exact (ss_cons (by exact (ss_set (i := 3) sc_form.nd (by rfl) (by first | exact .inl rfl | exact .inr rfl) ev_dicT))
    (by exact (ss_cons (by exact (ss_for PassesOwn.never (by rfl) (by exact (ei_enum (by rfl) T.z_enumerate (by exact (ev_sortSetT (by rfl) (hu100 hr) (by rfl) T.z_sorted (by rfl) T.z_set (by exact (ed_cons (by exact (eb_var (pv 1))) (by exact ed_nil))) bt_sorted)))) (by exact (eg_many (by rfl) (egs_cons (pg_name (i := 4) sc_form.nd (by rfl) (by first | exact .inl rfl | exact .inr rfl)) (egs_cons (pg_name (i := 5) sc_form.nd (by rfl) (by first | exact .inl rfl | exact .inr rfl)) egs_nil))))
    (by exact (ss_one (by exact (ss_end [4, 5] (by exact (ss_put (hu1 hr) (pv 3) (by exact (eb_var (pv 5))) (by exact (ev_var (pv 4))) (fun _ => (by rfl))))))))))
    (by exact (ss_one (by exact (ss_ret (by exact (ev_callTy cv_tup (by rfl) T.z_tuple bt_tuple (by exact (ed_cons (by exact (eb_of (by exact (ev_lc (own:=[("one",5)]) (by rfl) sc_form.nd (by exact (ej_seq (by exact (eb_var (pv 1))))) (blkOk_by (N := N_form) (sc := defScope st_form) (by decide +kernel)) (fun _ _ _ _ _ => (by exact (eg_one (pg_name (i := 5) sc_form.nd (by rfl) (by first | exact .inl rfl | exact .inr rfl))))) (fun _ _ _ _ _ => ets_nil) (fun _ _ _ _ _ => (by exact (ev_ixD (hu1 hr) (by exact (eb_var (pv 3))) (by exact (eb_var (pv 5))) (fun _ _ => by rfl)))))))) (by exact ed_nil)))))))))))))))
/-! ### classes -/
abbrev st_classes : Stmt := topS 12
abbrev N_classes : List Str := ["row"]
theorem sc_classes : FnScope N_classes ["row"] (defScope st_classes) := ⟨rfl, rfl, rfl, by decide +kernel, rfl, by decide +kernel, by decide +kernel⟩
theorem ok_classes (T : Facts K mg) (G_form : FnOk P w K mg base CX0 6 T.d_form.f T.d_form.fd ["row"] (spOf K 1 m_form)) : FnOk P w K mg base CX0 7 T.d_classes.f T.d_classes.fd ["row"] (spOf K 1 m_classes) :=
  fn_val (N := N_classes) T.d_classes.F sc_classes fun cdv A outer s H E hr => (by exact (ss_one (by exact (ss_ret (by exact (ev_bin ov_add (by exact (eb_of (by exact (ev_callB (cv_max1 (by rfl) (hu65 hr)) (by rfl) T.z_max bt_max (by exact (ed_cons (by exact (eb_of (by exact (ev_callD T.d_form G_form hr (by decide) (by rfl) (by exact (ea_cons (by exact (ev_var (pv 0))) (by exact ea_nil))))))) (by exact ed_nil))))))) (by exact (eb_of (by exact ev_int)))))))))
/-! ### sign -/
abbrev st_sign : Stmt := topS 10
abbrev N_sign : List Str := ["one", "other"]
theorem sc_sign : FnScope N_sign ["one", "other"] (defScope st_sign) := ⟨rfl, rfl, rfl, by decide +kernel, rfl, by decide +kernel, by decide +kernel⟩
theorem ok_sign (T : Facts K mg)  : FnOk P w K mg base CX0 1 T.d_sign.f T.d_sign.fd ["one", "other"] (spOf K 2 m_sign) :=
  fn_val (N := N_sign) T.d_sign.F sc_sign fun cdv A outer s H E hr => (by exact (ss_one (by exact (ss_ret (by exact (ev_bin ov_sub (by exact (eb_of (by exact (ev_callTy cv_int (by rfl) T.z_int bt_int (by exact (ed_cons (by exact (eb_of (by exact (ev_cmp (ov_gt (hu0 hr)) (by exact (eb_var (pv 0))) (by exact (eb_var (pv 1))) (nomark _))))) (by exact ed_nil))))))) (by exact (eb_of (by exact (ev_callTy cv_int (by rfl) T.z_int bt_int (by exact (ed_cons (by exact (eb_of (by exact (ev_cmp (ov_lt (hu0 hr)) (by exact (eb_var (pv 0))) (by exact (eb_var (pv 1))) (nomark _))))) (by exact ed_nil)))))))))))))
/-! ### first_pair -/
abbrev st_first_pair : Stmt := topS 11
abbrev N_first_pair : List Str := ["one", "other", "test", "things", "mine", "yours", "at", "place"]
theorem sc_first_pair : FnScope N_first_pair ["one", "other", "test"] (defScope st_first_pair) := ⟨rfl, rfl, rfl, by decide +kernel, rfl, by decide +kernel, by decide +kernel⟩
theorem ok_first_pair (T : Facts K mg) (G_all_things : FnOk P w K mg base CX0 1 T.d_all_things.f T.d_all_things.fd [] (spOf K 0 m_all_things)) (G_form : FnOk P w K mg base CX0 6 T.d_form.f T.d_form.fd ["row"] (spOf K 1 m_form)) (G_sign : FnOk P w K mg base CX0 1 T.d_sign.f T.d_sign.fd ["one", "other"] (spOf K 2 m_sign)) : FnOk P w K mg base CX0 7 T.d_first_pair.f T.d_first_pair.fd ["one", "other", "test"] (spOf K 3 m_first_pair) :=
  fn_val (N := N_first_pair) T.d_first_pair.F sc_first_pair fun cdv A outer s H E hr => (by exact (ss_cons (by exact (ss_set (i := 3) sc_first_pair.nd (by rfl) (by first | exact .inl rfl | exact .inr rfl) (ev_frz (by exact (ev_callD0 T.d_all_things G_all_things hr (by decide) (by rfl))))))
    (by exact (ss_cons (by exact (ss_end [0] (by exact (ss_set (i := 4) sc_first_pair.nd (by rfl) (by first | exact .inl rfl | exact .inr rfl) (ev_frz (by exact (ev_callD T.d_form G_form hr (by decide) (by rfl) (by exact (ea_cons (by exact (ev_var (pv 0))) (by exact ea_nil))))))))))
    (by exact (ss_cons (by exact (ss_end [1] (by exact (ss_set (i := 5) sc_first_pair.nd (by rfl) (by first | exact .inl rfl | exact .inr rfl) (ev_frz (by exact (ev_callD T.d_form G_form hr (by decide) (by rfl) (by exact (ea_cons (by exact (ev_var (pv 1))) (by exact ea_nil))))))))))
    (by exact (ss_cons (by exact (ss_end [2, 3, 4, 5] (by exact (ss_for PassesOwn.never (by rfl) (by exact (ei_range1 (by rfl) T.z_range (by exact (eb_of (by exact (ev_callB cv_len (by rfl) T.z_len bt_len (by exact (ed_cons (by exact (eb_var (pv 3))) (by exact ed_nil))))))))) (by exact (eg_one (pg_name (i := 6) sc_first_pair.nd (by rfl) (by first | exact .inl rfl | exact .inr rfl))))
    (by exact (ss_one (by exact (ss_end [6] (by exact (ss_for PassesOwn.never (by rfl) (by exact (ei_range2 (by rfl) T.z_range (by exact (eb_of (by exact (ev_bin ov_add (by exact (eb_var (pv 6))) (by exact (eb_of (by exact ev_int))))))) (by exact (eb_of (by exact (ev_callB cv_len (by rfl) T.z_len bt_len (by exact (ed_cons (by exact (eb_var (pv 3))) (by exact ed_nil))))))))) (by exact (eg_one (pg_name (i := 7) sc_first_pair.nd (by rfl) (by first | exact .inl rfl | exact .inr rfl))))
    (by exact (ss_one (by exact (ss_end [7] (by exact (ss_if (by exact (et_tru (by exact (eb_of (by exact (ev_callP (i := 2) (hr.mono (by decide)) (by rfl) (by first | exact Or.inl rfl | exact Or.inr (Or.inl rfl) | exact Or.inr (Or.inr rfl)) (by exact (ea_cons (by exact (ev_callD T.d_sign G_sign hr (by decide) (by rfl) (by exact (ea_cons (by exact (ev_ix ixv (by exact (eb_var (pv 4))) (by exact (eb_var (pv 6))) (fun _ _ => by rfl))) (by exact (ea_cons (by exact (ev_ix ixv (by exact (eb_var (pv 4))) (by exact (eb_var (pv 7))) (fun _ _ => by rfl))) (by exact ea_nil))))))) (by exact (ea_cons (by exact (ev_callD T.d_sign G_sign hr (by decide) (by rfl) (by exact (ea_cons (by exact (ev_ix ixv (by exact (eb_var (pv 5))) (by exact (eb_var (pv 6))) (fun _ _ => by rfl))) (by exact (ea_cons (by exact (ev_ix ixv (by exact (eb_var (pv 5))) (by exact (eb_var (pv 7))) (fun _ _ => by rfl))) (by exact ea_nil))))))) (by exact ea_nil))))))))) (fun _ => (by rfl))))
    (by exact (ss_one (by exact (ss_ret (by exact (ev_tup (by exact (ea_cons (by exact (ev_ix ixv (by exact (eb_var (pv 3))) (by exact (eb_var (pv 6))) (fun _ _ => by rfl))) (by exact (ea_cons (by exact (ev_ix ixv (by exact (eb_var (pv 3))) (by exact (eb_var (pv 7))) (fun _ _ => by rfl))) (by exact ea_nil)))))))))))
    (by exact ss_nil)))))))))))))))))
    (by exact (ss_one (by exact (ss_ret (by exact ev_non)))))))))))))
/-! ### is_whole_order -/
abbrev st_is_whole_order : Stmt := topS 14
abbrev N_is_whole_order : List Str := ["row"]
theorem sc_is_whole_order : FnScope N_is_whole_order ["row"] (defScope st_is_whole_order) := ⟨rfl, rfl, rfl, by decide +kernel, rfl, by decide +kernel, by decide +kernel⟩
theorem ok_is_whole_order (T : Facts K mg) (G_all_things : FnOk P w K mg base CX0 1 T.d_all_things.f T.d_all_things.fd [] (spOf K 0 m_all_things)) (G_classes : FnOk P w K mg base CX0 7 T.d_classes.f T.d_classes.fd ["row"] (spOf K 1 m_classes)) : FnOk P w K mg base CX0 8 T.d_is_whole_order.f T.d_is_whole_order.fd ["row"] (spOf K 1 m_is_whole_order) :=
  fn_val (N := N_is_whole_order) T.d_is_whole_order.F sc_is_whole_order fun cdv A outer s H E hr => (by exact (ss_one (by exact (ss_ret (by exact (ev_cmp (ov_eq (hu64 hr)) (by exact (eb_of (by exact (ev_callD T.d_classes G_classes hr (by decide) (by rfl) (by exact (ea_cons (by exact (ev_var (pv 0))) (by exact ea_nil))))))) (by exact (eb_of (by exact (ev_callB cv_len (by rfl) T.z_len bt_len (by exact (ed_cons (by exact (eb_of (by exact (ev_callD0 T.d_all_things G_all_things hr (by decide) (by rfl))))) (by exact ed_nil))))))) (nomark _)))))))
/-! ### tie -/
abbrev st_tie : Stmt := topS 13
abbrev N_tie : List Str := ["row"]
theorem sc_tie : FnScope N_tie ["row"] (defScope st_tie) := ⟨rfl, rfl, rfl, by decide +kernel, rfl, by decide +kernel, by decide +kernel⟩
abbrev L_tie : LamT := lamOf ("tie" ++ ".<locals>." ++ "<lambda>") (defBody st_tie)
theorem scl_tie : FnScope ["mine", "yours"] ["mine", "yours"] L_tie.scope := ⟨rfl, rfl, rfl, by decide +kernel, rfl, by decide +kernel, by decide +kernel⟩
theorem ls_tie : LamSem L_tie (fun i j => i == 0) := lam_sem (N := ["mine", "yours"]) (a := "mine") (b := "yours") (fe := (eBin dEq (dVar 0) (dOf (eC (.int 0))))) scl_tie (fun pm cv ctv us hl => match us, hl with | [_, _], _ => (by rfl)) (fun P w K mg base A outer s H f c hr => (by exact (by exact (ev_cmp (ov_eq (hu64 hr)) (by exact (eb_var (pv 0))) (by exact (eb_of (by exact ev_int))) (nomark _))))) (fun i j n => by first | rfl | exact lam_and rfl rfl)
theorem ok_tie (T : Facts K mg) (LT_tie : LamAt K mg base T.d_tie.fd ("tie" ++ ".<locals>." ++ "<lambda>")) (G_first_pair : FnOk P w K mg base CX0 7 T.d_first_pair.f T.d_first_pair.fd ["one", "other", "test"] (spOf K 3 m_first_pair)) (G_is_whole_order : FnOk P w K mg base CX0 8 T.d_is_whole_order.f T.d_is_whole_order.fd ["row"] (spOf K 1 m_is_whole_order)) : FnOk P w K mg base CX0 9 T.d_tie.f T.d_tie.fd ["row"] (spOf K 1 m_tie) :=
  fn_valL (N := N_tie) T.d_tie.F sc_tie fun A outer s H E hr => (by exact (ss_cons (by exact (ss_if (by exact (et_tru (by exact (eb_of (by exact (ev_callD T.d_is_whole_order G_is_whole_order hr (by decide) (by rfl) (by exact (ea_cons (by exact (ev_var (pv 0))) (by exact ea_nil))))))) (fun _ => (by rfl))))
    (by exact (ss_one (by exact (ss_ret (by exact ev_non)))))
    (by exact ss_nil)))
    (by exact (ss_one (by exact (ss_ret (by exact (ev_callD T.d_first_pair G_first_pair hr (by decide) (by rfl) (by exact (ea_cons (by exact (ev_var (pv 0))) (by exact (ea_cons (by exact (ev_var (pv 0))) (by exact (ea_cons (by exact (ev_lamA LT_tie scl_tie ls_tie)) (by exact ea_nil)))))))))))))))
/-! ### pairs_of -/
abbrev st_pairs_of : Stmt := topS 15
abbrev N_pairs_of : List Str := ["many"]
theorem sc_pairs_of : FnScope N_pairs_of ["many"] (defScope st_pairs_of) := ⟨rfl, rfl, rfl, by decide +kernel, rfl, by decide +kernel, by decide +kernel⟩
theorem ok_pairs_of (T : Facts K mg)  : FnOk P w K mg base CX0 1 T.d_pairs_of.f T.d_pairs_of.fd ["many"] (spOf K 1 m_pairs_of) :=
  fn_val (N := N_pairs_of) T.d_pairs_of.F sc_pairs_of fun cdv A outer s H E hr => (by exact (ss_one (by exact (ss_ret (by exact (ev_bin ov_div (by exact (eb_of (by exact (ev_bin ov_mul (by exact (eb_var (pv 0))) (by exact (eb_of (by exact (ev_bin ov_sub (by exact (eb_var (pv 0))) (by exact (eb_of (by exact ev_int))))))))))) (by exact (eb_of (by exact ev_int)))))))))
/-! ### ties_of -/
abbrev st_ties_of : Stmt := topS 16
abbrev N_ties_of : List Str := ["row", "counts", "rank"]
theorem sc_ties_of : FnScope N_ties_of ["row"] (defScope st_ties_of) := ⟨rfl, rfl, rfl, by decide +kernel, rfl, by decide +kernel, by decide +kernel⟩
theorem ok_ties_of (T : Facts K mg) (G_form : FnOk P w K mg base CX0 6 T.d_form.f T.d_form.fd ["row"] (spOf K 1 m_form)) (G_pairs_of : FnOk P w K mg base CX0 1 T.d_pairs_of.f T.d_pairs_of.fd ["many"] (spOf K 1 m_pairs_of)) : FnOk P w K mg base CX0 7 T.d_ties_of.f T.d_ties_of.fd ["row"] (spOf K 1 m_ties_of) :=
  fn_val (N := N_ties_of) T.d_ties_of.F sc_ties_of fun cdv A outer s H E hr => (by exact (ss_cons (by exact (ss_set (i := 1) sc_ties_of.nd (by rfl) (by first | exact .inl rfl | exact .inr rfl) ev_dicK))
    (by exact (ss_cons (by exact (ss_forK [0] PassesOwn.never (by rfl) (by exact (ei_seq (by exact (ev_callD T.d_form G_form hr (by decide) (by rfl) (by exact (ea_cons (by exact (ev_var (pv 0))) (by exact ea_nil))))))) (by exact (eg_one (pg_name (i := 2) sc_ties_of.nd (by rfl) (by first | exact .inl rfl | exact .inr rfl))))
    (by exact (ss_one (by exact (ss_end [2] (by exact (ss_put (hu1 hr) (pv 1) (by exact (eb_var (pv 2))) (by exact (ev_bin ov_add (by exact (eb_of (by exact (ev_getD (hu1 hr) (by exact (eb_var (pv 1))) (by exact (eb_var (pv 2))) (by exact (eb_of (by exact ev_int))) ⟨(by rfl), (by rfl), (by rfl), (by rfl)⟩)))) (by exact (eb_of (by exact ev_int))))) (fun _ => (by rfl))))))))))
    (by exact (ss_one (by exact (ss_ret (by exact (ev_lockI 1 (ev_callB (cv_sum (by rfl)) (by rfl) T.z_sum bt_sum (by exact (ed_cons (by exact (eb_of (by exact (ev_lc (own:=[("rank",2)]) (by rfl) sc_ties_of.nd (by exact (ej_keyF (pv 1))) (blkOk_by (N := N_ties_of) (sc := defScope st_ties_of) (by decide +kernel)) (fun _ _ _ _ _ => (by exact (eg_one (pg_name (i := 2) sc_ties_of.nd (by rfl) (by first | exact .inl rfl | exact .inr rfl))))) (fun _ _ _ _ _ => ets_nil) (fun _ _ _ _ _ => (by exact (ev_callD T.d_pairs_of G_pairs_of hr (by decide) (by rfl) (by exact (ea_cons (by exact (ev_ixD (hu1 hr) (by exact (eb_var (pv 1))) (by exact (eb_var (pv 2))) (fun _ _ => by rfl))) (by exact ea_nil)))))))))) (by exact ed_nil))))))))))))))
/-! ### _law_draw -/
abbrev st__law_draw : Stmt := topS 18
abbrev N__law_draw : List Str := ["_law_script", "_law_town", "_law_many", "_law_k", "_law_cell", "_law_number", "_law_more"]
theorem sc__law_draw : FnScope N__law_draw ["_law_script", "_law_town", "_law_many"] (defScope st__law_draw) := ⟨rfl, rfl, rfl, by decide +kernel, rfl, by decide +kernel, by decide +kernel⟩
theorem ok__law_draw (T : Facts K mg)  : FnOk P w K mg base CX0 1 T.d__law_draw.f T.d__law_draw.fd ["_law_script", "_law_town", "_law_many"] (spOf K 3 m__law_draw_v2) :=
  fn_val (N := N__law_draw) T.d__law_draw.F sc__law_draw fun cdv A outer s H E hr => (by exact (ss_cons (by exact (ss_town (pv 1)))
    (by exact (ss_cons (by exact (ss_end [1] (by exact (ss_set (i := 3) sc__law_draw.nd (by rfl) (by first | exact .inl rfl | exact .inr rfl) (by exact (ev_tlen (by rfl) T.z_len (pv 1)))))))
    (by exact (ss_cons (by exact (ss_set (i := 4) sc__law_draw.nd (by rfl) (by first | exact .inl rfl | exact .inr rfl) (by exact ev_int)))
    (by exact (ss_cons (by exact (ss_end [0] (by exact (ss_if (by exact (et_tru (by exact (eb_var (pv 0))) (fun _ => (by rfl))))
    (by exact (ss_one (by exact (ss_end [0] (by exact (ss_set (i := 4) sc__law_draw.nd (by rfl) (by first | exact .inl rfl | exact .inr rfl) (by exact (ev_ix ixv (by exact (eb_var (pv 0))) (by exact (eb_of (by exact (ev_bin ov_mod (by exact (eb_var (pv 3))) (by exact (eb_of (by exact (ev_callB cv_len (by rfl) T.z_len bt_len (by exact (ed_cons (by exact (eb_var (pv 0))) (by exact ed_nil))))))))))) (fun _ _ => by rfl)))))))))
    (by exact ss_nil)))))
    (by exact (ss_cons (by exact (ss_end [3, 4] (by exact (ss_set (i := 5) sc__law_draw.nd (by rfl) (by first | exact .inl rfl | exact .inr rfl) (by exact (ev_bin ov_mod (by exact (eb_of (by exact (ev_bin ov_add (by exact (eb_var (pv 4))) (by exact (eb_of (by exact (ev_bin ov_mul (by exact (eb_of (by exact ev_int))) (by exact (eb_var (pv 3))))))))))) (by exact (eb_of (by exact ev_int)))))))))
    (by exact (ss_cons (by exact (ss_set (i := 5) sc__law_draw.nd (by rfl) (by first | exact .inl rfl | exact .inr rfl) (by exact (ev_bin ov_mod (by exact (eb_of (by exact (ev_bin ov_mul (by exact (eb_of (by exact (ev_bin ov_mod (by exact (eb_of (by exact (ev_bin ov_mul (by exact (eb_var (pv 5))) (by exact (eb_var (pv 5))))))) (by exact (eb_of (by exact ev_int))))))) (by exact (eb_of (by exact ev_int))))))) (by exact (eb_of (by exact ev_int)))))))
    (by exact (ss_cons (by exact (ss_set (i := 6) sc__law_draw.nd (by rfl) (by first | exact .inl rfl | exact .inr rfl) (by exact (ev_bin ov_mod (by exact (eb_of (by exact (ev_bin ov_mul (by exact (eb_of (by exact (ev_bin ov_mod (by exact (eb_of (by exact (ev_bin ov_mul (by exact (eb_var (pv 5))) (by exact (eb_var (pv 5))))))) (by exact (eb_of (by exact ev_int))))))) (by exact (eb_of (by exact ev_int))))))) (by exact (eb_of (by exact ev_int)))))))
    (by exact (ss_one (by exact (ss_ret (by exact (ev_bin ov_mod (by exact (eb_of (by exact (ev_bin ov_add (by exact (eb_of (by exact (ev_bin ov_mul (by exact (eb_of (by exact (ev_bin ov_div (by exact (eb_var (pv 5))) (by exact (eb_of (by exact ev_int))))))) (by exact (eb_of (by exact ev_int))))))) (by exact (eb_of (by exact (ev_bin ov_div (by exact (eb_var (pv 6))) (by exact (eb_of (by exact ev_int))))))))))) (by exact (eb_var (pv 2)))))))))))))))))))))))
/-! ### _law_pick -/
abbrev st__law_pick : Stmt := topS 19
abbrev N__law_pick : List Str := ["_law_script", "_law_town", "_law_some"]
theorem sc__law_pick : FnScope N__law_pick ["_law_script", "_law_town", "_law_some"] (defScope st__law_pick) := ⟨rfl, rfl, rfl, by decide +kernel, rfl, by decide +kernel, by decide +kernel⟩
theorem ok__law_pick (T : Facts K mg) (G__law_draw : FnOk P w K mg base CX0 1 T.d__law_draw.f T.d__law_draw.fd ["_law_script", "_law_town", "_law_many"] (spOf K 3 m__law_draw_v2)) : FnOk P w K mg base CX0 2 T.d__law_pick.f T.d__law_pick.fd ["_law_script", "_law_town", "_law_some"] (spOf K 3 m__law_pick_v2) :=
  fn_val (N := N__law_pick) T.d__law_pick.F sc__law_pick fun cdv A outer s H E hr => (by exact (ss_one (by exact (ss_ret (by exact (ev_ix ixv (by exact (eb_var (pv 2))) (by exact (eb_of (by exact (ev_callD T.d__law_draw G__law_draw hr (by decide) (by rfl) (by exact (ea_cons (by exact (ev_var (pv 0))) (by exact (ea_cons (by exact (ev_var (pv 1))) (by exact (ea_cons (by exact (ev_callB cv_len (by rfl) T.z_len bt_len (by exact (ed_cons (by exact (eb_var (pv 2))) (by exact ed_nil))))) (by exact ea_nil))))))))))) (fun _ _ => by rfl)))))))
/-! ### _law_plain -/
abbrev st__law_plain : Stmt := topS 20
abbrev N__law_plain : List Str := ["_law_script", "_law_town", "_law_field", "_law_word", "_law_one", "_law_other", "_law_left", "_law_got", "_law_turn"]
theorem sc__law_plain : FnScope N__law_plain ["_law_script", "_law_town"] (defScope st__law_plain) := ⟨rfl, rfl, rfl, by decide +kernel, rfl, by decide +kernel, by decide +kernel⟩
theorem ok__law_plain (T : Facts K mg) (G__law_draw : FnOk P w K mg base CX0 1 T.d__law_draw.f T.d__law_draw.fd ["_law_script", "_law_town", "_law_many"] (spOf K 3 m__law_draw_v2)) (G__law_pick : FnOk P w K mg base CX0 2 T.d__law_pick.f T.d__law_pick.fd ["_law_script", "_law_town", "_law_some"] (spOf K 3 m__law_pick_v2)) : FnOk P w K mg base CX0 3 T.d__law_plain.f T.d__law_plain.fd ["_law_script", "_law_town"] (spOf K 2 m__law_plain_v2) :=
  fn_val (N := N__law_plain) T.d__law_plain.F sc__law_plain fun cdv A outer s H E hr => (by exact (ss_cons (by exact (ss_par (i := 2) (j := 3) (by rfl) sc__law_plain.nd (by rfl) (by rfl) (by decide) (by rfl) (by rfl) (by exact (ea_cons (by exact (ev_callD T.d__law_draw G__law_draw hr (by decide) (by rfl) (by exact (ea_cons (by exact (ev_var (pv 0))) (by exact (ea_cons (by exact (ev_var (pv 1))) (by exact (ea_cons (by exact ev_int) (by exact ea_nil))))))))) (by exact (ea_cons (by exact (ev_callD T.d__law_draw G__law_draw hr (by decide) (by rfl) (by exact (ea_cons (by exact (ev_var (pv 0))) (by exact (ea_cons (by exact (ev_var (pv 1))) (by exact (ea_cons (by exact ev_int) (by exact ea_nil))))))))) (by exact ea_nil))))) (by rfl)))
    (by exact (ss_cons (by exact (ss_if (by exact (et_cmp (ov_lt (hu0 hr)) (by exact (eb_var (pv 3))) (by exact (eb_of (by exact ev_int))) (nomark _)))
    (by exact (ss_one (by exact (ss_ret (by exact (ev_tup (by exact (ea_cons (by exact ev_str) (by exact (ea_cons (by exact (ev_var (pv 2))) (by exact ea_nil)))))))))))
    (by exact ss_nil)))
    (by exact (ss_cons (by exact (ss_if (by exact (et_cmp (ov_eq (hu64 hr)) (by exact (eb_var (pv 3))) (by exact (eb_of (by exact ev_int))) (nomark _)))
    (by exact (ss_one (by exact (ss_ret (by exact (ev_tup (by exact (ea_cons (by exact (ev_callD T.d__law_pick G__law_pick hr (by decide) (by rfl) (by exact (ea_cons (by exact (ev_var (pv 0))) (by exact (ea_cons (by exact (ev_var (pv 1))) (by exact (ea_cons (by exact (ev_lst (by exact (ea_cons (by exact ev_str) (by exact (ea_cons (by exact ev_str) (by exact ea_nil))))))) (by exact ea_nil))))))))) (by exact (ea_cons (by exact (ev_var (pv 2))) (by exact (ea_cons (by exact (ev_bin ov_add (by exact (eb_of (by exact ev_int))) (by exact (eb_of (by exact (ev_callD T.d__law_draw G__law_draw hr (by decide) (by rfl) (by exact (ea_cons (by exact (ev_var (pv 0))) (by exact (ea_cons (by exact (ev_var (pv 1))) (by exact (ea_cons (by exact ev_int) (by exact ea_nil))))))))))))) (by exact ea_nil)))))))))))))
    (by exact ss_nil)))
    (by exact (ss_cons (by exact (ss_if (by exact (et_cmp (ov_eq (hu64 hr)) (by exact (eb_var (pv 3))) (by exact (eb_of (by exact ev_int))) (nomark _)))
    (by exact (ss_cons (by exact (ss_end [2, 3] (by exact (ss_asg (by exact (ev_callD T.d__law_pick G__law_pick hr (by decide) (by rfl) (by exact (ea_cons (by exact (ev_var (pv 0))) (by exact (ea_cons (by exact (ev_var (pv 1))) (by exact (ea_cons (by exact (ev_lst (by exact (ea_cons (by exact (ev_tup (by exact (ea_cons (by exact ev_int) (by exact (ea_cons (by exact ev_int) (by exact ea_nil))))))) (by exact (ea_cons (by exact (ev_tup (by exact (ea_cons (by exact ev_int) (by exact (ea_cons (by exact ev_int) (by exact ea_nil))))))) (by exact (ea_cons (by exact (ev_tup (by exact (ea_cons (by exact ev_int) (by exact (ea_cons (by exact ev_int) (by exact ea_nil))))))) (by exact ea_nil))))))))) (by exact ea_nil))))))))) (by exact (eg_many (by rfl) (egs_cons (pg_name (i := 4) sc__law_plain.nd (by rfl) (by first | exact .inl rfl | exact .inr rfl)) (egs_cons (pg_name (i := 5) sc__law_plain.nd (by rfl) (by first | exact .inl rfl | exact .inr rfl)) egs_nil))))))))
    (by exact (ss_one (by exact (ss_ret (by exact (ev_tup (by exact (ea_cons (by exact (ev_callD T.d__law_pick G__law_pick hr (by decide) (by rfl) (by exact (ea_cons (by exact (ev_var (pv 0))) (by exact (ea_cons (by exact (ev_var (pv 1))) (by exact (ea_cons (by exact (ev_lst (by exact (ea_cons (by exact ev_str) (by exact (ea_cons (by exact ev_str) (by exact (ea_cons (by exact ev_str) (by exact ea_nil))))))))) (by exact ea_nil))))))))) (by exact (ea_cons (by exact (ev_var (pv 4))) (by exact (ea_cons (by exact (ev_var (pv 5))) (by exact ea_nil)))))))))))))))
    (by exact ss_nil)))
    (by exact (ss_cons (by exact (ss_parO (i := 6) (j := 7) (by rfl) sc__law_plain.nd (by rfl) (by rfl) (by decide) (by rfl) (by rfl) (by exact (ev_lst (by exact (ea_cons (by exact ev_int) (by exact (ea_cons (by exact ev_int) (by exact (ea_cons (by exact ev_int) (by exact (ea_cons (by exact ev_int) (by exact (ea_cons (by exact ev_int) (by exact (ea_cons (by exact ev_int) (by exact ea_nil))))))))))))))) (by exact (ev_tup (by exact ea_nil))) (by rfl)))
    (by exact (ss_cons (by exact (ss_end [0, 1, 6] (by exact (ss_for PassesOwn.never (by rfl) (by exact (ei_range1 (by rfl) T.z_range (by exact (eb_of (by exact (ev_bin ov_add (by exact (eb_of (by exact ev_int))) (by exact (eb_of (by exact (ev_callD T.d__law_draw G__law_draw hr (by decide) (by rfl) (by exact (ea_cons (by exact (ev_var (pv 0))) (by exact (ea_cons (by exact (ev_var (pv 1))) (by exact (ea_cons (by exact ev_int) (by exact ea_nil))))))))))))))))) (by exact (eg_one (pg_name (i := 8) sc__law_plain.nd (by rfl) (by first | exact .inl rfl | exact .inr rfl))))
    (by exact (ss_one (by exact (ss_end [8] (by exact (ss_setX (i := 7) sc__law_plain.nd (by rfl) (by first | exact .inl rfl | exact .inr rfl) (by exact (ex_cat (by exact (ev_var (pv 7))) (by exact (ex_tup1 (by exact (ex_pop (pv 6) (by exact (eb_of (by exact (ev_callD T.d__law_draw G__law_draw hr (by decide) (by rfl) (by exact (ea_cons (by exact (ev_var (pv 0))) (by exact (ea_cons (by exact (ev_var (pv 1))) (by exact (ea_cons (by exact (ev_callB cv_len (by rfl) T.z_len bt_len (by exact (ed_cons (by exact (eb_var (pv 6))) (by exact ed_nil))))) (by exact ea_nil)))))))))))))))))))))))))))
    (by exact (ss_one (by exact (ss_ret (by exact (ev_ife (by exact (et_cmp (ov_eq (hu64 hr)) (by exact (eb_var (pv 3))) (by exact (eb_of (by exact ev_int))) (nomark _))) (by exact (ev_tup (by exact (ea_cons (by exact ev_str) (by exact (ea_cons (by exact (ev_var (pv 2))) (by exact (ea_cons (by exact (ev_var (pv 7))) (by exact ea_nil))))))))) (by exact (ev_tup (by exact (ea_cons (by exact ev_str) (by exact (ea_cons (by exact (ev_var (pv 2))) (by exact (ea_cons (by exact (ev_callTy cv_tup (by rfl) T.z_tuple bt_tuple (by exact (ed_cons (by exact (eb_of (by exact (ev_callB (cv_sorted (hu100 hr)) (by rfl) T.z_sorted bt_sorted (by exact (ed_cons (by exact (eb_var (pv 7))) (by exact ed_nil))))))) (by exact ed_nil))))) (by exact ea_nil)))))))))))))))))))))))))))
/-! ### _law_row -/
abbrev st__law_row : Stmt := topS 21
abbrev N__law_row : List Str := ["_law_script", "_law_town", "_law_most", "_law_got", "_law_turn", "_law_key"]
theorem sc__law_row : FnScope N__law_row ["_law_script", "_law_town", "_law_most"] (defScope st__law_row) := ⟨rfl, rfl, rfl, by decide +kernel, rfl, by decide +kernel, by decide +kernel⟩
theorem ok__law_row (T : Facts K mg) (G__law_draw : FnOk P w K mg base CX0 1 T.d__law_draw.f T.d__law_draw.fd ["_law_script", "_law_town", "_law_many"] (spOf K 3 m__law_draw_v2)) (G__law_plain : FnOk P w K mg base CX0 3 T.d__law_plain.f T.d__law_plain.fd ["_law_script", "_law_town"] (spOf K 2 m__law_plain_v2)) : FnOk P w K mg base CX0 4 T.d__law_row.f T.d__law_row.fd ["_law_script", "_law_town", "_law_most"] (spOf K 3 m__law_row_v2) :=
  fn_val (N := N__law_row) T.d__law_row.F sc__law_row fun cdv A outer s H E hr => (by exact (ss_cons (by exact (ss_set (i := 3) sc__law_row.nd (by rfl) (by first | exact .inl rfl | exact .inr rfl) (by exact (ev_tup (by exact ea_nil)))))
    (by exact (ss_cons (by exact (ss_end [0, 1] (by exact (ss_forK [2] PassesOwn.never (by rfl) (by exact (ei_range1 (by rfl) T.z_range (by exact (eb_of (by exact (ev_callD T.d__law_draw G__law_draw hr (by decide) (by rfl) (by exact (ea_cons (by exact (ev_var (pv 0))) (by exact (ea_cons (by exact (ev_var (pv 1))) (by exact (ea_cons (by exact (ev_bin ov_add (by exact (eb_var (pv 2))) (by exact (eb_of (by exact ev_int))))) (by exact ea_nil))))))))))))) (by exact (eg_one (pg_name (i := 4) sc__law_row.nd (by rfl) (by first | exact .inl rfl | exact .inr rfl))))
    (by exact (ss_cons (by exact (ss_end [4] (by exact (ss_set (i := 5) sc__law_row.nd (by rfl) (by first | exact .inl rfl | exact .inr rfl) (ev_frz (by exact (ev_callD T.d__law_plain G__law_plain hr (by decide) (by rfl) (by exact (ea_cons (by exact (ev_var (pv 0))) (by exact (ea_cons (by exact (ev_var (pv 1))) (by exact ea_nil))))))))))))
    (by exact (ss_one (by exact (ss_end [5] (by exact (ss_set (i := 3) sc__law_row.nd (by rfl) (by first | exact .inl rfl | exact .inr rfl) (ev_frz (by exact (ev_bin ov_add (by exact (eb_var (pv 3))) (by exact (eb_of (by exact (ev_tup (by exact (ea_cons (by exact (ev_ife (by exact (et_cmp (ov_eq (hu64 hr)) (by exact (eb_of (by exact (ev_callD T.d__law_draw G__law_draw hr (by decide) (by rfl) (by exact (ea_cons (by exact (ev_var (pv 0))) (by exact (ea_cons (by exact (ev_var (pv 1))) (by exact (ea_cons (by exact ev_int) (by exact ea_nil))))))))))) (by exact (eb_of (by exact ev_int))) (nomark _))) (by exact (ev_tup (by exact (ea_cons (by exact ev_str) (by exact (ea_cons (by exact (ev_var (pv 5))) (by exact ea_nil))))))) (by exact (ev_var (pv 5))))) (by exact ea_nil))))))))))))))))))))))
    (by exact (ss_one (by exact (ss_ret (by exact (ev_var (pv 3)))))))))))
/-! ### told -/
abbrev st_told : Stmt := topS 4
abbrev N_told : List Str := ["row", "one", "other", "mine", "yours"]
theorem sc_told : FnScope N_told ["row", "one", "other"] (defScope st_told) := ⟨rfl, rfl, rfl, by decide +kernel, rfl, by decide +kernel, by decide +kernel⟩
theorem ok_told (T : Facts K mg) (G_worths : FnOk P w K mg base CX0 5 T.d_worths.f T.d_worths.fd ["row", "thing"] (spOf K 2 m_worths)) : FnOk P w K mg base CX0 6 T.d_told.f T.d_told.fd ["row", "one", "other"] (spOf K 3 m_told) :=
  fn_val (N := N_told) T.d_told.F sc_told fun cdv A outer s H E hr => (by exact (ss_cons (by exact (ss_set (i := 3) sc_told.nd (by rfl) (by first | exact .inl rfl | exact .inr rfl) (ev_frz (by exact (ev_callD T.d_worths G_worths hr (by decide) (by rfl) (by exact (ea_cons (by exact (ev_var (pv 0))) (by exact (ea_cons (by exact (ev_var (pv 1))) (by exact ea_nil))))))))))
    (by exact (ss_cons (by exact (ss_set (i := 4) sc_told.nd (by rfl) (by first | exact .inl rfl | exact .inr rfl) (ev_frz (by exact (ev_callD T.d_worths G_worths hr (by decide) (by rfl) (by exact (ea_cons (by exact (ev_var (pv 0))) (by exact (ea_cons (by exact (ev_var (pv 2))) (by exact ea_nil))))))))))
    (by exact (ss_one (by exact (ss_ret (by exact (ev_bin ov_sub (by exact (eb_of (by exact (ev_callTy cv_int (by rfl) T.z_int bt_int (by exact (ed_cons (by exact (eb_of (by exact (ev_cmp (ov_gt (hu0 hr)) (by exact (eb_var (pv 3))) (by exact (eb_var (pv 4))) (nomark _))))) (by exact ed_nil))))))) (by exact (eb_of (by exact (ev_callTy cv_int (by rfl) T.z_int bt_int (by exact (ed_cons (by exact (eb_of (by exact (ev_cmp (ov_lt (hu0 hr)) (by exact (eb_var (pv 3))) (by exact (eb_var (pv 4))) (nomark _))))) (by exact ed_nil)))))))))))))))))
/-! ### turned_key -/
abbrev st_turned_key : Stmt := topS 5
abbrev N_turned_key : List Str := ["key"]
theorem sc_turned_key : FnScope N_turned_key ["key"] (defScope st_turned_key) := ⟨rfl, rfl, rfl, by decide +kernel, rfl, by decide +kernel, by decide +kernel⟩
theorem ok_turned_key (T : Facts K mg)  : FnOk P w K mg base CX0 1 T.d_turned_key.f T.d_turned_key.fd ["key"] (spOf K 1 m_turned_key) :=
  fn_val (N := N_turned_key) T.d_turned_key.F sc_turned_key fun cdv A outer s H E hr => (by exact (ss_cons (by exact (ss_if (by exact (et_cmp (ov_eq (hu64 hr)) (by exact (eb_of (by exact (ev_ix ixv (by exact (eb_var (pv 0))) (by exact (eb_of (by exact ev_int))) (fun _ _ => by rfl))))) (by exact (eb_of (by exact ev_str))) (nomark _)))
    (by exact (ss_one (by exact (ss_ret (by exact (ev_ix ixv (by exact (eb_var (pv 0))) (by exact (eb_of (by exact ev_int))) (fun _ _ => by rfl)))))))
    (by exact ss_nil)))
    (by exact (ss_one (by exact (ss_ret (by exact (ev_tup (by exact (ea_cons (by exact ev_str) (by exact (ea_cons (by exact (ev_var (pv 0))) (by exact ea_nil)))))))))))))
/-! ### turned -/
abbrev st_turned : Stmt := topS 6
abbrev N_turned : List Str := ["row", "key"]
theorem sc_turned : FnScope N_turned ["row"] (defScope st_turned) := ⟨rfl, rfl, rfl, by decide +kernel, rfl, by decide +kernel, by decide +kernel⟩
theorem ok_turned (T : Facts K mg) (G_turned_key : FnOk P w K mg base CX0 1 T.d_turned_key.f T.d_turned_key.fd ["key"] (spOf K 1 m_turned_key)) : FnOk P w K mg base CX0 2 T.d_turned.f T.d_turned.fd ["row"] (spOf K 1 m_turned) :=
  fn_val (N := N_turned) T.d_turned.F sc_turned fun cdv A outer s H E hr => (by exact (ss_one (by exact (ss_ret (by exact (ev_callTy cv_tup (by rfl) T.z_tuple bt_tuple (by exact (ed_cons (by exact (eb_of (by exact (ev_lc (own:=[("key",1)]) (by rfl) sc_turned.nd (by exact (ej_seq (by exact (eb_var (pv 0))))) (blkOk_by (N := N_turned) (sc := defScope st_turned) (by decide +kernel)) (fun _ _ _ _ _ => (by exact (eg_one (pg_name (i := 1) sc_turned.nd (by rfl) (by first | exact .inl rfl | exact .inr rfl))))) (fun _ _ _ _ _ => ets_nil) (fun _ _ _ _ _ => (by exact (ev_callD T.d_turned_key G_turned_key hr (by decide) (by rfl) (by exact (ea_cons (by exact (ev_var (pv 1))) (by exact ea_nil)))))))))) (by exact ed_nil)))))))))
/-! ### _law_form_holds -/
abbrev st__law_form_holds : Stmt := topS 24
abbrev N__law_form_holds : List Str := ["_law_script", "_law_town", "_law_row_here", "_law_every", "_law_some", "_law_many", "_law_one", "_law_turn", "_law_other", "_law_mine", "_law_yours", "_law_counts", "_law_count", "_law_pair", "_law_at", "_law_place"]
theorem sc__law_form_holds : FnScope N__law_form_holds ["_law_script", "_law_town", "_law_row_here", "_law_every"] (defScope st__law_form_holds) := ⟨rfl, rfl, rfl, by decide +kernel, rfl, by decide +kernel, by decide +kernel⟩
theorem ok__law_form_holds (T : Facts K mg) (G_told : FnOk P w K mg base CX0 6 T.d_told.f T.d_told.fd ["row", "one", "other"] (spOf K 3 m_told)) (G_turned : FnOk P w K mg base CX0 2 T.d_turned.f T.d_turned.fd ["row"] (spOf K 1 m_turned)) (G_form : FnOk P w K mg base CX0 6 T.d_form.f T.d_form.fd ["row"] (spOf K 1 m_form)) (G_classes : FnOk P w K mg base CX0 7 T.d_classes.f T.d_classes.fd ["row"] (spOf K 1 m_classes)) (G_tie : FnOk P w K mg base CX0 9 T.d_tie.f T.d_tie.fd ["row"] (spOf K 1 m_tie)) (G_is_whole_order : FnOk P w K mg base CX0 8 T.d_is_whole_order.f T.d_is_whole_order.fd ["row"] (spOf K 1 m_is_whole_order)) (G_ties_of : FnOk P w K mg base CX0 7 T.d_ties_of.f T.d_ties_of.fd ["row"] (spOf K 1 m_ties_of)) (G__law_draw : FnOk P w K mg base CX0 1 T.d__law_draw.f T.d__law_draw.fd ["_law_script", "_law_town", "_law_many"] (spOf K 3 m__law_draw_v2)) : FnOk P w K mg base CX0 10 T.d__law_form_holds.f T.d__law_form_holds.fd ["_law_script", "_law_town", "_law_row_here", "_law_every"] (spOf K 4 m__law_form_holds) :=
  fn_val (N := N__law_form_holds) T.d__law_form_holds.F sc__law_form_holds fun cdv A outer s H E hr => (by exact (ss_cons (by exact (ss_set (i := 4) sc__law_form_holds.nd (by rfl) (by first | exact .inl rfl | exact .inr rfl) (ev_frz (by exact (ev_callD T.d_form G_form hr (by decide) (by rfl) (by exact (ea_cons (by exact (ev_var (pv 2))) (by exact ea_nil))))))))
    (by exact (ss_cons (by exact (ss_set (i := 5) sc__law_form_holds.nd (by rfl) (by first | exact .inl rfl | exact .inr rfl) (ev_frz (by exact (ev_callD T.d_classes G_classes hr (by decide) (by rfl) (by exact (ea_cons (by exact (ev_var (pv 2))) (by exact ea_nil))))))))
    (by exact (ss_cons (by exact (ss_if (by exact (et_w (ew_or (by exact (et_cmp (ov_ne (hu64 hr)) (by exact (eb_of (by exact (ev_callB cv_len (by rfl) T.z_len bt_len (by exact (ed_cons (by exact (eb_var (pv 4))) (by exact ed_nil))))))) (by exact (eb_of (by exact ev_int))) (nomark _))) (ew_or1 (by exact (et_cmp (ov_ne (hu64 hr)) (by exact (eb_of (by exact (ev_sortDictX (by rfl) (hu100 hr) (by rfl) T.z_sorted (by rfl) T.z_dict (by exact (ed_cons (by exact (eb_of (by exact (ev_lc (own:=[("_law_one",6)]) (by rfl) sc__law_form_holds.nd (by exact (ej_seq (by exact (eb_var (pv 4))))) (blkOk_by (N := N__law_form_holds) (sc := defScope st__law_form_holds) (by decide +kernel)) (fun _ _ _ _ _ => (by exact (eg_one (pg_name (i := 6) sc__law_form_holds.nd (by rfl) (by first | exact .inl rfl | exact .inr rfl))))) (fun _ _ _ _ _ => ets_nil) (fun _ _ _ _ _ => (by exact (ev_tup (by exact (ea_cons (by exact (ev_var (pv 6))) (by exact (ea_cons (by exact ev_int) (by exact ea_nil)))))))))))) (by exact ed_nil))) bt_sorted bt_dict)))) (by exact (eb_of (by exact (ev_listRg1 (by rfl) (by rfl) T.z_list (by rfl) T.z_range (by exact (eb_var (pv 5))))))) (nomark _)))))))
    (by exact (ss_one (by exact (ss_ret (by exact ev_bl)))))
    (by exact ss_nil)))
    (by exact (ss_cons (by exact (ss_end [0, 1] (by exact (ss_for PassesOwn.never (by rfl) (by exact (ei_range1 (by rfl) T.z_range (by exact (eb_of (by exact ev_int))))) (by exact (eg_one (pg_name (i := 7) sc__law_form_holds.nd (by rfl) (by first | exact .inl rfl | exact .inr rfl))))
    (by exact (ss_cons (by exact (ss_end [7] (by exact (ss_par (i := 6) (j := 8) (by rfl) sc__law_form_holds.nd (by rfl) (by rfl) (by decide) (by rfl) (by rfl) (by exact (ea_cons (by exact (ev_callD T.d__law_draw G__law_draw hr (by decide) (by rfl) (by exact (ea_cons (by exact (ev_var (pv 0))) (by exact (ea_cons (by exact (ev_var (pv 1))) (by exact (ea_cons (by exact ev_int) (by exact ea_nil))))))))) (by exact (ea_cons (by exact (ev_callD T.d__law_draw G__law_draw hr (by decide) (by rfl) (by exact (ea_cons (by exact (ev_var (pv 0))) (by exact (ea_cons (by exact (ev_var (pv 1))) (by exact (ea_cons (by exact ev_int) (by exact ea_nil))))))))) (by exact ea_nil))))) (by rfl)))))
    (by exact (ss_cons (by exact (ss_par (i := 9) (j := 10) (by rfl) sc__law_form_holds.nd (by rfl) (by rfl) (by decide) (by rfl) (by rfl) (by exact (ea_cons (by exact (ev_ix ixv (by exact (eb_var (pv 4))) (by exact (eb_var (pv 6))) (fun _ _ => by rfl))) (by exact (ea_cons (by exact (ev_ix ixv (by exact (eb_var (pv 4))) (by exact (eb_var (pv 8))) (fun _ _ => by rfl))) (by exact ea_nil))))) (by rfl)))
    (by exact (ss_one (by exact (ss_end [6, 8, 9, 10] (by exact (ss_if (by exact (et_cmp (ov_ne (hu64 hr)) (by exact (eb_of (by exact (ev_callD T.d_told G_told hr (by decide) (by rfl) (by exact (ea_cons (by exact (ev_var (pv 2))) (by exact (ea_cons (by exact (ev_ix ixv (by exact (eb_var (pv 3))) (by exact (eb_var (pv 6))) (fun _ _ => by rfl))) (by exact (ea_cons (by exact (ev_ix ixv (by exact (eb_var (pv 3))) (by exact (eb_var (pv 8))) (fun _ _ => by rfl))) (by exact ea_nil))))))))))) (by exact (eb_of (by exact (ev_bin ov_sub (by exact (eb_of (by exact (ev_callTy cv_int (by rfl) T.z_int bt_int (by exact (ed_cons (by exact (eb_of (by exact (ev_cmp (ov_gt (hu0 hr)) (by exact (eb_var (pv 9))) (by exact (eb_var (pv 10))) (nomark _))))) (by exact ed_nil))))))) (by exact (eb_of (by exact (ev_callTy cv_int (by rfl) T.z_int bt_int (by exact (ed_cons (by exact (eb_of (by exact (ev_cmp (ov_lt (hu0 hr)) (by exact (eb_var (pv 9))) (by exact (eb_var (pv 10))) (nomark _))))) (by exact ed_nil))))))))))) (nomark _)))
    (by exact (ss_one (by exact (ss_ret (by exact ev_bl)))))
    (by exact ss_nil)))))))))))))))
    (by exact (ss_cons (by exact (ss_if (by exact (et_cmp (ov_ne (hu64 hr)) (by exact (eb_of (by exact (ev_callD T.d_form G_form hr (by decide) (by rfl) (by exact (ea_cons (by exact (ev_callD T.d_turned G_turned hr (by decide) (by rfl) (by exact (ea_cons (by exact (ev_var (pv 2))) (by exact ea_nil))))) (by exact ea_nil))))))) (by exact (eb_of (by exact (ev_callTy cv_tup (by rfl) T.z_tuple bt_tuple (by exact (ed_cons (by exact (eb_of (by exact (ev_lc (own:=[("_law_one",6)]) (by rfl) sc__law_form_holds.nd (by exact (ej_seq (by exact (eb_var (pv 4))))) (blkOk_by (N := N__law_form_holds) (sc := defScope st__law_form_holds) (by decide +kernel)) (fun _ _ _ _ _ => (by exact (eg_one (pg_name (i := 6) sc__law_form_holds.nd (by rfl) (by first | exact .inl rfl | exact .inr rfl))))) (fun _ _ _ _ _ => ets_nil) (fun _ _ _ _ _ => (by exact (ev_bin ov_sub (by exact (eb_of (by exact (ev_bin ov_sub (by exact (eb_var (pv 5))) (by exact (eb_of (by exact ev_int))))))) (by exact (eb_var (pv 6)))))))))) (by exact ed_nil))))))) (nomark _)))
    (by exact (ss_one (by exact (ss_ret (by exact ev_bl)))))
    (by exact ss_nil)))
    (by exact (ss_cons (by exact (ss_setLcF (i := 11) (own:=[("_law_one",6)]) (by rfl) sc__law_form_holds.nd (by rfl) (by rfl) (by rfl) (by exact (ej_of (ei_range1 (by rfl) T.z_range (by exact (eb_var (pv 5)))))) (blkOk_by (N := N__law_form_holds) (sc := defScope st__law_form_holds) (by decide +kernel)) (fun _ _ _ _ _ => (by exact (eg_one (pg_name (i := 6) sc__law_form_holds.nd (by rfl) (by first | exact .inl rfl | exact .inr rfl))))) (fun _ _ _ _ _ => ets_nil) (fun _ _ _ _ _ => (by exact (ev_tm PySem.F.slot_tuple_count PySem.F.type_tuple_count mv_tcount (by exact (eb_var (pv 4))) (by exact (ed_cons (by exact (eb_var (pv 6))) (by exact ed_nil))))))))
    (by exact (ss_cons (by exact (ss_end [11] (by exact (ss_if (by exact (et_w (ew_or (by exact (et_cmp (ov_ne (hu64 hr)) (by exact (eb_of (by exact (ev_callD T.d_ties_of G_ties_of hr (by decide) (by rfl) (by exact (ea_cons (by exact (ev_var (pv 2))) (by exact ea_nil))))))) (by exact (eb_of (by exact (ev_callB (cv_sum (by rfl)) (by rfl) T.z_sum bt_sum (by exact (ed_cons (by exact (eb_of (by exact (ev_lc (own:=[("_law_count",12)]) (by rfl) sc__law_form_holds.nd (by exact (ej_seq (by exact (eb_var (pv 11))))) (blkOk_by (N := N__law_form_holds) (sc := defScope st__law_form_holds) (by decide +kernel)) (fun _ _ _ _ _ => (by exact (eg_one (pg_name (i := 12) sc__law_form_holds.nd (by rfl) (by first | exact .inl rfl | exact .inr rfl))))) (fun _ _ _ _ _ => ets_nil) (fun _ _ _ _ _ => (by exact (ev_bin ov_div (by exact (eb_of (by exact (ev_bin ov_mul (by exact (eb_var (pv 12))) (by exact (eb_of (by exact (ev_bin ov_sub (by exact (eb_var (pv 12))) (by exact (eb_of (by exact ev_int))))))))))) (by exact (eb_of (by exact ev_int)))))))))) (by exact ed_nil))))))) (nomark _))) (ew_or1 (by exact (et_cmp (ov_ne (hu64 hr)) (by exact (eb_of (by exact (ev_callD T.d_is_whole_order G_is_whole_order hr (by decide) (by rfl) (by exact (ea_cons (by exact (ev_var (pv 2))) (by exact ea_nil))))))) (by exact (eb_of (by exact (ev_cmp (ov_eq (hu64 hr)) (by exact (eb_var (pv 5))) (by exact (eb_of (by exact ev_int))) (nomark _))))) (nomark _)))))))
    (by exact (ss_one (by exact (ss_ret (by exact ev_bl)))))
    (by exact ss_nil)))))
    (by exact (ss_cons (by exact (ss_end [2] (by exact (ss_set (i := 13) sc__law_form_holds.nd (by rfl) (by first | exact .inl rfl | exact .inr rfl) (ev_frz (by exact (ev_callD T.d_tie G_tie hr (by decide) (by rfl) (by exact (ea_cons (by exact (ev_var (pv 2))) (by exact ea_nil))))))))))
    (by exact (ss_cons (by exact (ss_end [5] (by exact (ss_if (by exact (et_cmp (ov_isN) (by exact (eb_var (pv 13))) (by exact (eb_of (by exact ev_non))) (nomark _)))
    (by exact (ss_one (by exact (ss_ret (by exact (ev_cmp (ov_eq (hu64 hr)) (by exact (eb_var (pv 5))) (by exact (eb_of (by exact ev_int))) (nomark _)))))))
    (by exact ss_nil)))))
    (by exact (ss_cons (by exact (ss_end [3, 13] (by exact (ss_par (i := 14) (j := 15) (by rfl) sc__law_form_holds.nd (by rfl) (by rfl) (by decide) (by rfl) (by rfl) (by exact (ea_cons (by exact (ev_tm PySem.F.slot_tuple_index PySem.F.type_tuple_index (mv_tindexX (hu65 hr)) (by exact (eb_var (pv 3))) (by exact (ed_cons (by exact (eb_of (by exact (ev_ix ixv (by exact (eb_var (pv 13))) (by exact (eb_of (by exact ev_int))) (fun _ _ => by rfl))))) (by exact ed_nil))))) (by exact (ea_cons (by exact (ev_tm PySem.F.slot_tuple_index PySem.F.type_tuple_index (mv_tindexX (hu65 hr)) (by exact (eb_var (pv 3))) (by exact (ed_cons (by exact (eb_of (by exact (ev_ix ixv (by exact (eb_var (pv 13))) (by exact (eb_of (by exact ev_int))) (fun _ _ => by rfl))))) (by exact ed_nil))))) (by exact ea_nil))))) (by rfl)))))
    (by exact (ss_cons (by exact (ss_end [15] (by exact (ss_if (by exact (et_w (ew_or (by exact (et_cmp (ov_ge (hu0 hr)) (by exact (eb_var (pv 14))) (by exact (eb_var (pv 15))) (nomark _))) (ew_or (by exact (et_cmp (ov_ne (hu64 hr)) (by exact (eb_of (by exact (ev_ix ixv (by exact (eb_var (pv 4))) (by exact (eb_var (pv 14))) (fun _ _ => by rfl))))) (by exact (eb_of (by exact (ev_ix ixv (by exact (eb_var (pv 4))) (by exact (eb_var (pv 15))) (fun _ _ => by rfl))))) (nomark _))) (ew_or1 (by exact (et_cmp (ov_in (hu65 hr)) (by exact (eb_of (by exact (ev_ix ixv (by exact (eb_var (pv 4))) (by exact (eb_var (pv 14))) (fun _ _ => by rfl))))) (by exact (eb_of (by exact (ev_slice slv (by exact (eb_var (pv 4))) (by exact (eo_some (by exact (eb_of (by exact (ev_bin ov_add (by exact (eb_var (pv 14))) (by exact (eb_of (by exact ev_int))))))))) (by exact (eo_some (by exact (eb_var (pv 15))))))))) (by with_unfolding_all rfl))))))))
    (by exact (ss_one (by exact (ss_ret (by exact ev_bl)))))
    (by exact ss_nil)))))
    (by exact (ss_one (by exact (ss_ret (by exact (ev_notD (by exact (eb_of (by exact (ev_callB (cv_anyX (by rfl)) (by rfl) T.z_any bt_any (by exact (ed_cons (by exact (eb_of (by exact (ev_lc (own:=[("_law_one",6)]) (by rfl) sc__law_form_holds.nd (by exact (ej_of (ei_range1 (by rfl) T.z_range (by exact (eb_var (pv 14)))))) (blkOk_by (N := N__law_form_holds) (sc := defScope st__law_form_holds) (by decide +kernel)) (fun _ _ _ _ _ => (by exact (eg_one (pg_name (i := 6) sc__law_form_holds.nd (by rfl) (by first | exact .inl rfl | exact .inr rfl))))) (fun _ _ _ _ _ => ets_nil) (fun _ _ _ _ _ => (by exact (ev_cmp (ov_in (hu65 hr)) (by exact (eb_of (by exact (ev_ix ixv (by exact (eb_var (pv 4))) (by exact (eb_var (pv 6))) (fun _ _ => by rfl))))) (by exact (eb_of (by exact (ev_slice slv (by exact (eb_var (pv 4))) (by exact (eo_some (by exact (eb_of (by exact (ev_bin ov_add (by exact (eb_var (pv 6))) (by exact (eb_of (by exact ev_int))))))))) (by exact eo_none))))) (by with_unfolding_all rfl)))))))) (by exact ed_nil)))))))))))))))))))))))))))))))))))
/-! ### law -/
abbrev st_law : Stmt := topS 25
abbrev N_law : List Str := ["_law_script", "_law_town", "_law_every", "_law_k", "_law_row_here", "_law_more", "_law_whole"]
theorem sc_law : FnScope N_law ["_law_script"] (defScope st_law) := ⟨rfl, rfl, rfl, by decide +kernel, rfl, by decide +kernel, by decide +kernel⟩
-- l_law_1: head 0:_law_script 1:_law_town 2:_law_every of 7
def l_law_1 : Fs :=
    (sSeq (sEnd [3] (sSet 4 (eFrz (eCall m__law_row_v2 (aCons (eVar 0) (aCons (eVar 1) (aCons (eC (.int 4)) aNil)))))))
    (sSeq (sIf (bNot (bTru (dOf (eCall m__law_form_holds (aCons (eVar 0) (aCons (eVar 1) (aCons (eVar 4) (aCons (eVar 2) aNil))))))))
    (sRet (eC (.bool false)))
    sNil')
    (sSeq (sSet 5 (eFrz (eBin dAdd (dVar 4) (dOf (eCall m__law_row_v2 (aCons (eVar 0) (aCons (eVar 1) (aCons (eC (.int 1)) aNil))))))))
    (sSeq (sIf (bOr (bTest (eBin (dCmp rLt zLt) (dOf (eCall m_classes (aCons (eVar 5) aNil))) (dOf (eCall m_classes (aCons (eVar 4) aNil))))) (bTest (eBin (dCmp rGt zGt) (dOf (eCall m_ties_of (aCons (eVar 5) aNil))) (dOf (eCall m_ties_of (aCons (eVar 4) aNil))))))
    (sRet (eC (.bool false)))
    sNil')
    (sEnd [4, 5] (sIf (bAnd (bTru (dOf (eCall m_is_whole_order (aCons (eVar 4) aNil)))) (bTest (eBin dNe (dOf (eCall m_form (aCons (eVar 5) aNil))) (dOf (eCall m_form (aCons (eVar 4) aNil))))))
    (sRet (eC (.bool false)))
    sNil'))))))
def b_law : Fs :=
    (sSeq (sSet 2 (eFrz (eCall m_all_things aNil)))
    (sSeq (sEnd [0, 1] (sFor (iRng1 (dOf (eC (.int 3)))) (gOne 3)
    l_law_1))
    (sSeq (sSet 6 (eTup (aCons (eTup (aCons (eC (.str "up")) (aCons (eC (.int 0)) aNil))) (aCons (eTup (aCons (eC (.str "up")) (aCons (eC (.int 1)) aNil))) (aCons (eTup (aCons (eC (.str "up")) (aCons (eC (.int 2)) aNil))) aNil)))))
    (sSeq (sEnd [6] (sIf (bOr (bTest (eBin dNe (dOf (eCall m_form (aCons (eVar 6) aNil))) (dOf (eApp gTup (sCons (dOf (eListRg1 (dOf (eC (.int 216))))) sNil))))) (bOr (bTest (eBin dNotN (dOf (eCall m_tie (aCons (eVar 6) aNil))) (dOf (eC .none)))) (bNot (bTru (dOf (eCall m_is_whole_order (aCons (eVar 6) aNil)))))))
    (sRet (eC (.bool false)))
    sNil'))
    (sRet (eAnd (eBin dEq (dOf (eCall m_classes (aCons (eTup aNil) aNil))) (dOf (eC (.int 1)))) (eAnd (eBin dEq (dOf (eCall m_form (aCons (eTup aNil) aNil))) (dOf (eBin dRepT (dOf (eTup (aCons (eC (.int 0)) aNil))) (dOf (eC (.int 216)))))) (eBin dEq (dOf (eCall m_tie (aCons (eTup aNil) aNil))) (dOf (eTup (aCons (eBin dIx (dVar 2) (dOf (eC (.int 0)))) (aCons (eBin dIx (dVar 2) (dOf (eC (.int 1)))) aNil))))))))))))
theorem ok_law (T : Facts K mg) (G_all_things : FnOk P w K mg base CX0 1 T.d_all_things.f T.d_all_things.fd [] (spOf K 0 m_all_things)) (G_form : FnOk P w K mg base CX0 6 T.d_form.f T.d_form.fd ["row"] (spOf K 1 m_form)) (G_classes : FnOk P w K mg base CX0 7 T.d_classes.f T.d_classes.fd ["row"] (spOf K 1 m_classes)) (G_tie : FnOk P w K mg base CX0 9 T.d_tie.f T.d_tie.fd ["row"] (spOf K 1 m_tie)) (G_is_whole_order : FnOk P w K mg base CX0 8 T.d_is_whole_order.f T.d_is_whole_order.fd ["row"] (spOf K 1 m_is_whole_order)) (G_ties_of : FnOk P w K mg base CX0 7 T.d_ties_of.f T.d_ties_of.fd ["row"] (spOf K 1 m_ties_of)) (G__law_row : FnOk P w K mg base CX0 4 T.d__law_row.f T.d__law_row.fd ["_law_script", "_law_town", "_law_most"] (spOf K 3 m__law_row_v2)) (G__law_form_holds : FnOk P w K mg base CX0 10 T.d__law_form_holds.f T.d__law_form_holds.fd ["_law_script", "_law_town", "_law_row_here", "_law_every"] (spOf K 4 m__law_form_holds)) (m : Nat) (hm : ∀ ns : List Int, ns.length ≤ m → ∃ n', b_law (.d (.list (ns.map .int)) :: .town :: List.replicate 5 .no) 0 = some (.rt (.d (.bool true)) n')) : FnOk P w K mg base CX0 11 T.d_law.f T.d_law.fd ["_law_script"] (spLaw K m) :=
  fn_law (N := N_law) T.d_law.F sc_law rfl rfl (by first | exact .inl rfl | exact .inr rfl) (fun cdv A outer s H E hr => (by exact (ss_cons (by exact (ss_set (i := 2) sc_law.nd (by rfl) (by first | exact .inl rfl | exact .inr rfl) (ev_frz (by exact (ev_callD0 T.d_all_things G_all_things hr (by decide) (by rfl))))))
    (by exact (ss_cons (by exact (ss_end [0, 1] (by exact (ss_for PassesOwn.never (by rfl) (by exact (ei_range1 (by rfl) T.z_range (by exact (eb_of (by exact ev_int))))) (by exact (eg_one (pg_name (i := 3) sc_law.nd (by rfl) (by first | exact .inl rfl | exact .inr rfl))))
    (by exact (ss_cons (by exact (ss_end [3] (by exact (ss_set (i := 4) sc_law.nd (by rfl) (by first | exact .inl rfl | exact .inr rfl) (ev_frz (by exact (ev_callD T.d__law_row G__law_row hr (by decide) (by rfl) (by exact (ea_cons (by exact (ev_var (pv 0))) (by exact (ea_cons (by exact (ev_var (pv 1))) (by exact (ea_cons (by exact ev_int) (by exact ea_nil))))))))))))))
    (by exact (ss_cons (by exact (ss_if (by exact (et_not (by exact (et_tru (by exact (eb_of (by exact (ev_callD T.d__law_form_holds G__law_form_holds hr (by decide) (by rfl) (by exact (ea_cons (by exact (ev_var (pv 0))) (by exact (ea_cons (by exact (ev_var (pv 1))) (by exact (ea_cons (by exact (ev_var (pv 4))) (by exact (ea_cons (by exact (ev_var (pv 2))) (by exact ea_nil))))))))))))) (fun _ => (by rfl))))))
    (by exact (ss_one (by exact (ss_ret (by exact ev_bl)))))
    (by exact ss_nil)))
    (by exact (ss_cons (by exact (ss_set (i := 5) sc_law.nd (by rfl) (by first | exact .inl rfl | exact .inr rfl) (ev_frz (by exact (ev_bin ov_add (by exact (eb_var (pv 4))) (by exact (eb_of (by exact (ev_callD T.d__law_row G__law_row hr (by decide) (by rfl) (by exact (ea_cons (by exact (ev_var (pv 0))) (by exact (ea_cons (by exact (ev_var (pv 1))) (by exact (ea_cons (by exact ev_int) (by exact ea_nil))))))))))))))))
    (by exact (ss_cons (by exact (ss_if (by exact (et_w (ew_or (by exact (et_cmp (ov_lt (hu0 hr)) (by exact (eb_of (by exact (ev_callD T.d_classes G_classes hr (by decide) (by rfl) (by exact (ea_cons (by exact (ev_var (pv 5))) (by exact ea_nil))))))) (by exact (eb_of (by exact (ev_callD T.d_classes G_classes hr (by decide) (by rfl) (by exact (ea_cons (by exact (ev_var (pv 4))) (by exact ea_nil))))))) (nomark _))) (ew_or1 (by exact (et_cmp (ov_gt (hu0 hr)) (by exact (eb_of (by exact (ev_callD T.d_ties_of G_ties_of hr (by decide) (by rfl) (by exact (ea_cons (by exact (ev_var (pv 5))) (by exact ea_nil))))))) (by exact (eb_of (by exact (ev_callD T.d_ties_of G_ties_of hr (by decide) (by rfl) (by exact (ea_cons (by exact (ev_var (pv 4))) (by exact ea_nil))))))) (nomark _)))))))
    (by exact (ss_one (by exact (ss_ret (by exact ev_bl)))))
    (by exact ss_nil)))
    (by exact (ss_one (by exact (ss_end [4, 5] (by exact (ss_if (by exact (et_w (ew_and (by exact (et_tru (by exact (eb_of (by exact (ev_callD T.d_is_whole_order G_is_whole_order hr (by decide) (by rfl) (by exact (ea_cons (by exact (ev_var (pv 4))) (by exact ea_nil))))))) (fun _ => (by rfl)))) (ew_and1 (by exact (et_cmp (ov_ne (hu64 hr)) (by exact (eb_of (by exact (ev_callD T.d_form G_form hr (by decide) (by rfl) (by exact (ea_cons (by exact (ev_var (pv 5))) (by exact ea_nil))))))) (by exact (eb_of (by exact (ev_callD T.d_form G_form hr (by decide) (by rfl) (by exact (ea_cons (by exact (ev_var (pv 4))) (by exact ea_nil))))))) (nomark _)))))))
    (by exact (ss_one (by exact (ss_ret (by exact ev_bl)))))
    (by exact ss_nil)))))))))))))))))))
    (by exact (ss_cons (by exact (ss_set (i := 6) sc_law.nd (by rfl) (by first | exact .inl rfl | exact .inr rfl) (by exact (ev_tup (by exact (ea_cons (by exact (ev_tup (by exact (ea_cons (by exact ev_str) (by exact (ea_cons (by exact ev_int) (by exact ea_nil))))))) (by exact (ea_cons (by exact (ev_tup (by exact (ea_cons (by exact ev_str) (by exact (ea_cons (by exact ev_int) (by exact ea_nil))))))) (by exact (ea_cons (by exact (ev_tup (by exact (ea_cons (by exact ev_str) (by exact (ea_cons (by exact ev_int) (by exact ea_nil))))))) (by exact ea_nil)))))))))))
    (by exact (ss_cons (by exact (ss_end [6] (by exact (ss_if (by exact (et_w (ew_or (by exact (et_cmp (ov_ne (hu64 hr)) (by exact (eb_of (by exact (ev_callD T.d_form G_form hr (by decide) (by rfl) (by exact (ea_cons (by exact (ev_var (pv 6))) (by exact ea_nil))))))) (by exact (eb_of (by exact (ev_callTy cv_tup (by rfl) T.z_tuple bt_tuple (by exact (ed_cons (by exact (eb_of (by exact (ev_listRg1 (by rfl) (by rfl) T.z_list (by rfl) T.z_range (by exact (eb_of (by exact ev_int))))))) (by exact ed_nil))))))) (nomark _))) (ew_or (by exact (et_cmp (ov_notN) (by exact (eb_of (by exact (ev_callD T.d_tie G_tie hr (by decide) (by rfl) (by exact (ea_cons (by exact (ev_var (pv 6))) (by exact ea_nil))))))) (by exact (eb_of (by exact ev_non))) (nomark _))) (ew_or1 (by exact (et_not (by exact (et_tru (by exact (eb_of (by exact (ev_callD T.d_is_whole_order G_is_whole_order hr (by decide) (by rfl) (by exact (ea_cons (by exact (ev_var (pv 6))) (by exact ea_nil))))))) (fun _ => (by rfl)))))))))))
    (by exact (ss_one (by exact (ss_ret (by exact ev_bl)))))
    (by exact ss_nil)))))
    (by exact (ss_one (by exact (ss_ret (by exact (ev_and (by exact (ev_cmp (ov_eq (hu64 hr)) (by exact (eb_of (by exact (ev_callD T.d_classes G_classes hr (by decide) (by rfl) (by exact (ea_cons (by exact (ev_tup (by exact ea_nil))) (by exact ea_nil))))))) (by exact (eb_of (by exact ev_int))) (nomark _))) (ev_and (by exact (ev_cmp (ov_eq (hu64 hr)) (by exact (eb_of (by exact (ev_callD T.d_form G_form hr (by decide) (by rfl) (by exact (ea_cons (by exact (ev_tup (by exact ea_nil))) (by exact ea_nil))))))) (by exact (eb_of (by exact (ev_bin ov_repT (by exact (eb_of (by exact (ev_tup (by exact (ea_cons (by exact ev_int) (by exact ea_nil))))))) (by exact (eb_of (by exact ev_int))))))) (nomark _))) (ev_one (by exact (ev_cmp (ov_eq (hu64 hr)) (by exact (eb_of (by exact (ev_callD T.d_tie G_tie hr (by decide) (by rfl) (by exact (ea_cons (by exact (ev_tup (by exact ea_nil))) (by exact ea_nil))))))) (by exact (eb_of (by exact (ev_tup (by exact (ea_cons (by exact (ev_ix ixv (by exact (eb_var (pv 2))) (by exact (eb_of (by exact ev_int))) (fun _ _ => by rfl))) (by exact (ea_cons (by exact (ev_ix ixv (by exact (eb_var (pv 2))) (by exact (eb_of (by exact ev_int))) (fun _ _ => by rfl))) (by exact ea_nil))))))))) (nomark _)))))))))))))))))))) hm
theorem ok_all (T : Facts K mg) (LT_tie : LamAt K mg base T.d_tie.fd ("tie" ++ ".<locals>." ++ "<lambda>")) (m : Nat) (hm : ∀ ns : List Int, ns.length ≤ m → ∃ n', b_law (.d (.list (ns.map .int)) :: .town :: List.replicate 5 .no) 0 = some (.rt (.d (.bool true)) n')) : FnOk P w K mg base CX0 11 T.d_law.f T.d_law.fd ["_law_script"] (spLaw K m) := by
  have G_all_things := ok_all_things (P := P) (w := w) (base := base) T
  have G_worth := ok_worth (P := P) (w := w) (base := base) T
  have G_worths := ok_worths (P := P) (w := w) (base := base) T G_worth
  have G_form := ok_form (P := P) (w := w) (base := base) T G_worths G_all_things
  have G_classes := ok_classes (P := P) (w := w) (base := base) T G_form
  have G_sign := ok_sign (P := P) (w := w) (base := base) T
  have G_first_pair := ok_first_pair (P := P) (w := w) (base := base) T G_all_things G_form G_sign
  have G_is_whole_order := ok_is_whole_order (P := P) (w := w) (base := base) T G_all_things G_classes
  have G_tie := ok_tie (P := P) (w := w) (base := base) T LT_tie G_first_pair G_is_whole_order
  have G_pairs_of := ok_pairs_of (P := P) (w := w) (base := base) T
  have G_ties_of := ok_ties_of (P := P) (w := w) (base := base) T G_form G_pairs_of
  have G__law_draw := ok__law_draw (P := P) (w := w) (base := base) T
  have G__law_pick := ok__law_pick (P := P) (w := w) (base := base) T G__law_draw
  have G__law_plain := ok__law_plain (P := P) (w := w) (base := base) T G__law_draw G__law_pick
  have G__law_row := ok__law_row (P := P) (w := w) (base := base) T G__law_draw G__law_plain
  have G_told := ok_told (P := P) (w := w) (base := base) T G_worths
  have G_turned_key := ok_turned_key (P := P) (w := w) (base := base) T
  have G_turned := ok_turned (P := P) (w := w) (base := base) T G_turned_key
  have G__law_form_holds := ok__law_form_holds (P := P) (w := w) (base := base) T G_told G_turned G_form G_classes G_tie G_is_whole_order G_ties_of G__law_draw
  exact ok_law T G_all_things G_form G_classes G_tie G_is_whole_order G_ties_of G__law_row G__law_form_holds m hm
end
theorem all_mk {l : PySem.W.OpenLaw} {w : World} {K : PySem.W.Frag} {h : Heap} {mg : Str → Option Value} {fa : Addr} (X : K.In h) (G : h.Ns mainGlobals mg) (hfa : mg "law" = some (.ref fa)) (m : Nat) (hm : ∀ ns : List Int, ns.length ≤ m → ∃ n', b_law (.d (.list (ns.map .int)) :: .town :: List.replicate 5 .no) 0 = some (.rt (.d (.bool true)) n'))
    {f0 : Addr} {od0 an0 : Option Addr} {sl0 : Array (Option Value)} {oc0 kV0 dc0 pm0 cd0 ct0 : Value}
    {f1 : Addr} {od1 an1 : Option Addr} {sl1 : Array (Option Value)} {oc1 kV1 dc1 pm1 cd1 ct1 : Value}
    {f2 : Addr} {od2 an2 : Option Addr} {sl2 : Array (Option Value)} {oc2 kV2 dc2 pm2 cd2 ct2 : Value}
    {f3 : Addr} {od3 an3 : Option Addr} {sl3 : Array (Option Value)} {oc3 kV3 dc3 pm3 cd3 ct3 : Value}
    {f4 : Addr} {od4 an4 : Option Addr} {sl4 : Array (Option Value)} {oc4 kV4 dc4 pm4 cd4 ct4 : Value}
    {f5 : Addr} {od5 an5 : Option Addr} {sl5 : Array (Option Value)} {oc5 kV5 dc5 pm5 cd5 ct5 : Value}
    {f6 : Addr} {od6 an6 : Option Addr} {sl6 : Array (Option Value)} {oc6 kV6 dc6 pm6 cd6 ct6 : Value}
    {f7 : Addr} {od7 an7 : Option Addr} {sl7 : Array (Option Value)} {oc7 kV7 dc7 pm7 cd7 ct7 : Value}
    {f8 lc8 lp8 : Addr} {od8 an8 : Option Addr} {sl8 : Array (Option Value)} {oc8 kV8 dc8 pm8 ct8 : Value}
    {f9 : Addr} {od9 an9 : Option Addr} {sl9 : Array (Option Value)} {oc9 kV9 dc9 pm9 cd9 ct9 : Value}
    {f10 : Addr} {od10 an10 : Option Addr} {sl10 : Array (Option Value)} {oc10 kV10 dc10 pm10 cd10 ct10 : Value}
    {f11 : Addr} {od11 an11 : Option Addr} {sl11 : Array (Option Value)} {oc11 kV11 dc11 pm11 cd11 ct11 : Value}
    {f12 : Addr} {od12 an12 : Option Addr} {sl12 : Array (Option Value)} {oc12 kV12 dc12 pm12 cd12 ct12 : Value}
    {f13 : Addr} {od13 an13 : Option Addr} {sl13 : Array (Option Value)} {oc13 kV13 dc13 pm13 cd13 ct13 : Value}
    {f14 : Addr} {od14 an14 : Option Addr} {sl14 : Array (Option Value)} {oc14 kV14 dc14 pm14 cd14 ct14 : Value}
    {f15 : Addr} {od15 an15 : Option Addr} {sl15 : Array (Option Value)} {oc15 kV15 dc15 pm15 cd15 ct15 : Value}
    {f16 : Addr} {od16 an16 : Option Addr} {sl16 : Array (Option Value)} {oc16 kV16 dc16 pm16 cd16 ct16 : Value}
    {f17 : Addr} {od17 an17 : Option Addr} {sl17 : Array (Option Value)} {oc17 kV17 dc17 pm17 cd17 ct17 : Value}
    {f18 : Addr} {od18 an18 : Option Addr} {sl18 : Array (Option Value)} {oc18 kV18 dc18 pm18 cd18 ct18 : Value}
    {f19 : Addr} {od19 an19 : Option Addr} {sl19 : Array (Option Value)} {oc19 kV19 dc19 pm19 cd19 ct19 : Value}
    {tk0 : Tok}
    (a0 : PySem.W.nsIn K mainGlobals "all_things" = some (some (.ref f0))) (l0 : K.lookup f0 = some ⟨oc0, od0, .func (PySem.W.fnOf "all_things" "all_things" (defArgs (topS 7)) (defBody (topS 7)) (defScope (topS 7)) .none kV0 dc0 pm0 an0 cd0 ct0), sl0⟩) (c0 : PySem.W.codeIn K cd0 "all_things" = true) (k0 : PySem.W.keepIn K (.ref f0) = true)
    (a1 : PySem.W.nsIn K mainGlobals "worth" = some (some (.ref f1))) (l1 : K.lookup f1 = some ⟨oc1, od1, .func (PySem.W.fnOf "worth" "worth" (defArgs (topS 2)) (defBody (topS 2)) (defScope (topS 2)) .none kV1 dc1 pm1 an1 cd1 ct1), sl1⟩) (c1 : PySem.W.codeIn K cd1 "worth" = true) (k1 : PySem.W.keepIn K (.ref f1) = true)
    (a2 : PySem.W.nsIn K mainGlobals "worths" = some (some (.ref f2))) (l2 : K.lookup f2 = some ⟨oc2, od2, .func (PySem.W.fnOf "worths" "worths" (defArgs (topS 3)) (defBody (topS 3)) (defScope (topS 3)) .none kV2 dc2 pm2 an2 cd2 ct2), sl2⟩) (c2 : PySem.W.codeIn K cd2 "worths" = true) (k2 : PySem.W.keepIn K (.ref f2) = true)
    (a3 : PySem.W.nsIn K mainGlobals "form" = some (some (.ref f3))) (l3 : K.lookup f3 = some ⟨oc3, od3, .func (PySem.W.fnOf "form" "form" (defArgs (topS 9)) (defBody (topS 9)) (defScope (topS 9)) .none kV3 dc3 pm3 an3 cd3 ct3), sl3⟩) (c3 : PySem.W.codeIn K cd3 "form" = true) (k3 : PySem.W.keepIn K (.ref f3) = true)
    (a4 : PySem.W.nsIn K mainGlobals "classes" = some (some (.ref f4))) (l4 : K.lookup f4 = some ⟨oc4, od4, .func (PySem.W.fnOf "classes" "classes" (defArgs (topS 12)) (defBody (topS 12)) (defScope (topS 12)) .none kV4 dc4 pm4 an4 cd4 ct4), sl4⟩) (c4 : PySem.W.codeIn K cd4 "classes" = true) (k4 : PySem.W.keepIn K (.ref f4) = true)
    (a5 : PySem.W.nsIn K mainGlobals "sign" = some (some (.ref f5))) (l5 : K.lookup f5 = some ⟨oc5, od5, .func (PySem.W.fnOf "sign" "sign" (defArgs (topS 10)) (defBody (topS 10)) (defScope (topS 10)) .none kV5 dc5 pm5 an5 cd5 ct5), sl5⟩) (c5 : PySem.W.codeIn K cd5 "sign" = true) (k5 : PySem.W.keepIn K (.ref f5) = true)
    (a6 : PySem.W.nsIn K mainGlobals "first_pair" = some (some (.ref f6))) (l6 : K.lookup f6 = some ⟨oc6, od6, .func (PySem.W.fnOf "first_pair" "first_pair" (defArgs (topS 11)) (defBody (topS 11)) (defScope (topS 11)) .none kV6 dc6 pm6 an6 cd6 ct6), sl6⟩) (c6 : PySem.W.codeIn K cd6 "first_pair" = true) (k6 : PySem.W.keepIn K (.ref f6) = true)
    (a7 : PySem.W.nsIn K mainGlobals "is_whole_order" = some (some (.ref f7))) (l7 : K.lookup f7 = some ⟨oc7, od7, .func (PySem.W.fnOf "is_whole_order" "is_whole_order" (defArgs (topS 14)) (defBody (topS 14)) (defScope (topS 14)) .none kV7 dc7 pm7 an7 cd7 ct7), sl7⟩) (c7 : PySem.W.codeIn K cd7 "is_whole_order" = true) (k7 : PySem.W.keepIn K (.ref f7) = true)
    (a8 : PySem.W.nsIn K mainGlobals "tie" = some (some (.ref f8))) (l8 : K.lookup f8 = some ⟨oc8, od8, .func (PySem.W.fnOf "tie" "tie" (defArgs (topS 13)) (defBody (topS 13)) (defScope (topS 13)) .none kV8 dc8 pm8 an8 (.ref lc8) ct8), sl8⟩) (c8 : PySem.W.codeIn K (.ref lc8) "tie" = true) (k8 : PySem.W.keepIn K (.ref f8) = true)
    (a9 : PySem.W.nsIn K mainGlobals "pairs_of" = some (some (.ref f9))) (l9 : K.lookup f9 = some ⟨oc9, od9, .func (PySem.W.fnOf "pairs_of" "pairs_of" (defArgs (topS 15)) (defBody (topS 15)) (defScope (topS 15)) .none kV9 dc9 pm9 an9 cd9 ct9), sl9⟩) (c9 : PySem.W.codeIn K cd9 "pairs_of" = true) (k9 : PySem.W.keepIn K (.ref f9) = true)
    (a10 : PySem.W.nsIn K mainGlobals "ties_of" = some (some (.ref f10))) (l10 : K.lookup f10 = some ⟨oc10, od10, .func (PySem.W.fnOf "ties_of" "ties_of" (defArgs (topS 16)) (defBody (topS 16)) (defScope (topS 16)) .none kV10 dc10 pm10 an10 cd10 ct10), sl10⟩) (c10 : PySem.W.codeIn K cd10 "ties_of" = true) (k10 : PySem.W.keepIn K (.ref f10) = true)
    (a11 : PySem.W.nsIn K mainGlobals "_law_draw" = some (some (.ref f11))) (l11 : K.lookup f11 = some ⟨oc11, od11, .func (PySem.W.fnOf "_law_draw" "_law_draw" (defArgs (topS 18)) (defBody (topS 18)) (defScope (topS 18)) .none kV11 dc11 pm11 an11 cd11 ct11), sl11⟩) (c11 : PySem.W.codeIn K cd11 "_law_draw" = true) (k11 : PySem.W.keepIn K (.ref f11) = true)
    (a12 : PySem.W.nsIn K mainGlobals "_law_pick" = some (some (.ref f12))) (l12 : K.lookup f12 = some ⟨oc12, od12, .func (PySem.W.fnOf "_law_pick" "_law_pick" (defArgs (topS 19)) (defBody (topS 19)) (defScope (topS 19)) .none kV12 dc12 pm12 an12 cd12 ct12), sl12⟩) (c12 : PySem.W.codeIn K cd12 "_law_pick" = true) (k12 : PySem.W.keepIn K (.ref f12) = true)
    (a13 : PySem.W.nsIn K mainGlobals "_law_plain" = some (some (.ref f13))) (l13 : K.lookup f13 = some ⟨oc13, od13, .func (PySem.W.fnOf "_law_plain" "_law_plain" (defArgs (topS 20)) (defBody (topS 20)) (defScope (topS 20)) .none kV13 dc13 pm13 an13 cd13 ct13), sl13⟩) (c13 : PySem.W.codeIn K cd13 "_law_plain" = true) (k13 : PySem.W.keepIn K (.ref f13) = true)
    (a14 : PySem.W.nsIn K mainGlobals "_law_row" = some (some (.ref f14))) (l14 : K.lookup f14 = some ⟨oc14, od14, .func (PySem.W.fnOf "_law_row" "_law_row" (defArgs (topS 21)) (defBody (topS 21)) (defScope (topS 21)) .none kV14 dc14 pm14 an14 cd14 ct14), sl14⟩) (c14 : PySem.W.codeIn K cd14 "_law_row" = true) (k14 : PySem.W.keepIn K (.ref f14) = true)
    (a15 : PySem.W.nsIn K mainGlobals "told" = some (some (.ref f15))) (l15 : K.lookup f15 = some ⟨oc15, od15, .func (PySem.W.fnOf "told" "told" (defArgs (topS 4)) (defBody (topS 4)) (defScope (topS 4)) .none kV15 dc15 pm15 an15 cd15 ct15), sl15⟩) (c15 : PySem.W.codeIn K cd15 "told" = true) (k15 : PySem.W.keepIn K (.ref f15) = true)
    (a16 : PySem.W.nsIn K mainGlobals "turned_key" = some (some (.ref f16))) (l16 : K.lookup f16 = some ⟨oc16, od16, .func (PySem.W.fnOf "turned_key" "turned_key" (defArgs (topS 5)) (defBody (topS 5)) (defScope (topS 5)) .none kV16 dc16 pm16 an16 cd16 ct16), sl16⟩) (c16 : PySem.W.codeIn K cd16 "turned_key" = true) (k16 : PySem.W.keepIn K (.ref f16) = true)
    (a17 : PySem.W.nsIn K mainGlobals "turned" = some (some (.ref f17))) (l17 : K.lookup f17 = some ⟨oc17, od17, .func (PySem.W.fnOf "turned" "turned" (defArgs (topS 6)) (defBody (topS 6)) (defScope (topS 6)) .none kV17 dc17 pm17 an17 cd17 ct17), sl17⟩) (c17 : PySem.W.codeIn K cd17 "turned" = true) (k17 : PySem.W.keepIn K (.ref f17) = true)
    (a18 : PySem.W.nsIn K mainGlobals "_law_form_holds" = some (some (.ref f18))) (l18 : K.lookup f18 = some ⟨oc18, od18, .func (PySem.W.fnOf "_law_form_holds" "_law_form_holds" (defArgs (topS 24)) (defBody (topS 24)) (defScope (topS 24)) .none kV18 dc18 pm18 an18 cd18 ct18), sl18⟩) (c18 : PySem.W.codeIn K cd18 "_law_form_holds" = true) (k18 : PySem.W.keepIn K (.ref f18) = true)
    (a19 : PySem.W.nsIn K mainGlobals "law" = some (some (.ref f19))) (l19 : K.lookup f19 = some ⟨oc19, od19, .func (PySem.W.fnOf "law" "law" (defArgs (topS 25)) (defBody (topS 25)) (defScope (topS 25)) .none kV19 dc19 pm19 an19 cd19 ct19), sl19⟩) (c19 : PySem.W.codeIn K cd19 "law" = true) (k19 : PySem.W.keepIn K (.ref f19) = true)
    (z0 : PySem.W.nsIn K mainGlobals "abs" = some none)
    (z1 : PySem.W.nsIn K mainGlobals "any" = some none)
    (z2 : PySem.W.nsIn K mainGlobals "dict" = some none)
    (z3 : PySem.W.nsIn K mainGlobals "enumerate" = some none)
    (z4 : PySem.W.nsIn K mainGlobals "int" = some none)
    (z5 : PySem.W.nsIn K mainGlobals "len" = some none)
    (z6 : PySem.W.nsIn K mainGlobals "list" = some none)
    (z7 : PySem.W.nsIn K mainGlobals "max" = some none)
    (z8 : PySem.W.nsIn K mainGlobals "range" = some none)
    (z9 : PySem.W.nsIn K mainGlobals "set" = some none)
    (z10 : PySem.W.nsIn K mainGlobals "sorted" = some none)
    (z11 : PySem.W.nsIn K mainGlobals "sum" = some none)
    (z12 : PySem.W.nsIn K mainGlobals "tuple" = some none)
    (y0 : PySem.W.nsIn K mainGlobals "WORTH_MOST" = some (some (.int 5 tk0)))
    (hd8 : PySem.W.codeHdIn K lc8 lp8 = true) (hn8 : K.lookup lp8 = none) (ht8 : h.get? lp8 = some { cls := .none, data := .fields #[] })
    (tq : tabsOf K = [(lp8, ("tie" ++ ".<locals>." ++ "<lambda>" : Str))]) (tu : ([(lp8, ("tie" ++ ".<locals>." ++ "<lambda>" : Str))] : List (Addr × Str)).map (·.1) |>.Nodup) :
    LamX.LawAtS l w K CX0 11 m "_law_script" mg fa h := by
  have e := hfa.symm.trans (PySem.W.mg_of X G a19)
  cases e
  let T : Facts K mg := ⟨⟨_, _, fun_mk (st := topS 7) l0 c0 k0, Fun.binds (st := topS 7) (x := "all_things") (qual := "all_things") (fun_mk l0 c0 k0) (fun _ _ _ _ _ _ us hl => match us, hl with | [], _ => (by rfl)), PySem.W.mg_of X G a0⟩,
    ⟨_, _, fun_mk (st := topS 2) l1 c1 k1, Fun.binds (st := topS 2) (x := "worth") (qual := "worth") (fun_mk l1 c1 k1) (fun _ _ _ _ _ _ us hl => match us, hl with | [_, _], _ => (by rfl)), PySem.W.mg_of X G a1⟩,
    ⟨_, _, fun_mk (st := topS 3) l2 c2 k2, Fun.binds (st := topS 3) (x := "worths") (qual := "worths") (fun_mk l2 c2 k2) (fun _ _ _ _ _ _ us hl => match us, hl with | [_, _], _ => (by rfl)), PySem.W.mg_of X G a2⟩,
    ⟨_, _, fun_mk (st := topS 9) l3 c3 k3, Fun.binds (st := topS 9) (x := "form") (qual := "form") (fun_mk l3 c3 k3) (fun _ _ _ _ _ _ us hl => match us, hl with | [_], _ => (by rfl)), PySem.W.mg_of X G a3⟩,
    ⟨_, _, fun_mk (st := topS 12) l4 c4 k4, Fun.binds (st := topS 12) (x := "classes") (qual := "classes") (fun_mk l4 c4 k4) (fun _ _ _ _ _ _ us hl => match us, hl with | [_], _ => (by rfl)), PySem.W.mg_of X G a4⟩,
    ⟨_, _, fun_mk (st := topS 10) l5 c5 k5, Fun.binds (st := topS 10) (x := "sign") (qual := "sign") (fun_mk l5 c5 k5) (fun _ _ _ _ _ _ us hl => match us, hl with | [_, _], _ => (by rfl)), PySem.W.mg_of X G a5⟩,
    ⟨_, _, fun_mk (st := topS 11) l6 c6 k6, Fun.binds (st := topS 11) (x := "first_pair") (qual := "first_pair") (fun_mk l6 c6 k6) (fun _ _ _ _ _ _ us hl => match us, hl with | [_, _, _], _ => (by rfl)), PySem.W.mg_of X G a6⟩,
    ⟨_, _, fun_mk (st := topS 14) l7 c7 k7, Fun.binds (st := topS 14) (x := "is_whole_order") (qual := "is_whole_order") (fun_mk l7 c7 k7) (fun _ _ _ _ _ _ us hl => match us, hl with | [_], _ => (by rfl)), PySem.W.mg_of X G a7⟩,
    ⟨_, _, fun_mk (st := topS 13) l8 c8 k8, Fun.binds (st := topS 13) (x := "tie") (qual := "tie") (fun_mk l8 c8 k8) (fun _ _ _ _ _ _ us hl => match us, hl with | [_], _ => (by rfl)), PySem.W.mg_of X G a8⟩,
    ⟨_, _, fun_mk (st := topS 15) l9 c9 k9, Fun.binds (st := topS 15) (x := "pairs_of") (qual := "pairs_of") (fun_mk l9 c9 k9) (fun _ _ _ _ _ _ us hl => match us, hl with | [_], _ => (by rfl)), PySem.W.mg_of X G a9⟩,
    ⟨_, _, fun_mk (st := topS 16) l10 c10 k10, Fun.binds (st := topS 16) (x := "ties_of") (qual := "ties_of") (fun_mk l10 c10 k10) (fun _ _ _ _ _ _ us hl => match us, hl with | [_], _ => (by rfl)), PySem.W.mg_of X G a10⟩,
    ⟨_, _, fun_mk (st := topS 18) l11 c11 k11, Fun.binds (st := topS 18) (x := "_law_draw") (qual := "_law_draw") (fun_mk l11 c11 k11) (fun _ _ _ _ _ _ us hl => match us, hl with | [_, _, _], _ => (by rfl)), PySem.W.mg_of X G a11⟩,
    ⟨_, _, fun_mk (st := topS 19) l12 c12 k12, Fun.binds (st := topS 19) (x := "_law_pick") (qual := "_law_pick") (fun_mk l12 c12 k12) (fun _ _ _ _ _ _ us hl => match us, hl with | [_, _, _], _ => (by rfl)), PySem.W.mg_of X G a12⟩,
    ⟨_, _, fun_mk (st := topS 20) l13 c13 k13, Fun.binds (st := topS 20) (x := "_law_plain") (qual := "_law_plain") (fun_mk l13 c13 k13) (fun _ _ _ _ _ _ us hl => match us, hl with | [_, _], _ => (by rfl)), PySem.W.mg_of X G a13⟩,
    ⟨_, _, fun_mk (st := topS 21) l14 c14 k14, Fun.binds (st := topS 21) (x := "_law_row") (qual := "_law_row") (fun_mk l14 c14 k14) (fun _ _ _ _ _ _ us hl => match us, hl with | [_, _, _], _ => (by rfl)), PySem.W.mg_of X G a14⟩,
    ⟨_, _, fun_mk (st := topS 4) l15 c15 k15, Fun.binds (st := topS 4) (x := "told") (qual := "told") (fun_mk l15 c15 k15) (fun _ _ _ _ _ _ us hl => match us, hl with | [_, _, _], _ => (by rfl)), PySem.W.mg_of X G a15⟩,
    ⟨_, _, fun_mk (st := topS 5) l16 c16 k16, Fun.binds (st := topS 5) (x := "turned_key") (qual := "turned_key") (fun_mk l16 c16 k16) (fun _ _ _ _ _ _ us hl => match us, hl with | [_], _ => (by rfl)), PySem.W.mg_of X G a16⟩,
    ⟨_, _, fun_mk (st := topS 6) l17 c17 k17, Fun.binds (st := topS 6) (x := "turned") (qual := "turned") (fun_mk l17 c17 k17) (fun _ _ _ _ _ _ us hl => match us, hl with | [_], _ => (by rfl)), PySem.W.mg_of X G a17⟩,
    ⟨_, _, fun_mk (st := topS 24) l18 c18 k18, Fun.binds (st := topS 24) (x := "_law_form_holds") (qual := "_law_form_holds") (fun_mk l18 c18 k18) (fun _ _ _ _ _ _ us hl => match us, hl with | [_, _, _, _], _ => (by rfl)), PySem.W.mg_of X G a18⟩,
    ⟨_, _, fun_mk (st := topS 25) l19 c19 k19, Fun.binds (st := topS 25) (x := "law") (qual := "law") (fun_mk l19 c19 k19) (fun _ _ _ _ _ _ us hl => match us, hl with | [_], _ => (by rfl)), PySem.W.mg_of X G a19⟩,
    PySem.W.mg_none_of X G z0,
    PySem.W.mg_none_of X G z1,
    PySem.W.mg_none_of X G z2,
    PySem.W.mg_none_of X G z3,
    PySem.W.mg_none_of X G z4,
    PySem.W.mg_none_of X G z5,
    PySem.W.mg_none_of X G z6,
    PySem.W.mg_none_of X G z7,
    PySem.W.mg_none_of X G z8,
    PySem.W.mg_none_of X G z9,
    PySem.W.mg_none_of X G z10,
    PySem.W.mg_none_of X G z11,
    PySem.W.mg_none_of X G z12,
    ⟨_, PySem.W.mg_of X G y0⟩⟩
  exact law_tabs (cs := [(lc8, lp8)]) (fd := PySem.W.fnOf "law" "law" (defArgs (topS 25)) (defBody (topS 25)) (defScope (topS 25)) .none kV19 dc19 pm19 an19 cd19 ct19) X (fun p hp => by simp only [List.mem_cons, List.not_mem_nil, or_false] at hp; rcases hp with rfl; all_goals assumption) (fun p hp => by simp only [List.mem_cons, List.not_mem_nil, or_false] at hp; rcases hp with rfl; all_goals assumption) (fun p hp => by simp only [List.mem_cons, List.not_mem_nil, or_false] at hp; rcases hp with rfl; all_goals assumption) tq (fun t ht => by simp only [List.mem_cons, List.not_mem_nil, or_false] at ht; rcases ht with rfl <;> simp) tu (fun s v => .of_eq rfl) (fun base _ _ TB => ok_all T ⟨lc8, lp8, rfl, by rw [tq]; simp, TB (lc8, lp8) (by simp)⟩ m hm)
end L2.Lv.K29
set_option maxHeartbeats 1000000
namespace L2.Lv.K29
open PySem PySem.Spec PyProof.Rows L2 L2.Lv L2.Lv.Sh
theorem sSeq_rt {g h : Fs} {ρ : List W} {w : W} {n n' : Nat} (e : g ρ n = some (.rt w n')) : sSeq g h ρ n = some (.rt w n') := by rw [sSeq_ap, e]; rfl
theorem isNo_tup (xs : List PyData) : isNo (.tuple xs) = false := rfl
theorem isNo_non : isNo .none = true := rfl
theorem ne_ti (a : List Int) : dNe (ti a) (ti a) = some (.d (.bool false)) := by
  have h := dEq_ti a a
  have h1 := shp_ti a
  unfold dEq at h
  unfold dNe
  rw [h1] at h ⊢
  simp only [Bool.and_self, if_true, Option.some.injEq, W.d.injEq, PyData.bool.injEq, decide_true] at h ⊢
  rw [h]
  rfl
/-! the ranks, sorted -/
theorem pairKs_ok : ∀ L : List Int, pairKs (L.map fun i => .tuple [.int i, .int 0]) = some L
  | [] => rfl
  | i :: L => by
    have ih := pairKs_ok L
    rw [List.map_cons]
    unfold pairKs
    rw [ih]
    rfl
theorem ranks_sorted (r : Rw) : gSortDictX [.list ((frm r).map fun i => .tuple [.int i, .int 0])] = some (.ol ((List.range (cl r)).map fun k : Nat => .int (k : Int))) := by
  obtain ⟨h1, h2, h3⟩ := keyF_facts (frm r) [] List.nodup_nil
  have hl : (frm r).length ≤ 100000 := by rw [frm_len]; decide
  have e : (List.range (cl r)).map (fun k : Nat => PyData.int (k : Int)) = ((List.range (cl r)).map fun k : Nat => (k : Int)).map .int := by rw [List.map_map]; rfl
  have s : srtI ((frm r).foldl keyF []) = (List.range (cl r)).map fun k : Nat => (k : Int) := by
    have p1 : (srtI ((frm r).foldl keyF [])).Pairwise (· < ·) := by
      have hn : (srtI ((frm r).foldl keyF [])).Nodup := (srtI_perm _).nodup_iff.mpr h1
      exact (srtI_pw _).imp₂ (fun a b q1 q2 => by have q2 : a ≠ b := q2; omega) hn
    have p2 : ((List.range (cl r)).map fun k : Nat => (k : Int)).Pairwise (· < ·) := by
      rw [List.pairwise_map]
      exact List.pairwise_lt_range.imp fun h => by omega
    refine up_uniq p1 p2 fun z => ?_
    rw [(srtI_perm _).mem_iff, h2]
    simp only [List.not_mem_nil, false_or, List.mem_map, List.mem_range]
    constructor
    · intro hz
      obtain ⟨t, ht, rfl⟩ := List.mem_map.mp hz
      exact ⟨_, rnk_cl r ht, rfl⟩
    · rintro ⟨k, hk, rfl⟩
      obtain ⟨t, ht, e⟩ := rnk_onto r hk
      exact List.mem_map.mpr ⟨t, ht, by rw [e]⟩
  simp only [gSortDictX, pairKs_ok, Option.bind_some, hl, if_true, srt_ints, s, e]
theorem ne_range (k : Nat) : dNe (.list ((List.range k).map fun k : Nat => .int (k : Int))) (.list (rangeD 0 k)) = some (.d (.bool false)) := by
  have e : (List.range k).map (fun k : Nat => PyData.int (k : Int)) = ((List.range k).map fun k : Nat => (k : Int)).map .int := by rw [List.map_map]; rfl
  have e2 : rangeD 0 k = ((List.range k).map fun k : Nat => (k : Int)).map .int := by
    unfold rangeD
    rw [List.map_map]
    refine List.map_congr_left fun i _ => ?_
    show PyData.int (0 + (i : Int)) = .int (i : Int)
    rw [Int.zero_add]
  rw [e, e2]
  exact dNe_li _
section
variable (ns : List Int) (r : Rw) (hr : Rw.ok r) (hl : r.length ≤ 1000000)
include hr hl
theorem draws_turn (x : PyData) (n : Nat) (hn : n + 2 ≤ big) : ∃ ρ1 n', gOne 7 x [Sc ns, .town, .d (rowD r), .d (.tuple (allT.map Th.d)), .d (ti (frm r)), I' (cl r : Nat), .no, .no, .no, .no, .no, .no, .no, .no, .no, .no] = some ρ1 ∧
    l__law_form_holds_1 ρ1 n = some (.nx [Sc ns, .town, .d (rowD r), .d (.tuple (allT.map Th.d)), .d (ti (frm r)), I' (cl r : Nat), .no, .no, .no, .no, .no, .no, .no, .no, .no, .no] n') ∧ n ≤ n' ∧ n' ≤ n + 2 := by
  obtain ⟨a, a0, a1, e1⟩ := draw2_ok ns n (by omega) 216 (by decide)
  obtain ⟨b, b0, b1, e2⟩ := draw2_ok ns (n + 1) (by omega) 216 (by decide)
  obtain ⟨i, rfl⟩ : ∃ i : Nat, a = (i : Int) := ⟨a.toNat, by omega⟩
  obtain ⟨j, rfl⟩ : ∃ j : Nat, b = (j : Int) := ⟨b.toNat, by omega⟩
  have hi : i < 216 := by omega
  have hj : j < 216 := by omega
  have x1 := ixFrm r i hi
  have x2 := ixFrm r j hj
  have y1 := ixAll i hi
  have y2 := ixAll j hj
  have t := told_ok' r hr hl (tha i) (tha j) (n + 2)
  have sgn := sg_rnk r (tha_mem hi) (tha_mem hj)
  rw [← frm_at r hi, ← frm_at r hj] at sgn
  rw [← sgn] at t
  refine ⟨_, n + 2, rfl, ?_, by omega, by omega⟩
  unfold l__law_form_holds_1
  generalize (frm r).getD i 0 = A at *
  generalize (frm r).getD j 0 = B at *
  generalize (allT.map Th.d) = TT at *
  rw [thD_tha] at y1 y2
  have fin : dNe (.int (sg A B)) (.int ((if rGt A B = true then 1 else 0) - if rLt A B = true then 1 else 0)) = some (.d (.bool false)) := by
    have : ((if rGt A B = true then 1 else 0) - if rLt A B = true then 1 else 0 : Int) = sg A B := by unfold rGt rLt sg; simp
    rw [this, dNe_int]
    simp
  simp -implicitDefEqProofs only [eVar_ap, dVar_ap, eC_ap, dOf_ap, eFrz_ap, eBin_ap, bTest_ap, bTru_ap, bAnd_ap, bOr_ap, bNot_ap, eIf_ap, eB_ap, eAnd_ap, eOr_ap, aNil_ap, aCons_ap, sNil_ap, sCons_ap, eTup_ap, eLst_ap, eCall_ap, eApp_ap, oNone_ap, oSome_ap, eSl_ap, sNil'_ap, sSeq_ap, sBrk_ap, sRet_ap, sRetN_ap, sRetO_ap, sDrop_ap, sIf_ap, sSet_ap, sApp_ap, sTown_ap, sExt_ap, sIns_ap, sSetIx_ap, sAsg_ap, sPar_ap, iOf_ap, iVal_ap, iRng1_ap, iRng2_ap, sFor_ap, eComp_ap, bYes_ap, frzAt_ap, eUn_ap, eNotD_ap, eOrD_ap, eChain_ap, eListRg1_ap, eIsa_ap, eMt_ap, iEnumV_ap, iEnumF_ap, iZipV_ap, iZipF_ap, eTLen_ap, iRng3D_ap, sEnd_ap, eSs_ap, sPar3_ap, xPop_ap, xTup1_ap, xCat_ap, sSetX_ap, sAppX_ap, sParO_ap, sForEI_ap, sForK_ap, eRep_ap, eDicK_ap, eDicT_ap, sPut_ap, eAlt_ap, sTry_ap, eGetD_ap, eLockI_ap, iKeyF_ap, sSetDef_ap, eTupVals_ap, sNst_ap, frzNAt_ap, sAppN_ap, sStN_ap, eListRg2_ap, eLam_ap, eCallP_ap, runB_ap, gOne_ap, gMany_ap, dI_ap, yesC_ap, dCmp_int, setD, kill_nx, kill_rt, kill_bk, Option.bind_some, Option.map_some, Option.bind_none, Option.map_none, List.getElem?_cons_zero, List.getElem?_cons_succ, List.set_cons_zero, List.set_cons_succ, List.cons_append, List.nil_append, List.append_nil, List.replicate, List.length_cons, List.length_nil, Nat.reduceAdd, Nat.reduceSub, Nat.zero_add, wdat_no, wdat_d, wdat_town, wdat_ol, wdat_od, wfrz_no, wfrz_d, wfrz_town, wfrz_ol, wfrz_od, wval_no, wval_d, wval_town, wval_ol, wval_od, warg_no, warg_d, warg_town, warg_ol, warg_od, vals, gLen, gAbs, gMax2, gMin2, gInt, gTup, gList, wipeW, if_true, if_false, Bool.false_eq_true, Bool.not_true, Bool.not_false, reduceCtorEq, e1, e2, x1, x2, y1, y2, t, fin, dTru_b] <;> rfl
/-! what is told after the draws -/
theorem frm_turned : frm (r.map Ky.turn) = (frm r).map fun o => ((cl r : Nat) : Int) - 1 - o := by
  unfold frm
  rw [List.map_map]
  refine List.map_congr_left fun t ht => ?_
  have h1 := rnk_turn r t ht
  have h2 := rnk_cl r ht
  show (rnk (r.map Ky.turn) t : Int) = ((cl r : Nat) : Int) - 1 - (rnk r t : Int)
  omega
theorem counts_sum : (((List.range (cl r)).map fun k : Nat => (frm r).count (k : Int)).map fun c => tri c).sum = tieR r := by
  have e : ∀ k : Nat, (frm r).count (k : Int) = (allT.map (rnk r)).count k := fun k => by
    unfold frm List.count
    rw [List.countP_map, List.countP_map]
    refine List.countP_congr fun t _ => ?_
    simp only [Function.comp, beq_iff_eq]
    omega
  rw [List.map_map]
  have := cP_sum (cl r) (allT.map (rnk r)) fun x hx => by
    obtain ⟨t, ht, rfl⟩ := List.mem_map.mp hx
    exact rnk_cl r ht
  have e2 : ((fun c => tri c) ∘ fun k : Nat => (frm r).count (k : Int)) = fun k => tri ((allT.map (rnk r)).count k) := by
    funext k
    show tri ((frm r).count (k : Int)) = _
    rw [e]
  rw [e2, this, cP_map]
  unfold tieR
  refine cP_congr fun s hs t ht => ?_
  rw [Bool.eq_iff_iff, beq_iff_eq, decide_eq_true_eq, wts_eq]
  exact rnk_eq r hs ht
omit hr hl in
theorem sum_ints (L : List Nat) : gSum [.list (L.map fun c : Nat => .int ((tri c : Nat) : Int))] = some (.d (.int (((L.map fun c => tri c).sum : Nat) : Int))) := by
  have e : (L.map fun c : Nat => PyData.int ((tri c : Nat) : Int)) = ((L.map fun c => tri c).map fun (k : Nat) => (k : Int)).map .int := by rw [List.map_map, List.map_map]; rfl
  rw [e]
  simp only [gSum, intsOf_map, Option.map_some, sumN]
omit hr hl in
theorem cut_mem {i j : Nat} {x : Int} (h : x ∈ ((frm r).drop i).take j) : ∃ k, i ≤ k ∧ k < i + j ∧ k < 216 ∧ (rnk r (tha k) : Int) = x := by
  obtain ⟨p, hp, e⟩ := List.getElem_of_mem h
  have hL := frm_len r
  rw [List.length_take, List.length_drop, hL] at hp
  rw [List.getElem_take, List.getElem_drop] at e
  refine ⟨i + p, by omega, by omega, by omega, ?_⟩
  have := frm_at r (i := i + p) (by omega)
  rw [getD_in (by omega)] at this
  rw [← this]
  exact e
omit hr hl in
theorem cutD_nat (xs : List PyData) {a b : Nat} (ha : a ≤ xs.length) (hb : b ≤ xs.length) (x y : Int) (hx : x = (a : Int)) (hy : y = (b : Int)) : cutD xs (some x) (some y) = (xs.drop a).take (b - a) := by
  subst hx hy
  have e1 : HT.sIx xs.length 0 (some (a : Int)) = a := by
    simp only [HT.sIx]
    rw [if_neg (by omega)]; omega
  have e2 : HT.sIx xs.length xs.length (some (b : Int)) = b := by
    simp only [HT.sIx]
    rw [if_neg (by omega)]; omega
  unfold cutD
  rw [e1, e2]
omit hr hl in
theorem notin_cut {i : Nat} (hi : i < 216) {k : Nat} (hk : k ≤ 216) (h : ∀ j, i < j → j < k → wrd r (tha i) (tha j) ≠ 0) :
    dIn (.int ((frm r).getD i 0)) (.tuple ((((frm r).map .int).drop (i + 1)).take (k - (i + 1)))) = some (.d (.bool false)) := by
  rw [← List.map_drop, ← List.map_take, dIn_ints, frm_at r hi]
  have : ¬ (rnk r (tha i) : Int) ∈ ((frm r).drop (i + 1)).take (k - (i + 1)) := fun z => by
    obtain ⟨j, h1, h2, h3, e⟩ := cut_mem r z
    have := (rnk_eq r (tha_mem hi) (tha_mem h3)).mp (by omega)
    exact h j (by omega) (by omega) this
  rw [decide_eq_false this]
theorem body_ok (n : Nat) (hn : n + 80 ≤ big) : ∃ n', b__law_form_holds [Sc ns, .town, .d (rowD r), .d (.tuple (allT.map Th.d)), .no, .no, .no, .no, .no, .no, .no, .no, .no, .no, .no, .no] n = some (.rt (.d (.bool true)) n') ∧ n ≤ n' ∧ n' ≤ n + 80 := by
  have hc := cl_pos r
  have hL : (((frm r).map PyData.int).length : Int) = 216 := by rw [List.length_map, frm_len]; rfl
  have hb : ((frm r).map PyData.int).length ≤ big := by rw [List.length_map, frm_len]; decide
  have hb1 : (frm r).length ≤ big := by rw [frm_len]; decide
  obtain ⟨m, l1, l2, l3⟩ := loop_law (g := gOne 7) (body := l__law_form_holds_1) 2 (fun x n h => draws_turn ns r hr hl x n h) (rangeD 0 40) n (by rw [rangeD_len]; omega)
  rw [rangeD_len] at l3
  refine ⟨m, ?_, l2, by omega⟩
  unfold b__law_form_holds
  have f := form_ok r hr hl n
  have c := classes_ok r hr hl n
  refine (sSeq_nx (ρ' := [Sc ns, .town, .d (rowD r), .d (.tuple (allT.map Th.d)), .d (ti (frm r)), .no, .no, .no, .no, .no, .no, .no, .no, .no, .no, .no]) (n' := n) (by simp -implicitDefEqProofs only [eVar_ap, dVar_ap, eC_ap, dOf_ap, eFrz_ap, eBin_ap, bTest_ap, bTru_ap, bAnd_ap, bOr_ap, bNot_ap, eIf_ap, eB_ap, eAnd_ap, eOr_ap, aNil_ap, aCons_ap, sNil_ap, sCons_ap, eTup_ap, eLst_ap, eCall_ap, eApp_ap, oNone_ap, oSome_ap, eSl_ap, sNil'_ap, sSeq_ap, sBrk_ap, sRet_ap, sRetN_ap, sRetO_ap, sDrop_ap, sIf_ap, sSet_ap, sApp_ap, sTown_ap, sExt_ap, sIns_ap, sSetIx_ap, sAsg_ap, sPar_ap, iOf_ap, iVal_ap, iRng1_ap, iRng2_ap, sFor_ap, eComp_ap, bYes_ap, frzAt_ap, eUn_ap, eNotD_ap, eOrD_ap, eChain_ap, eListRg1_ap, eIsa_ap, eMt_ap, iEnumV_ap, iEnumF_ap, iZipV_ap, iZipF_ap, eTLen_ap, iRng3D_ap, sEnd_ap, eSs_ap, sPar3_ap, xPop_ap, xTup1_ap, xCat_ap, sSetX_ap, sAppX_ap, sParO_ap, sForEI_ap, sForK_ap, eRep_ap, eDicK_ap, eDicT_ap, sPut_ap, eAlt_ap, sTry_ap, eGetD_ap, eLockI_ap, iKeyF_ap, sSetDef_ap, eTupVals_ap, sNst_ap, frzNAt_ap, sAppN_ap, sStN_ap, eListRg2_ap, eLam_ap, eCallP_ap, runB_ap, gOne_ap, gMany_ap, dI_ap, yesC_ap, dCmp_int, setD, kill_nx, kill_rt, kill_bk, Option.bind_some, Option.map_some, Option.bind_none, Option.map_none, List.getElem?_cons_zero, List.getElem?_cons_succ, List.set_cons_zero, List.set_cons_succ, List.cons_append, List.nil_append, List.append_nil, List.replicate, List.length_cons, List.length_nil, Nat.reduceAdd, Nat.reduceSub, Nat.zero_add, wdat_no, wdat_d, wdat_town, wdat_ol, wdat_od, wfrz_no, wfrz_d, wfrz_town, wfrz_ol, wfrz_od, wval_no, wval_d, wval_town, wval_ol, wval_od, warg_no, warg_d, warg_town, warg_ol, warg_od, vals, gLen, gAbs, gMax2, gMin2, gInt, gTup, gList, wipeW, if_true, if_false, Bool.false_eq_true, Bool.not_true, Bool.not_false, reduceCtorEq, f])).trans ?_
  refine (sSeq_nx (ρ' := [Sc ns, .town, .d (rowD r), .d (.tuple (allT.map Th.d)), .d (ti (frm r)), I' (cl r : Nat), .no, .no, .no, .no, .no, .no, .no, .no, .no, .no]) (n' := n) (by simp -implicitDefEqProofs only [eVar_ap, dVar_ap, eC_ap, dOf_ap, eFrz_ap, eBin_ap, bTest_ap, bTru_ap, bAnd_ap, bOr_ap, bNot_ap, eIf_ap, eB_ap, eAnd_ap, eOr_ap, aNil_ap, aCons_ap, sNil_ap, sCons_ap, eTup_ap, eLst_ap, eCall_ap, eApp_ap, oNone_ap, oSome_ap, eSl_ap, sNil'_ap, sSeq_ap, sBrk_ap, sRet_ap, sRetN_ap, sRetO_ap, sDrop_ap, sIf_ap, sSet_ap, sApp_ap, sTown_ap, sExt_ap, sIns_ap, sSetIx_ap, sAsg_ap, sPar_ap, iOf_ap, iVal_ap, iRng1_ap, iRng2_ap, sFor_ap, eComp_ap, bYes_ap, frzAt_ap, eUn_ap, eNotD_ap, eOrD_ap, eChain_ap, eListRg1_ap, eIsa_ap, eMt_ap, iEnumV_ap, iEnumF_ap, iZipV_ap, iZipF_ap, eTLen_ap, iRng3D_ap, sEnd_ap, eSs_ap, sPar3_ap, xPop_ap, xTup1_ap, xCat_ap, sSetX_ap, sAppX_ap, sParO_ap, sForEI_ap, sForK_ap, eRep_ap, eDicK_ap, eDicT_ap, sPut_ap, eAlt_ap, sTry_ap, eGetD_ap, eLockI_ap, iKeyF_ap, sSetDef_ap, eTupVals_ap, sNst_ap, frzNAt_ap, sAppN_ap, sStN_ap, eListRg2_ap, eLam_ap, eCallP_ap, runB_ap, gOne_ap, gMany_ap, dI_ap, yesC_ap, dCmp_int, setD, kill_nx, kill_rt, kill_bk, Option.bind_some, Option.map_some, Option.bind_none, Option.map_none, List.getElem?_cons_zero, List.getElem?_cons_succ, List.set_cons_zero, List.set_cons_succ, List.cons_append, List.nil_append, List.append_nil, List.replicate, List.length_cons, List.length_nil, Nat.reduceAdd, Nat.reduceSub, Nat.zero_add, wdat_no, wdat_d, wdat_town, wdat_ol, wdat_od, wfrz_no, wfrz_d, wfrz_town, wfrz_ol, wfrz_od, wval_no, wval_d, wval_town, wval_ol, wval_od, warg_no, warg_d, warg_town, warg_ol, warg_od, vals, gLen, gAbs, gMax2, gMin2, gInt, gTup, gList, wipeW, if_true, if_false, Bool.false_eq_true, Bool.not_true, Bool.not_false, reduceCtorEq, c])).trans ?_
  have k1 := comp_mapA (g := gOne 6) (own := [6]) (elt := eTup (aCons (eVar 6) (aCons (eC (.int 0)) aNil))) (ρ := [Sc ns, .town, .d (rowD r), .d (.tuple (allT.map Th.d)), .d (ti (frm r)), I' (cl r : Nat), .no, .no, .no, .no, .no, .no, .no, .no, .no, .no]) (n := n) PyData.int (fun i => .tuple [.int i, .int 0]) (frm r) (fun i _ => ⟨_, rfl, by simp -implicitDefEqProofs only [eVar_ap, dVar_ap, eC_ap, dOf_ap, eFrz_ap, eBin_ap, bTest_ap, bTru_ap, bAnd_ap, bOr_ap, bNot_ap, eIf_ap, eB_ap, eAnd_ap, eOr_ap, aNil_ap, aCons_ap, sNil_ap, sCons_ap, eTup_ap, eLst_ap, eCall_ap, eApp_ap, oNone_ap, oSome_ap, eSl_ap, sNil'_ap, sSeq_ap, sBrk_ap, sRet_ap, sRetN_ap, sRetO_ap, sDrop_ap, sIf_ap, sSet_ap, sApp_ap, sTown_ap, sExt_ap, sIns_ap, sSetIx_ap, sAsg_ap, sPar_ap, iOf_ap, iVal_ap, iRng1_ap, iRng2_ap, sFor_ap, eComp_ap, bYes_ap, frzAt_ap, eUn_ap, eNotD_ap, eOrD_ap, eChain_ap, eListRg1_ap, eIsa_ap, eMt_ap, iEnumV_ap, iEnumF_ap, iZipV_ap, iZipF_ap, eTLen_ap, iRng3D_ap, sEnd_ap, eSs_ap, sPar3_ap, xPop_ap, xTup1_ap, xCat_ap, sSetX_ap, sAppX_ap, sParO_ap, sForEI_ap, sForK_ap, eRep_ap, eDicK_ap, eDicT_ap, sPut_ap, eAlt_ap, sTry_ap, eGetD_ap, eLockI_ap, iKeyF_ap, sSetDef_ap, eTupVals_ap, sNst_ap, frzNAt_ap, sAppN_ap, sStN_ap, eListRg2_ap, eLam_ap, eCallP_ap, runB_ap, gOne_ap, gMany_ap, dI_ap, yesC_ap, dCmp_int, setD, kill_nx, kill_rt, kill_bk, Option.bind_some, Option.map_some, Option.bind_none, Option.map_none, List.getElem?_cons_zero, List.getElem?_cons_succ, List.set_cons_zero, List.set_cons_succ, List.cons_append, List.nil_append, List.append_nil, List.replicate, List.length_cons, List.length_nil, Nat.reduceAdd, Nat.reduceSub, Nat.zero_add, wdat_no, wdat_d, wdat_town, wdat_ol, wdat_od, wfrz_no, wfrz_d, wfrz_town, wfrz_ol, wfrz_od, wval_no, wval_d, wval_town, wval_ol, wval_od, warg_no, warg_d, warg_town, warg_ol, warg_od, vals, gLen, gAbs, gMax2, gMin2, gInt, gTup, gList, wipeW, if_true, if_false, Bool.false_eq_true, Bool.not_true, Bool.not_false, reduceCtorEq]⟩)
  have s1 := ranks_sorted r
  have s2 := ne_range (cl r)
  have rr : ∀ k : Nat, k ≤ 216 → rng1 (.int (k : Int)) = some (rangeD 0 k) := fun k hk => by rw [rng1_ok (by omega) (by omega)]; rfl
  have cle : cl r ≤ 216 := by have := sK_len r; exact this
  have rc := rr (cl r) cle
  have g1 : (0 ≤ ((cl r : Nat) : Int) ∧ ((cl r : Nat) : Int) ≤ ((big : Nat) : Int)) = True := eq_true ⟨by omega, by unfold big; omega⟩
  have tn : (((cl r : Nat) : Int)).toNat = cl r := Int.toNat_natCast _
  have n1 : dNe (.int (216 : Int)) (.int 216) = some (.d (.bool false)) := by rw [dNe_int]; rfl
  refine (sSeq_nx (ρ' := [Sc ns, .town, .d (rowD r), .d (.tuple (allT.map Th.d)), .d (ti (frm r)), I' (cl r : Nat), .no, .no, .no, .no, .no, .no, .no, .no, .no, .no]) (n' := n) (by
    generalize (allT.map Th.d) = TT at *
    simp -implicitDefEqProofs only [eVar_ap, dVar_ap, eC_ap, dOf_ap, eFrz_ap, eBin_ap, bTest_ap, bTru_ap, bAnd_ap, bOr_ap, bNot_ap, eIf_ap, eB_ap, eAnd_ap, eOr_ap, aNil_ap, aCons_ap, sNil_ap, sCons_ap, eTup_ap, eLst_ap, eCall_ap, eApp_ap, oNone_ap, oSome_ap, eSl_ap, sNil'_ap, sSeq_ap, sBrk_ap, sRet_ap, sRetN_ap, sRetO_ap, sDrop_ap, sIf_ap, sSet_ap, sApp_ap, sTown_ap, sExt_ap, sIns_ap, sSetIx_ap, sAsg_ap, sPar_ap, iOf_ap, iVal_ap, iRng1_ap, iRng2_ap, sFor_ap, eComp_ap, bYes_ap, frzAt_ap, eUn_ap, eNotD_ap, eOrD_ap, eChain_ap, eListRg1_ap, eIsa_ap, eMt_ap, iEnumV_ap, iEnumF_ap, iZipV_ap, iZipF_ap, eTLen_ap, iRng3D_ap, sEnd_ap, eSs_ap, sPar3_ap, xPop_ap, xTup1_ap, xCat_ap, sSetX_ap, sAppX_ap, sParO_ap, sForEI_ap, sForK_ap, eRep_ap, eDicK_ap, eDicT_ap, sPut_ap, eAlt_ap, sTry_ap, eGetD_ap, eLockI_ap, iKeyF_ap, sSetDef_ap, eTupVals_ap, sNst_ap, frzNAt_ap, sAppN_ap, sStN_ap, eListRg2_ap, eLam_ap, eCallP_ap, runB_ap, gOne_ap, gMany_ap, dI_ap, yesC_ap, dCmp_int, setD, kill_nx, kill_rt, kill_bk, Option.bind_some, Option.map_some, Option.bind_none, Option.map_none, List.getElem?_cons_zero, List.getElem?_cons_succ, List.set_cons_zero, List.set_cons_succ, List.cons_append, List.nil_append, List.append_nil, List.replicate, List.length_cons, List.length_nil, Nat.reduceAdd, Nat.reduceSub, Nat.zero_add, wdat_no, wdat_d, wdat_town, wdat_ol, wdat_od, wfrz_no, wfrz_d, wfrz_town, wfrz_ol, wfrz_od, wval_no, wval_d, wval_town, wval_ol, wval_od, warg_no, warg_d, warg_town, warg_ol, warg_od, vals, gLen, gAbs, gMax2, gMin2, gInt, gTup, gList, wipeW, if_true, if_false, Bool.false_eq_true, Bool.not_true, Bool.not_false, reduceCtorEq, hL, n1, iSeq, hb, hb1, k1, s1, g1, tn, s2, dTru_b])).trans ?_
  have r40 : rng1 (.int 40) = some (rangeD 0 40) := rng1_ok (by decide) (by decide)
  refine (sSeq_nx (ρ' := [.no, .no, .d (rowD r), .d (.tuple (allT.map Th.d)), .d (ti (frm r)), I' (cl r : Nat), .no, .no, .no, .no, .no, .no, .no, .no, .no, .no]) (n' := m) (by
    generalize (allT.map Th.d) = TT at *
    generalize rangeD 0 40 = R40 at *
    simp -implicitDefEqProofs only [eVar_ap, dVar_ap, eC_ap, dOf_ap, eFrz_ap, eBin_ap, bTest_ap, bTru_ap, bAnd_ap, bOr_ap, bNot_ap, eIf_ap, eB_ap, eAnd_ap, eOr_ap, aNil_ap, aCons_ap, sNil_ap, sCons_ap, eTup_ap, eLst_ap, eCall_ap, eApp_ap, oNone_ap, oSome_ap, eSl_ap, sNil'_ap, sSeq_ap, sBrk_ap, sRet_ap, sRetN_ap, sRetO_ap, sDrop_ap, sIf_ap, sSet_ap, sApp_ap, sTown_ap, sExt_ap, sIns_ap, sSetIx_ap, sAsg_ap, sPar_ap, iOf_ap, iVal_ap, iRng1_ap, iRng2_ap, sFor_ap, eComp_ap, bYes_ap, frzAt_ap, eUn_ap, eNotD_ap, eOrD_ap, eChain_ap, eListRg1_ap, eIsa_ap, eMt_ap, iEnumV_ap, iEnumF_ap, iZipV_ap, iZipF_ap, eTLen_ap, iRng3D_ap, sEnd_ap, eSs_ap, sPar3_ap, xPop_ap, xTup1_ap, xCat_ap, sSetX_ap, sAppX_ap, sParO_ap, sForEI_ap, sForK_ap, eRep_ap, eDicK_ap, eDicT_ap, sPut_ap, eAlt_ap, sTry_ap, eGetD_ap, eLockI_ap, iKeyF_ap, sSetDef_ap, eTupVals_ap, sNst_ap, frzNAt_ap, sAppN_ap, sStN_ap, eListRg2_ap, eLam_ap, eCallP_ap, runB_ap, gOne_ap, gMany_ap, dI_ap, yesC_ap, dCmp_int, setD, kill_nx, kill_rt, kill_bk, Option.bind_some, Option.map_some, Option.bind_none, Option.map_none, List.getElem?_cons_zero, List.getElem?_cons_succ, List.set_cons_zero, List.set_cons_succ, List.cons_append, List.nil_append, List.append_nil, List.replicate, List.length_cons, List.length_nil, Nat.reduceAdd, Nat.reduceSub, Nat.zero_add, wdat_no, wdat_d, wdat_town, wdat_ol, wdat_od, wfrz_no, wfrz_d, wfrz_town, wfrz_ol, wfrz_od, wval_no, wval_d, wval_town, wval_ol, wval_od, warg_no, warg_d, warg_town, warg_ol, warg_od, vals, gLen, gAbs, gMax2, gMin2, gInt, gTup, gList, wipeW, if_true, if_false, Bool.false_eq_true, Bool.not_true, Bool.not_false, reduceCtorEq, r40, l1])).trans ?_
  have t1 := turned_ok r hl m
  have t2 := form_ok (r.map Ky.turn) (rowT_ok hr) (by rw [List.length_map]; exact hl) m
  rw [frm_turned r hr hl] at t2
  have k2 := comp_mapA (g := gOne 6) (own := [6]) (elt := eBin dSub (dOf (eBin dSub (dVar 5) (dOf (eC (.int 1))))) (dVar 6)) (ρ := [.no, .no, .d (rowD r), .d (.tuple (allT.map Th.d)), .d (ti (frm r)), I' (cl r : Nat), .no, .no, .no, .no, .no, .no, .no, .no, .no, .no]) (n := m) PyData.int (fun o => .int (((cl r : Nat) : Int) - 1 - o)) (frm r) (fun i _ => ⟨_, rfl, by simp -implicitDefEqProofs only [eVar_ap, dVar_ap, eC_ap, dOf_ap, eFrz_ap, eBin_ap, bTest_ap, bTru_ap, bAnd_ap, bOr_ap, bNot_ap, eIf_ap, eB_ap, eAnd_ap, eOr_ap, aNil_ap, aCons_ap, sNil_ap, sCons_ap, eTup_ap, eLst_ap, eCall_ap, eApp_ap, oNone_ap, oSome_ap, eSl_ap, sNil'_ap, sSeq_ap, sBrk_ap, sRet_ap, sRetN_ap, sRetO_ap, sDrop_ap, sIf_ap, sSet_ap, sApp_ap, sTown_ap, sExt_ap, sIns_ap, sSetIx_ap, sAsg_ap, sPar_ap, iOf_ap, iVal_ap, iRng1_ap, iRng2_ap, sFor_ap, eComp_ap, bYes_ap, frzAt_ap, eUn_ap, eNotD_ap, eOrD_ap, eChain_ap, eListRg1_ap, eIsa_ap, eMt_ap, iEnumV_ap, iEnumF_ap, iZipV_ap, iZipF_ap, eTLen_ap, iRng3D_ap, sEnd_ap, eSs_ap, sPar3_ap, xPop_ap, xTup1_ap, xCat_ap, sSetX_ap, sAppX_ap, sParO_ap, sForEI_ap, sForK_ap, eRep_ap, eDicK_ap, eDicT_ap, sPut_ap, eAlt_ap, sTry_ap, eGetD_ap, eLockI_ap, iKeyF_ap, sSetDef_ap, eTupVals_ap, sNst_ap, frzNAt_ap, sAppN_ap, sStN_ap, eListRg2_ap, eLam_ap, eCallP_ap, runB_ap, gOne_ap, gMany_ap, dI_ap, yesC_ap, dCmp_int, setD, kill_nx, kill_rt, kill_bk, Option.bind_some, Option.map_some, Option.bind_none, Option.map_none, List.getElem?_cons_zero, List.getElem?_cons_succ, List.set_cons_zero, List.set_cons_succ, List.cons_append, List.nil_append, List.append_nil, List.replicate, List.length_cons, List.length_nil, Nat.reduceAdd, Nat.reduceSub, Nat.zero_add, wdat_no, wdat_d, wdat_town, wdat_ol, wdat_od, wfrz_no, wfrz_d, wfrz_town, wfrz_ol, wfrz_od, wval_no, wval_d, wval_town, wval_ol, wval_od, warg_no, warg_d, warg_town, warg_ol, warg_od, vals, gLen, gAbs, gMax2, gMin2, gInt, gTup, gList, wipeW, if_true, if_false, Bool.false_eq_true, Bool.not_true, Bool.not_false, reduceCtorEq, dSub_int]⟩)
  have e2 : (frm r).map (fun o => PyData.int (((cl r : Nat) : Int) - 1 - o)) = ((frm r).map fun o => ((cl r : Nat) : Int) - 1 - o).map .int := by rw [List.map_map]; rfl
  rw [e2] at k2
  have n2 := ne_ti ((frm r).map fun o => ((cl r : Nat) : Int) - 1 - o)
  refine (sSeq_nx (ρ' := [.no, .no, .d (rowD r), .d (.tuple (allT.map Th.d)), .d (ti (frm r)), I' (cl r : Nat), .no, .no, .no, .no, .no, .no, .no, .no, .no, .no]) (n' := m) (by
    generalize (allT.map Th.d) = TT at *
    generalize ((frm r).map fun o => ((cl r : Nat) : Int) - 1 - o) = FT at *
    simp -implicitDefEqProofs only [eVar_ap, dVar_ap, eC_ap, dOf_ap, eFrz_ap, eBin_ap, bTest_ap, bTru_ap, bAnd_ap, bOr_ap, bNot_ap, eIf_ap, eB_ap, eAnd_ap, eOr_ap, aNil_ap, aCons_ap, sNil_ap, sCons_ap, eTup_ap, eLst_ap, eCall_ap, eApp_ap, oNone_ap, oSome_ap, eSl_ap, sNil'_ap, sSeq_ap, sBrk_ap, sRet_ap, sRetN_ap, sRetO_ap, sDrop_ap, sIf_ap, sSet_ap, sApp_ap, sTown_ap, sExt_ap, sIns_ap, sSetIx_ap, sAsg_ap, sPar_ap, iOf_ap, iVal_ap, iRng1_ap, iRng2_ap, sFor_ap, eComp_ap, bYes_ap, frzAt_ap, eUn_ap, eNotD_ap, eOrD_ap, eChain_ap, eListRg1_ap, eIsa_ap, eMt_ap, iEnumV_ap, iEnumF_ap, iZipV_ap, iZipF_ap, eTLen_ap, iRng3D_ap, sEnd_ap, eSs_ap, sPar3_ap, xPop_ap, xTup1_ap, xCat_ap, sSetX_ap, sAppX_ap, sParO_ap, sForEI_ap, sForK_ap, eRep_ap, eDicK_ap, eDicT_ap, sPut_ap, eAlt_ap, sTry_ap, eGetD_ap, eLockI_ap, iKeyF_ap, sSetDef_ap, eTupVals_ap, sNst_ap, frzNAt_ap, sAppN_ap, sStN_ap, eListRg2_ap, eLam_ap, eCallP_ap, runB_ap, gOne_ap, gMany_ap, dI_ap, yesC_ap, dCmp_int, setD, kill_nx, kill_rt, kill_bk, Option.bind_some, Option.map_some, Option.bind_none, Option.map_none, List.getElem?_cons_zero, List.getElem?_cons_succ, List.set_cons_zero, List.set_cons_succ, List.cons_append, List.nil_append, List.append_nil, List.replicate, List.length_cons, List.length_nil, Nat.reduceAdd, Nat.reduceSub, Nat.zero_add, wdat_no, wdat_d, wdat_town, wdat_ol, wdat_od, wfrz_no, wfrz_d, wfrz_town, wfrz_ol, wfrz_od, wval_no, wval_d, wval_town, wval_ol, wval_od, warg_no, warg_d, warg_town, warg_ol, warg_od, vals, gLen, gAbs, gMax2, gMin2, gInt, gTup, gList, wipeW, if_true, if_false, Bool.false_eq_true, Bool.not_true, Bool.not_false, reduceCtorEq, t1, t2, iSeq, hb, hb1, k2, seqOf, gTup, n2, dTru_b])).trans ?_
  have k3 := comp_mapA (g := gOne 6) (own := [6]) (elt := eMt isTupD gCountT (dVar 4) (sCons (dVar 6) sNil)) (ρ := [.no, .no, .d (rowD r), .d (.tuple (allT.map Th.d)), .d (ti (frm r)), I' (cl r : Nat), .no, .no, .no, .no, .no, .no, .no, .no, .no, .no]) (n := m) (fun k : Nat => .int (0 + (k : Int))) (fun k : Nat => .int ((frm r).count (k : Int) : Nat)) (List.range (cl r)) (fun k _ => ⟨_, rfl, by
    have z : gCountT (.tuple ((frm r).map .int)) [.int (0 + (k : Int))] = some (.d (.int ((frm r).count (k : Int) : Nat))) := by
      simp only [gCountT, intsOf_map, Option.map_some, Int.zero_add]
    simp -implicitDefEqProofs only [eVar_ap, dVar_ap, eC_ap, dOf_ap, eFrz_ap, eBin_ap, bTest_ap, bTru_ap, bAnd_ap, bOr_ap, bNot_ap, eIf_ap, eB_ap, eAnd_ap, eOr_ap, aNil_ap, aCons_ap, sNil_ap, sCons_ap, eTup_ap, eLst_ap, eCall_ap, eApp_ap, oNone_ap, oSome_ap, eSl_ap, sNil'_ap, sSeq_ap, sBrk_ap, sRet_ap, sRetN_ap, sRetO_ap, sDrop_ap, sIf_ap, sSet_ap, sApp_ap, sTown_ap, sExt_ap, sIns_ap, sSetIx_ap, sAsg_ap, sPar_ap, iOf_ap, iVal_ap, iRng1_ap, iRng2_ap, sFor_ap, eComp_ap, bYes_ap, frzAt_ap, eUn_ap, eNotD_ap, eOrD_ap, eChain_ap, eListRg1_ap, eIsa_ap, eMt_ap, iEnumV_ap, iEnumF_ap, iZipV_ap, iZipF_ap, eTLen_ap, iRng3D_ap, sEnd_ap, eSs_ap, sPar3_ap, xPop_ap, xTup1_ap, xCat_ap, sSetX_ap, sAppX_ap, sParO_ap, sForEI_ap, sForK_ap, eRep_ap, eDicK_ap, eDicT_ap, sPut_ap, eAlt_ap, sTry_ap, eGetD_ap, eLockI_ap, iKeyF_ap, sSetDef_ap, eTupVals_ap, sNst_ap, frzNAt_ap, sAppN_ap, sStN_ap, eListRg2_ap, eLam_ap, eCallP_ap, runB_ap, gOne_ap, gMany_ap, dI_ap, yesC_ap, dCmp_int, setD, kill_nx, kill_rt, kill_bk, Option.bind_some, Option.map_some, Option.bind_none, Option.map_none, List.getElem?_cons_zero, List.getElem?_cons_succ, List.set_cons_zero, List.set_cons_succ, List.cons_append, List.nil_append, List.append_nil, List.replicate, List.length_cons, List.length_nil, Nat.reduceAdd, Nat.reduceSub, Nat.zero_add, wdat_no, wdat_d, wdat_town, wdat_ol, wdat_od, wfrz_no, wfrz_d, wfrz_town, wfrz_ol, wfrz_od, wval_no, wval_d, wval_town, wval_ol, wval_od, warg_no, warg_d, warg_town, warg_ol, warg_od, vals, gLen, gAbs, gMax2, gMin2, gInt, gTup, gList, wipeW, if_true, if_false, Bool.false_eq_true, Bool.not_true, Bool.not_false, reduceCtorEq, isTupD, z]⟩)
  have k3 : loopC (gOne 6) [6] bYes (eMt isTupD gCountT (dVar 4) (sCons (dVar 6) sNil)) [.no, .no, .d (rowD r), .d (.tuple (allT.map Th.d)), .d (ti (frm r)), I' (cl r : Nat), .no, .no, .no, .no, .no, .no, .no, .no, .no, .no] (rangeD 0 (cl r)) m = some (((List.range (cl r)).map fun k : Nat => (frm r).count (k : Int)).map fun c : Nat => .int (c : Int), m) := by rw [List.map_map]; exact k3
  have hr2 : (rangeD 0 (cl r)).length ≤ big := by rw [rangeD_len]; unfold big; omega
  refine (sSeq_nx (ρ' := [.no, .no, .d (rowD r), .d (.tuple (allT.map Th.d)), .d (ti (frm r)), I' (cl r : Nat), .no, .no, .no, .no, .no, .d (.list (((List.range (cl r)).map fun k : Nat => (frm r).count (k : Int)).map fun c : Nat => .int (c : Int))), .no, .no, .no, .no]) (n' := m) (by
    generalize (allT.map Th.d) = TT at *
    simp -implicitDefEqProofs only [eVar_ap, dVar_ap, eC_ap, dOf_ap, eFrz_ap, eBin_ap, bTest_ap, bTru_ap, bAnd_ap, bOr_ap, bNot_ap, eIf_ap, eB_ap, eAnd_ap, eOr_ap, aNil_ap, aCons_ap, sNil_ap, sCons_ap, eTup_ap, eLst_ap, eCall_ap, eApp_ap, oNone_ap, oSome_ap, eSl_ap, sNil'_ap, sSeq_ap, sBrk_ap, sRet_ap, sRetN_ap, sRetO_ap, sDrop_ap, sIf_ap, sSet_ap, sApp_ap, sTown_ap, sExt_ap, sIns_ap, sSetIx_ap, sAsg_ap, sPar_ap, iOf_ap, iVal_ap, iRng1_ap, iRng2_ap, sFor_ap, eComp_ap, bYes_ap, frzAt_ap, eUn_ap, eNotD_ap, eOrD_ap, eChain_ap, eListRg1_ap, eIsa_ap, eMt_ap, iEnumV_ap, iEnumF_ap, iZipV_ap, iZipF_ap, eTLen_ap, iRng3D_ap, sEnd_ap, eSs_ap, sPar3_ap, xPop_ap, xTup1_ap, xCat_ap, sSetX_ap, sAppX_ap, sParO_ap, sForEI_ap, sForK_ap, eRep_ap, eDicK_ap, eDicT_ap, sPut_ap, eAlt_ap, sTry_ap, eGetD_ap, eLockI_ap, iKeyF_ap, sSetDef_ap, eTupVals_ap, sNst_ap, frzNAt_ap, sAppN_ap, sStN_ap, eListRg2_ap, eLam_ap, eCallP_ap, runB_ap, gOne_ap, gMany_ap, dI_ap, yesC_ap, dCmp_int, setD, kill_nx, kill_rt, kill_bk, Option.bind_some, Option.map_some, Option.bind_none, Option.map_none, List.getElem?_cons_zero, List.getElem?_cons_succ, List.set_cons_zero, List.set_cons_succ, List.cons_append, List.nil_append, List.append_nil, List.replicate, List.length_cons, List.length_nil, Nat.reduceAdd, Nat.reduceSub, Nat.zero_add, wdat_no, wdat_d, wdat_town, wdat_ol, wdat_od, wfrz_no, wfrz_d, wfrz_town, wfrz_ol, wfrz_od, wval_no, wval_d, wval_town, wval_ol, wval_od, warg_no, warg_d, warg_town, warg_ol, warg_od, vals, gLen, gAbs, gMax2, gMin2, gInt, gTup, gList, wipeW, if_true, if_false, Bool.false_eq_true, Bool.not_true, Bool.not_false, reduceCtorEq, rc, hr2, k3])).trans ?_
  have cs := counts_sum r hr hl
  have hcn : ∀ c ∈ (List.range (cl r)).map (fun k : Nat => (frm r).count (k : Int)), c ≤ 1000 := fun c hc => by
    obtain ⟨k, _, rfl⟩ := List.mem_map.mp hc
    have := List.count_le_length (a := (k : Int)) (l := frm r)
    have := frm_len r
    omega
  have hcl : ((List.range (cl r)).map fun k : Nat => (frm r).count (k : Int)).length ≤ big := by rw [List.length_map, List.length_range]; unfold big; omega
  have hcl : ((((List.range (cl r)).map fun k : Nat => (frm r).count (k : Int))).map fun c : Nat => PyData.int (c : Int)).length ≤ big := by rw [List.length_map]; exact hcl
  generalize hCS : (List.range (cl r)).map (fun k : Nat => (frm r).count (k : Int)) = CS at *
  have k4 := comp_mapA (g := gOne 12) (own := [12]) (elt := eBin dDiv (dOf (eBin dMul (dVar 12) (dOf (eBin dSub (dVar 12) (dOf (eC (.int 1))))))) (dOf (eC (.int 2)))) (ρ := [.no, .no, .d (rowD r), .d (.tuple (allT.map Th.d)), .d (ti (frm r)), I' (cl r : Nat), .no, .no, .no, .no, .no, .d (.list (CS.map fun c : Nat => .int (c : Int))), .no, .no, .no, .no]) (n := m) (fun c : Nat => .int (c : Int)) (fun c : Nat => .int ((tri c : Nat) : Int)) CS (fun c hc => ⟨_, rfl, by
    have hc := hcn c hc
    have m1 : mulC (c : Int) ((c : Int) - 1) = true := mulC_l (by omega) (by omega)
    have m2 : divC ((c : Int) * ((c : Int) - 1)) 2 = true := divC_ok (by decide) (by decide)
    simp -implicitDefEqProofs only [eVar_ap, dVar_ap, eC_ap, dOf_ap, eFrz_ap, eBin_ap, bTest_ap, bTru_ap, bAnd_ap, bOr_ap, bNot_ap, eIf_ap, eB_ap, eAnd_ap, eOr_ap, aNil_ap, aCons_ap, sNil_ap, sCons_ap, eTup_ap, eLst_ap, eCall_ap, eApp_ap, oNone_ap, oSome_ap, eSl_ap, sNil'_ap, sSeq_ap, sBrk_ap, sRet_ap, sRetN_ap, sRetO_ap, sDrop_ap, sIf_ap, sSet_ap, sApp_ap, sTown_ap, sExt_ap, sIns_ap, sSetIx_ap, sAsg_ap, sPar_ap, iOf_ap, iVal_ap, iRng1_ap, iRng2_ap, sFor_ap, eComp_ap, bYes_ap, frzAt_ap, eUn_ap, eNotD_ap, eOrD_ap, eChain_ap, eListRg1_ap, eIsa_ap, eMt_ap, iEnumV_ap, iEnumF_ap, iZipV_ap, iZipF_ap, eTLen_ap, iRng3D_ap, sEnd_ap, eSs_ap, sPar3_ap, xPop_ap, xTup1_ap, xCat_ap, sSetX_ap, sAppX_ap, sParO_ap, sForEI_ap, sForK_ap, eRep_ap, eDicK_ap, eDicT_ap, sPut_ap, eAlt_ap, sTry_ap, eGetD_ap, eLockI_ap, iKeyF_ap, sSetDef_ap, eTupVals_ap, sNst_ap, frzNAt_ap, sAppN_ap, sStN_ap, eListRg2_ap, eLam_ap, eCallP_ap, runB_ap, gOne_ap, gMany_ap, dI_ap, yesC_ap, dCmp_int, setD, kill_nx, kill_rt, kill_bk, Option.bind_some, Option.map_some, Option.bind_none, Option.map_none, List.getElem?_cons_zero, List.getElem?_cons_succ, List.set_cons_zero, List.set_cons_succ, List.cons_append, List.nil_append, List.append_nil, List.replicate, List.length_cons, List.length_nil, Nat.reduceAdd, Nat.reduceSub, Nat.zero_add, wdat_no, wdat_d, wdat_town, wdat_ol, wdat_od, wfrz_no, wfrz_d, wfrz_town, wfrz_ol, wfrz_od, wval_no, wval_d, wval_town, wval_ol, wval_od, warg_no, warg_d, warg_town, warg_ol, warg_od, vals, gLen, gAbs, gMax2, gMin2, gInt, gTup, gList, wipeW, if_true, if_false, Bool.false_eq_true, Bool.not_true, Bool.not_false, reduceCtorEq, dSub_int, dMul, m1, dDiv, m2, tri_int]⟩)
  have s3 := sum_ints CS
  rw [cs] at s3
  have ty := ties_ok r hr hl m
  have wh := is_whole_order_ok r hr hl m
  have q1 : dNe (.int ((tieR r : Nat) : Int)) (.int ((tieR r : Nat) : Int)) = some (.d (.bool false)) := by rw [dNe_int]; simp
  have q2 := dEq216 (cl r)
  have q3 : ∀ b : Bool, dNe (.bool b) (.bool b) = some (.d (.bool false)) := fun b => by cases b <;> rfl
  have q3 := q3 (decide (cl r = 216))
  have tt := tie_ok r hr hl m
  refine (sSeq_nx (ρ' := [.no, .no, .d (rowD r), .d (.tuple (allT.map Th.d)), .d (ti (frm r)), I' (cl r : Nat), .no, .no, .no, .no, .no, .no, .no, .no, .no, .no]) (n' := m) (by
    generalize (allT.map Th.d) = TT at *
    generalize decide (cl r = 216) = B at *
    generalize tieR r = TR at *
    simp -implicitDefEqProofs only [eVar_ap, dVar_ap, eC_ap, dOf_ap, eFrz_ap, eBin_ap, bTest_ap, bTru_ap, bAnd_ap, bOr_ap, bNot_ap, eIf_ap, eB_ap, eAnd_ap, eOr_ap, aNil_ap, aCons_ap, sNil_ap, sCons_ap, eTup_ap, eLst_ap, eCall_ap, eApp_ap, oNone_ap, oSome_ap, eSl_ap, sNil'_ap, sSeq_ap, sBrk_ap, sRet_ap, sRetN_ap, sRetO_ap, sDrop_ap, sIf_ap, sSet_ap, sApp_ap, sTown_ap, sExt_ap, sIns_ap, sSetIx_ap, sAsg_ap, sPar_ap, iOf_ap, iVal_ap, iRng1_ap, iRng2_ap, sFor_ap, eComp_ap, bYes_ap, frzAt_ap, eUn_ap, eNotD_ap, eOrD_ap, eChain_ap, eListRg1_ap, eIsa_ap, eMt_ap, iEnumV_ap, iEnumF_ap, iZipV_ap, iZipF_ap, eTLen_ap, iRng3D_ap, sEnd_ap, eSs_ap, sPar3_ap, xPop_ap, xTup1_ap, xCat_ap, sSetX_ap, sAppX_ap, sParO_ap, sForEI_ap, sForK_ap, eRep_ap, eDicK_ap, eDicT_ap, sPut_ap, eAlt_ap, sTry_ap, eGetD_ap, eLockI_ap, iKeyF_ap, sSetDef_ap, eTupVals_ap, sNst_ap, frzNAt_ap, sAppN_ap, sStN_ap, eListRg2_ap, eLam_ap, eCallP_ap, runB_ap, gOne_ap, gMany_ap, dI_ap, yesC_ap, dCmp_int, setD, kill_nx, kill_rt, kill_bk, Option.bind_some, Option.map_some, Option.bind_none, Option.map_none, List.getElem?_cons_zero, List.getElem?_cons_succ, List.set_cons_zero, List.set_cons_succ, List.cons_append, List.nil_append, List.append_nil, List.replicate, List.length_cons, List.length_nil, Nat.reduceAdd, Nat.reduceSub, Nat.zero_add, wdat_no, wdat_d, wdat_town, wdat_ol, wdat_od, wfrz_no, wfrz_d, wfrz_town, wfrz_ol, wfrz_od, wval_no, wval_d, wval_town, wval_ol, wval_od, warg_no, warg_d, warg_town, warg_ol, warg_od, vals, gLen, gAbs, gMax2, gMin2, gInt, gTup, gList, wipeW, if_true, if_false, Bool.false_eq_true, Bool.not_true, Bool.not_false, reduceCtorEq, ty, iSeq, hcl, k4, s3, q1, wh, q2, q3, dTru_b])).trans ?_
  refine (sSeq_nx (ρ' := [.no, .no, .no, .d (.tuple (allT.map Th.d)), .d (ti (frm r)), I' (cl r : Nat), .no, .no, .no, .no, .no, .no, .no, .d (fpD (tieP r)), .no, .no]) (n' := m) (by
    generalize (allT.map Th.d) = TT at *
    generalize fpD (tieP r) = FP at *
    simp -implicitDefEqProofs only [eVar_ap, dVar_ap, eC_ap, dOf_ap, eFrz_ap, eBin_ap, bTest_ap, bTru_ap, bAnd_ap, bOr_ap, bNot_ap, eIf_ap, eB_ap, eAnd_ap, eOr_ap, aNil_ap, aCons_ap, sNil_ap, sCons_ap, eTup_ap, eLst_ap, eCall_ap, eApp_ap, oNone_ap, oSome_ap, eSl_ap, sNil'_ap, sSeq_ap, sBrk_ap, sRet_ap, sRetN_ap, sRetO_ap, sDrop_ap, sIf_ap, sSet_ap, sApp_ap, sTown_ap, sExt_ap, sIns_ap, sSetIx_ap, sAsg_ap, sPar_ap, iOf_ap, iVal_ap, iRng1_ap, iRng2_ap, sFor_ap, eComp_ap, bYes_ap, frzAt_ap, eUn_ap, eNotD_ap, eOrD_ap, eChain_ap, eListRg1_ap, eIsa_ap, eMt_ap, iEnumV_ap, iEnumF_ap, iZipV_ap, iZipF_ap, eTLen_ap, iRng3D_ap, sEnd_ap, eSs_ap, sPar3_ap, xPop_ap, xTup1_ap, xCat_ap, sSetX_ap, sAppX_ap, sParO_ap, sForEI_ap, sForK_ap, eRep_ap, eDicK_ap, eDicT_ap, sPut_ap, eAlt_ap, sTry_ap, eGetD_ap, eLockI_ap, iKeyF_ap, sSetDef_ap, eTupVals_ap, sNst_ap, frzNAt_ap, sAppN_ap, sStN_ap, eListRg2_ap, eLam_ap, eCallP_ap, runB_ap, gOne_ap, gMany_ap, dI_ap, yesC_ap, dCmp_int, setD, kill_nx, kill_rt, kill_bk, Option.bind_some, Option.map_some, Option.bind_none, Option.map_none, List.getElem?_cons_zero, List.getElem?_cons_succ, List.set_cons_zero, List.set_cons_succ, List.cons_append, List.nil_append, List.append_nil, List.replicate, List.length_cons, List.length_nil, Nat.reduceAdd, Nat.reduceSub, Nat.zero_add, wdat_no, wdat_d, wdat_town, wdat_ol, wdat_od, wfrz_no, wfrz_d, wfrz_town, wfrz_ol, wfrz_od, wval_no, wval_d, wval_town, wval_ol, wval_od, warg_no, warg_d, warg_town, warg_ol, warg_od, vals, gLen, gAbs, gMax2, gMin2, gInt, gTup, gList, wipeW, if_true, if_false, Bool.false_eq_true, Bool.not_true, Bool.not_false, reduceCtorEq, tt])).trans ?_
  cases hp : tieP r with
  | none =>
    have h216 := (tieP_none r).mp hp
    have q4 := q2
    rw [decide_eq_true h216] at q4
    refine (sSeq_rt (w := .d (.bool true)) (n' := m) (by
      generalize (allT.map Th.d) = TT at *
      simp -implicitDefEqProofs only [eVar_ap, dVar_ap, eC_ap, dOf_ap, eFrz_ap, eBin_ap, bTest_ap, bTru_ap, bAnd_ap, bOr_ap, bNot_ap, eIf_ap, eB_ap, eAnd_ap, eOr_ap, aNil_ap, aCons_ap, sNil_ap, sCons_ap, eTup_ap, eLst_ap, eCall_ap, eApp_ap, oNone_ap, oSome_ap, eSl_ap, sNil'_ap, sSeq_ap, sBrk_ap, sRet_ap, sRetN_ap, sRetO_ap, sDrop_ap, sIf_ap, sSet_ap, sApp_ap, sTown_ap, sExt_ap, sIns_ap, sSetIx_ap, sAsg_ap, sPar_ap, iOf_ap, iVal_ap, iRng1_ap, iRng2_ap, sFor_ap, eComp_ap, bYes_ap, frzAt_ap, eUn_ap, eNotD_ap, eOrD_ap, eChain_ap, eListRg1_ap, eIsa_ap, eMt_ap, iEnumV_ap, iEnumF_ap, iZipV_ap, iZipF_ap, eTLen_ap, iRng3D_ap, sEnd_ap, eSs_ap, sPar3_ap, xPop_ap, xTup1_ap, xCat_ap, sSetX_ap, sAppX_ap, sParO_ap, sForEI_ap, sForK_ap, eRep_ap, eDicK_ap, eDicT_ap, sPut_ap, eAlt_ap, sTry_ap, eGetD_ap, eLockI_ap, iKeyF_ap, sSetDef_ap, eTupVals_ap, sNst_ap, frzNAt_ap, sAppN_ap, sStN_ap, eListRg2_ap, eLam_ap, eCallP_ap, runB_ap, gOne_ap, gMany_ap, dI_ap, yesC_ap, dCmp_int, setD, kill_nx, kill_rt, kill_bk, Option.bind_some, Option.map_some, Option.bind_none, Option.map_none, List.getElem?_cons_zero, List.getElem?_cons_succ, List.set_cons_zero, List.set_cons_succ, List.cons_append, List.nil_append, List.append_nil, List.replicate, List.length_cons, List.length_nil, Nat.reduceAdd, Nat.reduceSub, Nat.zero_add, wdat_no, wdat_d, wdat_town, wdat_ol, wdat_od, wfrz_no, wfrz_d, wfrz_town, wfrz_ol, wfrz_od, wval_no, wval_d, wval_town, wval_ol, wval_od, warg_no, warg_d, warg_town, warg_ol, warg_od, vals, gLen, gAbs, gMax2, gMin2, gInt, gTup, gList, wipeW, if_true, if_false, Bool.false_eq_true, Bool.not_true, Bool.not_false, reduceCtorEq, fpD, dIsN, isNo_non, q4, dTru_b])).trans rfl
  | some p =>
    obtain ⟨i, j⟩ := p
    obtain ⟨p1, p2, p3, p4, p5⟩ := tieP_some r hp
    have n216 : ¬ cl r = 216 := fun z => by
      have := (tieP_none r).mpr z
      rw [hp] at this; cases this
    refine (sSeq_nx (ρ' := [.no, .no, .no, .d (.tuple (allT.map Th.d)), .d (ti (frm r)), .no, .no, .no, .no, .no, .no, .no, .no, .d (.tuple [thD i, thD j]), .no, .no]) (n' := m) (by
      generalize (allT.map Th.d) = TT at *
      simp -implicitDefEqProofs only [eVar_ap, dVar_ap, eC_ap, dOf_ap, eFrz_ap, eBin_ap, bTest_ap, bTru_ap, bAnd_ap, bOr_ap, bNot_ap, eIf_ap, eB_ap, eAnd_ap, eOr_ap, aNil_ap, aCons_ap, sNil_ap, sCons_ap, eTup_ap, eLst_ap, eCall_ap, eApp_ap, oNone_ap, oSome_ap, eSl_ap, sNil'_ap, sSeq_ap, sBrk_ap, sRet_ap, sRetN_ap, sRetO_ap, sDrop_ap, sIf_ap, sSet_ap, sApp_ap, sTown_ap, sExt_ap, sIns_ap, sSetIx_ap, sAsg_ap, sPar_ap, iOf_ap, iVal_ap, iRng1_ap, iRng2_ap, sFor_ap, eComp_ap, bYes_ap, frzAt_ap, eUn_ap, eNotD_ap, eOrD_ap, eChain_ap, eListRg1_ap, eIsa_ap, eMt_ap, iEnumV_ap, iEnumF_ap, iZipV_ap, iZipF_ap, eTLen_ap, iRng3D_ap, sEnd_ap, eSs_ap, sPar3_ap, xPop_ap, xTup1_ap, xCat_ap, sSetX_ap, sAppX_ap, sParO_ap, sForEI_ap, sForK_ap, eRep_ap, eDicK_ap, eDicT_ap, sPut_ap, eAlt_ap, sTry_ap, eGetD_ap, eLockI_ap, iKeyF_ap, sSetDef_ap, eTupVals_ap, sNst_ap, frzNAt_ap, sAppN_ap, sStN_ap, eListRg2_ap, eLam_ap, eCallP_ap, runB_ap, gOne_ap, gMany_ap, dI_ap, yesC_ap, dCmp_int, setD, kill_nx, kill_rt, kill_bk, Option.bind_some, Option.map_some, Option.bind_none, Option.map_none, List.getElem?_cons_zero, List.getElem?_cons_succ, List.set_cons_zero, List.set_cons_succ, List.cons_append, List.nil_append, List.append_nil, List.replicate, List.length_cons, List.length_nil, Nat.reduceAdd, Nat.reduceSub, Nat.zero_add, wdat_no, wdat_d, wdat_town, wdat_ol, wdat_od, wfrz_no, wfrz_d, wfrz_town, wfrz_ol, wfrz_od, wval_no, wval_d, wval_town, wval_ol, wval_od, warg_no, warg_d, warg_town, warg_ol, warg_od, vals, gLen, gAbs, gMax2, gMin2, gInt, gTup, gList, wipeW, if_true, if_false, Bool.false_eq_true, Bool.not_true, Bool.not_false, reduceCtorEq, fpD, dIsN, isNo_tup, dTru_b])).trans ?_
    have x1 := place_all (i := i) (by omega)
    have x2 := place_all (i := j) p2
    refine (sSeq_nx (ρ' := [.no, .no, .no, .no, .d (ti (frm r)), .no, .no, .no, .no, .no, .no, .no, .no, .no, I' (i : Nat), I' (j : Nat)]) (n' := m) (by
      generalize (allT.map Th.d) = TT at *
      simp -implicitDefEqProofs only [eVar_ap, dVar_ap, eC_ap, dOf_ap, eFrz_ap, eBin_ap, bTest_ap, bTru_ap, bAnd_ap, bOr_ap, bNot_ap, eIf_ap, eB_ap, eAnd_ap, eOr_ap, aNil_ap, aCons_ap, sNil_ap, sCons_ap, eTup_ap, eLst_ap, eCall_ap, eApp_ap, oNone_ap, oSome_ap, eSl_ap, sNil'_ap, sSeq_ap, sBrk_ap, sRet_ap, sRetN_ap, sRetO_ap, sDrop_ap, sIf_ap, sSet_ap, sApp_ap, sTown_ap, sExt_ap, sIns_ap, sSetIx_ap, sAsg_ap, sPar_ap, iOf_ap, iVal_ap, iRng1_ap, iRng2_ap, sFor_ap, eComp_ap, bYes_ap, frzAt_ap, eUn_ap, eNotD_ap, eOrD_ap, eChain_ap, eListRg1_ap, eIsa_ap, eMt_ap, iEnumV_ap, iEnumF_ap, iZipV_ap, iZipF_ap, eTLen_ap, iRng3D_ap, sEnd_ap, eSs_ap, sPar3_ap, xPop_ap, xTup1_ap, xCat_ap, sSetX_ap, sAppX_ap, sParO_ap, sForEI_ap, sForK_ap, eRep_ap, eDicK_ap, eDicT_ap, sPut_ap, eAlt_ap, sTry_ap, eGetD_ap, eLockI_ap, iKeyF_ap, sSetDef_ap, eTupVals_ap, sNst_ap, frzNAt_ap, sAppN_ap, sStN_ap, eListRg2_ap, eLam_ap, eCallP_ap, runB_ap, gOne_ap, gMany_ap, dI_ap, yesC_ap, dCmp_int, setD, kill_nx, kill_rt, kill_bk, Option.bind_some, Option.map_some, Option.bind_none, Option.map_none, List.getElem?_cons_zero, List.getElem?_cons_succ, List.set_cons_zero, List.set_cons_succ, List.cons_append, List.nil_append, List.append_nil, List.replicate, List.length_cons, List.length_nil, Nat.reduceAdd, Nat.reduceSub, Nat.zero_add, wdat_no, wdat_d, wdat_town, wdat_ol, wdat_od, wfrz_no, wfrz_d, wfrz_town, wfrz_ol, wfrz_od, wval_no, wval_d, wval_town, wval_ol, wval_od, warg_no, warg_d, warg_town, warg_ol, warg_od, vals, gLen, gAbs, gMax2, gMin2, gInt, gTup, gList, wipeW, if_true, if_false, Bool.false_eq_true, Bool.not_true, Bool.not_false, reduceCtorEq, isTupD, x1, x2, i0, i1])).trans ?_
    have y1 := ixFrm r i (by omega)
    have y2 := ixFrm r j p2
    have e : (frm r).getD j 0 = (frm r).getD i 0 := by
      rw [frm_at r (i := j) p2, frm_at r (i := i) (by omega), (rnk_eq r (tha_mem (by omega)) (tha_mem p2)).mpr p3]
    rw [e] at y2
    have lenF : ((frm r).map PyData.int).length = 216 := by rw [List.length_map, frm_len]
    have cu := cutD_nat ((frm r).map .int) (a := i + 1) (b := j) (by omega) (by omega) ((i : Int) + 1) (j : Int) (by omega) rfl
    have ni := notin_cut r (i := i) (by omega) (k := j) (by omega) p5
    have ge : dCmp rGe zGe (.int (i : Int)) (.int (j : Int)) = some (.d (.bool false)) := by
      rw [dCmp_int]
      simp [rGe]; omega
    have nq : dNe (.int ((frm r).getD i 0)) (.int ((frm r).getD i 0)) = some (.d (.bool false)) := by rw [dNe_int]; simp
    refine (sSeq_nx (ρ' := [.no, .no, .no, .no, .d (ti (frm r)), .no, .no, .no, .no, .no, .no, .no, .no, .no, I' (i : Nat), .no]) (n' := m) (by
      generalize hA : (frm r).getD i 0 = A at *
      simp -implicitDefEqProofs only [eVar_ap, dVar_ap, eC_ap, dOf_ap, eFrz_ap, eBin_ap, bTest_ap, bTru_ap, bAnd_ap, bOr_ap, bNot_ap, eIf_ap, eB_ap, eAnd_ap, eOr_ap, aNil_ap, aCons_ap, sNil_ap, sCons_ap, eTup_ap, eLst_ap, eCall_ap, eApp_ap, oNone_ap, oSome_ap, eSl_ap, sNil'_ap, sSeq_ap, sBrk_ap, sRet_ap, sRetN_ap, sRetO_ap, sDrop_ap, sIf_ap, sSet_ap, sApp_ap, sTown_ap, sExt_ap, sIns_ap, sSetIx_ap, sAsg_ap, sPar_ap, iOf_ap, iVal_ap, iRng1_ap, iRng2_ap, sFor_ap, eComp_ap, bYes_ap, frzAt_ap, eUn_ap, eNotD_ap, eOrD_ap, eChain_ap, eListRg1_ap, eIsa_ap, eMt_ap, iEnumV_ap, iEnumF_ap, iZipV_ap, iZipF_ap, eTLen_ap, iRng3D_ap, sEnd_ap, eSs_ap, sPar3_ap, xPop_ap, xTup1_ap, xCat_ap, sSetX_ap, sAppX_ap, sParO_ap, sForEI_ap, sForK_ap, eRep_ap, eDicK_ap, eDicT_ap, sPut_ap, eAlt_ap, sTry_ap, eGetD_ap, eLockI_ap, iKeyF_ap, sSetDef_ap, eTupVals_ap, sNst_ap, frzNAt_ap, sAppN_ap, sStN_ap, eListRg2_ap, eLam_ap, eCallP_ap, runB_ap, gOne_ap, gMany_ap, dI_ap, yesC_ap, dCmp_int, setD, kill_nx, kill_rt, kill_bk, Option.bind_some, Option.map_some, Option.bind_none, Option.map_none, List.getElem?_cons_zero, List.getElem?_cons_succ, List.set_cons_zero, List.set_cons_succ, List.cons_append, List.nil_append, List.append_nil, List.replicate, List.length_cons, List.length_nil, Nat.reduceAdd, Nat.reduceSub, Nat.zero_add, wdat_no, wdat_d, wdat_town, wdat_ol, wdat_od, wfrz_no, wfrz_d, wfrz_town, wfrz_ol, wfrz_od, wval_no, wval_d, wval_town, wval_ol, wval_od, warg_no, warg_d, warg_town, warg_ol, warg_od, vals, gLen, gAbs, gMax2, gMin2, gInt, gTup, gList, wipeW, if_true, if_false, Bool.false_eq_true, Bool.not_true, Bool.not_false, reduceCtorEq, ge, y1, y2, nq, dAdd_int, dSl, cu, ni, dTru_b])).trans ?_
    have k5 := comp_mapA (g := gOne 6) (own := [6]) (elt := eBin dIn (dOf (eBin dIx (dVar 4) (dVar 6))) (dOf (eSl dSl (dVar 4) (oSome (dOf (eBin dAdd (dVar 6) (dOf (eC (.int 1)))))) oNone))) (ρ := [.no, .no, .no, .no, .d (ti (frm r)), .no, .no, .no, .no, .no, .no, .no, .no, .no, I' (i : Nat), .no]) (n := m) (fun k : Nat => .int (0 + (k : Int))) (fun _ => .bool false) (List.range i) (fun k hk => ⟨_, rfl, by
      have hk : k < i := List.mem_range.mp hk
      have z1 := ixFrm r k (by omega)
      have z2 := notin_cut r (i := k) (by omega) (k := 216) (by omega) (fun j' a b => p4 k j' a b hk)
      rw [List.take_of_length_le (by rw [List.length_drop]; omega)] at z2
      have z3 := cutD_drop ((frm r).map .int) (k + 1) (by omega)
      have z4 : (((k + 1 : Nat) : Int)) = (k : Int) + 1 := by omega
      rw [z4] at z3
      have z5 : (0 : Int) + (k : Int) = (k : Int) := by omega
      rw [z5]
      generalize hA : (frm r).getD k 0 = A at *
      simp -implicitDefEqProofs only [eVar_ap, dVar_ap, eC_ap, dOf_ap, eFrz_ap, eBin_ap, bTest_ap, bTru_ap, bAnd_ap, bOr_ap, bNot_ap, eIf_ap, eB_ap, eAnd_ap, eOr_ap, aNil_ap, aCons_ap, sNil_ap, sCons_ap, eTup_ap, eLst_ap, eCall_ap, eApp_ap, oNone_ap, oSome_ap, eSl_ap, sNil'_ap, sSeq_ap, sBrk_ap, sRet_ap, sRetN_ap, sRetO_ap, sDrop_ap, sIf_ap, sSet_ap, sApp_ap, sTown_ap, sExt_ap, sIns_ap, sSetIx_ap, sAsg_ap, sPar_ap, iOf_ap, iVal_ap, iRng1_ap, iRng2_ap, sFor_ap, eComp_ap, bYes_ap, frzAt_ap, eUn_ap, eNotD_ap, eOrD_ap, eChain_ap, eListRg1_ap, eIsa_ap, eMt_ap, iEnumV_ap, iEnumF_ap, iZipV_ap, iZipF_ap, eTLen_ap, iRng3D_ap, sEnd_ap, eSs_ap, sPar3_ap, xPop_ap, xTup1_ap, xCat_ap, sSetX_ap, sAppX_ap, sParO_ap, sForEI_ap, sForK_ap, eRep_ap, eDicK_ap, eDicT_ap, sPut_ap, eAlt_ap, sTry_ap, eGetD_ap, eLockI_ap, iKeyF_ap, sSetDef_ap, eTupVals_ap, sNst_ap, frzNAt_ap, sAppN_ap, sStN_ap, eListRg2_ap, eLam_ap, eCallP_ap, runB_ap, gOne_ap, gMany_ap, dI_ap, yesC_ap, dCmp_int, setD, kill_nx, kill_rt, kill_bk, Option.bind_some, Option.map_some, Option.bind_none, Option.map_none, List.getElem?_cons_zero, List.getElem?_cons_succ, List.set_cons_zero, List.set_cons_succ, List.cons_append, List.nil_append, List.append_nil, List.replicate, List.length_cons, List.length_nil, Nat.reduceAdd, Nat.reduceSub, Nat.zero_add, wdat_no, wdat_d, wdat_town, wdat_ol, wdat_od, wfrz_no, wfrz_d, wfrz_town, wfrz_ol, wfrz_od, wval_no, wval_d, wval_town, wval_ol, wval_od, warg_no, warg_d, warg_town, warg_ol, warg_od, vals, gLen, gAbs, gMax2, gMin2, gInt, gTup, gList, wipeW, if_true, if_false, Bool.false_eq_true, Bool.not_true, Bool.not_false, reduceCtorEq, z1, dAdd_int, dSl, z3, z2]⟩)
    have k5 : loopC (gOne 6) [6] bYes (eBin dIn (dOf (eBin dIx (dVar 4) (dVar 6))) (dOf (eSl dSl (dVar 4) (oSome (dOf (eBin dAdd (dVar 6) (dOf (eC (.int 1)))))) oNone))) [.no, .no, .no, .no, .d (ti (frm r)), .no, .no, .no, .no, .no, .no, .no, .no, .no, I' (i : Nat), .no] (rangeD 0 i) m = some ((List.range i).map fun _ => .bool false, m) := k5
    have ri := rr i (by omega)
    have hri : (rangeD 0 i).length ≤ big := by rw [rangeD_len]; unfold big; omega
    have an : gAnyX [.list ((List.range i).map fun _ => PyData.bool false)] = some (.d (.bool false)) := by
      have := gAny_map (fun _ : Nat => false) (List.range i)
      have z : (List.range i).any (fun _ => false) = false := by simp
      rw [z] at this
      exact this
    generalize (List.range i).map (fun _ => PyData.bool false) = LF at *
    simp -implicitDefEqProofs only [eVar_ap, dVar_ap, eC_ap, dOf_ap, eFrz_ap, eBin_ap, bTest_ap, bTru_ap, bAnd_ap, bOr_ap, bNot_ap, eIf_ap, eB_ap, eAnd_ap, eOr_ap, aNil_ap, aCons_ap, sNil_ap, sCons_ap, eTup_ap, eLst_ap, eCall_ap, eApp_ap, oNone_ap, oSome_ap, eSl_ap, sNil'_ap, sSeq_ap, sBrk_ap, sRet_ap, sRetN_ap, sRetO_ap, sDrop_ap, sIf_ap, sSet_ap, sApp_ap, sTown_ap, sExt_ap, sIns_ap, sSetIx_ap, sAsg_ap, sPar_ap, iOf_ap, iVal_ap, iRng1_ap, iRng2_ap, sFor_ap, eComp_ap, bYes_ap, frzAt_ap, eUn_ap, eNotD_ap, eOrD_ap, eChain_ap, eListRg1_ap, eIsa_ap, eMt_ap, iEnumV_ap, iEnumF_ap, iZipV_ap, iZipF_ap, eTLen_ap, iRng3D_ap, sEnd_ap, eSs_ap, sPar3_ap, xPop_ap, xTup1_ap, xCat_ap, sSetX_ap, sAppX_ap, sParO_ap, sForEI_ap, sForK_ap, eRep_ap, eDicK_ap, eDicT_ap, sPut_ap, eAlt_ap, sTry_ap, eGetD_ap, eLockI_ap, iKeyF_ap, sSetDef_ap, eTupVals_ap, sNst_ap, frzNAt_ap, sAppN_ap, sStN_ap, eListRg2_ap, eLam_ap, eCallP_ap, runB_ap, gOne_ap, gMany_ap, dI_ap, yesC_ap, dCmp_int, setD, kill_nx, kill_rt, kill_bk, Option.bind_some, Option.map_some, Option.bind_none, Option.map_none, List.getElem?_cons_zero, List.getElem?_cons_succ, List.set_cons_zero, List.set_cons_succ, List.cons_append, List.nil_append, List.append_nil, List.replicate, List.length_cons, List.length_nil, Nat.reduceAdd, Nat.reduceSub, Nat.zero_add, wdat_no, wdat_d, wdat_town, wdat_ol, wdat_od, wfrz_no, wfrz_d, wfrz_town, wfrz_ol, wfrz_od, wval_no, wval_d, wval_town, wval_ol, wval_od, warg_no, warg_d, warg_town, warg_ol, warg_od, vals, gLen, gAbs, gMax2, gMin2, gInt, gTup, gList, wipeW, if_true, if_false, Bool.false_eq_true, Bool.not_true, Bool.not_false, reduceCtorEq, ri, hri, k5, an, dTru_b]
theorem form_holds_ok (n : Nat) (hn : n + 80 ≤ big) : ∃ n', m__law_form_holds [Sc ns, .town, .d (rowD r), .d (.tuple (allT.map Th.d))] n = some (.d (.bool true), n') ∧ n ≤ n' ∧ n' ≤ n + 80 := by
  obtain ⟨n', h1, h2, h3⟩ := body_ok ns r hr hl n hn
  refine ⟨n', ?_, h2, h3⟩
  unfold m__law_form_holds runB
  show (b__law_form_holds [Sc ns, .town, .d (rowD r), .d (.tuple (allT.map Th.d)), .no, .no, .no, .no, .no, .no, .no, .no, .no, .no, .no, .no] n).bind _ = _
  rw [h1]
  rfl
end
/-! the law -/
def whole3 : Rw := [.pl (.up 0), .pl (.up 1), .pl (.up 2)]
theorem whole3_d : rowD whole3 = .tuple [.tuple [.str "up", .int 0], .tuple [.str "up", .int 1], .tuple [.str "up", .int 2]] := rfl
theorem whole3_ok : Rw.ok whole3 := fun k hk => by
  unfold whole3 at hk
  simp only [List.mem_cons, List.not_mem_nil, or_false] at hk
  rcases hk with rfl | rfl | rfl
  · show pl3 0; unfold pl3; omega
  · show pl3 1; unfold pl3; omega
  · show pl3 2; unfold pl3; omega
theorem whole3_lt (s t : Th) : wrd whole3 s t < 0 ↔ s.1 < t.1 ∨ (s.1 = t.1 ∧ (s.2.1 < t.2.1 ∨ (s.2.1 = t.2.1 ∧ s.2.2 < t.2.2))) := by
  rw [← wts_lt]
  have e : ∀ u : Th, wts whole3 u = [u.1, u.2.1, u.2.2] := fun _ => rfl
  rw [e, e, List.cons_lt_cons_iff, List.cons_lt_cons_iff, List.cons_lt_cons_iff]
  simp
def no3 (t : Th) : Nat := (36 * t.1 + 6 * t.2.1 + t.2.2).toNat
theorem in_all {a b c : Nat} (ha : a < 6) (hb : b < 6) (hc : c < 6) : ((a : Int), (b : Int), (c : Int)) ∈ allT := by
  have six_in : ∀ x : Nat, x < 6 → (x : Int) ∈ six := by decide
  exact List.mem_flatMap.mpr ⟨_, six_in a ha, List.mem_flatMap.mpr ⟨_, six_in b hb, List.mem_map.mpr ⟨_, six_in c hc, rfl⟩⟩⟩
theorem whole3_rnk : ∀ t ∈ allT, rnk whole3 t = no3 t := by
  refine rank_uniq (fun s hs t ht => ?_) fun t ht j hj => ?_
  · obtain ⟨⟨a1, a2⟩, ⟨b1, b2⟩, c1, c2⟩ := allT_ok hs
    obtain ⟨⟨d1, d2⟩, ⟨e1, e2⟩, f1, f2⟩ := allT_ok ht
    rw [whole3_lt]
    unfold no3
    omega
  · obtain ⟨⟨d1, d2⟩, ⟨e1, e2⟩, f1, f2⟩ := allT_ok ht
    have hj2 : j < 216 := by unfold no3 at hj; omega
    refine ⟨_, in_all (a := j / 36) (b := j / 6 % 6) (c := j % 6) (by omega) (by omega) (by omega), ?_⟩
    unfold no3
    show (36 * ((j / 36 : Nat) : Int) + 6 * ((j / 6 % 6 : Nat) : Int) + ((j % 6 : Nat) : Int)).toNat = j
    omega
theorem whole3_frm : frm whole3 = (List.range 216).map fun k : Nat => (k : Int) := by
  have e : frm whole3 = allT.map fun t => (no3 t : Int) := List.map_congr_left fun t ht => by rw [whole3_rnk t ht]
  rw [e]
  decide +kernel
theorem whole3_cl : cl whole3 = 216 := by
  rw [inj_cl]
  intro s hs t ht e
  have h1 := (wts_eq whole3 s t).mpr e
  have e : ∀ u : Th, wts whole3 u = [u.1, u.2.1, u.2.2] := fun _ => rfl
  rw [e, e] at h1
  obtain ⟨a, b, c⟩ := s
  obtain ⟨a', b', c'⟩ := t
  simpa using h1
theorem nil_cl : cl ([] : Rw) = 1 := by decide +kernel
theorem nil_frm : frm ([] : Rw) = List.replicate 216 0 := by decide +kernel
theorem nil_tie : tieP ([] : Rw) = some (0, 1) := by
  cases h : tieP ([] : Rw) with
  | none => have := (tieP_none []).mp h; rw [nil_cl] at this; cases this
  | some p =>
    obtain ⟨i, j⟩ := p
    obtain ⟨h1, h2, h3, h4, h5⟩ := tieP_some [] h
    have i0 : i = 0 := by
      rcases Nat.eq_zero_or_pos i with z | z
      · exact z
      · exact absurd rfl (h4 0 1 (by omega) (by omega) z)
    subst i0
    have j1 : j = 1 := by
      rcases Nat.lt_or_ge 1 j with z | z
      · exact absurd rfl (h5 1 (by omega) z)
      · omega
    subst j1
    rfl
theorem rep_flat {α : Type} (n : Nat) (x : α) : (List.replicate n [x]).flatten = List.replicate n x := by
  induction n with
  | zero => rfl
  | succ n ih => rw [List.replicate_succ, List.replicate_succ, List.flatten_cons, ih]; rfl
theorem lt_no {a b : Nat} (h : b ≤ a) : dCmp rLt zLt (.int (a : Int)) (.int (b : Int)) = some (.d (.bool false)) := by
  rw [dCmp_int]
  simp [rLt]; omega
theorem gt_no {a b : Nat} (h : a ≤ b) : dCmp rGt zGt (.int (a : Int)) (.int (b : Int)) = some (.d (.bool false)) := by
  rw [dCmp_int]
  simp [rGt]; omega
theorem one_turn (ns : List Int) (x : PyData) (n : Nat) (hn : n + 200 ≤ big) : ∃ n', l_law_1 [Sc ns, .town, .d (.tuple (allT.map Th.d)), .d x, .no, .no, .no] n = some (.nx [Sc ns, .town, .d (.tuple (allT.map Th.d)), .no, .no, .no, .no] n') ∧ n ≤ n' ∧ n' ≤ n + 200 := by
  obtain ⟨_, n1, e1, l1, l1', r, hr, rl, rfl⟩ := row2_ok ns n 4 (by decide) (by omega)
  have e1 : m__law_row_v2 [Sc ns, .town, .d (.int 4)] n = some (.d (rowD r), n1) := e1
  obtain ⟨n2, e2, l2, l2'⟩ := form_holds_ok ns r hr (by omega) n1 (by omega)
  obtain ⟨_, n3, e3, l3, l3', u, hu, ul, rfl⟩ := row2_ok ns n2 1 (by decide) (by omega)
  have e3 : m__law_row_v2 [Sc ns, .town, .d (.int 1)] n2 = some (.d (rowD u), n3) := e3
  have hru : Rw.ok (r ++ u) := fun k hk => (List.mem_append.mp hk).elim (hr k) (hu k)
  have hrl : (r ++ u).length ≤ 1000000 := by rw [List.length_append]; omega
  have ea : dAdd (rowD r) (rowD u) = some (.d (rowD (r ++ u))) := by
    show dAdd (.tuple (r.map Ky.d)) (.tuple (u.map Ky.d)) = _
    rw [dAdd_tup _ _ (le_big (by simp; omega))]
    show some (W.d (.tuple (r.map Ky.d ++ u.map Ky.d))) = some (W.d (.tuple ((r ++ u).map Ky.d)))
    rw [List.map_append]
  have c1 := classes_ok r hr (by omega) n3
  have c2 := classes_ok (r ++ u) hru hrl n3
  have t1 := ties_ok r hr (by omega) n3
  have t2 := ties_ok (r ++ u) hru hrl n3
  have w1 := is_whole_order_ok r hr (by omega) n3
  have f1 := form_ok r hr (by omega) n3
  have f2 := form_ok (r ++ u) hru hrl n3
  have q1 := lt_no (cl_app r u)
  have q2 := gt_no (tie_app r u)
  refine ⟨n3, ?_, by omega, by omega⟩
  unfold l_law_1
  generalize (allT.map Th.d) = TT at *
  by_cases c : cl r = 216
  · have fa := frm_app u c
    rw [fa] at f2
    have q3 := ne_ti (frm r)
    rw [decide_eq_true c] at w1
    clear c fa
    generalize cl r = A at *
    generalize cl (r ++ u) = B at *
    generalize tieR r = TA' at *
    generalize tieR (r ++ u) = TB at *
    simp -implicitDefEqProofs only [eVar_ap, dVar_ap, eC_ap, dOf_ap, eFrz_ap, eBin_ap, bTest_ap, bTru_ap, bAnd_ap, bOr_ap, bNot_ap, eIf_ap, eB_ap, eAnd_ap, eOr_ap, aNil_ap, aCons_ap, sNil_ap, sCons_ap, eTup_ap, eLst_ap, eCall_ap, eApp_ap, oNone_ap, oSome_ap, eSl_ap, sNil'_ap, sSeq_ap, sBrk_ap, sRet_ap, sRetN_ap, sRetO_ap, sDrop_ap, sIf_ap, sSet_ap, sApp_ap, sTown_ap, sExt_ap, sIns_ap, sSetIx_ap, sAsg_ap, sPar_ap, iOf_ap, iVal_ap, iRng1_ap, iRng2_ap, sFor_ap, eComp_ap, bYes_ap, frzAt_ap, eUn_ap, eNotD_ap, eOrD_ap, eChain_ap, eListRg1_ap, eIsa_ap, eMt_ap, iEnumV_ap, iEnumF_ap, iZipV_ap, iZipF_ap, eTLen_ap, iRng3D_ap, sEnd_ap, eSs_ap, sPar3_ap, xPop_ap, xTup1_ap, xCat_ap, sSetX_ap, sAppX_ap, sParO_ap, sForEI_ap, sForK_ap, eRep_ap, eDicK_ap, eDicT_ap, sPut_ap, eAlt_ap, sTry_ap, eGetD_ap, eLockI_ap, iKeyF_ap, sSetDef_ap, eTupVals_ap, sNst_ap, frzNAt_ap, sAppN_ap, sStN_ap, eListRg2_ap, eLam_ap, eCallP_ap, runB_ap, gOne_ap, gMany_ap, dI_ap, yesC_ap, dCmp_int, setD, kill_nx, kill_rt, kill_bk, Option.bind_some, Option.map_some, Option.bind_none, Option.map_none, List.getElem?_cons_zero, List.getElem?_cons_succ, List.set_cons_zero, List.set_cons_succ, List.cons_append, List.nil_append, List.append_nil, List.replicate, List.length_cons, List.length_nil, Nat.reduceAdd, Nat.reduceSub, Nat.zero_add, wdat_no, wdat_d, wdat_town, wdat_ol, wdat_od, wfrz_no, wfrz_d, wfrz_town, wfrz_ol, wfrz_od, wval_no, wval_d, wval_town, wval_ol, wval_od, warg_no, warg_d, warg_town, warg_ol, warg_od, vals, gLen, gAbs, gMax2, gMin2, gInt, gTup, gList, wipeW, if_true, if_false, Bool.false_eq_true, Bool.not_true, Bool.not_false, reduceCtorEq, e1, e2, e3, ea, c1, c2, q1, t1, t2, q2, w1, f1, f2, q3, dTru_b]
  · rw [decide_eq_false c] at w1
    clear c
    generalize cl r = A at *
    generalize cl (r ++ u) = B at *
    generalize tieR r = TA' at *
    generalize tieR (r ++ u) = TB at *
    simp -implicitDefEqProofs only [eVar_ap, dVar_ap, eC_ap, dOf_ap, eFrz_ap, eBin_ap, bTest_ap, bTru_ap, bAnd_ap, bOr_ap, bNot_ap, eIf_ap, eB_ap, eAnd_ap, eOr_ap, aNil_ap, aCons_ap, sNil_ap, sCons_ap, eTup_ap, eLst_ap, eCall_ap, eApp_ap, oNone_ap, oSome_ap, eSl_ap, sNil'_ap, sSeq_ap, sBrk_ap, sRet_ap, sRetN_ap, sRetO_ap, sDrop_ap, sIf_ap, sSet_ap, sApp_ap, sTown_ap, sExt_ap, sIns_ap, sSetIx_ap, sAsg_ap, sPar_ap, iOf_ap, iVal_ap, iRng1_ap, iRng2_ap, sFor_ap, eComp_ap, bYes_ap, frzAt_ap, eUn_ap, eNotD_ap, eOrD_ap, eChain_ap, eListRg1_ap, eIsa_ap, eMt_ap, iEnumV_ap, iEnumF_ap, iZipV_ap, iZipF_ap, eTLen_ap, iRng3D_ap, sEnd_ap, eSs_ap, sPar3_ap, xPop_ap, xTup1_ap, xCat_ap, sSetX_ap, sAppX_ap, sParO_ap, sForEI_ap, sForK_ap, eRep_ap, eDicK_ap, eDicT_ap, sPut_ap, eAlt_ap, sTry_ap, eGetD_ap, eLockI_ap, iKeyF_ap, sSetDef_ap, eTupVals_ap, sNst_ap, frzNAt_ap, sAppN_ap, sStN_ap, eListRg2_ap, eLam_ap, eCallP_ap, runB_ap, gOne_ap, gMany_ap, dI_ap, yesC_ap, dCmp_int, setD, kill_nx, kill_rt, kill_bk, Option.bind_some, Option.map_some, Option.bind_none, Option.map_none, List.getElem?_cons_zero, List.getElem?_cons_succ, List.set_cons_zero, List.set_cons_succ, List.cons_append, List.nil_append, List.append_nil, List.replicate, List.length_cons, List.length_nil, Nat.reduceAdd, Nat.reduceSub, Nat.zero_add, wdat_no, wdat_d, wdat_town, wdat_ol, wdat_od, wfrz_no, wfrz_d, wfrz_town, wfrz_ol, wfrz_od, wval_no, wval_d, wval_town, wval_ol, wval_od, warg_no, warg_d, warg_town, warg_ol, warg_od, vals, gLen, gAbs, gMax2, gMin2, gInt, gTup, gList, wipeW, if_true, if_false, Bool.false_eq_true, Bool.not_true, Bool.not_false, reduceCtorEq, e1, e2, e3, ea, c1, c2, q1, t1, t2, q2, w1, dTru_b]
theorem law_true (ns : List Int) (hns : ns.length ≤ 63) : ∃ n', b_law (.d (.list (ns.map .int)) :: .town :: List.replicate 5 .no) 0 = some (.rt (.d (.bool true)) n') := by
  have hr3 : rng1 (.int 3) = some (rangeD 0 3) := rng1_ok (by decide) (by decide)
  obtain ⟨m, e, _⟩ := loop_law (g := gOne 3) (body := l_law_1) (ρ := [Sc ns, .town, .d (.tuple (allT.map Th.d)), .no, .no, .no, .no]) 200 (fun x n hn => by
    obtain ⟨n', h1, h2, h3⟩ := one_turn ns x n hn
    exact ⟨_, n', rfl, h1, h2, h3⟩) (rangeD 0 3) 0 (by rw [rangeD_len]; unfold big; omega)
  have a1 := all_things_ok 0
  refine ⟨m, ?_⟩
  unfold b_law
  refine (sSeq_nx (ρ' := [Sc ns, .town, .d (.tuple (allT.map Th.d)), .no, .no, .no, .no]) (n' := 0) (by
    generalize (allT.map Th.d) = TT at *
    simp -implicitDefEqProofs only [eVar_ap, dVar_ap, eC_ap, dOf_ap, eFrz_ap, eBin_ap, bTest_ap, bTru_ap, bAnd_ap, bOr_ap, bNot_ap, eIf_ap, eB_ap, eAnd_ap, eOr_ap, aNil_ap, aCons_ap, sNil_ap, sCons_ap, eTup_ap, eLst_ap, eCall_ap, eApp_ap, oNone_ap, oSome_ap, eSl_ap, sNil'_ap, sSeq_ap, sBrk_ap, sRet_ap, sRetN_ap, sRetO_ap, sDrop_ap, sIf_ap, sSet_ap, sApp_ap, sTown_ap, sExt_ap, sIns_ap, sSetIx_ap, sAsg_ap, sPar_ap, iOf_ap, iVal_ap, iRng1_ap, iRng2_ap, sFor_ap, eComp_ap, bYes_ap, frzAt_ap, eUn_ap, eNotD_ap, eOrD_ap, eChain_ap, eListRg1_ap, eIsa_ap, eMt_ap, iEnumV_ap, iEnumF_ap, iZipV_ap, iZipF_ap, eTLen_ap, iRng3D_ap, sEnd_ap, eSs_ap, sPar3_ap, xPop_ap, xTup1_ap, xCat_ap, sSetX_ap, sAppX_ap, sParO_ap, sForEI_ap, sForK_ap, eRep_ap, eDicK_ap, eDicT_ap, sPut_ap, eAlt_ap, sTry_ap, eGetD_ap, eLockI_ap, iKeyF_ap, sSetDef_ap, eTupVals_ap, sNst_ap, frzNAt_ap, sAppN_ap, sStN_ap, eListRg2_ap, eLam_ap, eCallP_ap, runB_ap, gOne_ap, gMany_ap, dI_ap, yesC_ap, dCmp_int, setD, kill_nx, kill_rt, kill_bk, Option.bind_some, Option.map_some, Option.bind_none, Option.map_none, List.getElem?_cons_zero, List.getElem?_cons_succ, List.set_cons_zero, List.set_cons_succ, List.cons_append, List.nil_append, List.append_nil, List.replicate, List.length_cons, List.length_nil, Nat.reduceAdd, Nat.reduceSub, Nat.zero_add, wdat_no, wdat_d, wdat_town, wdat_ol, wdat_od, wfrz_no, wfrz_d, wfrz_town, wfrz_ol, wfrz_od, wval_no, wval_d, wval_town, wval_ol, wval_od, warg_no, warg_d, warg_town, warg_ol, warg_od, vals, gLen, gAbs, gMax2, gMin2, gInt, gTup, gList, wipeW, if_true, if_false, Bool.false_eq_true, Bool.not_true, Bool.not_false, reduceCtorEq, a1])).trans ?_
  refine (sSeq_nx (ρ' := [.no, .no, .d (.tuple (allT.map Th.d)), .no, .no, .no, .no]) (n' := m) (by
    generalize (allT.map Th.d) = TT at *
    generalize rangeD 0 3 = R3 at *
    simp -implicitDefEqProofs only [eVar_ap, dVar_ap, eC_ap, dOf_ap, eFrz_ap, eBin_ap, bTest_ap, bTru_ap, bAnd_ap, bOr_ap, bNot_ap, eIf_ap, eB_ap, eAnd_ap, eOr_ap, aNil_ap, aCons_ap, sNil_ap, sCons_ap, eTup_ap, eLst_ap, eCall_ap, eApp_ap, oNone_ap, oSome_ap, eSl_ap, sNil'_ap, sSeq_ap, sBrk_ap, sRet_ap, sRetN_ap, sRetO_ap, sDrop_ap, sIf_ap, sSet_ap, sApp_ap, sTown_ap, sExt_ap, sIns_ap, sSetIx_ap, sAsg_ap, sPar_ap, iOf_ap, iVal_ap, iRng1_ap, iRng2_ap, sFor_ap, eComp_ap, bYes_ap, frzAt_ap, eUn_ap, eNotD_ap, eOrD_ap, eChain_ap, eListRg1_ap, eIsa_ap, eMt_ap, iEnumV_ap, iEnumF_ap, iZipV_ap, iZipF_ap, eTLen_ap, iRng3D_ap, sEnd_ap, eSs_ap, sPar3_ap, xPop_ap, xTup1_ap, xCat_ap, sSetX_ap, sAppX_ap, sParO_ap, sForEI_ap, sForK_ap, eRep_ap, eDicK_ap, eDicT_ap, sPut_ap, eAlt_ap, sTry_ap, eGetD_ap, eLockI_ap, iKeyF_ap, sSetDef_ap, eTupVals_ap, sNst_ap, frzNAt_ap, sAppN_ap, sStN_ap, eListRg2_ap, eLam_ap, eCallP_ap, runB_ap, gOne_ap, gMany_ap, dI_ap, yesC_ap, dCmp_int, setD, kill_nx, kill_rt, kill_bk, Option.bind_some, Option.map_some, Option.bind_none, Option.map_none, List.getElem?_cons_zero, List.getElem?_cons_succ, List.set_cons_zero, List.set_cons_succ, List.cons_append, List.nil_append, List.append_nil, List.replicate, List.length_cons, List.length_nil, Nat.reduceAdd, Nat.reduceSub, Nat.zero_add, wdat_no, wdat_d, wdat_town, wdat_ol, wdat_od, wfrz_no, wfrz_d, wfrz_town, wfrz_ol, wfrz_od, wval_no, wval_d, wval_town, wval_ol, wval_od, warg_no, warg_d, warg_town, warg_ol, warg_od, vals, gLen, gAbs, gMax2, gMin2, gInt, gTup, gList, wipeW, if_true, if_false, Bool.false_eq_true, Bool.not_true, Bool.not_false, reduceCtorEq, hr3, e])).trans ?_
  refine (sSeq_nx (ρ' := [.no, .no, .d (.tuple (allT.map Th.d)), .no, .no, .no, .d (rowD whole3)]) (n' := m) (by
    generalize (allT.map Th.d) = TT at *
    rw [whole3_d]
    simp -implicitDefEqProofs only [eVar_ap, dVar_ap, eC_ap, dOf_ap, eFrz_ap, eBin_ap, bTest_ap, bTru_ap, bAnd_ap, bOr_ap, bNot_ap, eIf_ap, eB_ap, eAnd_ap, eOr_ap, aNil_ap, aCons_ap, sNil_ap, sCons_ap, eTup_ap, eLst_ap, eCall_ap, eApp_ap, oNone_ap, oSome_ap, eSl_ap, sNil'_ap, sSeq_ap, sBrk_ap, sRet_ap, sRetN_ap, sRetO_ap, sDrop_ap, sIf_ap, sSet_ap, sApp_ap, sTown_ap, sExt_ap, sIns_ap, sSetIx_ap, sAsg_ap, sPar_ap, iOf_ap, iVal_ap, iRng1_ap, iRng2_ap, sFor_ap, eComp_ap, bYes_ap, frzAt_ap, eUn_ap, eNotD_ap, eOrD_ap, eChain_ap, eListRg1_ap, eIsa_ap, eMt_ap, iEnumV_ap, iEnumF_ap, iZipV_ap, iZipF_ap, eTLen_ap, iRng3D_ap, sEnd_ap, eSs_ap, sPar3_ap, xPop_ap, xTup1_ap, xCat_ap, sSetX_ap, sAppX_ap, sParO_ap, sForEI_ap, sForK_ap, eRep_ap, eDicK_ap, eDicT_ap, sPut_ap, eAlt_ap, sTry_ap, eGetD_ap, eLockI_ap, iKeyF_ap, sSetDef_ap, eTupVals_ap, sNst_ap, frzNAt_ap, sAppN_ap, sStN_ap, eListRg2_ap, eLam_ap, eCallP_ap, runB_ap, gOne_ap, gMany_ap, dI_ap, yesC_ap, dCmp_int, setD, kill_nx, kill_rt, kill_bk, Option.bind_some, Option.map_some, Option.bind_none, Option.map_none, List.getElem?_cons_zero, List.getElem?_cons_succ, List.set_cons_zero, List.set_cons_succ, List.cons_append, List.nil_append, List.append_nil, List.replicate, List.length_cons, List.length_nil, Nat.reduceAdd, Nat.reduceSub, Nat.zero_add, wdat_no, wdat_d, wdat_town, wdat_ol, wdat_od, wfrz_no, wfrz_d, wfrz_town, wfrz_ol, wfrz_od, wval_no, wval_d, wval_town, wval_ol, wval_od, warg_no, warg_d, warg_town, warg_ol, warg_od, vals, gLen, gAbs, gMax2, gMin2, gInt, gTup, gList, wipeW, if_true, if_false, Bool.false_eq_true, Bool.not_true, Bool.not_false, reduceCtorEq])).trans ?_
  have f1 := form_ok whole3 whole3_ok (by decide) m
  have t1 := tie_ok whole3 whole3_ok (by decide) m
  have w1 := is_whole_order_ok whole3 whole3_ok (by decide) m
  rw [decide_eq_true whole3_cl] at w1
  rw [(tieP_none whole3).mpr whole3_cl] at t1
  have t1 : m_tie [.d (rowD whole3)] m = some (.d .none, m) := t1
  have r216 : ti (frm whole3) = .tuple (rangeD 0 216) := by
    rw [whole3_frm]
    show PyData.tuple _ = PyData.tuple _
    have e : rangeD 0 216 = ((List.range 216).map fun k : Nat => (k : Int)).map .int := by
      unfold rangeD
      rw [List.map_map]
      refine List.map_congr_left fun i _ => ?_
      show PyData.int (0 + (i : Int)) = .int (i : Int)
      rw [Int.zero_add]
    rw [e]
  have q1 := ne_ti (frm whole3)
  rw [r216] at q1 f1
  have nn : dNotN .none .none = some (.d (.bool false)) := rfl
  refine (sSeq_nx (ρ' := [.no, .no, .d (.tuple (allT.map Th.d)), .no, .no, .no, .no]) (n' := m) (by
    generalize (allT.map Th.d) = TT at *
    generalize hW : rowD whole3 = WD at *
    have g1 : (0 ≤ (216 : Int) ∧ (216 : Int) ≤ ((big : Nat) : Int)) = True := eq_true ⟨by omega, by unfold big; omega⟩
    have tn : ((216 : Int)).toNat = 216 := rfl
    generalize hR : rangeD 0 216 = R at *
    simp -implicitDefEqProofs only [eVar_ap, dVar_ap, eC_ap, dOf_ap, eFrz_ap, eBin_ap, bTest_ap, bTru_ap, bAnd_ap, bOr_ap, bNot_ap, eIf_ap, eB_ap, eAnd_ap, eOr_ap, aNil_ap, aCons_ap, sNil_ap, sCons_ap, eTup_ap, eLst_ap, eCall_ap, eApp_ap, oNone_ap, oSome_ap, eSl_ap, sNil'_ap, sSeq_ap, sBrk_ap, sRet_ap, sRetN_ap, sRetO_ap, sDrop_ap, sIf_ap, sSet_ap, sApp_ap, sTown_ap, sExt_ap, sIns_ap, sSetIx_ap, sAsg_ap, sPar_ap, iOf_ap, iVal_ap, iRng1_ap, iRng2_ap, sFor_ap, eComp_ap, bYes_ap, frzAt_ap, eUn_ap, eNotD_ap, eOrD_ap, eChain_ap, eListRg1_ap, eIsa_ap, eMt_ap, iEnumV_ap, iEnumF_ap, iZipV_ap, iZipF_ap, eTLen_ap, iRng3D_ap, sEnd_ap, eSs_ap, sPar3_ap, xPop_ap, xTup1_ap, xCat_ap, sSetX_ap, sAppX_ap, sParO_ap, sForEI_ap, sForK_ap, eRep_ap, eDicK_ap, eDicT_ap, sPut_ap, eAlt_ap, sTry_ap, eGetD_ap, eLockI_ap, iKeyF_ap, sSetDef_ap, eTupVals_ap, sNst_ap, frzNAt_ap, sAppN_ap, sStN_ap, eListRg2_ap, eLam_ap, eCallP_ap, runB_ap, gOne_ap, gMany_ap, dI_ap, yesC_ap, dCmp_int, setD, kill_nx, kill_rt, kill_bk, Option.bind_some, Option.map_some, Option.bind_none, Option.map_none, List.getElem?_cons_zero, List.getElem?_cons_succ, List.set_cons_zero, List.set_cons_succ, List.cons_append, List.nil_append, List.append_nil, List.replicate, List.length_cons, List.length_nil, Nat.reduceAdd, Nat.reduceSub, Nat.zero_add, wdat_no, wdat_d, wdat_town, wdat_ol, wdat_od, wfrz_no, wfrz_d, wfrz_town, wfrz_ol, wfrz_od, wval_no, wval_d, wval_town, wval_ol, wval_od, warg_no, warg_d, warg_town, warg_ol, warg_od, vals, gLen, gAbs, gMax2, gMin2, gInt, gTup, gList, wipeW, if_true, if_false, Bool.false_eq_true, Bool.not_true, Bool.not_false, reduceCtorEq, f1, g1, tn, hR, seqOf, gTup, q1, t1, nn, w1, dTru_b])).trans ?_
  have hnil : Rw.ok ([] : Rw) := fun k hk => nomatch hk
  have c2 := classes_ok [] hnil (by decide) m
  have f2 := form_ok [] hnil (by decide) m
  have t2 := tie_ok [] hnil (by decide) m
  rw [nil_tie] at t2
  rw [nil_cl] at c2
  rw [nil_frm] at f2
  have i0' : dIx (.tuple (allT.map Th.d)) (.int 0) = some (.d (thD 0)) := ixAll 0 (by decide)
  have i1' : dIx (.tuple (allT.map Th.d)) (.int 1) = some (.d (thD 1)) := ixAll 1 (by decide)
  have e0 : rowD ([] : Rw) = .tuple [] := rfl
  rw [e0] at c2 f2 t2
  have t2 : m_tie [.d (.tuple [])] m = some (.d (.tuple [thD 0, thD 1]), m) := t2
  have rp : dRepT (.tuple [.int 0]) (.int 216) = some (.d (ti (List.replicate 216 0))) := by
    have hc : [PyData.int 0] ≠ [] ∧ (1 : Int) < 216 ∧ (216 : Int) < 1001 ∧ [PyData.int 0].length < 101 := ⟨by simp, by decide, by decide, by decide⟩
    show (if [PyData.int 0] ≠ [] ∧ (1 : Int) < 216 ∧ (216 : Int) < 1001 ∧ [PyData.int 0].length < 101 then some (W.d (.tuple (List.replicate ((216 : Int)).toNat [PyData.int 0]).flatten)) else none) = _
    rw [if_pos hc]
    have : (List.replicate ((216 : Int)).toNat [PyData.int 0]).flatten = (List.replicate 216 (0 : Int)).map .int := by
      rw [List.map_replicate]
      exact rep_flat 216 _
    rw [this]
  have q2 := dEq_ti (List.replicate 216 0) (List.replicate 216 0)
  rw [decide_eq_true rfl] at q2
  have q3 : dEq (.int ((1 : Nat) : Int)) (.int 1) = some (.d (.bool true)) := by rw [dEq_int]; rfl
  have q4 : dEq (.tuple [thD 0, thD 1]) (.tuple [thD 0, thD 1]) = some (.d (.bool true)) := rfl
  generalize (allT.map Th.d) = TT at *
  generalize ti (List.replicate 216 0) = Z at *
  generalize thD 0 = A at *
  generalize thD 1 = B at *
  simp -implicitDefEqProofs only [eVar_ap, dVar_ap, eC_ap, dOf_ap, eFrz_ap, eBin_ap, bTest_ap, bTru_ap, bAnd_ap, bOr_ap, bNot_ap, eIf_ap, eB_ap, eAnd_ap, eOr_ap, aNil_ap, aCons_ap, sNil_ap, sCons_ap, eTup_ap, eLst_ap, eCall_ap, eApp_ap, oNone_ap, oSome_ap, eSl_ap, sNil'_ap, sSeq_ap, sBrk_ap, sRet_ap, sRetN_ap, sRetO_ap, sDrop_ap, sIf_ap, sSet_ap, sApp_ap, sTown_ap, sExt_ap, sIns_ap, sSetIx_ap, sAsg_ap, sPar_ap, iOf_ap, iVal_ap, iRng1_ap, iRng2_ap, sFor_ap, eComp_ap, bYes_ap, frzAt_ap, eUn_ap, eNotD_ap, eOrD_ap, eChain_ap, eListRg1_ap, eIsa_ap, eMt_ap, iEnumV_ap, iEnumF_ap, iZipV_ap, iZipF_ap, eTLen_ap, iRng3D_ap, sEnd_ap, eSs_ap, sPar3_ap, xPop_ap, xTup1_ap, xCat_ap, sSetX_ap, sAppX_ap, sParO_ap, sForEI_ap, sForK_ap, eRep_ap, eDicK_ap, eDicT_ap, sPut_ap, eAlt_ap, sTry_ap, eGetD_ap, eLockI_ap, iKeyF_ap, sSetDef_ap, eTupVals_ap, sNst_ap, frzNAt_ap, sAppN_ap, sStN_ap, eListRg2_ap, eLam_ap, eCallP_ap, runB_ap, gOne_ap, gMany_ap, dI_ap, yesC_ap, dCmp_int, setD, kill_nx, kill_rt, kill_bk, Option.bind_some, Option.map_some, Option.bind_none, Option.map_none, List.getElem?_cons_zero, List.getElem?_cons_succ, List.set_cons_zero, List.set_cons_succ, List.cons_append, List.nil_append, List.append_nil, List.replicate, List.length_cons, List.length_nil, Nat.reduceAdd, Nat.reduceSub, Nat.zero_add, wdat_no, wdat_d, wdat_town, wdat_ol, wdat_od, wfrz_no, wfrz_d, wfrz_town, wfrz_ol, wfrz_od, wval_no, wval_d, wval_town, wval_ol, wval_od, warg_no, warg_d, warg_town, warg_ol, warg_od, vals, gLen, gAbs, gMax2, gMin2, gInt, gTup, gList, wipeW, if_true, if_false, Bool.false_eq_true, Bool.not_true, Bool.not_false, reduceCtorEq, c2, q3, f2, rp, q2, t2, i0', i1', q4]
end L2.Lv.K29
open PySem PySem.W PyProof.Rows
set_option maxHeartbeats 0 in
theorem PySem.Challenge.cw_keyorders_k29_whole_forms_and_classes_holds : PySem.Challenge.rw_keyorders_k29_whole_forms_and_classes.Holds := by
  w_on; o_law; k_head; (case hw => w_witness2)
  k_fill
  refine LamX.walk_ofTs (l := PySem.Challenge.rw_keyorders_k29_whole_forms_and_classes) (n := 63) (k := 11) (x := "_law_script") (CX := fun _ => L2.CX0) rfl (by decide) rfl ⟨rfl, by decide, by decide⟩ (fun w h Y => PySem.W.km_in_of Y) ?F (fun _ _ _ _ _ h => h)
  case F =>
    intro w mg fa h Y KX G hmg
    refine' L2.Lv.K29.all_mk (lp8 := 78) KX G hmg 63 L2.Lv.K29.law_true ?a0 ?l0 ?c0 ?k0 ?a1 ?l1 ?c1 ?k1 ?a2 ?l2 ?c2 ?k2 ?a3 ?l3 ?c3 ?k3 ?a4 ?l4 ?c4 ?k4 ?a5 ?l5 ?c5 ?k5 ?a6 ?l6 ?c6 ?k6 ?a7 ?l7 ?c7 ?k7 ?a8 ?l8 ?c8 ?k8 ?a9 ?l9 ?c9 ?k9 ?a10 ?l10 ?c10 ?k10 ?a11 ?l11 ?c11 ?k11 ?a12 ?l12 ?c12 ?k12 ?a13 ?l13 ?c13 ?k13 ?a14 ?l14 ?c14 ?k14 ?a15 ?l15 ?c15 ?k15 ?a16 ?l16 ?c16 ?k16 ?a17 ?l17 ?c17 ?k17 ?a18 ?l18 ?c18 ?k18 ?a19 ?l19 ?c19 ?k19 ?z0 ?z1 ?z2 ?z3 ?z4 ?z5 ?z6 ?z7 ?z8 ?z9 ?z10 ?z11 ?z12 ?y0 ?hd8 ?hn8 ?ht8 ?tq ?tu
    (case a0 => k_is); (case l0 => k_is); (case c0 => k_is); (case k0 => k_is); (case a1 => k_is); (case l1 => k_is); (case c1 => k_is); (case k1 => k_is); (case a2 => k_is); (case l2 => k_is); (case c2 => k_is); (case k2 => k_is); (case a3 => k_is); (case l3 => k_is); (case c3 => k_is); (case k3 => k_is); (case a4 => k_is); (case l4 => k_is); (case c4 => k_is); (case k4 => k_is); (case a5 => k_is); (case l5 => k_is); (case c5 => k_is); (case k5 => k_is); (case a6 => k_is); (case l6 => k_is); (case c6 => k_is); (case k6 => k_is); (case a7 => k_is); (case l7 => k_is); (case c7 => k_is); (case k7 => k_is); (case a8 => k_is); (case l8 => k_is); (case c8 => k_is); (case k8 => k_is); (case a9 => k_is); (case l9 => k_is); (case c9 => k_is); (case k9 => k_is); (case a10 => k_is); (case l10 => k_is); (case c10 => k_is); (case k10 => k_is); (case a11 => k_is); (case l11 => k_is); (case c11 => k_is); (case k11 => k_is); (case a12 => k_is); (case l12 => k_is); (case c12 => k_is); (case k12 => k_is); (case a13 => k_is); (case l13 => k_is); (case c13 => k_is); (case k13 => k_is); (case a14 => k_is); (case l14 => k_is); (case c14 => k_is); (case k14 => k_is); (case a15 => k_is); (case l15 => k_is); (case c15 => k_is); (case k15 => k_is); (case a16 => k_is); (case l16 => k_is); (case c16 => k_is); (case k16 => k_is); (case a17 => k_is); (case l17 => k_is); (case c17 => k_is); (case k17 => k_is); (case a18 => k_is); (case l18 => k_is); (case c18 => k_is); (case k18 => k_is); (case a19 => k_is); (case l19 => k_is); (case c19 => k_is); (case k19 => k_is); (case z0 => k_is); (case z1 => k_is); (case z2 => k_is); (case z3 => k_is); (case z4 => k_is); (case z5 => k_is); (case z6 => k_is); (case z7 => k_is); (case z8 => k_is); (case z9 => k_is); (case z10 => k_is); (case z11 => k_is); (case z12 => k_is); (case y0 => k_is); (case hd8 => kernel_rfl); (case hn8 => kernel_rfl); (case ht8 => exact PySem.W.km_tabs_of Y _ (by decide)); (case tq => kernel_rfl); (case tu => decide)

