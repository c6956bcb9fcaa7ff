import PyProof.Rows.All
import Wide.All
import OpenK.AllK
import Wide.FinOn
import HandS.ForMost
import HandS.Words
import HandS.Lambda
import KE.KNestM
import HandS.Flow
import HandS.TupAny
import HandS.Zip
import HandS.More
import HandS.Deep
import HandS.TupLe
import HandS.TupMul
import HandS.Conv
import HandS.IsInst
import HandS.SortInts
import KE.KIndexOf
import KE.DataFind
import KE.SortData
import KE.GoesNew
import HandS.Iter
import HandS.Style
import HandS.SetFor
import KE.DataAny
import HandS.Strs
import KE.DatumOrd
import ObjForm.LawKit
import HandS.TupSets
import HandS.TupLen
import KE.KDictPairs
import KE.DataMinMax
import HandS.ExcOwn
import HandS.TryOnly
import HandS.WordsExc
import KE.KSortAsk
import KE.KTupSum
import HandS.SetBool
import KE.KDictSum
import KE.KDictCopyH
import KE.KDictWalk
import KE.KeyNested
import KE.DataEq
import HandS.CallLocal
import HandS.EndTab
import HandS.TryMany
import PySem.Challenge.RW_keyorders_k26_whole_shelves_and_lists
set_option Elab.async false
set_option linter.all false
set_option maxRecDepth 100000
set_option maxHeartbeats 4000000
namespace L2.Lv
open PySem PySem.Spec PyProof.Rows
/-- a lambda as it stands in the text -/
structure LamT where
  q : Str
  params : Arguments
  body : Expr
  scope : Scope
/-- what a slot holds, by value -/
inductive W where
  | no
  | d (x : PyData)
  | town
  | ol (xs : List PyData)
  | od (kvs : List (PyData × PyData))
  | oll (xss : List (List PyData))
  /-- a lambda of two ints, that tells a bool -/
  | fn (g : Int → Int → Bool)
  /-- an instance of the class Shelf, one's own: whether it is the one handed in; its stand, the stands ahead and behind -/
  | sh (sf : Bool) (now : PyData) (bef lat : List PyData)
  /-- .. looked at -/
  | shR (now : PyData)
abbrev Hz : Hp := fun _ => none
theorem rdz {a : Addr} {u : HO} : ¬ Rd Hz a u := by
  rintro (h | ⟨o, h⟩) <;> cases h
theorem sqLz {K : PySem.W.Frag} {H : Hp} {a : Addr} {xs : List V} (h : SqL K Hz a xs) : SqL K H a xs := by
  rcases h with h | h
  · exact (rdz h).elim
  · exact .inr h
theorem sqTz {K : PySem.W.Frag} {H : Hp} {a : Addr} {xs : List V} (h : SqT K Hz a xs) : SqT K H a xs := by
  rcases h with h | h
  · exact (rdz h).elim
  · exact .inr h
/-- a tuple, as it was made (it has no dict) -/
def TupAt (H : Hp) (a : Addr) (xs : List V) : Prop := ∃ o, H a = some (.frz o (.tup xs)) ∧ o.dict = none
def KTup (K : PySem.W.Frag) (a : Addr) (xs : List V) : Prop := SqT K Hz a xs ∧ ∃ o, K.lookup a = some o ∧ o.cls = .type "tuple" ∧ o.dict = none
theorem TupAt.sq {K : PySem.W.Frag} {H : Hp} {a : Addr} {xs : List V} (h : TupAt H a xs) : SqT K H a xs := by
  obtain ⟨o, h, _⟩ := h
  exact .inl (.inr ⟨o, h⟩)
theorem sqT_of {A : Addr → Prop} {K : PySem.W.Frag} {H : Hp} {a : Addr} {xs : List V} (h : (¬ A a ∧ TupAt H a xs) ∨ KTup K a xs) : SqT K H a xs := h.elim (fun z => z.2.sq) fun z => sqTz z.1
mutual
/-- v reads as the data d, by way of no address of A -/
inductive Dv (A : Addr → Prop) (K : PySem.W.Frag) (H : Hp) : V → PyData → Prop
  | non : Dv A K H .non .none
  | bl (b : Bool) : Dv A K H (.bl b) (.bool b)
  | int (i : Int) : Dv A K H (.int i) (.int i)
  | str (x : Str) : Dv A K H (.str x) (.str x)
  | lst {a : Addr} {xs : List V} {ds : List PyData} : (¬ A a ∧ Rd H a (.lst xs)) ∨ SqL K Hz a xs → DvAll A K H xs ds → Dv A K H (.ref a) (.list ds)
  | tup {a : Addr} {xs : List V} {ds : List PyData} : (¬ A a ∧ TupAt H a xs) ∨ KTup K a xs → DvAll A K H xs ds → Dv A K H (.ref a) (.tuple ds)
inductive DvAll (A : Addr → Prop) (K : PySem.W.Frag) (H : Hp) : List V → List PyData → Prop
  | nil : DvAll A K H [] []
  | cons {v : V} {vs : List V} {d : PyData} {ds : List PyData} : Dv A K H v d → DvAll A K H vs ds → DvAll A K H (v :: vs) (d :: ds)
end
/-- from A, H to A', H': what is read stays -/
def Keep (A A' : Addr → Prop) (H H' : Hp) : Prop := ∀ a o, ¬ A a → H a = some o → ¬ A' a ∧ H' a = some o
theorem Keep.rd {A A' : Addr → Prop} {H H' : Hp} (m : Keep A A' H H') {a : Addr} {u : HO} (n : ¬ A a) (r : Rd H a u) : ¬ A' a ∧ Rd H' a u := by
  rcases r with r | ⟨o, r⟩
  · exact ⟨(m a _ n r).1, .inl (m a _ n r).2⟩
  · exact ⟨(m a _ n r).1, .inr ⟨o, (m a _ n r).2⟩⟩
section
variable {A A' : Addr → Prop} {K : PySem.W.Frag} {H H' : Hp}
mutual
theorem Dv.keep (m : Keep A A' H H') : ∀ (d : PyData) (v : V), Dv A K H v d → Dv A' K H' v d
  | .none, _, h => by cases h; exact .non
  | .bool _, _, h => by cases h; exact .bl _
  | .int _, _, h => by cases h; exact .int _
  | .str _, _, h => by cases h; exact .str _
  | .list ds, _, h => by
    cases h with
    | lst hs ha => exact .lst (hs.imp (fun z => m.rd z.1 z.2) id) (DvAll.keep m ds _ ha)
  | .tuple ds, _, h => by
    cases h with
    | tup hs ha => exact .tup (hs.imp (fun ⟨n, o, r, d⟩ => ⟨(m _ _ n r).1, o, (m _ _ n r).2, d⟩) id) (DvAll.keep m ds _ ha)
  | .dict _, _, h => by cases h
theorem DvAll.keep (m : Keep A A' H H') : ∀ (ds : List PyData) (vs : List V), DvAll A K H vs ds → DvAll A' K H' vs ds
  | [], _, h => by cases h; exact .nil
  | d :: ds, _, h => by
    cases h with
    | cons h1 h2 => exact .cons (Dv.keep m d _ h1) (DvAll.keep m ds _ h2)
end
theorem Dv.mono (m : Keep A A' H H') {d : PyData} {v : V} (h : Dv A K H v d) : Dv A' K H' v d := Dv.keep m d v h
theorem DvAll.mono (m : Keep A A' H H') {ds : List PyData} {vs : List V} (h : DvAll A K H vs ds) : DvAll A' K H' vs ds := DvAll.keep m ds vs h
mutual
theorem Dv.dpK : ∀ (d : PyData) (v : V), Dv A K H v d → Dp K H v d
  | .none, _, h => by cases h; exact .non
  | .bool _, _, h => by cases h; exact .bl _
  | .int _, _, h => by cases h; exact .int _
  | .str _, _, h => by cases h; exact .str _
  | .list ds, _, h => by
    cases h with
    | lst hs ha => exact .lst (hs.elim (fun z => .inl z.2) sqLz) (DvAll.dpK ds _ ha)
  | .tuple ds, _, h => by
    cases h with
    | tup hs ha => exact .tup (sqT_of hs) (DvAll.dpK ds _ ha)
  | .dict _, _, h => by cases h
theorem DvAll.dpK : ∀ (ds : List PyData) (vs : List V), DvAll A K H vs ds → DpAll K H vs ds
  | [], _, h => by cases h; exact .nil
  | d :: ds, _, h => by
    cases h with
    | cons h1 h2 => exact .cons (Dv.dpK d _ h1) (DvAll.dpK ds _ h2)
end
theorem Dv.dp {d : PyData} {v : V} (h : Dv A K H v d) : Dp K H v d := Dv.dpK d v h
theorem DvAll.dp {d : List PyData} {v : List V} (h : DvAll A K H v d) : DpAll K H v d := DvAll.dpK d v h
theorem DvAll.length : ∀ {vs : List V} {ds : List PyData}, DvAll A K H vs ds → vs.length = ds.length
  | _, _, .nil => rfl
  | _, _, .cons _ t => congrArg (· + 1) (DvAll.length t)
theorem DvAll.append : ∀ {vs us : List V} {ds es : List PyData}, DvAll A K H vs ds → DvAll A K H us es → DvAll A K H (vs ++ us) (ds ++ es)
  | _, _, _, _, .nil, s => s
  | _, _, _, _, .cons r t, s => .cons r (DvAll.append t s)
theorem DvAll.take : ∀ (n : Nat) {vs : List V} {ds : List PyData}, DvAll A K H vs ds → DvAll A K H (vs.take n) (ds.take n)
  | 0, _, _, _ => by simpa using DvAll.nil
  | _ + 1, _, _, .nil => .nil
  | n + 1, _, _, .cons r t => .cons r (DvAll.take n t)
theorem DvAll.drop : ∀ (n : Nat) {vs : List V} {ds : List PyData}, DvAll A K H vs ds → DvAll A K H (vs.drop n) (ds.drop n)
  | 0, _, _, h => h
  | _ + 1, _, _, .nil => .nil
  | n + 1, _, _, .cons _ t => DvAll.drop n t
theorem DvAll.get : ∀ {vs : List V} {ds : List PyData} {i : Nat} {d : PyData}, DvAll A K H vs ds → ds[i]? = some d → ∃ v, vs[i]? = some v ∧ Dv A K H v d
  | _, _, _, _, .nil, e => by simp at e
  | _, _, 0, _, .cons r _, e => by simp at e; subst e; exact ⟨_, rfl, r⟩
  | _, _, i + 1, _, .cons _ t, e => by
    obtain ⟨v, h1, h2⟩ := DvAll.get (i := i) t (by simpa using e)
    exact ⟨v, by simpa using h1, h2⟩
theorem DvAll.set : ∀ {vs : List V} {ds : List PyData} {v : V} {d : PyData} (i : Nat), DvAll A K H vs ds → Dv A K H v d → DvAll A K H (vs.set i v) (ds.set i d)
  | _, _, _, _, _, .nil, _ => .nil
  | _, _, _, _, 0, .cons _ t, r => .cons r t
  | _, _, _, _, i + 1, .cons r t, q => .cons r (DvAll.set i t q)
theorem DvAll.eraseIdx : ∀ {vs : List V} {ds : List PyData} (i : Nat), DvAll A K H vs ds → DvAll A K H (vs.eraseIdx i) (ds.eraseIdx i)
  | _, _, _, .nil => .nil
  | _, _, 0, .cons _ t => t
  | _, _, i + 1, .cons r t => .cons r (DvAll.eraseIdx i t)
end
/-! ### dicts -/
inductive KeyD : Key → PyData → Prop
  | int (i : Int) : KeyD (.inl i) (.int i)
  | str (x : Str) : KeyD (.inr x) (.str x)
/-- the mark of a dict whose keys are tuples of ints -/
def markT : PyData × PyData := (.none, .none)
/-- the mark of a dict that is gone through: it is read alone -/
def markF : PyData × PyData := (.none, .bool true)
def DTat (h : Heap) (a : Addr) (xs : List (List Int × Addr × Value)) : Prop :=
  xs.length ≤ sizeLine ∧ (a == sysModules) = false ∧ ∃ (P : Program) (w : World) (o : Obj) (es : Array DictEntry) (ep : Nat), h.get? a = some o ∧ o.ExactDict ∧ o.data = .dict es ep ∧ es.toList = xs.map (entryOfKey (tupleKind (intKind P w))) ∧ (xs.map (·.1)).Nodup
def DO (a : Addr) (xs : List (List Int × Addr × Value)) : HO := .ext fun h => DTat h a xs
def DRel (A : Addr → Prop) (K : PySem.W.Frag) (H : Hp) (q : List Int × Addr × Value) (kv : PyData × PyData) : Prop :=
  kv.1 = .tuple (q.1.map .int) ∧ ((¬ A q.2.1 ∧ TupAt H q.2.1 (q.1.map V.int)) ∨ KTup K q.2.1 (q.1.map V.int)) ∧ ∃ v, RelV v q.2.2 ∧ Dv A K H v kv.2
def DctAt (A : Addr → Prop) (K : PySem.W.Frag) (H : Hp) (a : Addr) (kvs : List (PyData × PyData)) : Prop :=
  (∃ ks, H a = some (.dK ks) ∧ Paired (fun p q => KeyD p.1 q.1 ∧ Dv A K H p.2 q.2) ks kvs) ∨
  (∃ xs rest, kvs = markT :: rest ∧ H a = some (DO a xs) ∧ Paired (DRel A K H) xs rest) ∨
  (∃ ks rest o, kvs = markF :: rest ∧ H a = some (.frz o (.dK ks)) ∧ Paired (fun p q => KeyD p.1 q.1 ∧ Dv A K H p.2 q.2) ks rest)
theorem Paired.impl {α β : Type} {F G : α → β → Prop} (f : ∀ a b, F a b → G a b) : ∀ {l : List α} {m : List β}, Paired F l m → Paired G l m
  | _, _, .nil => .nil
  | _, _, .cons r t => .cons (f _ _ r) (Paired.impl f t)
theorem DRel.mono {A A' : Addr → Prop} {K : PySem.W.Frag} {H H' : Hp} (m : Keep A A' H H') {q : List Int × Addr × Value} {kv : PyData × PyData} (h : DRel A K H q kv) : DRel A' K H' q kv := by
  obtain ⟨h1, h2, v, h3, h4⟩ := h
  exact ⟨h1, h2.imp (fun ⟨n, o, r, d⟩ => ⟨(m _ _ n r).1, o, (m _ _ n r).2, d⟩) id, v, h3, h4.mono m⟩
theorem DctAt.mono {A A' : Addr → Prop} {K : PySem.W.Frag} {H H' : Hp} {a : Addr} {kvs : List (PyData × PyData)} (m : Keep A A' H H') (k : ∀ o, H a = some o → H' a = some o) (h : DctAt A K H a kvs) : DctAt A' K H' a kvs := by
  rcases h with ⟨ks, e, p⟩ | ⟨xs, rest, e0, e, p⟩ | ⟨ks, rest, o, e0, e, p⟩
  · exact .inl ⟨ks, k _ e, Paired.impl (fun x y z => ⟨z.1, z.2.mono m⟩) p⟩
  · exact .inr (.inl ⟨xs, rest, e0, k _ e, Paired.impl (fun x y z => z.mono m) p⟩)
  · exact .inr (.inr ⟨ks, rest, o, e0, k _ e, Paired.impl (fun x y z => ⟨z.1, z.2.mono m⟩) p⟩)
theorem DctAt.there {A : Addr → Prop} {K : PySem.W.Frag} {H : Hp} {a : Addr} {kvs : List (PyData × PyData)} (h : DctAt A K H a kvs) : H a ≠ none := by
  rcases h with ⟨ks, e, _⟩ | ⟨xs, rest, _, e, _⟩ | ⟨ks, rest, o, _, e, _⟩ <;> (rw [e]; simp)
/-! ### lambdas, and the tables of code objects of the defs that make them -/
def lamNames : List Str := ["tie", "parting", "unkept"]
def lamTab : Addr × Obj → Option (Addr × Str)
  | (_, ⟨.type "code", _, .fields vs, _⟩) => match (vs[1]? : Option Value), (vs[11]? : Option Value) with
    | some (.str q _), some (.ref P) => if lamNames.contains q then some (P, q ++ ".<locals>." ++ "<lambda>") else none
    | _, _ => none
  | _ => none
def tabsOf (K : PySem.W.Frag) : List (Addr × Str) := K.filterMap lamTab
def NT (o : HO) : Prop := ∀ ps, o ≠ .tbl ps
/-- the table at P, whose code objects bear the name q and are not in G -/
def TabN (G : Addr → Prop) (H : Hp) (P : Addr) (q : Str) : Prop :=
  ∃ ps : Array Value, H P = some (.tbl ps) ∧ TriplesOk ps.toList ∧ ∀ (pos : Pos) (cv : Value), codeAmong pos ps.toList = some cv → ∃ c, cv = .ref c ∧ ¬ G c ∧ H c = some (LamX.CodeO c q)
theorem TabN.go {G G' : Addr → Prop} {H H' : Hp} {P : Addr} {q : Str} (t : TabN G H P q) (p : ∀ ps, H P = some (.tbl ps) → H' P = some (.tbl ps)) (k : ∀ c, ¬ G c → H c = some (LamX.CodeO c q) → ¬ G' c ∧ H' c = some (LamX.CodeO c q)) : TabN G' H' P q := by
  obtain ⟨ps, h1, h2, h3⟩ := t
  refine ⟨ps, p ps h1, h2, fun pos cv e => ?_⟩
  obtain ⟨c, e1, e2, e3⟩ := h3 pos cv e
  exact ⟨c, e1, k c e2 e3⟩
/-- the function object of the lambda L at f, its code object at c -/
def LamO (L : LamT) (f c : Addr) : HO := .ext fun h => ∃ pm ctv, h.get? f = some (PySem.W.kla_obj "<lambda>" L.q L.params L.body L.scope [] pm c ctv)
/-! ### the state by value -/
/-- T: where the town stands; P: what others own; H0: the heap at the entry; B: the tables, and what their code objects are called -/
structure Cn where
  T : Option Addr
  P : Addr → Prop
  H0 : Hp
  B : Addr → Str → Prop
  bp : ∀ a q, B a q → P a
  bf : ∀ a q q', B a q → B a q' → q = q'
  /-- the shelf that was handed in -/
  S : Option Addr
/-- what an expression may change: the town, the tables -/
def TX (C : Cn) : Addr → Prop := fun a => C.T = some a ∨ ∃ q, C.B a q
abbrev Ow := Nat → Option Addr
def Av (C : Cn) (O : Ow) : Addr → Prop := fun a => C.P a ∨ C.T = some a ∨ ∃ i, O i = some a
abbrev Ow0 : Ow := fun _ => none
def TownAt (C : Cn) (H : Hp) (n : Nat) : Prop := ∀ a, C.T = some a → H a = some (.lst (List.replicate n (.int 0)))
/-- what an expression does to the heap -/
structure Step (C : Cn) (H H' : Hp) : Prop where
  st0 : ∀ a o, H a = some o → C.T ≠ some a → ((∃ q, C.B a q) → NT o) → H' a = some o
  fr : ∀ a, H' a = none → H a = none
  tb : ∀ P q (G : Addr → Prop), C.B P q → (∀ c, G c → H c ≠ none) → TabN G H P q → TabN G H' P q
theorem Step.st {C : Cn} {H H' : Hp} (s : Step C H H') : ∀ a o, H a = some o → ¬ TX C a → H' a = some o := fun a o h n => s.st0 a o h (fun z => n (.inl z)) fun z => absurd (.inr z) n
theorem Step.stN {C : Cn} {H H' : Hp} (s : Step C H H') : ∀ a o, H a = some o → C.T ≠ some a → NT o → H' a = some o := fun a o h n t => s.st0 a o h n fun _ => t
def Grow (H H' : Hp) : Prop := ∀ a o, H a = some o → H' a = some o
theorem Grow.refl {H : Hp} : Grow H H := fun _ _ h => h
theorem Grow.trans {H H1 H2 : Hp} (a : Grow H H1) (b : Grow H1 H2) : Grow H H2 := fun x o h => b x o (a x o h)
theorem Grow.upd {H : Hp} {p : Addr} {o : HO} (h : H p = none) : Grow H (upd H p o) := fun a u e => by rw [upd_ne (ne_of_none e h)]; exact e
theorem Grow.step {C : Cn} {H H' : Hp} (g : Grow H H') : Step C H H' := ⟨fun a o h _ _ => g a o h, (fun a h => by
  cases e : H a with
  | none => rfl
  | some o => rw [g a o e] at h; cases h), fun P q G _ _ t => t.go (fun _ e => g _ _ e) fun c n e => ⟨n, g _ _ e⟩⟩
theorem Grow.town {C : Cn} {H H' : Hp} {n : Nat} (g : Grow H H') (t : TownAt C H n) : TownAt C H' n := fun a e => g _ _ (t a e)
theorem Step.refl {C : Cn} {H : Hp} : Step C H H := Grow.refl.step
theorem Step.trans {C : Cn} {H H1 H2 : Hp} (a : Step C H H1) (b : Step C H1 H2) : Step C H H2 := ⟨fun x o h n t => b.st0 x o (a.st0 x o h n t) n t, fun x h => a.fr x (b.fr x h), fun P q G h e t => b.tb P q G h (fun c z n => e c z (a.fr c n)) (a.tb P q G h e t)⟩
theorem Step.rd {C : Cn} {H H' : Hp} (s : Step C H H') {a : Addr} {u : HO} (n : ¬ TX C a) (r : Rd H a u) : Rd H' a u := by
  rcases r with r | ⟨o, r⟩
  · exact .inl (s.st _ _ r n)
  · exact .inr ⟨o, s.st _ _ r n⟩
theorem Grow.rd {H H' : Hp} (s : Grow H H') {a : Addr} {u : HO} (r : Rd H a u) : Rd H' a u := by
  rcases r with r | ⟨o, r⟩
  · exact .inl (s _ _ r)
  · exact .inr ⟨o, s _ _ r⟩
theorem Rd.there {H : Hp} {a : Addr} {u : HO} (r : Rd H a u) : H a ≠ none := by
  rcases r with r | ⟨o, r⟩ <;> (rw [r]; simp)
theorem Step.keep {C : Cn} {H H' : Hp} {A : Addr → Prop} (s : Step C H H') (t : ∀ a, TX C a → A a) : Keep A A H H' := fun a u n r => ⟨n, s.st a u r (fun e => n (t a e))⟩
theorem Grow.keep {H H' : Hp} {A : Addr → Prop} (s : Grow H H') : Keep A A H H' := fun a u n r => ⟨n, s a u r⟩
theorem Av.t {C : Cn} {O : Ow} : ∀ a, TX C a → Av C O a := fun a e => e.elim (fun e => .inr (.inl e)) fun ⟨q, e⟩ => .inl (C.bp a q e)
/-- the tables as they ought to be -/
def TabG (C : Cn) (O : Ow) (H : Hp) : Prop := ∀ P q, C.B P q → TabN (Av C O) H P q ∧ ∀ G : Addr → Prop, (∀ c, G c → C.H0 c ≠ none) → TabN G C.H0 P q → TabN G H P q
/-- called with two ints it tells g of them -/
def LamSem (L : LamT) (g : Int → Int → Bool) : Prop :=
  ∀ (P : Program) (w : World) (K : PySem.W.Frag) (mg : Str → Option Value) (base : Heap) (A : Around) (outer : List Env) (s : Shared) (C : Cn) (n : Nat) (f c : Addr) (i j : Int) (us : List Value) (Q : VK),
    Room 1 A → Env0 P w K mg base A outer s C.H0 → C.H0 f = some (LamO L f c) → C.H0 c = some (LamX.CodeO c L.q) → Vals [.int i, .int j] us →
    (∀ a, C.P a → C.H0 a ≠ none) → TownAt C C.H0 n → (∀ x ∈ tabsOf K, C.B x.1 x.2) → TabG C Ow0 C.H0 → (∀ H', Step C C.H0 H' → TownAt C H' n → Q (.bl (g i j)) H') →
    codeAny (model P w) A (.call (.ref f) ⟨us, []⟩) (CR CX0 outer P w C.H0 s Q E0) s
/-- v is a lambda that tells g -/
def FnV (A : Addr → Prop) (H : Hp) (v : V) (g : Int → Int → Bool) : Prop :=
  ∃ (L : LamT) (f c : Addr), v = .ref f ∧ ¬ A f ∧ H f = some (LamO L f c) ∧ ¬ A c ∧ H c = some (LamX.CodeO c L.q) ∧ LamSem L g
theorem FnV.mono {A A' : Addr → Prop} {H H' : Hp} {v : V} {g : Int → Int → Bool} (h : FnV A H v g) (k : Keep A A' H H') : FnV A' H' v g := by
  obtain ⟨L, f, c, h1, h2, h3, h4, h5, h6⟩ := h
  exact ⟨L, f, c, h1, (k f _ h2 h3).1, (k f _ h2 h3).2, (k c _ h4 h5).1, (k c _ h4 h5).2, h6⟩
/-- the class of shelves -/
def ShC (K : PySem.W.Frag) (C : Addr) : Prop := PySem.W.nsIn K mainGlobals "Shelf" = some (some (.ref C))
abbrev shF (vn : V) (b l : Addr) : List (Str × V) := [("now", vn), ("before", .ref b), ("later", .ref l)]
/-- v is a shelf that stands at now -/
def ShV (A : Addr → Prop) (K : PySem.W.Frag) (H : Hp) (v : V) (now : PyData) : Prop :=
  ∃ (a C dx b l : Addr) (vn : V), v = .ref a ∧ ¬ A a ∧ ShC K C ∧ H a = some (.ins C dx (shF vn b l)) ∧ Dv A K H vn now
theorem ShV.mono {A A' : Addr → Prop} {K : PySem.W.Frag} {H H' : Hp} {v : V} {now : PyData} (h : ShV A K H v now) (k : Keep A A' H H') : ShV A' K H' v now := by
  obtain ⟨a, C, dx, b, l, vn, h1, h2, h3, h4, h5⟩ := h
  exact ⟨a, C, dx, b, l, vn, h1, (k a _ h2 h4).1, h3, (k a _ h2 h4).2, h5.mono k⟩
/-- a shelf of one's own: hd tells where its parts stand -/
def ShAt (A : Addr → Prop) (K : PySem.W.Frag) (H : Hp) (hd : Nat → Option Addr) (a : Addr) (now : PyData) (bef lat : List PyData) : Prop :=
  ∃ (C dx b l : Addr) (vn : V) (vb vl : List V), ShC K C ∧ hd 0 = some dx ∧ hd 1 = some b ∧ hd 2 = some l ∧ H a = some (.ins C dx (shF vn b l)) ∧ H dx = some (.own a) ∧ H b = some (.lst vb) ∧ H l = some (.lst vl) ∧
    Dv A K H vn now ∧ DvAll A K H vb bef ∧ DvAll A K H vl lat
theorem ShAt.mono {A A' : Addr → Prop} {K : PySem.W.Frag} {H H' : Hp} {hd hd' : Nat → Option Addr} {a : Addr} {now : PyData} {bef lat : List PyData} (h : ShAt A K H hd a now bef lat) (m : Keep A A' H H') (ka : ∀ u, H a = some u → H' a = some u)
    (e : ∀ j, j < 3 → hd' j = hd j) (k : ∀ j c u, j < 3 → hd j = some c → H c = some u → H' c = some u) : ShAt A' K H' hd' a now bef lat := by
  obtain ⟨C, dx, b, l, vn, vb, vl, h0, h1, h2, h3, h4, h5, h6, h7, h8, h9, h10⟩ := h
  exact ⟨C, dx, b, l, vn, vb, vl, h0, (e 0 (by omega)).trans h1, (e 1 (by omega)).trans h2, (e 2 (by omega)).trans h3, ka _ h4, k 0 dx _ (by omega) h1 h5, k 1 b _ (by omega) h2 h6, k 2 l _ (by omega) h3 h7, h8.mono m, h9.mono m, h10.mono m⟩
/-- an expression's value: from the heap H ahead of it to H' -/
def Res (A : Addr → Prop) (T : Option Addr) (K : PySem.W.Frag) (H H' : Hp) (v : V) : W → Prop
  | .no => False
  | .d x => Dv A K H' v x
  | .town => ∃ a, T = some a ∧ v = .ref a
  | .ol xs => ∃ a vs, v = .ref a ∧ H a = none ∧ H' a = some (.lst vs) ∧ DvAll (fun b => A b ∨ b = a) K H' vs xs
  | .od kvs => ∃ a, v = .ref a ∧ H a = none ∧ DctAt (fun b => A b ∨ b = a) K H' a kvs
  | .oll _ => False
  | .fn g => FnV A H' v g
  | .sh _ _ _ _ => False
  | .shR now => ShV A K H' v now
/-- a value that is looked at: it may be a list or a dict of one's own -/
def DvB (A : Addr → Prop) (T : Option Addr) (K : PySem.W.Frag) (H : Hp) (v : V) (x : PyData) : Prop :=
  Dv A K H v x ∨ (∃ a vs ds, v = .ref a ∧ x = .list ds ∧ T ≠ some a ∧ H a = some (.lst vs) ∧ DvAll A K H vs ds) ∨
  (∃ a kvs, v = .ref a ∧ x = .dict kvs ∧ T ≠ some a ∧ DctAt A K H a kvs)
def W.dat : W → Option PyData
  | .d x => some x
  | .ol xs => some (.list xs)
  | .od kvs => some (.dict kvs)
  | _ => none
/-- taken as it is, for ever -/
def W.frz : W → W
  | .ol xs => .d (.list xs)
  | w => w
/-- the lists in a list of one's own lists: hd tells where they stand -/
def NstAt (A : Addr → Prop) (K : PySem.W.Frag) (H : Hp) (hd : Nat → Option Addr) (xss : List (List PyData)) (bs : List Addr) : Prop :=
  bs.length = xss.length ∧ bs.length ≤ 1000 ∧ ∀ j b xs, bs[j]? = some b → xss[j]? = some xs → hd j = some b ∧ ∃ vs, H b = some (.lst vs) ∧ DvAll A K H vs xs
theorem NstAt.mono {A A' : Addr → Prop} {K : PySem.W.Frag} {H H' : Hp} {hd hd' : Nat → Option Addr} {xss : List (List PyData)} {bs : List Addr} (q : NstAt A K H hd xss bs) (m : Keep A A' H H') (e : ∀ j, j < bs.length → hd' j = hd j) (k : ∀ j b u, j < bs.length → hd j = some b → H b = some u → H' b = some u) : NstAt A' K H' hd' xss bs :=
  ⟨q.1, q.2.1, fun j b xs h1 h2 => by
    obtain ⟨h3, vs, h4, h5⟩ := q.2.2 j b xs h1 h2
    have hj := (List.getElem?_eq_some_iff.mp h1).1
    exact ⟨(e j hj).trans h3, vs, k j b _ hj h3 h4, h5.mono m⟩⟩
def SlOk (A : Addr → Prop) (T S : Option Addr) (K : PySem.W.Frag) (H : Hp) (v : Option (Option V)) (o : Option Addr) (hd : Nat → Option Addr) : W → Prop
  | .no => True
  | .d x => ∃ u, v = some (some u) ∧ Dv A K H u x
  | .town => ∃ a, T = some a ∧ v = some (some (.ref a))
  | .ol xs => ∃ a vs, o = some a ∧ v = some (some (.ref a)) ∧ H a = some (.lst vs) ∧ DvAll A K H vs xs
  | .od kvs => ∃ a, o = some a ∧ v = some (some (.ref a)) ∧ DctAt A K H a kvs
  | .oll xss => ∃ a bs, o = some a ∧ v = some (some (.ref a)) ∧ H a = some (.lst (bs.map V.ref)) ∧ NstAt A K H hd xss bs
  | .fn g => ∃ u, v = some (some u) ∧ FnV A H u g
  | .sh sf now bef lat => ∃ a, o = some a ∧ v = some (some (.ref a)) ∧ (sf = true → S = some a) ∧ ShAt A K H hd a now bef lat
  | .shR now => ∃ u, v = some (some u) ∧ ShV A K H u now
/-- where the lists of the list at the slot i stand -/
def hid (O : Ow) (l i : Nat) : Nat → Option Addr := fun j => O (l + 1000 * i + j)
theorem lt_of_get {ρ : List W} {i : Nat} {w : W} (h : ρ[i]? = some w) : i < ρ.length := (List.getElem?_eq_some_iff.mp h).1
structure EnvOk (C : Cn) (O : Ow) (K : PySem.W.Frag) (σ : St) (H : Hp) (ρ : List W) (n : Nat) : Prop where
  len : ρ.length = σ.length
  sl : ∀ i w, ρ[i]? = some w → SlOk (Av C O) C.T C.S K H σ[i]? (O i) (hid O ρ.length i) w
  inj : ∀ i j a, O i = some a → O j = some a → i = j
  own : ∀ i a, O i = some a → ¬ TX C a ∧ C.H0 a = none ∧ H a ≠ none
  town : TownAt C H n
  base : ∀ a o, C.H0 a = some o → ¬ TX C a → H a = some o
  ptr : ∀ a, C.P a → H a ≠ none
  fr : ∀ a, H a = none → C.H0 a = none
  tk : ∀ x ∈ tabsOf K, C.B x.1 x.2
  tb : TabG C O H
section
variable {C : Cn} {O O' : Ow} {K : PySem.W.Frag} {σ : St} {H H' H1 H2 : Hp} {ρ : List W} {n n' : Nat} {A A' : Addr → Prop} {T : Option Addr} {v : V} {w : W} {x : PyData}
theorem EnvOk.av (E : EnvOk C O K σ H ρ n) : ∀ a, Av C O a → H a ≠ none := by
  rintro a (h | h | ⟨i, h⟩)
  · exact E.ptr a h
  · rw [E.town a h]; simp
  · exact (E.own i a h).2.2
theorem EnvOk.ta (E : EnvOk C O K σ H ρ n) : ∀ a, TX C a → H a ≠ none := fun a h => E.av a (Av.t a h)
theorem EnvOk.ntx {a : Addr} {o : HO} (E : EnvOk C O K σ H ρ n) (t : C.T ≠ some a) (h : H a = some o) (nt : NT o) : ¬ TX C a := fun z => z.elim t fun ⟨q, z⟩ => by
  obtain ⟨⟨ps, e1, _⟩, _⟩ := E.tb a q z
  rw [h] at e1
  exact nt ps (Option.some.inj e1)
theorem TabG.step (g : TabG C O H) (S : Step C H H') (av : ∀ a, Av C O a → H a ≠ none) (fr : ∀ a, H a = none → C.H0 a = none) : TabG C O H' := fun P q h =>
  ⟨S.tb P q _ h av (g P q h).1, fun G e t => S.tb P q G h (fun c z y => e c z (fr c y)) ((g P q h).2 G e t)⟩
/-- what is ours may be another; all else stays -/
theorem TabG.to {C' : Cn} (g : TabG C O H) (hB : C'.B = C.B) (hH : C'.H0 = C.H0) (k : ∀ a o, ¬ Av C O a → H a = some o → H' a = some o) (kp : ∀ a q, C.B a q → H' a = H a) (m : ∀ a, Av C' O' a → Av C O a ∨ ∀ q, H' a ≠ some (LamX.CodeO a q)) : TabG C' O' H' := fun P q h => by
  rw [hB] at h
  obtain ⟨⟨ps, h1, h2, h3⟩, h4⟩ := g P q h
  refine ⟨⟨ps, by rw [kp P q h]; exact h1, h2, fun pos cv e => ?_⟩, fun G e t => ?_⟩
  · obtain ⟨c, e1, e2, e3⟩ := h3 pos cv e
    exact ⟨c, e1, fun z => (m c z).elim e2 fun z => z q (k c _ e2 e3), k c _ e2 e3⟩
  · rw [hH] at e t
    obtain ⟨ps', g1, g2, g3⟩ := h4 G e t
    rw [h1] at g1
    cases g1
    refine ⟨ps, by rw [kp P q h]; exact h1, h2, fun pos cv e => ?_⟩
    obtain ⟨c, e1, e2, e3⟩ := h3 pos cv e
    obtain ⟨c', e4, e5, _⟩ := g3 pos cv e
    rw [e1] at e4
    cases e4
    exact ⟨c, e1, e5, k c _ e2 e3⟩
theorem TabG.sub {C' : Cn} (g : TabG C O H) (hB : C'.B = C.B) (hH : C'.H0 = C.H0) (m : ∀ a, Av C' O' a → Av C O a ∨ ∀ q, H a ≠ some (LamX.CodeO a q)) : TabG C' O' H := g.to hB hH (fun _ _ _ e => e) (fun _ _ _ => rfl) m
theorem codeO_lst {c : Addr} {q : Str} {xs : List V} : HO.lst xs ≠ LamX.CodeO c q := fun z => by unfold LamX.CodeO at z; cases z
theorem codeO_dK {c : Addr} {q : Str} {xs : List (Key × V)} : HO.dK xs ≠ LamX.CodeO c q := fun z => by unfold LamX.CodeO at z; cases z
theorem codeO_frz {c : Addr} {q : Str} {o : Obj} {u : HO} : HO.frz o u ≠ LamX.CodeO c q := fun z => by unfold LamX.CodeO at z; cases z
theorem codeO_DO {c : Addr} {q : Str} {xs : List (List Int × Addr × Value)} : DO c xs ≠ LamX.CodeO c q := fun z => by
  unfold LamX.CodeO DO at z
  have z := congrFun (HO.ext.inj z)
  have y : ∃ (h : Heap) (oc : Obj) (vs : Array Value) (t : Tok), h.get? c = some oc ∧ oc.data = .fields vs ∧ vs[1]? = some (.str q t) := ⟨{ objs := Array.replicate (c + 1) { cls := .none, data := .fields #[.none, .str q default] } }, { cls := .none, data := .fields #[.none, .str q default] }, _, _, by simp [Heap.get?], rfl, rfl⟩
  obtain ⟨h, oc, vs, t, e1, e2, e3⟩ := y
  have d : DTat h c xs := (z h).mpr ⟨oc, vs, t, e1, e2, e3⟩
  obtain ⟨_, _, P, w, o, es, ep, k1, _, k2, _⟩ := d
  rw [e1] at k1
  cases k1
  rw [e2] at k2
  cases k2
theorem DctAt.nc {A : Addr → Prop} {K : PySem.W.Frag} {H : Hp} {a : Addr} {kvs : List (PyData × PyData)} (h : DctAt A K H a kvs) : ∀ q, H a ≠ some (LamX.CodeO a q) := fun q e => by
  rcases h with ⟨ks, e1, _⟩ | ⟨xs, rest, _, e1, _⟩ | ⟨ks, rest, o, _, e1, _⟩ <;> rw [e1] at e
  · exact codeO_dK (Option.some.inj e)
  · exact codeO_DO (Option.some.inj e)
  · exact codeO_frz (Option.some.inj e)
theorem DctAt.monoN {A A' : Addr → Prop} {K : PySem.W.Frag} {H H' : Hp} {a : Addr} {kvs : List (PyData × PyData)} (m : Keep A A' H H') (k : ∀ o, H a = some o → NT o → H' a = some o) (h : DctAt A K H a kvs) : DctAt A' K H' a kvs := by
  refine DctAt.mono m (fun o e => k o e ?_) h
  rcases h with ⟨ks, e1, _⟩ | ⟨xs, rest, _, e1, _⟩ | ⟨ks, rest, o, _, e1, _⟩ <;> rw [e1] at e <;> cases e <;> exact fun ps z => nomatch z
theorem EnvOk.step (E : EnvOk C O K σ H ρ n) (S : Step C H H') (t : TownAt C H' n') : EnvOk C O K σ H' ρ n' := by
  have k : Keep (Av C O) (Av C O) H H' := S.keep Av.t
  have nn : ∀ a, H a ≠ none → H' a ≠ none := fun a h e => h (S.fr a e)
  refine ⟨E.len, fun i w hw => ?_, E.inj, fun i a h => ⟨(E.own i a h).1, (E.own i a h).2.1, nn a (E.own i a h).2.2⟩, t, fun a o h hn => S.st a o (E.base a o h hn) hn, fun a h => nn a (E.ptr a h), fun a h => E.fr a (S.fr a h), E.tk, E.tb.step S E.av E.fr⟩
  have q := E.sl i w hw
  cases w with
  | no => trivial
  | d x => obtain ⟨u, h1, h2⟩ := q; exact ⟨u, h1, h2.mono k⟩
  | town => exact q
  | ol xs =>
    obtain ⟨a, vs, h1, h2, h3, h4⟩ := q
    exact ⟨a, vs, h1, h2, S.st _ _ h3 (E.own i a h1).1, h4.mono k⟩
  | od kvs =>
    obtain ⟨a, h1, h2, h3⟩ := q
    exact ⟨a, h1, h2, h3.mono k fun o e => S.st _ _ e (E.own i a h1).1⟩
  | oll xss =>
    obtain ⟨a, bs, h1, h2, h3, h4⟩ := q
    exact ⟨a, bs, h1, h2, S.st _ _ h3 (E.own i a h1).1, h4.mono k (fun _ _ => rfl) fun j b u _ h e => S.st _ _ e (E.own _ b h).1⟩
  | fn g => obtain ⟨u, h1, h2⟩ := q; exact ⟨u, h1, h2.mono k⟩
  | shR now => obtain ⟨u, h1, h2⟩ := q; exact ⟨u, h1, h2.mono k⟩
  | sh sf now bef lat =>
    obtain ⟨a, h1, h2, hs, h3⟩ := q
    exact ⟨a, h1, h2, hs, h3.mono k (fun u e => S.st _ _ e (E.own i a h1).1) (fun _ _ => rfl) fun j c u _ h e => S.st _ _ e (E.own _ c h).1⟩
theorem DvB.step (S : Step C H H') (t : ∀ a, TX C a → A a) (h : DvB A C.T K H v x) : DvB A C.T K H' v x := by
  rcases h with h | ⟨a, vs, ds, h1, h2, h3, h4, h5⟩ | ⟨a, kvs, h1, h2, h3, h4⟩
  · exact .inl (h.mono (S.keep t))
  · exact .inr (.inl ⟨a, vs, ds, h1, h2, h3, S.stN _ _ h4 h3 (fun ps z => nomatch z), h5.mono (S.keep t)⟩)
  · exact .inr (.inr ⟨a, kvs, h1, h2, h3, h4.monoN (S.keep t) fun o e => S.stN _ _ e h3⟩)
theorem Res.dat (tr : ∀ a, T = some a → H a ≠ none) (h : Res A T K H H' v w) (e : w.dat = some x) : DvB A T K H' v x := by
  cases w with
  | no => cases e
  | d y => cases e; exact .inl h
  | town => cases e
  | ol xs =>
    cases e
    obtain ⟨a, vs, h1, h2, h3, h4⟩ := h
    exact .inr (.inl ⟨a, vs, xs, h1, rfl, fun z => tr a z h2, h3, h4.mono fun b u nb r => ⟨fun z => nb (.inl z), r⟩⟩)
  | od kvs =>
    cases e
    obtain ⟨a, h1, h2, h3⟩ := h
    exact .inr (.inr ⟨a, kvs, h1, rfl, fun z => tr a z h2, h3.mono (fun b u nb r => ⟨fun z => nb (.inl z), r⟩) fun o e => e⟩)
  | oll _ => cases e
  | fn _ => cases e
  | sh _ _ _ _ => cases e
  | shR _ => cases e
theorem Res.frz (tr : ∀ a, A a → H a ≠ none) (h : Res A T K H H' v w) : Res A T K H H' v w.frz := by
  cases w with
  | ol xs =>
    obtain ⟨a, vs, h1, h2, h3, h4⟩ := h
    subst h1
    exact .lst (.inl ⟨fun z => tr a z h2, .inl h3⟩) (h4.mono fun b u nb r => ⟨fun z => nb (.inl z), r⟩)
  | no => exact h
  | d _ => exact h
  | town => exact h
  | od _ => exact h
  | oll _ => exact h
  | fn _ => exact h
  | sh _ _ _ _ => exact h
  | shR _ => exact h
end
end L2.Lv
namespace L2.Lv
open PySem PySem.Spec PyProof.Rows
abbrev Fe := List W → Nat → Option (W × Nat)
abbrev Fd := List W → Nat → Option (PyData × Nat)
abbrev Ft := List W → Nat → Option (Bool × Nat)
abbrev Fa := List W → Nat → Option (List W × Nat)
def tV (K : PySem.W.Frag) (f : Fe) : TE := fun σ H Q => ∃ C O ρ n w n', f ρ n = some (w, n') ∧ EnvOk C O K σ H ρ n ∧ ∀ v H', Step C H H' → TownAt C H' n' → Res (Av C O) C.T K H H' v w → Q v H'
def tVB (K : PySem.W.Frag) (f : Fd) : TE := fun σ H Q => ∃ C O ρ n x n', f ρ n = some (x, n') ∧ EnvOk C O K σ H ρ n ∧ ∀ v H', Step C H H' → TownAt C H' n' → DvB (Av C O) C.T K H' v x → Q v H'
def tVT (K : PySem.W.Frag) (f : Ft) : TT := fun σ H Q => ∃ C O ρ n b n', f ρ n = some (b, n') ∧ EnvOk C O K σ H ρ n ∧ ∀ H', Step C H H' → TownAt C H' n' → Q b H'
/-- an argument: data that stays, or the town -/
def ArgOk (A : Addr → Prop) (T : Option Addr) (K : PySem.W.Frag) (H : Hp) (v : V) : W → Prop
  | .d x => Dv A K H v x
  | .town => ∃ a, T = some a ∧ v = .ref a
  | .fn g => FnV A H v g
  | .shR now => ShV A K H v now
  | _ => False
abbrev ArgsOk (A : Addr → Prop) (T : Option Addr) (K : PySem.W.Frag) (H : Hp) : List V → List W → Prop := Paired (ArgOk A T K H)
def tVA (K : PySem.W.Frag) (f : Fa) : TA := fun σ H Q => ∃ C O ρ n ws n', f ρ n = some (ws, n') ∧ EnvOk C O K σ H ρ n ∧ ∀ vs H', Step C H H' → TownAt C H' n' → ArgsOk (Av C O) C.T K H' vs ws → Q vs H'
abbrev EvE (X : Cx) (e : Expr) (f : Fe) : Prop := PE X e (tV X.K f)
abbrev EvB (X : Cx) (e : Expr) (f : Fd) : Prop := PE X e (tVB X.K f)
abbrev EvT (X : Cx) (e : Expr) (f : Ft) : Prop := PT X e (tVT X.K f)
abbrev EvW (X : Cx) (e : Expr) (f : Ft) : Prop := PW X e (tVT X.K f)
theorem peI {X : Cx} {e : Expr} {t t' : TE} (h : PE X e t) (w : ∀ σ H Q, t' σ H Q → t σ H Q) : PE X e t' := ⟨fun pins s σ H Q I q => h.run pins s σ H Q I (w σ H Q q)⟩
theorem ptI {X : Cx} {e : Expr} {t t' : TT} (h : PT X e t) (w : ∀ σ H Q, t' σ H Q → t σ H Q) : PT X e t' := ⟨fun pins s σ H Q I q => h.run pins s σ H Q I (w σ H Q q)⟩
theorem pwI {X : Cx} {e : Expr} {t t' : TT} (h : PW X e t) (w : ∀ σ H Q, t' σ H Q → t σ H Q) : PW X e t' := ⟨fun wh pins s σ H Q I q => h.run wh pins s σ H Q I (w σ H Q q)⟩
theorem paI {X : Cx} {e : List Expr} {t t' : TA} (h : PA X e t) (w : ∀ σ H Q, t' σ H Q → t σ H Q) : PA X e t' := ⟨fun p pins s σ H Q I q => h.run p pins s σ H Q I (w σ H Q q)⟩
section
variable {X : Cx} {e a b : Expr} {f fa fb : Fe} {da db : Fd} {pos : Pos}
theorem EnvOk.tr {C : Cn} {O : Ow} {K : PySem.W.Frag} {σ : St} {H : Hp} {ρ : List W} {n : Nat} (E : EnvOk C O K σ H ρ n) : ∀ a, C.T = some a → H a ≠ none := fun a e => E.av a (.inr (.inl e))
/-! names, constants -/
def eVar (i : Nat) : Fe := fun ρ n => match ρ[i]? with
  | some (.d x) => some (.d x, n)
  | some .town => some (.town, n)
  | some (.fn g) => some (.fn g, n)
  | some (.shR now) => some (.shR now, n)
  | _ => none
theorem ev_var {i : Nat} (h : PE X e (tVar i)) : EvE X e (eVar i) := peI h (by
  rintro σ H Q ⟨C, O, ρ, n, w, n', hf, E, q⟩
  unfold eVar at hf
  split at hf
  · rename_i x hx
    cases hf
    obtain ⟨u, h1, h2⟩ := E.sl _ _ hx
    exact ⟨u, h1, q _ _ Step.refl E.town h2⟩
  · rename_i hx
    cases hf
    obtain ⟨u, h1, h2⟩ := E.sl _ _ hx
    exact ⟨_, h2, q _ _ Step.refl E.town ⟨u, h1, rfl⟩⟩
  · rename_i hx
    cases hf
    obtain ⟨u, h1, h2⟩ := E.sl _ _ hx
    exact ⟨_, h1, q _ _ Step.refl E.town h2⟩
  · rename_i hx
    cases hf
    obtain ⟨u, h1, h2⟩ := E.sl _ _ hx
    exact ⟨_, h1, q _ _ Step.refl E.town h2⟩
  · cases hf)
/-- a name, looked at -/
def dVar (i : Nat) : Fd := fun ρ n => (ρ[i]?.bind W.dat).map (·, n)
theorem eb_var {i : Nat} (h : PE X e (tVar i)) : EvB X e (dVar i) := peI h (by
  rintro σ H Q ⟨C, O, ρ, n, x, n', hf, E, q⟩
  unfold dVar at hf
  cases hx : ρ[i]? with
  | none => rw [hx] at hf; cases hf
  | some w =>
    rw [hx] at hf
    have sl := E.sl _ _ hx
    cases w with
    | no => cases hf
    | town => cases hf
    | d y =>
      cases hf
      obtain ⟨u, h1, h2⟩ := sl
      exact ⟨u, h1, q _ _ Step.refl E.town (.inl h2)⟩
    | ol xs =>
      cases hf
      obtain ⟨a, vs, h1, h2, h3, h4⟩ := sl
      exact ⟨_, h2, q _ _ Step.refl E.town (.inr (.inl ⟨a, vs, xs, rfl, rfl, fun z => (E.own i a h1).1 (.inl z), h3, h4⟩))⟩
    | od kvs =>
      cases hf
      obtain ⟨a, h1, h2, h3⟩ := sl
      exact ⟨_, h2, q _ _ Step.refl E.town (.inr (.inr ⟨a, kvs, rfl, rfl, fun z => (E.own i a h1).1 (.inl z), h3⟩))⟩
    | oll _ => cases hf
    | fn _ => cases hf
    | shR _ => cases hf
    | sh _ _ _ _ => cases hf)
def eC (x : PyData) : Fe := fun _ n => some (.d x, n)
theorem ev_c {v : V} {x : PyData} (h : PE X e (tC v)) (r : ∀ A H, Dv A X.K H v x) : EvE X e (eC x) := peI h (by
  rintro σ H Q ⟨C, O, ρ, n, w, n', hf, E, q⟩
  cases hf
  exact q _ _ Step.refl E.town (r _ _))
theorem ev_int {i j pos} : EvE X (.Constant (.int i) j pos) (eC (.int i)) := ev_c pe_int fun _ _ => .int _
theorem ev_bl {i j pos} : EvE X (.Constant (.bool i) j pos) (eC (.bool i)) := ev_c pe_bl fun _ _ => .bl _
theorem ev_non {j pos} : EvE X (.Constant .none j pos) (eC .none) := ev_c pe_non fun _ _ => .non
theorem ev_str {i j pos} : EvE X (.Constant (.str i) j pos) (eC (.str i)) := ev_c pe_str fun _ _ => .str _
/-- a value that is looked at -/
def dOf (f : Fe) : Fd := fun ρ n => (f ρ n).bind fun p => p.1.dat.map (·, p.2)
theorem eb_of (h : EvE X e f) : EvB X e (dOf f) := peI h (by
  rintro σ H Q ⟨C, O, ρ, n, x, n', hf, E, q⟩
  unfold dOf at hf
  obtain ⟨⟨w, n1⟩, h1, h2⟩ := Option.bind_eq_some_iff.mp hf
  obtain ⟨y, h3, h4⟩ := Option.map_eq_some_iff.mp h2
  cases h4
  exact ⟨C, O, ρ, n, w, n1, h1, E, fun v H' st t r => q v H' st t (r.dat E.tr h3)⟩)
/-- .. kept as it is for ever -/
def eFrz (f : Fe) : Fe := fun ρ n => (f ρ n).map fun p => (p.1.frz, p.2)
theorem ev_frz (h : EvE X e f) : EvE X e (eFrz f) := peI h (by
  rintro σ H Q ⟨C, O, ρ, n, x, n', hf, E, q⟩
  unfold eFrz at hf
  obtain ⟨⟨w, n1⟩, h1, h2⟩ := Option.map_eq_some_iff.mp hf
  cases h2
  exact ⟨C, O, ρ, n, w, n1, h1, E, fun v H' st t r => q v H' st t (r.frz E.av)⟩)
/-! operators -/
def OpV (X : Cx) (f : Value → Value → Sem Value) (g : PyData → PyData → Option W) : Prop := ∃ r : R2, OpR X f r ∧
  ∀ (A : Addr → Prop) (T : Option Addr) (x y : V) (dx dy : PyData) (w : W) (H : Hp) (Q : VK), (∀ a, A a → H a ≠ none) → DvB A T X.K H x dx → DvB A T X.K H y dy → g dx dy = some w →
    (∀ v H', Grow H H' → Res A none X.K H H' v w → Q v H') → r x y H Q
theorem OpV.or {f : Value → Value → Sem Value} {g h : PyData → PyData → Option W} (hg : OpV X f g) (hh : OpV X f h) : OpV X f (fun x y => (g x y).or (h x y)) := by
  obtain ⟨r, h1, h2⟩ := hg
  obtain ⟨r', h1', h2'⟩ := hh
  refine ⟨_, h1.or h1', fun A T x y dx dy w H Q tr rx ry e q => ?_⟩
  have e : (g dx dy).or (h dx dy) = some w := e
  cases hx : g dx dy with
  | none =>
    rw [hx] at e
    exact .inr (h2' A T x y dx dy w H Q tr rx ry (by simpa using e) q)
  | some w' =>
    rw [hx] at e
    exact .inl (h2 A T x y dx dy w H Q tr rx ry (hx.trans (by simpa using e)) q)
def eBin (g : PyData → PyData → Option W) (fa fb : Fd) : Fe := fun ρ n => (fa ρ n).bind fun p => (fb ρ p.2).bind fun q => (g p.1 q.1).map (·, q.2)
theorem Res.none_any {A : Addr → Prop} {T : Option Addr} {K : PySem.W.Frag} {H H' : Hp} {v : V} {w : W} (h : Res A none K H H' v w) : Res A T K H H' v w := by
  cases w with
  | town => obtain ⟨a, e, _⟩ := h; cases e
  | no => exact h
  | d _ => exact h
  | ol _ => exact h
  | od _ => exact h
  | oll _ => exact h
  | fn _ => exact h
  | shR _ => exact h
  | sh _ _ _ _ => exact h
theorem Res.back {A : Addr → Prop} {T : Option Addr} {K : PySem.W.Frag} {H0 H H' : Hp} {v : V} {w : W} (b : ∀ a, H a = none → H0 a = none) (h : Res A T K H H' v w) : Res A T K H0 H' v w := by
  cases w with
  | no => exact h
  | d _ => exact h
  | town => exact h
  | ol xs => obtain ⟨a, vs, h1, h2, h3⟩ := h; exact ⟨a, vs, h1, b a h2, h3⟩
  | od xs => obtain ⟨a, h1, h2, h3⟩ := h; exact ⟨a, h1, b a h2, h3⟩
  | oll _ => exact h
  | fn _ => exact h
  | shR _ => exact h
  | sh _ _ _ _ => exact h
theorem op_run {fo : Value → Value → Sem Value} {g : PyData → PyData → Option W} {r : R2} {σ : St} {H : Hp} {Q : VK}
    (h2 : ∀ (A : Addr → Prop) (T : Option Addr) (x y : V) (dx dy : PyData) (w : W) (H : Hp) (Q : VK), (∀ a, A a → H a ≠ none) → DvB A T X.K H x dx → DvB A T X.K H y dy → g dx dy = some w → (∀ v H', Grow H H' → Res A none X.K H H' v w → Q v H') → r x y H Q)
    (h : tV X.K (eBin g da db) σ H Q) : tOp r (tVB X.K da) (tVB X.K db) σ H Q := by
  obtain ⟨C, O, ρ, n, w, n', hf, E, q⟩ := h
  unfold eBin at hf
  obtain ⟨⟨x, n1⟩, e1, hf⟩ := Option.bind_eq_some_iff.mp hf
  obtain ⟨⟨y, n2⟩, e2, hf⟩ := Option.bind_eq_some_iff.mp hf
  obtain ⟨z, e3, hf⟩ := Option.map_eq_some_iff.mp hf
  cases hf
  refine ⟨C, O, ρ, n, x, n1, e1, E, fun vx H1 s1 t1 r1 => ?_⟩
  have E1 := E.step s1 t1
  refine ⟨C, O, ρ, n1, y, n2, e2, E1, fun vy H2 s2 t2 r2 => ?_⟩
  have E2 := E1.step s2 t2
  refine h2 (Av C O) C.T vx vy x y w H2 Q E2.av (r1.step s2 Av.t) r2 e3 fun v H3 g3 r3 => ?_
  exact q v H3 ((s1.trans s2).trans g3.step) (g3.town t2) (r3.none_any.back fun a ha => s1.fr a (s2.fr a ha))
theorem ev_bin {op : Operator} {g : PyData → PyData → Option W} (ho : OpV X (binaryOp op) g) (ha : EvB X a da) (hb : EvB X b db) : EvE X (.BinOp a op b pos) (eBin g da db) := by
  obtain ⟨r, h1, h2⟩ := ho
  exact peI (pe_op h1 ha hb) fun σ H Q h => op_run (fo := binaryOp op) h2 h
theorem ev_cmp {op : CmpOp} {g : PyData → PyData → Option W} (ho : OpV X (compareOp op) g) (ha : EvB X a da) (hb : EvB X b db) (hm : behindInMarks op b = false) : EvE X (.Compare a [op] [b] pos) (eBin g da db) := by
  obtain ⟨r, h1, h2⟩ := ho
  exact peI (pe_cmpR h1 ha hb hm) fun σ H Q h => op_run (fo := compareOp op) h2 h
/-- a comparison's truth -/
def bTest (f : Fe) : Ft := fun ρ n => (f ρ n).bind fun p => match p.1 with
  | .d (.bool c) => some (c, p.2)
  | _ => none
theorem tV_bool {K : PySem.W.Frag} {f : Fe} {σ : St} {H : Hp} {Q : Bool → Hp → Prop} (h : tVT K (bTest f) σ H Q) : tV K f σ H (fun x H' => ∃ k, x = .bl k ∧ Q k H') := by
  obtain ⟨C, O, ρ, n, c, n', hf, E, q⟩ := h
  unfold bTest at hf
  obtain ⟨⟨x, n1⟩, e1, hf⟩ := Option.bind_eq_some_iff.mp hf
  cases x with
  | d y =>
    cases y with
    | bool c' =>
      cases hf
      refine ⟨C, O, ρ, n, _, _, e1, E, fun v H' s t r => ?_⟩
      have r : Dv (Av C O) K H' v (.bool c) := r
      cases r
      exact ⟨c, rfl, q H' s t⟩
    | _ => cases hf
  | _ => cases hf
theorem et_cmp {op : CmpOp} {g : PyData → PyData → Option W} (ho : OpV X (compareOp op) g) (ha : EvB X a da) (hb : EvB X b db) (hm : behindInMarks op b = false) : EvT X (.Compare a [op] [b] pos) (bTest (eBin g da db)) := by
  obtain ⟨r, h1, h2⟩ := ho
  exact ptI (pt_cmpR h1 ha hb hm) fun σ H Q h => op_run (fo := compareOp op) h2 (tV_bool h)
/-! truth -/
def dTru : PyData → Option Bool
  | .none => some false
  | .bool b => some b
  | .int i => some (i != 0)
  | .str y => if y.length ≤ sizeLine then some ((y.length : Int) != 0) else none
  | .list xs => some (!xs.isEmpty)
  | .tuple xs => some (!xs.isEmpty)
  | .dict _ => none
def bTru (f : Fd) : Ft := fun ρ n => (f ρ n).bind fun p => (dTru p.1).map (·, p.2)
theorem DvAll.empty {A : Addr → Prop} {K : PySem.W.Frag} {H : Hp} {vs : List V} {ds : List PyData} (h : DvAll A K H vs ds) : vs.isEmpty = ds.isEmpty := by cases h <;> rfl
theorem DvB.tup {A : Addr → Prop} {T : Option Addr} {K : PySem.W.Frag} {H : Hp} {v : V} {ds : List PyData} (h : DvB A T K H v (.tuple ds)) : ∃ a xs, v = .ref a ∧ SqT K H a xs ∧ DvAll A K H xs ds ∧ Dv A K H v (.tuple ds) := by
  rcases h with h | ⟨a, vs, ds, h1, h2, _⟩ | ⟨a, kvs, h1, h2, _⟩
  · cases id h with
    | tup hs ha => exact ⟨_, _, rfl, sqT_of hs, ha, h⟩
  · cases h2
  · cases h2
theorem DvB.lst {A : Addr → Prop} {T : Option Addr} {K : PySem.W.Frag} {H : Hp} {v : V} {ds : List PyData} (h : DvB A T K H v (.list ds)) : ∃ a xs, v = .ref a ∧ SqL K H a xs ∧ DvAll A K H xs ds := by
  rcases h with h | ⟨a, vs, ds, h1, h2, h3, h4, h5⟩ | ⟨a, kvs, h1, h2, _⟩
  · cases h with
    | lst hs ha => exact ⟨_, _, rfl, hs.elim (fun z => .inl z.2) sqLz, ha⟩
  · cases h2
    exact ⟨a, vs, h1, SqL.of h4, h5⟩
  · cases h2
theorem DvB.int {A : Addr → Prop} {T : Option Addr} {K : PySem.W.Frag} {H : Hp} {v : V} {i : Int} (h : DvB A T K H v (.int i)) : v = .int i := by
  rcases h with h | ⟨a, vs, ds, h1, h2, _⟩ | ⟨a, kvs, h1, h2, _⟩
  · cases h; rfl
  · cases h2
  · cases h2
theorem DvB.str {A : Addr → Prop} {T : Option Addr} {K : PySem.W.Frag} {H : Hp} {v : V} {i : Str} (h : DvB A T K H v (.str i)) : v = .str i := by
  rcases h with h | ⟨a, vs, ds, h1, h2, _⟩ | ⟨a, kvs, h1, h2, _⟩
  · cases h; rfl
  · cases h2
  · cases h2
theorem DvB.bl {A : Addr → Prop} {T : Option Addr} {K : PySem.W.Frag} {H : Hp} {v : V} {i : Bool} (h : DvB A T K H v (.bool i)) : v = .bl i := by
  rcases h with h | ⟨a, vs, ds, h1, h2, _⟩ | ⟨a, kvs, h1, h2, _⟩
  · cases h; rfl
  · cases h2
  · cases h2
theorem DvB.non {A : Addr → Prop} {T : Option Addr} {K : PySem.W.Frag} {H : Hp} {v : V} (h : DvB A T K H v .none) : v = .non := by
  rcases h with h | ⟨a, vs, ds, h1, h2, _⟩ | ⟨a, kvs, h1, h2, _⟩
  · cases h; rfl
  · cases h2
  · cases h2
theorem DvB.dct {A : Addr → Prop} {T : Option Addr} {K : PySem.W.Frag} {H : Hp} {v : V} {kvs : List (PyData × PyData)} (h : DvB A T K H v (.dict kvs)) : ∃ a, v = .ref a ∧ DctAt A K H a kvs := by
  rcases h with h | ⟨a, vs, ds, h1, h2, _⟩ | ⟨a, kvs, h1, h2, h3, h4⟩
  · cases h
  · cases h2
  · cases h2; exact ⟨a, h1, h4⟩
theorem dTru_ok {A : Addr → Prop} {T : Option Addr} {K : PySem.W.Frag} {H : Hp} {v : V} {x : PyData} {c : Bool} (h : DvB A T K H v x) (e : dTru x = some c) : TruV K v H c := by
  cases x with
  | none => have := h.non; subst this; cases e; rfl
  | bool b => have := h.bl; subst this; cases e; rfl
  | int i => have := h.int; subst this; cases e; rfl
  | str y =>
    have := h.str; subst this
    simp only [dTru] at e
    split at e
    · rename_i hy
      cases e; exact ⟨hy, rfl⟩
    · cases e
  | list xs =>
    obtain ⟨a, vs, rfl, h1, h2⟩ := h.lst
    cases e
    exact .inl ⟨vs, h1, by rw [h2.empty]⟩
  | tuple xs =>
    obtain ⟨a, vs, rfl, h1, h2, _⟩ := h.tup
    cases e
    exact .inr (.inl ⟨vs, h1, by rw [h2.empty]⟩)
  | dict _ => cases e
theorem et_tru (ha : EvB X a da) (he : ∀ whole, isTrue a X.env whole = (do let v ← whole; standAt a.pos; holding [v] (truthy v))) : EvT X a (bTru da) := ptI (pt_truth ha he) (by
  rintro σ H Q ⟨C, O, ρ, n, c, n', hf, E, q⟩
  unfold bTru at hf
  obtain ⟨⟨x, n1⟩, e1, hf⟩ := Option.bind_eq_some_iff.mp hf
  obtain ⟨z, e3, hf⟩ := Option.map_eq_some_iff.mp hf
  cases hf
  exact ⟨C, O, ρ, n, x, n1, e1, E, fun v H' s t r => ⟨c, dTru_ok r e3, q H' s t⟩⟩)
/-! and, or, not, if -/
variable {ta tb tc : Ft} {rest : List Expr} {c : Expr}
def bAnd (ta tb : Ft) : Ft := fun ρ n => (ta ρ n).bind fun p => if p.1 then tb ρ p.2 else some (false, p.2)
def bOr (ta tb : Ft) : Ft := fun ρ n => (ta ρ n).bind fun p => if p.1 then some (true, p.2) else tb ρ p.2
def bNot (ta : Ft) : Ft := fun ρ n => (ta ρ n).map fun p => (!p.1, p.2)
theorem ew_and1 (ha : EvT X a ta) : EvW X (.BoolOp .And [a] pos) ta := pw_and1 ha
theorem ew_or1 (ha : EvT X a ta) : EvW X (.BoolOp .Or [a] pos) ta := pw_or1 ha
theorem ew_and (ha : EvT X a ta) (hb : EvW X (.BoolOp .And (b :: rest) pos) tb) : EvW X (.BoolOp .And (a :: b :: rest) pos) (bAnd ta tb) := pwI (pw_and ha hb) (by
  rintro σ H Q ⟨C, O, ρ, n, c, n', hf, E, q⟩
  unfold bAnd at hf
  obtain ⟨⟨x, n1⟩, e1, hf⟩ := Option.bind_eq_some_iff.mp hf
  refine ⟨C, O, ρ, n, x, n1, e1, E, fun H1 s1 t1 => ?_⟩
  cases x with
  | true =>
    rw [if_pos rfl]
    exact ⟨C, O, ρ, n1, c, n', by simpa using hf, E.step s1 t1, fun H2 s2 t2 => q H2 (s1.trans s2) t2⟩
  | false =>
    rw [if_neg (by simp)]
    simp at hf
    obtain ⟨rfl, rfl⟩ := hf
    exact q H1 s1 t1)
theorem ew_or (ha : EvT X a ta) (hb : EvW X (.BoolOp .Or (b :: rest) pos) tb) : EvW X (.BoolOp .Or (a :: b :: rest) pos) (bOr ta tb) := pwI (pw_or ha hb) (by
  rintro σ H Q ⟨C, O, ρ, n, c, n', hf, E, q⟩
  unfold bOr at hf
  obtain ⟨⟨x, n1⟩, e1, hf⟩ := Option.bind_eq_some_iff.mp hf
  refine ⟨C, O, ρ, n, x, n1, e1, E, fun H1 s1 t1 => ?_⟩
  cases x with
  | false =>
    rw [if_neg (by simp)]
    exact ⟨C, O, ρ, n1, c, n', by simpa using hf, E.step s1 t1, fun H2 s2 t2 => q H2 (s1.trans s2) t2⟩
  | true =>
    rw [if_pos rfl]
    simp at hf
    obtain ⟨rfl, rfl⟩ := hf
    exact q H1 s1 t1)
theorem et_w (h : EvW X a ta) : EvT X a ta := h.pt
theorem et_not (ha : EvT X a ta) : EvT X (.UnaryOp .Not a pos) (bNot ta) := ptI (pt_not ha) (by
  rintro σ H Q ⟨C, O, ρ, n, c, n', hf, E, q⟩
  unfold bNot at hf
  obtain ⟨⟨x, n1⟩, e1, hf⟩ := Option.map_eq_some_iff.mp hf
  cases hf
  exact ⟨C, O, ρ, n, x, n1, e1, E, fun H1 s1 t1 => q H1 s1 t1⟩)
def eIf (tc : Ft) (fa fb : Fe) : Fe := fun ρ n => (tc ρ n).bind fun p => if p.1 then fa ρ p.2 else fb ρ p.2
theorem Res.step0 {A : Addr → Prop} {T : Option Addr} {K : PySem.W.Frag} {C : Cn} {H H1 H' : Hp} {v : V} {w : W} (s : Step C H H1) (h : Res A T K H1 H' v w) : Res A T K H H' v w := h.back s.fr
theorem ev_ife (hc : EvT X c tc) (ha : EvE X a fa) (hb : EvE X b fb) : EvE X (.IfExp c a b pos) (eIf tc fa fb) := peI (pe_ifExp hc ha hb) (by
  rintro σ H Q ⟨C, O, ρ, n, w, n', hf, E, q⟩
  unfold eIf at hf
  obtain ⟨⟨x, n1⟩, e1, hf⟩ := Option.bind_eq_some_iff.mp hf
  refine ⟨C, O, ρ, n, x, n1, e1, E, fun H1 s1 t1 => ?_⟩
  cases x with
  | true => exact ⟨C, O, ρ, n1, w, n', by simpa using hf, E.step s1 t1, fun v H2 s2 t2 r => q v H2 (s1.trans s2) t2 (r.step0 s1)⟩
  | false => exact ⟨C, O, ρ, n1, w, n', by simpa using hf, E.step s1 t1, fun v H2 s2 t2 r => q v H2 (s1.trans s2) t2 (r.step0 s1)⟩)
/-- and, or, not as values (bools) -/
def eB (t : Ft) : Fe := fun ρ n => (t ρ n).map fun p => (.d (.bool p.1), p.2)
/-- and as a value: all but the last are truths -/
def eAnd (fa fb : Fe) : Fe := fun ρ n => (fa ρ n).bind fun p => match p.1 with
  | .d (.bool true) => fb ρ p.2
  | .d (.bool false) => some (.d (.bool false), p.2)
  | _ => none
def eOr (fa fb : Fe) : Fe := fun ρ n => (fa ρ n).bind fun p => match p.1 with
  | .d (.bool false) => fb ρ p.2
  | .d (.bool true) => some (.d (.bool true), p.2)
  | _ => none
theorem ev_one {op : BoolOp} (ha : EvE X a fa) : EvE X (.BoolOp op [a] pos) fa := pe_one ha
theorem ev_and (ha : EvE X a fa) (hb : EvE X (.BoolOp .And (b :: rest) pos) fb) : EvE X (.BoolOp .And (a :: b :: rest) pos) (eAnd fa fb) := peI (pe_and ha hb) (by
  rintro σ H Q ⟨C, O, ρ, n, w, n', hf, E, q⟩
  unfold eAnd at hf
  obtain ⟨⟨x, n1⟩, e1, hf⟩ := Option.bind_eq_some_iff.mp hf
  refine ⟨C, O, ρ, n, x, n1, e1, E, fun v H1 s1 t1 r => ?_⟩
  simp only at hf
  split at hf
  · have r : Dv (Av C O) X.K H1 v (.bool true) := r
    cases r
    exact ⟨true, rfl, C, O, ρ, n1, w, n', hf, E.step s1 t1, fun v H2 s2 t2 r => q v H2 (s1.trans s2) t2 (r.step0 s1)⟩
  · have r : Dv (Av C O) X.K H1 v (.bool false) := r
    cases r
    cases hf
    exact ⟨false, rfl, q _ _ s1 t1 (.bl _)⟩
  · cases hf)
end
end L2.Lv
namespace L2.Lv
open PySem PySem.Spec PyProof.Rows
abbrev Fds := List W → Nat → Option (List PyData × Nat)
abbrev DvBs (A : Addr → Prop) (T : Option Addr) (K : PySem.W.Frag) (H : Hp) : List V → List PyData → Prop := Paired (DvB A T K H)
def tVD (K : PySem.W.Frag) (f : Fds) : TA := fun σ H Q => ∃ C O ρ n xs n', f ρ n = some (xs, n') ∧ EnvOk C O K σ H ρ n ∧ ∀ vs H', Step C H H' → TownAt C H' n' → DvBs (Av C O) C.T K H' vs xs → Q vs H'
structure EvA (X : Cx) (es : List Expr) (f : Fa) : Prop where
  pa : PA X es (tVA X.K f)
  len : ∀ ρ n ws n', f ρ n = some (ws, n') → ws.length = es.length
abbrev EvD (X : Cx) (es : List Expr) (f : Fds) : Prop := PA X es (tVD X.K f)
section
variable {X : Cx} {e a b : Expr} {es : List Expr} {f fa fb : Fe} {d da db : Fd} {fs : Fa} {ds : Fds} {pos : Pos}
/-! arguments -/
def aNil : Fa := fun _ n => some ([], n)
def W.arg : W → Option W
  | .d x => some (.d x)
  | .ol xs => some (.d (.list xs))
  | .town => some .town
  | .fn g => some (.fn g)
  | .shR now => some (.shR now)
  | _ => none
def aCons (f : Fe) (fs : Fa) : Fa := fun ρ n => (f ρ n).bind fun p => p.1.arg.bind fun w => (fs ρ p.2).map fun q => (w :: q.1, q.2)
theorem ArgOk.step {C : Cn} {A : Addr → Prop} {K : PySem.W.Frag} {H H' : Hp} {v : V} {w : W} (s : Step C H H') (t : ∀ a, TX C a → A a) (h : ArgOk A C.T K H v w) : ArgOk A C.T K H' v w := by
  cases w with
  | d x => exact Dv.mono (s.keep t) h
  | town => exact h
  | no => exact h
  | ol _ => exact h
  | od _ => exact h
  | oll _ => exact h
  | fn _ => exact FnV.mono h (s.keep t)
  | shR _ => exact ShV.mono h (s.keep t)
  | sh _ _ _ _ => exact h
theorem Res.arg {A : Addr → Prop} {T : Option Addr} {K : PySem.W.Frag} {H H' : Hp} {v : V} {w w' : W} (tr : ∀ a, A a → H a ≠ none) (h : Res A T K H H' v w) (e : w.arg = some w') : ArgOk A T K H' v w' := by
  have q := h.frz tr
  cases w with
  | d x => cases e; exact q
  | ol x => cases e; exact q
  | town => cases e; exact q
  | no => cases e
  | od _ => cases e
  | oll _ => cases e
  | fn _ => cases e; exact q
  | shR _ => cases e; exact q
  | sh _ _ _ _ => cases e
theorem ea_nil : EvA X [] aNil := ⟨paI pa_nil (by
  rintro σ H Q ⟨C, O, ρ, n, w, n', hf, E, q⟩
  cases hf
  exact q _ _ Step.refl E.town .nil), by rintro ρ n ws n' h; cases h; rfl⟩
theorem ea_cons (ha : EvE X e f) (hr : EvA X es fs) (hs : starEach (e :: es) X.env = (false, eval e X.env) :: starEach es X.env := by rfl) : EvA X (e :: es) (aCons f fs) := by
  refine ⟨paI (pa_cons ha hr.pa hs) ?_, ?_⟩
  · rintro σ H Q ⟨C, O, ρ, n, w, n', hf, E, q⟩
    unfold aCons at hf
    obtain ⟨⟨x, n1⟩, e1, hf⟩ := Option.bind_eq_some_iff.mp hf
    obtain ⟨x', e2, hf⟩ := Option.bind_eq_some_iff.mp hf
    obtain ⟨⟨ws, n2⟩, e3, hf⟩ := Option.map_eq_some_iff.mp hf
    cases hf
    refine ⟨C, O, ρ, n, x, n1, e1, E, fun v H1 s1 t1 r1 => ?_⟩
    refine ⟨C, O, ρ, n1, ws, n2, e3, E.step s1 t1, fun vs H2 s2 t2 r2 => ?_⟩
    exact q _ _ (s1.trans s2) t2 (.cons ((r1.arg E.av e2).step s2 Av.t) r2)
  · intro ρ n ws n' h
    unfold aCons at h
    obtain ⟨⟨x, n1⟩, e1, h⟩ := Option.bind_eq_some_iff.mp h
    obtain ⟨x', e2, h⟩ := Option.bind_eq_some_iff.mp h
    obtain ⟨⟨ws, n2⟩, e3, h⟩ := Option.map_eq_some_iff.mp h
    cases h
    simp [hr.len _ _ _ _ e3]
def sNil : Fds := fun _ n => some ([], n)
def sCons (f : Fd) (fs : Fds) : Fds := fun ρ n => (f ρ n).bind fun p => (fs ρ p.2).map fun q => (p.1 :: q.1, q.2)
theorem ed_nil : EvD X [] sNil := paI pa_nil (by
  rintro σ H Q ⟨C, O, ρ, n, w, n', hf, E, q⟩
  cases hf
  exact q _ _ Step.refl E.town .nil)
theorem DvBs.step {C : Cn} {A : Addr → Prop} {K : PySem.W.Frag} {H H' : Hp} (s : Step C H H') (t : ∀ a, TX C a → A a) {vs : List V} {xs : List PyData} (h : DvBs A C.T K H vs xs) : DvBs A C.T K H' vs xs := Paired.impl (fun _ _ z => DvB.step s t z) h
theorem ed_cons (ha : EvB X e d) (hr : EvD X es ds) (hs : starEach (e :: es) X.env = (false, eval e X.env) :: starEach es X.env := by rfl) : EvD X (e :: es) (sCons d ds) := paI (pa_cons ha hr hs) (by
  rintro σ H Q ⟨C, O, ρ, n, w, n', hf, E, q⟩
  unfold sCons at hf
  obtain ⟨⟨x, n1⟩, e1, hf⟩ := Option.bind_eq_some_iff.mp hf
  obtain ⟨⟨ws, n2⟩, e3, hf⟩ := Option.map_eq_some_iff.mp hf
  cases hf
  refine ⟨C, O, ρ, n, x, n1, e1, E, fun v H1 s1 t1 r1 => ?_⟩
  refine ⟨C, O, ρ, n1, ws, n2, e3, E.step s1 t1, fun vs H2 s2 t2 r2 => ?_⟩
  exact q _ _ (s1.trans s2) t2 (.cons (r1.step s2 Av.t) r2))
/-! displays -/
def W.val : W → Option PyData
  | .d x => some x
  | _ => none
def vals : List W → Option (List PyData)
  | [] => some []
  | w :: ws => w.val.bind fun x => (vals ws).map (x :: ·)
theorem vals_ok {A : Addr → Prop} {T : Option Addr} {K : PySem.W.Frag} {H : Hp} : ∀ {ws : List W} {vs : List V} {xs : List PyData}, ArgsOk A T K H vs ws → vals ws = some xs → DvAll A K H vs xs ∧ xs.length = ws.length
  | _, _, _, .nil, e => by cases e; exact ⟨.nil, rfl⟩
  | w :: ws, _, _, .cons r t, e => by
    unfold vals at e
    obtain ⟨x, e1, e⟩ := Option.bind_eq_some_iff.mp e
    obtain ⟨ys, e2, e⟩ := Option.map_eq_some_iff.mp e
    cases e
    obtain ⟨q1, q2⟩ := vals_ok t e2
    cases w with
    | d y => cases e1; exact ⟨.cons r q1, by simp [q2]⟩
    | _ => cases e1
def eTup (fs : Fa) : Fe := fun ρ n => (fs ρ n).bind fun p => (vals p.1).map fun xs => (.d (.tuple xs), p.2)
def eLst (fs : Fa) : Fe := fun ρ n => (fs ρ n).bind fun p => (vals p.1).map fun xs => (.ol xs, p.2)
theorem small_line {n : Nat} (h : n ≤ 1000) : n ≤ sizeLine := Nat.le_of_lt (small1000 h)
theorem new_tup {A : Addr → Prop} {K : PySem.W.Frag} {H : Hp} {p : Addr} {vs : List V} {xs : List PyData} {o : Obj} (hp : H p = none) (tr : ∀ a, A a → H a ≠ none) (ho : o.dict = none) (h : DvAll A K H vs xs) : Dv A K (upd H p (.frz o (.tup vs))) (.ref p) (.tuple xs) :=
  .tup (.inl ⟨fun z => tr p z hp, o, upd_same, ho⟩) (h.mono (Grow.upd hp).keep)
/-! tuples as they are made -/
def rNewT (xs : List V) (H : Hp) (Q : VK) : Prop := ∀ p o, o.dict = none → H p = none → Q (.ref p) (upd H p (.frz o (.tup xs)))
theorem Inv.newT {pins : List (Addr × Obj)} {σ : St} {H : Hp} {s : Shared} {Q : VK} {xs : List V} {us : List Value} (I : Inv X pins σ H s) (r : Vals xs us) (hz : xs.length ≤ sizeLine) (q : rNewT xs H Q) :
    EP X pins σ Q (.ref s.heap.objs.size) { s with heap := s.heap.push { cls := .type "tuple", data := .seq us.toArray } } :=
  ⟨.ref s.heap.objs.size, _, I.laid (t' := s.toks) (o := .frz { cls := .type "tuple", data := .seq us.toArray } (.tup xs)) (fun b u e => Heap.get?_push_of_some _ e) (Nat.le_refl _) ⟨Heap.get?_push_size _ rfl, hz, us, r, IsTup.new _ _⟩, rfl,
    q _ _ rfl (I.hok.fresh (Nat.le_refl _))⟩
def tTupF (t : L2.TA) : TE := fun σ H Q => t σ H fun xs H1 => xs.length ≤ sizeLine ∧ rNewT xs H1 Q
theorem pe_tupF {t : L2.TA} {x1} (h : PA X es t) : PE X (.Tuple es x1 pos) (tTupF t) := ⟨fun pins s σ H Q I hq =>
  wpAny_Tuple_spliced (thn (h.run pos pins s σ H _ I hq) fun us s1 ⟨xs, H1, I1, r, z, q⟩ => ⟨by rw [← r.length]; exact z, Inv.newT I1 r z q⟩)⟩
/-- t + u -/
def rCatF (K : PySem.W.Frag) : R2 := fun x y H Q => ∃ a b xs ys, x = .ref a ∧ y = .ref b ∧ SqT K H a xs ∧ SqT K H b ys ∧ xs.length + ys.length ≤ sizeLine ∧
  (xs = [] → Q (.ref b) H) ∧ (ys = [] → Q (.ref a) H) ∧ rNewT (xs ++ ys) H Q
theorem op_catF : OpR X (binaryOp .Add) (rCatF X.K) := by
  rintro pins s σ H x y v u Q I rx ry ⟨a, b, xs, ys, rfl, rfl, ha, hb, hz, q0, q1, q2⟩
  have hv : v = .ref a := rx
  have hu : u = .ref b := ry
  subst hv hu
  obtain ⟨its, r1, p1, _⟩ := I.tuple ha
  obtain ⟨its2, r2, p2, _⟩ := I.tuple hb
  by_cases hx : xs = []
  · subst hx
    cases r1
    exact cat_tup0 p1 p2 ⟨.ref b, H, I, rfl, q0 rfl⟩
  · refine HT.cat_tup p1 p2 (fun z => hx (r1.nil_iff.mp z)) (fun z => ⟨.ref a, H, I, rfl, q1 (r2.nil_iff.mp z)⟩) (fun _ => ?_) (by rw [← r1.length, ← r2.length]; exact hz)
    exact Inv.newT I (r1.append r2) (by rw [List.length_append]; exact hz) q2
/-- t[lo:hi] -/
def rSlF (K : PySem.W.Frag) : V → Option Int → Option Int → Hp → VK → Prop := fun x lo hi H Q => ∃ a xs, x = .ref a ∧ SqT K H a xs ∧
  (HT.sIx xs.length 0 lo = 0 ∧ HT.sIx xs.length xs.length hi = xs.length → Q (.ref a) H) ∧ rNewT (cutV xs lo hi) H Q
theorem sl_tupF : SlR X (rSlF X.K) := by
  rintro pins s σ H x v vl vu lo hi sl Q I rx hs pl pu ⟨a, xs, rfl, hx, q1, q2⟩
  by_cases hw : HT.sIx xs.length 0 lo = 0 ∧ HT.sIx xs.length xs.length hi = xs.length
  · exact sl_tupA pins s σ H _ v vl vu lo hi sl Q I rx hs pl pu ⟨a, xs, rfl, hx, q1, fun z => (z hw).elim⟩
  · have hv : v = .ref a := rx
    subst hv
    obtain ⟨its, r, ht, hz⟩ := I.tuple hx
    have hlen : its.toArray.size = xs.length := by rw [List.size_toArray]; exact r.length.symm
    refine ⟨"tuple", _, PyProof.Rows.slot_tuple_getitem.lookup, ht.typeIs, HT.getItem_tuple_cut ht hs pl pu (by rw [hlen]; exact hw) ?_ (by rw [hlen]; exact hz)⟩
    rw [hlen]
    exact Inv.newT I ((r.drop _).take _) (Nat.le_trans (cutV_length xs lo hi) hz) q2
/-- tuple(x) -/
theorem call_tupF : CallR X (.type "tuple") (fun xs H Q => ∃ p ys, xs = [.ref p] ∧ ((SqL X.K H p ys ∧ rNewT ys H Q) ∨ (SqT X.K H p ys ∧ Q (.ref p) H))) := by
  rintro pins s σ H xs us Q I r ⟨p, ys, rfl, h⟩
  obtain ⟨u, rfl, rx⟩ := vals1 r
  have hu : u = .ref p := rx
  subst hu
  rcases h with ⟨hq, q⟩ | ⟨hq, q⟩
  · obtain ⟨its, r', pl, hz⟩ := I.list hq
    have hlen := r'.length
    refine call_tuple_list pl.isList (fun h' kp => ?_) (by simp only [List.size_toArray] <;> omega)
    exact Inv.newT (I.kept (t' := s.toks) kp) r' hz q
  · obtain ⟨its, r', pl, hz⟩ := I.tuple hq
    exact call_tuple_same pl ⟨.ref p, H, I, rfl, q⟩
theorem new_lst {A : Addr → Prop} {T : Option Addr} {K : PySem.W.Frag} {H : Hp} {p : Addr} {vs : List V} {xs : List PyData} (hp : H p = none) (h : DvAll A K H vs xs) : Res A T K H (upd H p (.lst vs)) (.ref p) (.ol xs) :=
  ⟨p, vs, rfl, hp, upd_same, h.mono fun a u n r => ⟨fun z => z.elim n fun e => (by rw [e, hp] at r; cases r), Grow.upd hp _ _ r⟩⟩
theorem ev_tup {x1} (h : EvA X es fs) (hz : es.length ≤ 1000 := by decide) : EvE X (.Tuple es x1 pos) (eTup fs) := peI (pe_tupF h.pa) (by
  rintro σ H Q ⟨C, O, ρ, n, w, n', hf, E, q⟩
  unfold eTup at hf
  obtain ⟨⟨ws, n1⟩, e1, hf⟩ := Option.bind_eq_some_iff.mp hf
  obtain ⟨xs, e2, hf⟩ := Option.map_eq_some_iff.mp hf
  cases hf
  refine ⟨C, O, ρ, n, ws, _, e1, E, fun vs H1 s1 t1 r1 => ?_⟩
  obtain ⟨d1, d2⟩ := vals_ok r1 e2
  have hl := h.len _ _ _ _ e1
  refine ⟨by rw [d1.length]; exact small_line (by omega), fun p o ho hp => ?_⟩
  exact q _ _ (s1.trans (Grow.upd hp).step) ((Grow.upd hp).town t1) (new_tup hp (E.step s1 t1).av ho d1))
theorem ev_lst (h : EvA X es fs) (hz : es.length ≤ 1000 := by decide) : EvE X (.List es pos) (eLst fs) := peI (pe_lst h.pa) (by
  rintro σ H Q ⟨C, O, ρ, n, w, n', hf, E, q⟩
  unfold eLst at hf
  obtain ⟨⟨ws, n1⟩, e1, hf⟩ := Option.bind_eq_some_iff.mp hf
  obtain ⟨xs, e2, hf⟩ := Option.map_eq_some_iff.mp hf
  cases hf
  refine ⟨C, O, ρ, n, ws, _, e1, E, fun vs H1 s1 t1 r1 => ?_⟩
  obtain ⟨d1, d2⟩ := vals_ok r1 e2
  have hl := h.len _ _ _ _ e1
  refine ⟨by rw [d1.length]; exact small_line (by omega), fun p hp => ?_⟩
  exact q _ _ (s1.trans (Grow.upd hp).step) ((Grow.upd hp).town t1) ((new_lst hp d1).back s1.fr))
/-! calls of a def -/
abbrev Fn := List W → Nat → Option (W × Nat)
/-- the promise: by value -/
def spOf (K : PySem.W.Frag) (k : Nat) (F : Fn) : Sp := fun vs H Q E => ∃ (C : Cn) (ws : List W) (n : Nat) (w : W) (n' : Nat), C.H0 = H ∧
  (∀ a, C.P a → H a ≠ none) ∧ TownAt C H n ∧ ws.length = k ∧ ArgsOk (Av C Ow0) C.T K H vs ws ∧ F ws n = some (w, n') ∧ (∀ x ∈ tabsOf K, C.B x.1 x.2) ∧ TabG C Ow0 H ∧
  ∀ v H', Step C H H' → TownAt C H' n' → Res (Av C Ow0) C.T K H H' v w → Q v H'
theorem spOf.len {K : PySem.W.Frag} {k : Nat} {F : Fn} : ∀ vs H Q E, spOf K k F vs H Q E → vs.length = k := by
  rintro vs H Q E ⟨C, ws, n, w, n', _, _, _, hl, ha, _⟩
  rw [← hl]
  exact Paired.length ha
def eCall (F : Fn) (fs : Fa) : Fe := fun ρ n => (fs ρ n).bind fun p => F p.1 p.2
theorem Res.av {A A' : Addr → Prop} {T : Option Addr} {K : PySem.W.Frag} {H H' : Hp} {v : V} {w : W} (i : ∀ a, A' a → A a) (h : Res A T K H H' v w) : Res A' T K H H' v w := by
  cases w with
  | no => exact h
  | d _ => exact Dv.mono (fun a u n r => ⟨fun z => n (i a z), r⟩) h
  | town => exact h
  | ol xs => obtain ⟨a, vs, h1, h2, h3, h4⟩ := h; exact ⟨a, vs, h1, h2, h3, h4.mono fun b u n r => ⟨fun z => n (z.imp (i b) id), r⟩⟩
  | od xs => obtain ⟨a, h1, h2, h3⟩ := h; exact ⟨a, h1, h2, h3.mono (fun b u n r => ⟨fun z => n (z.imp (i b) id), r⟩) fun o e => e⟩
  | oll _ => exact h
  | fn _ => exact FnV.mono h (fun a u n r => ⟨fun z => n (i a z), r⟩)
  | shR _ => exact ShV.mono h (fun a u n r => ⟨fun z => n (i a z), r⟩)
  | sh _ _ _ _ => exact h
/-- what the called one is told -/
def callC (C : Cn) (O : Ow) (H1 : Hp) : Cn := ⟨C.T, fun a => C.P a ∨ ∃ i, O i = some a, H1, C.B, fun a q h => .inl (C.bp a q h), C.bf, none⟩
theorem EnvOk.callT {C : Cn} {O : Ow} {K : PySem.W.Frag} {σ : St} {H1 : Hp} {ρ : List W} {n : Nat} (E : EnvOk C O K σ H1 ρ n) (av1 : ∀ a, Av (callC C O H1) Ow0 a → Av C O a) : TabG (callC C O H1) Ow0 H1 := fun P q h =>
  ⟨(E.tb P q h).1.go (fun _ e => e) fun c n e => ⟨fun z => n (av1 c z), e⟩, fun G _ t => t⟩
theorem call_run {k : Nat} {F : Fn} (h0 : EvA X es fs) (hk : es.length = k) {σ : St} {H : Hp} {Q : VK} (h : tV X.K (eCall F fs) σ H Q) : tCall (spOf X.K k F) [] E0 (tVA X.K fs) σ H Q := by
  obtain ⟨C, O, ρ, n, w, n', hf, E, q⟩ := h
  unfold eCall at hf
  obtain ⟨⟨ws, n1⟩, e1, hf⟩ := Option.bind_eq_some_iff.mp hf
  refine ⟨C, O, ρ, n, ws, n1, e1, E, fun vs H1 s1 t1 r1 => ?_⟩
  have E1 := E.step s1 t1
  have av1 : ∀ a, Av (callC C O H1) Ow0 a → Av C O a := by
    rintro a ((z | z) | z | ⟨i, z⟩)
    · exact .inl z
    · exact .inr (.inr z)
    · exact .inr (.inl z)
    · cases z
  have av2 : ∀ a, Av C O a → Av (callC C O H1) Ow0 a := by
    rintro a (z | z | z)
    · exact .inl (.inl z)
    · exact .inr (.inl z)
    · exact .inl (.inr z)
  show spOf X.K k F (vs ++ []) H1 Q E0
  rw [List.append_nil]
  refine ⟨callC C O H1, ws, n1, w, n', rfl, fun a z => E1.av a (z.elim .inl fun z => .inr (.inr z)), t1, ?_, ?_, hf, E1.tk, E1.callT av1, fun v H2 s2 t2 r2 => ?_⟩
  · rw [h0.len _ _ _ _ e1, hk]
  · refine Paired.impl (fun v w z => ?_) r1
    cases w with
    | d x => exact Dv.mono (fun a u n r => ⟨fun z => n (av1 a z), r⟩) z
    | town => exact z
    | no => exact z
    | ol _ => exact z
    | od _ => exact z
    | oll _ => exact z
    | fn _ => exact FnV.mono z (fun a u n r => ⟨fun z => n (av1 a z), r⟩)
    | shR _ => exact ShV.mono z (fun a u n r => ⟨fun z => n (av1 a z), r⟩)
    | sh _ _ _ _ => exact z
  · have s2' : Step C H1 H2 := ⟨s2.st0, s2.fr, s2.tb⟩
    exact q v H2 (s1.trans s2') t2 ((r2.av av2).back s1.fr)
section
variable {k j : Nat} {F : Fn} {g : Addr} {fd : FuncData} {ps : List Str} {x : Str} {p : Pos}
theorem ev_call (G : FnOk X.prog X.w X.K X.mg X.base CX0 j g fd ps (spOf X.K k F)) (hr : Room j X.A) (hg : Gl X x) (hm : X.mg x = some (.ref g)) (hk : PySem.W.keepIn X.K (.ref g) = true) (hb : Binds X.K fd ps []) (ha : EvA X (e :: es) fs)
    (hl : (e :: es).length = k := by rfl) (hdb : (x == ("__debug__" : Str)) = false := by decide) (he : starEach (e :: es) X.env = (false, eval e X.env) :: starEach es X.env := by rfl) (hpl : (backTo pos (starEach es X.env)).any (·.1) = false := by rfl) :
    EvE X (.Call (.Name x p) (e :: es) [] pos) (eCall F fs) := peI (pe_call G hr hg hm hk hb .nil pass0 ha.pa hdb he hpl) fun σ H Q h => call_run ha hl h
end
/-! calls of built-ins, by values -/
def CallV (X : Cx) (f : Value) (g : List PyData → Option W) : Prop := ∃ r, CallR X f r ∧
  ∀ (A : Addr → Prop) (T : Option Addr) (vs : List V) (xs : List PyData) (w : W) (H : Hp) (Q : VK), (∀ a, A a → H a ≠ none) → DvBs A T X.K H vs xs → g xs = some w →
    (∀ v H', Grow H H' → Res A none X.K H H' v w → Q v H') → r vs H Q
def eApp (g : List PyData → Option W) (ds : Fds) : Fe := fun ρ n => (ds ρ n).bind fun p => (g p.1).map (·, p.2)
theorem app_run {g : List PyData → Option W} {r : List V → Hp → VK → Prop} {σ : St} {H : Hp} {Q : VK}
    (h2 : ∀ (A : Addr → Prop) (T : Option Addr) (vs : List V) (xs : List PyData) (w : W) (H : Hp) (Q : VK), (∀ a, A a → H a ≠ none) → DvBs A T X.K H vs xs → g xs = some w →
      (∀ v H', Grow H H' → Res A none X.K H H' v w → Q v H') → r vs H Q)
    (h : tV X.K (eApp g ds) σ H Q) : tCB r (tVD X.K ds) σ H Q := by
  obtain ⟨C, O, ρ, n, w, n', hf, E, q⟩ := h
  unfold eApp at hf
  obtain ⟨⟨xs, n1⟩, e1, hf⟩ := Option.bind_eq_some_iff.mp hf
  obtain ⟨z, e2, hf⟩ := Option.map_eq_some_iff.mp hf
  cases hf
  refine ⟨C, O, ρ, n, xs, _, e1, E, fun vs H1 s1 t1 r1 => ?_⟩
  exact h2 (Av C O) C.T vs xs _ H1 Q (E.step s1 t1).av r1 e2 fun v H2 g2 r2 => q v H2 (s1.trans g2.step) (g2.town t1) (r2.none_any.back s1.fr)
section
variable {x : Str} {p : Pos} {id T : String} {g g' : List PyData → Option W}
theorem ev_callB (hc : CallV X (.builtin id) g) (hg : Gl X x) (hm : X.mg x = none) (hv : bootBuiltins x = some (.builtin id)) (ha : EvD X (e :: es) ds) (hn : x ≠ "__name__" := by decide) (hdb : (x == ("__debug__" : Str)) = false := by decide)
    (he : starEach (e :: es) X.env = (false, eval e X.env) :: starEach es X.env := by rfl) (hpl : (backTo pos (starEach es X.env)).any (·.1) = false := by rfl) : EvE X (.Call (.Name x p) (e :: es) [] pos) (eApp g ds) := by
  obtain ⟨r, h1, h2⟩ := hc
  exact peI (pe_callB h1 hg hm hv ha hn hdb he hpl) fun σ H Q h => app_run h2 h
theorem ev_callTy (hc : CallV X (.type T) g) (hg : Gl X x) (hm : X.mg x = none) (hv : bootBuiltins x = some (.type T)) (ha : EvD X (e :: es) ds) (hn : x ≠ "__name__" := by decide) (hdb : (x == ("__debug__" : Str)) = false := by decide)
    (he : starEach (e :: es) X.env = (false, eval e X.env) :: starEach es X.env := by rfl) (hpl : (backTo pos (starEach es X.env)).any (·.1) = false := by rfl) : EvE X (.Call (.Name x p) (e :: es) [] pos) (eApp g ds) := by
  obtain ⟨r, h1, h2⟩ := hc
  exact peI (pe_callTy h1 hg hm hv ha hn hdb he hpl) fun σ H Q h => app_run h2 h
theorem CallV.or {f : Value} (hg : CallV X f g) (hh : CallV X f g') : CallV X f (fun xs => (g xs).or (g' xs)) := by
  obtain ⟨r, h1, h2⟩ := hg
  obtain ⟨r', h1', h2'⟩ := hh
  refine ⟨_, h1.or h1', fun A T vs xs w H Q tr rx e q => ?_⟩
  have e : (g xs).or (g' xs) = some w := e
  cases hx : g xs with
  | none =>
    rw [hx] at e
    exact .inr (h2' A T vs xs w H Q tr rx (by simpa using e) q)
  | some w' =>
    rw [hx] at e
    exact .inl (h2 A T vs xs w H Q tr rx (hx.trans (by simpa using e)) q)
end
/-! subscripts, slices -/
def IxV (X : Cx) (g : PyData → PyData → Option W) : Prop := ∃ r : R2, IxR X r ∧
  ∀ (A : Addr → Prop) (T : Option Addr) (x y : V) (dx dy : PyData) (w : W) (H : Hp) (Q : VK), (∀ a, A a → H a ≠ none) → DvB A T X.K H x dx → DvB A T X.K H y dy → g dx dy = some w →
    (∀ v H', Grow H H' → Res A none X.K H H' v w → Q v H') → r x y H Q
theorem ev_ix {g : PyData → PyData → Option W} (ho : IxV X g) (ha : EvB X a da) (hb : EvB X b db) (hs : PlainIx b) : EvE X (.Subscript a b pos) (eBin g da db) := by
  obtain ⟨r, h1, h2⟩ := ho
  exact peI (pe_ix h1 ha hb hs) fun σ H Q h => op_run (fo := binaryOp .Add) h2 h
def dIx : PyData → PyData → Option W
  | .list xs, .int i => (atI xs i).map .d
  | .tuple xs, .int i => (atI xs i).map .d
  | _, _ => none
theorem DvAll.at {A : Addr → Prop} {K : PySem.W.Frag} {H : Hp} {vs : List V} {xs : List PyData} {i : Int} {x : PyData} (h : DvAll A K H vs xs) (e : atI xs i = some x) : ∃ v, atI vs i = some v ∧ Dv A K H v x := by
  unfold atI at e ⊢
  rw [h.length]
  cases hj : ixN xs.length i with
  | none => rw [hj] at e; cases e
  | some j =>
    rw [hj] at e
    obtain ⟨v, h1, h2⟩ := h.get e
    exact ⟨v, h1, h2⟩
theorem ixv : IxV X dIx := ⟨_, ix_list.or ix_tup, fun A T x y dx dy w H Q tr rx ry e q => by
  cases dy with
  | int i =>
    have := ry.int; subst this
    cases dx with
    | list xs =>
      obtain ⟨z, e1, rfl⟩ := Option.map_eq_some_iff.mp (show (atI xs i).map W.d = some w from e)
      obtain ⟨a, vs, rfl, h1, h2⟩ := rx.lst
      obtain ⟨v, h3, h4⟩ := h2.at e1
      exact .inl ⟨a, vs, i, v, rfl, rfl, h1, h3, q _ _ Grow.refl h4⟩
    | tuple xs =>
      obtain ⟨z, e1, rfl⟩ := Option.map_eq_some_iff.mp (show (atI xs i).map W.d = some w from e)
      obtain ⟨a, vs, rfl, h1, h2, _⟩ := rx.tup
      obtain ⟨v, h3, h4⟩ := h2.at e1
      exact .inr ⟨a, vs, i, v, rfl, rfl, h1, h3, q _ _ Grow.refl h4⟩
    | _ => cases e
  | _ => cases dx <;> cases e⟩
abbrev Fo := List W → Nat → Option (Option Int × Nat)
def tVO (K : PySem.W.Frag) (f : Fo) : TO := fun σ H Q => ∃ C O ρ n o n', f ρ n = some (o, n') ∧ EnvOk C O K σ H ρ n ∧ ∀ H', Step C H H' → TownAt C H' n' → Q o H'
structure EvO (X : Cx) (e : Option Expr) (f : Fo) : Prop where
  ex : ∃ t, PO X e t ∧ ∀ σ H Q, tVO X.K f σ H Q → t σ H Q
def oNone : Fo := fun _ n => some (none, n)
def oSome (d : Fd) : Fo := fun ρ n => (d ρ n).bind fun p => match p.1 with
  | .int i => some (some i, p.2)
  | _ => none
theorem eo_none : EvO X none oNone := ⟨_, po_none, by
  rintro σ H Q ⟨C, O, ρ, n, w, n', hf, E, q⟩
  cases hf
  exact q _ Step.refl E.town⟩
theorem eo_some (h : EvB X e d) : EvO X (some e) (oSome d) := ⟨_, po_some h, by
  rintro σ H Q ⟨C, O, ρ, n, w, n', hf, E, q⟩
  unfold oSome at hf
  obtain ⟨⟨x, n1⟩, e1, hf⟩ := Option.bind_eq_some_iff.mp hf
  cases x with
  | int i =>
    cases hf
    refine ⟨C, O, ρ, n, _, _, e1, E, fun v H1 s1 t1 r1 => ?_⟩
    exact ⟨i, r1.int, q _ s1 t1⟩
  | _ => cases hf⟩
def SlV (X : Cx) (g : PyData → Option Int → Option Int → Option W) : Prop := ∃ r, SlR X r ∧
  ∀ (A : Addr → Prop) (T : Option Addr) (x : V) (dx : PyData) (lo hi : Option Int) (w : W) (H : Hp) (Q : VK), (∀ a, A a → H a ≠ none) → DvB A T X.K H x dx → g dx lo hi = some w →
    (∀ v H', Grow H H' → Res A none X.K H H' v w → Q v H') → r x lo hi H Q
def eSl (g : PyData → Option Int → Option Int → Option W) (d : Fd) (o o' : Fo) : Fe := fun ρ n => (d ρ n).bind fun p => (o ρ p.2).bind fun q => (o' ρ q.2).bind fun r => (g p.1 q.1 r.1).map (·, r.2)
theorem ev_slice {g : PyData → Option Int → Option Int → Option W} {lo hi : Option Expr} {o o' : Fo} {p2 : Pos} (hs : SlV X g) (ha : EvB X a d) (hl : EvO X lo o) (hu : EvO X hi o') : EvE X (.Subscript a (.Slice lo hi none p2) pos) (eSl g d o o') := by
  obtain ⟨r, h1, h2⟩ := hs
  obtain ⟨t, p1, w1⟩ := hl.ex
  obtain ⟨t', p1', w1'⟩ := hu.ex
  refine peI (pe_slice h1 ha p1 p1') ?_
  rintro σ H Q ⟨C, O, ρ, n, w, n', hf, E, q⟩
  unfold eSl at hf
  obtain ⟨⟨x, n1⟩, e1, hf⟩ := Option.bind_eq_some_iff.mp hf
  obtain ⟨⟨i, n2⟩, e2, hf⟩ := Option.bind_eq_some_iff.mp hf
  obtain ⟨⟨j, n3⟩, e3, hf⟩ := Option.bind_eq_some_iff.mp hf
  obtain ⟨z, e4, hf⟩ := Option.map_eq_some_iff.mp hf
  cases hf
  refine ⟨C, O, ρ, n, x, _, e1, E, fun v H1 s1 t1 r1 => ?_⟩
  have E1 := E.step s1 t1
  refine w1 σ H1 _ ⟨C, O, ρ, n1, i, n2, e2, E1, fun H2 s2 t2 => ?_⟩
  have E2 := E1.step s2 t2
  refine w1' σ H2 _ ⟨C, O, ρ, n2, j, _, e3, E2, fun H3 s3 t3 => ?_⟩
  refine h2 (Av C O) C.T v x i j _ H3 Q (E2.step s3 t3).av ((r1.step s2 Av.t).step s3 Av.t) e4 fun v H4 g4 r4 => ?_
  exact q v H4 (((s1.trans s2).trans s3).trans g4.step) (g4.town t3) (r4.none_any.back fun a ha => s1.fr a (s2.fr a (s3.fr a ha)))
/-- what stands from lo to ahead of hi -/
def cutD (xs : List PyData) (lo hi : Option Int) : List PyData := (xs.drop (HT.sIx xs.length 0 lo)).take (HT.sIx xs.length xs.length hi - HT.sIx xs.length 0 lo)
def dSl : PyData → Option Int → Option Int → Option W
  | .list xs, lo, hi => some (.ol (cutD xs lo hi))
  | .tuple xs, lo, hi => some (.d (.tuple (cutD xs lo hi)))
  | _, _, _ => none
theorem DvAll.cut {A : Addr → Prop} {K : PySem.W.Frag} {H : Hp} {vs : List V} {xs : List PyData} {lo hi : Option Int} (h : DvAll A K H vs xs) : DvAll A K H (cutV vs lo hi) (cutD xs lo hi) := by
  unfold cutV cutD
  rw [h.length]
  exact (h.drop _).take _
theorem slv : SlV X dSl := ⟨_, sl_list.or sl_tupF, fun A T x dx lo hi w H Q tr rx e q => by
  cases dx with
  | list xs =>
    cases e
    obtain ⟨a, vs, rfl, h1, h2⟩ := rx.lst
    exact .inl ⟨a, vs, rfl, h1, fun p hp => q _ _ (Grow.upd hp) (new_lst hp h2.cut)⟩
  | tuple xs =>
    cases e
    obtain ⟨a, vs, rfl, h1, h2, h3⟩ := rx.tup
    refine .inr ⟨a, vs, rfl, h1, fun hw => ?_, fun p o ho hp => q _ _ (Grow.upd hp) (new_tup hp tr ho h2.cut)⟩
    have e : cutD xs lo hi = xs := by
      rw [h2.length] at hw
      unfold cutD
      rw [hw.1, hw.2, List.drop_zero, Nat.sub_zero, List.take_length]
    rw [e] at q
    exact q _ _ Grow.refl h3
  | _ => cases e⟩
end
end L2.Lv
namespace L2.Lv
open PySem PySem.Spec PyProof.Rows
inductive Out where
  | nx (ρ : List W) (n : Nat)
  | rt (w : W) (n : Nat)
  | bk (ρ : List W) (n : Nat)
  /-- handed back, with what the slots hold -/
  | rs (x : PyData) (ρ : List W) (n : Nat)
abbrev Fs := List W → Nat → Option Out
/-- what statements do to the heap -/
structure StepS (C : Cn) (O O' : Ow) (H H' : Hp) : Prop where
  st : ∀ a o, H a = some o → ¬ TX C a → (∀ i, O i ≠ some a) → H' a = some o
  fr : ∀ a, H' a = none → H a = none
  ow : ∀ i a, O' i = some a → (∃ j, O j = some a) ∨ H a = none
section
variable {C : Cn} {O O' O1 O2 : Ow} {K : PySem.W.Frag} {σ : St} {H H' H1 H2 : Hp} {ρ : List W} {n n' : Nat} {v : V} {w : W} {x : PyData}
theorem Step.stepS (s : Step C H H') (h : ∀ i a, O' i = some a → (∃ j, O j = some a) ∨ H a = none) : StepS C O O' H H' := ⟨fun a o e t _ => s.st a o e t, s.fr, h⟩
theorem Step.stepS0 (s : Step C H H') : StepS C O O H H' := s.stepS fun i a h => .inl ⟨i, h⟩
theorem StepS.trans (a : StepS C O O1 H H1) (b : StepS C O1 O2 H1 H2) : StepS C O O2 H H2 := by
  refine ⟨fun x o e t ne => b.st x o (a.st x o e t ne) t fun i z => ?_, fun x h => a.fr x (b.fr x h), fun i x h => ?_⟩
  · rcases a.ow i x z with ⟨j, q⟩ | q
    · exact ne j q
    · rw [q] at e; cases e
  · rcases b.ow i x h with ⟨j, q⟩ | q
    · exact a.ow j x q
    · exact .inr (a.fr x q)
/-- what is read by no way of ours stays -/
theorem StepS.keep (s : StepS C O O' H H') : Keep (Av C O) (Av C O') H H' := fun a u na r => by
  have nt : ¬ TX C a := fun e => na (Av.t _ e)
  have no : ∀ i, O i ≠ some a := fun i e => na (.inr (.inr ⟨i, e⟩))
  refine ⟨?_, ?_⟩
  · rintro (z | z | ⟨i, z⟩)
    · exact na (.inl z)
    · exact nt (.inl z)
    · rcases s.ow i a z with ⟨j, q⟩ | q
      · exact no j q
      · rw [q] at r; cases r
  · exact s.st _ _ r nt no
structure EndRt (C : Cn) (K : PySem.W.Frag) (H' : Hp) (n' : Nat) (v : V) (w : W) : Prop where
  base : ∀ a o, C.H0 a = some o → ¬ TX C a → H' a = some o
  fr : ∀ a, H' a = none → C.H0 a = none
  tb : TabG C Ow0 H'
  town : TownAt C H' n'
  res : Res (Av C Ow0) C.T K C.H0 H' v w
def EndOk (C : Cn) (O : Ow) (K : PySem.W.Frag) (H : Hp) (D : Ends) : Out → Prop
  | .nx ρ' n' => ∀ O' σ' H', StepS C O O' H H' → EnvOk C O' K σ' H' ρ' n' → D.nx σ' H'
  | .rt w n' => ∀ v H', EndRt C K H' n' v w → D.rt v H'
  | .bk ρ' n' => ∀ O' σ' H', StepS C O O' H H' → EnvOk C O' K σ' H' ρ' n' → D.bk σ' H'
  | .rs x ρ' n' => ∀ O' σ' v H', StepS C O O' H H' → EnvOk C O' K σ' H' ρ' n' → Dv (Av C O') K H' v x → D.rt v H'
/-- what is ours is no one else's -/
def OwnP (C : Cn) (O : Ow) : Prop := ∀ i a, O i = some a → ¬ C.P a
theorem OwnP.step (h : OwnP C O) (E : EnvOk C O K σ H ρ n) (s : StepS C O O' H H') : OwnP C O' := fun i a e z => by
  rcases s.ow i a e with ⟨j, q⟩ | q
  · exact h j a q z
  · exact E.ptr a z q
def tVS (K : PySem.W.Frag) (f : Fs) : TS := fun D σ H => ∃ C O ρ n out, f ρ n = some out ∧ EnvOk C O K σ H ρ n ∧ OwnP C O ∧ EndOk C O K H D out
abbrev EvS (X : Cx) (st : Stmt) (f : Fs) : Prop := PS X st (tVS X.K f)
abbrev EvSs (X : Cx) (st : List Stmt) (f : Fs) : Prop := PSs X st (tVS X.K f)
theorem EndOk.after {D : Ends} {out : Out} (s : StepS C O O' H H') (h : EndOk C O K H D out) : EndOk C O' K H' D out := by
  cases out with
  | nx ρ n => exact fun O2 σ2 H2 s2 E2 => h O2 σ2 H2 (s.trans s2) E2
  | bk ρ n => exact fun O2 σ2 H2 s2 E2 => h O2 σ2 H2 (s.trans s2) E2
  | rt w n => exact h
  | rs x ρ n => exact fun O2 σ2 v H2 s2 E2 r => h O2 σ2 v H2 (s.trans s2) E2 r
end
section
variable {X : Cx} {e a b : Expr} {es : List Expr} {f fa fb : Fe} {d da db : Fd} {fs : Fa} {ds : Fds} {pos : Pos} {st : Stmt} {rest sts sts' : List Stmt} {g h : Fs}
theorem psI {t t' : TS} (h : PS X st t) (w : ∀ D σ H, t' D σ H → t D σ H) : PS X st t' := ⟨fun pins s σ H D I q => h.run pins s σ H D I (w D σ H q)⟩
theorem pssI {t t' : TS} (h : PSs X sts t) (w : ∀ D σ H, t' D σ H → t D σ H) : PSs X sts t' := ⟨fun pins s σ H D I q => h.run pins s σ H D I (w D σ H q)⟩
def sNil' : Fs := fun ρ n => some (.nx ρ n)
def sSeq (g h : Fs) : Fs := fun ρ n => (g ρ n).bind fun o => match o with
  | .nx ρ' n' => h ρ' n'
  | o => some o
theorem ss_nil : EvSs X [] sNil' := pssI pss_nil (by
  rintro D σ H ⟨C, O, ρ, n, out, hf, E, np, q⟩
  cases hf
  exact q O σ H Step.refl.stepS0 E)
theorem ss_cons (h1 : EvS X st g) (h2 : EvSs X rest h) : EvSs X (st :: rest) (sSeq g h) := pssI (pss_cons h1 h2) (by
  rintro D σ H ⟨C, O, ρ, n, out, hf, E, np, q⟩
  unfold sSeq at hf
  obtain ⟨o, e1, hf⟩ := Option.bind_eq_some_iff.mp hf
  refine ⟨C, O, ρ, n, o, e1, E, np, ?_⟩
  cases o with
  | nx ρ' n' => exact fun O' σ' H' s E' => ⟨C, O', ρ', n', out, hf, E', np.step E s, q.after s⟩
  | rt w n' => cases hf; exact q
  | bk ρ' n' => cases hf; exact q
  | rs x ρ' n' => cases hf; exact q)
theorem ss_one (h1 : EvS X st g) : EvSs X [st] g := pss_one h1
def sBrk : Fs := fun ρ n => some (.bk ρ n)
/-! what is handed back -/
theorem Av.any {C : Cn} {O : Ow} : ∀ a, Av C Ow0 a → Av C O a := by
  rintro a (z | z | ⟨i, z⟩)
  · exact .inl z
  · exact .inr (.inl z)
  · cases z
theorem EndRt.toStep {C : Cn} {K : PySem.W.Frag} {H' : Hp} {n' : Nat} {v : V} {w : W} (t0 : TabG C Ow0 C.H0) (r : EndRt C K H' n' v w) : Step C C.H0 H' :=
  ⟨fun a o e n h => r.base a o e fun z => z.elim n fun ⟨q, z⟩ => by
    obtain ⟨⟨ps, e1, _⟩, _⟩ := t0 a q z
    rw [e] at e1
    exact h ⟨q, z⟩ ps (Option.some.inj e1), r.fr, fun P q G h e t => (r.tb P q h).2 G e t⟩
theorem EnvOk.toStep {C : Cn} {O : Ow} {K : PySem.W.Frag} {σ : St} {H' : Hp} {ρ : List W} {n : Nat} (t0 : TabG C Ow0 C.H0) (E : EnvOk C O K σ H' ρ n) : Step C C.H0 H' :=
  ⟨fun a o e n h => E.base a o e fun z => z.elim n fun ⟨q, z⟩ => by
    obtain ⟨⟨ps, e1, _⟩, _⟩ := t0 a q z
    rw [e] at e1
    exact h ⟨q, z⟩ ps (Option.some.inj e1), E.fr, fun P q G h e t => (E.tb P q h).2 G e t⟩
theorem EnvOk.endRt {C : Cn} {O : Ow} {K : PySem.W.Frag} {σ : St} {H H1 : Hp} {ρ : List W} {n n' : Nat} {v : V} {w : W} (E : EnvOk C O K σ H ρ n) (s : Step C H H1) (t : TownAt C H1 n') (r : Res (Av C O) C.T K H H1 v w) : EndRt C K H1 n' v w := by
  have E1 := E.step s t
  refine ⟨E1.base, E1.fr, E1.tb.sub rfl rfl (fun a z => .inl (Av.any a z)), t, (r.av (A' := Av C Ow0) ?_).back E.fr⟩
  rintro a (z | z | ⟨i, z⟩)
  · exact .inl z
  · exact .inr (.inl z)
  · cases z
def sRet (f : Fe) : Fs := fun ρ n => (f ρ n).map fun p => .rt p.1 p.2
theorem ss_ret (ha : EvE X e f) : EvS X (.Return (some e) pos) (sRet f) := psI (ps_ret ha) (by
  rintro D σ H ⟨C, O, ρ, n, out, hf, E, np, q⟩
  unfold sRet at hf
  obtain ⟨⟨w, n1⟩, e1, hf⟩ := Option.map_eq_some_iff.mp hf
  cases hf
  exact ⟨C, O, ρ, n, w, n1, e1, E, fun v H1 s t r => q v H1 (E.endRt s t r)⟩)
def sRetN : Fs := fun _ n => some (.rt (.d .none) n)
/-- a list or dict of one's own -/
def sRetO (i : Nat) : Fs := fun ρ n => match ρ[i]? with
  | some (.ol xs) => some (.rt (.ol xs) n)
  | some (.od xs) => some (.rt (.od xs) n)
  | _ => none
def sDrop (f : Fe) : Fs := fun ρ n => (f ρ n).map fun p => .nx ρ p.2
def sIf (c : Ft) (g h : Fs) : Fs := fun ρ n => (c ρ n).bind fun p => if p.1 then g ρ p.2 else h ρ p.2
theorem ss_if {c : Expr} {tc : Ft} (hc : EvT X c tc) (ha : EvSs X sts g) (hb : EvSs X sts' h) : EvS X (.If c sts sts' pos) (sIf tc g h) := psI (ps_if hc ha hb) (by
  rintro D σ H ⟨C, O, ρ, n, out, hf, E, np, q⟩
  unfold sIf at hf
  obtain ⟨⟨x, n1⟩, e1, hf⟩ := Option.bind_eq_some_iff.mp hf
  refine ⟨C, O, ρ, n, x, n1, e1, E, fun H1 s t => ?_⟩
  cases x with
  | true => exact ⟨C, O, ρ, n1, out, by simpa using hf, E.step s t, np, q.after s.stepS0⟩
  | false => exact ⟨C, O, ρ, n1, out, by simpa using hf, E.step s t, np, q.after s.stepS0⟩)
/-! stores -/
def owSet (O : Ow) (i : Nat) (o : Option Addr) : Ow := fun j => if j = i then o else O j
theorem owSet_at {O : Ow} {i : Nat} {o : Option Addr} : owSet O i o i = o := if_pos rfl
theorem owSet_of {O : Ow} {i j : Nat} {o : Option Addr} (h : j ≠ i) : owSet O i o j = O j := if_neg h
theorem EnvOk.assign {C : Cn} {O : Ow} {K : PySem.W.Frag} {σ : St} {H H1 : Hp} {ρ : List W} {n n' : Nat} {v : V} {w : W} {i : Nat} (E : EnvOk C O K σ H ρ n) (s : Step C H H1) (t : TownAt C H1 n') (r : Res (Av C O) C.T K H H1 v w) :
    ∃ O', EnvOk C O' K (σ.set i (some v)) H1 (ρ.set i w) n' ∧ StepS C O O' H H1 := by
  have E1 := E.step s t
  by_cases hi : i < ρ.length
  · have hj : ∀ j w', (ρ.set i w)[j]? = some w' → (j = i ∧ w' = w) ∨ (j ≠ i ∧ ρ[j]? = some w') := fun j w' e => by
      by_cases h : j = i
      · subst h
        rw [List.getElem?_set_self hi] at e
        cases e
        exact .inl ⟨rfl, rfl⟩
      · rw [List.getElem?_set_ne (Ne.symm h)] at e
        exact .inr ⟨h, e⟩
    have hσ : i < σ.length := by rw [← E.len]; exact hi
    -- the address that is new, if any
    have key : ∀ o : Option Addr, (∀ a, o = some a → H a = none ∧ ¬ TX C a ∧ H1 a ≠ none ∧ ∀ q, H1 a ≠ some (LamX.CodeO a q)) →
        SlOk (Av C (owSet O i o)) C.T C.S K H1 (some (some v)) o (hid (owSet O i o) ρ.length i) w →
        ∃ O', EnvOk C O' K (σ.set i (some v)) H1 (ρ.set i w) n' ∧ StepS C O O' H H1 := by
      intro o ho hw
      have kp : Keep (Av C O) (Av C (owSet O i o)) H H1 := fun a u na r => by
        refine ⟨?_, s.st _ _ r (fun e => na (Av.t _ e))⟩
        rintro (z | z | ⟨j, z⟩)
        · exact na (.inl z)
        · exact na (.inr (.inl z))
        · by_cases h : j = i
          · rw [h, owSet_at] at z
            rw [(ho a z).1] at r; cases r
          · rw [owSet_of h] at z
            exact na (.inr (.inr ⟨j, z⟩))
      refine ⟨owSet O i o, ⟨by simpa using E.len, fun j w' e => ?_, fun j k a h1 h2 => ?_, fun j a h => ?_, t, E1.base, E1.ptr, E1.fr, E1.tk, ?_⟩, s.stepS fun j a h => ?_⟩
      · rw [List.length_set]
        rcases hj j w' e with ⟨rfl, rfl⟩ | ⟨ne, e⟩
        · rw [List.getElem?_set_self hσ, owSet_at]
          exact hw
        · rw [List.getElem?_set_ne (Ne.symm ne), owSet_of ne]
          have q := E.sl j w' e
          cases w' with
          | no => trivial
          | d x => obtain ⟨u, h1, h2⟩ := q; exact ⟨u, h1, h2.mono kp⟩
          | town => exact q
          | ol xs =>
            obtain ⟨a, vs, h1, h2, h3, h4⟩ := q
            exact ⟨a, vs, h1, h2, s.st _ _ h3 (E.own j a h1).1, h4.mono kp⟩
          | od kvs =>
            obtain ⟨a, h1, h2, h3⟩ := q
            exact ⟨a, h1, h2, h3.mono kp fun o e => s.st _ _ e (E.own j a h1).1⟩
          | oll xss =>
            obtain ⟨a, bs, h1, h2, h3, h4⟩ := q
            exact ⟨a, bs, h1, h2, s.st _ _ h3 (E.own j a h1).1, h4.mono kp (fun x hx => owSet_of (by omega)) fun x b u _ h e => s.st _ _ e (E.own _ b h).1⟩
          | fn g => obtain ⟨u, h1, h2⟩ := q; exact ⟨u, h1, h2.mono kp⟩
          | shR now => obtain ⟨u, h1, h2⟩ := q; exact ⟨u, h1, h2.mono kp⟩
          | sh sf now bef lat =>
            obtain ⟨a, h1, h2, hs, h3⟩ := q
            exact ⟨a, h1, h2, hs, h3.mono kp (fun u e => s.st _ _ e (E.own j a h1).1) (fun x hx => owSet_of (by omega)) fun x c u _ h e => s.st _ _ e (E.own _ c h).1⟩
      · by_cases hj : j = i
        · rw [hj, owSet_at] at h1
          by_cases hk : k = i
          · rw [hj, hk]
          · rw [owSet_of hk] at h2
            exact absurd (ho a h1).1 (E.own k a h2).2.2
        · rw [owSet_of hj] at h1
          by_cases hk : k = i
          · rw [hk, owSet_at] at h2
            exact absurd (ho a h2).1 (E.own j a h1).2.2
          · rw [owSet_of hk] at h2
            exact E.inj j k a h1 h2
      · skip
        by_cases hj : j = i
        · rw [hj, owSet_at] at h
          exact ⟨(ho a h).2.1, E.fr a (ho a h).1, (ho a h).2.2.1⟩
        · rw [owSet_of hj] at h
          exact E1.own j a h
      · skip
        refine E1.tb.sub rfl rfl ?_
        rintro b (z | z | ⟨j, z⟩)
        · exact .inl (.inl z)
        · exact .inl (.inr (.inl z))
        · by_cases h : j = i
          · rw [h, owSet_at] at z; exact .inr (ho b z).2.2.2
          · rw [owSet_of h] at z; exact .inl (.inr (.inr ⟨j, z⟩))
      · skip
        by_cases hj : j = i
        · rw [hj, owSet_at] at h
          exact .inr (ho a h).1
        · rw [owSet_of hj] at h
          exact .inl ⟨j, h⟩
    have avn : ∀ b, Av C (owSet O i none) b → Av C O b := by
      rintro b (z | z | ⟨j, z⟩)
      · exact .inl z
      · exact .inr (.inl z)
      · by_cases h : j = i
        · rw [h, owSet_at] at z; cases z
        · rw [owSet_of h] at z; exact .inr (.inr ⟨j, z⟩)
    have avs : ∀ a b, Av C (owSet O i (some a)) b → Av C O b ∨ b = a := by
      rintro a b (z | z | ⟨j, z⟩)
      · exact .inl (.inl z)
      · exact .inl (.inr (.inl z))
      · by_cases h : j = i
        · rw [h, owSet_at] at z; cases z; exact .inr rfl
        · rw [owSet_of h] at z; exact .inl (.inr (.inr ⟨j, z⟩))
    cases w with
    | no => exact False.elim r
    | d x => exact key none (fun a e => by cases e) ⟨v, rfl, Dv.mono (fun a u na r => ⟨fun z => na (avn a z), r⟩) r⟩
    | town =>
      obtain ⟨a, h1, h2⟩ := r
      exact key none (fun a e => by cases e) ⟨a, h1, by rw [h2]⟩
    | ol xs =>
      obtain ⟨a, vs, h1, h2, h3, h4⟩ := r
      subst h1
      exact key (some a) (fun b e => by cases e; exact ⟨h2, fun z => E.ta a z h2, by rw [h3]; simp, fun q z => codeO_lst (Option.some.inj (h3.symm.trans z))⟩) ⟨a, vs, rfl, rfl, h3, h4.mono fun b u nb r => ⟨fun z => nb (avs a b z), r⟩⟩
    | oll _ => exact False.elim r
    | fn g => exact key none (fun a e => by cases e) ⟨v, rfl, FnV.mono r (fun a u na r => ⟨fun z => na (avn a z), r⟩)⟩
    | shR _ => exact key none (fun a e => by cases e) ⟨v, rfl, ShV.mono r (fun a u na r => ⟨fun z => na (avn a z), r⟩)⟩
    | sh _ _ _ _ => exact False.elim r
    | od kvs =>
      obtain ⟨a, h1, h2, h3⟩ := r
      subst h1
      exact key (some a) (fun b e => by cases e; exact ⟨h2, fun z => E.ta a z h2, h3.there, h3.nc⟩) ⟨a, rfl, rfl, h3.mono (fun b u nb r => ⟨fun z => nb (avs a b z), r⟩) fun o e => e⟩
  · have e1 : ρ.set i w = ρ := List.set_eq_of_length_le (by omega)
    have e2 : σ.set i (some v) = σ := List.set_eq_of_length_le (by rw [← E.len]; omega)
    rw [e1, e2]
    exact ⟨O, E1, s.stepS0⟩
def sSet (i : Nat) (f : Fe) : Fs := fun ρ n => (f ρ n).map fun p => .nx (ρ.set i p.1) p.2
theorem ss_set {i : Nat} {x : Str} {pos' : Pos} (hN : X.N.Nodup) (hi : X.N[i]? = some x) (hx : Loc X.env.scope x) (ha : EvE X e f) (hs : swapsWith e (some (.Name x pos')) pos.line X.env = pure false := by rfl) (hf : X.fn x = true ∨ X.env.scope.names.lookup x = some .local := by first | exact .inl rfl | exact .inr rfl | assumption) :
    EvS X (.Assign [.Name x pos'] e pos) (sSet i f) := psI (ps_set hN hi hx ha hs hf) (by
  rintro D σ H ⟨C, O, ρ, n, out, hf, E, np, q⟩
  unfold sSet at hf
  obtain ⟨⟨w, n1⟩, e1, hf⟩ := Option.map_eq_some_iff.mp hf
  cases hf
  refine ⟨C, O, ρ, n, w, n1, e1, E, fun v H1 s t r => ?_⟩
  obtain ⟨O', E', s'⟩ := E.assign (i := i) s t r
  exact q O' _ H1 s' E')
end
end L2.Lv
namespace L2.Lv
open PySem PySem.Spec PyProof.Rows
def big : Nat := 16777216
theorem big_eq : sizeLine = big := sizeLine_eq
section
variable {C : Cn} {O : Ow} {K : PySem.W.Frag} {σ : St} {H H1 : Hp} {ρ : List W} {n n' i : Nat} {v : V} {w' : W} {a : Addr} {o : HO}
/-- an object of one's own is changed -/
theorem EnvOk.write (E : EnvOk C O K σ H ρ n) (hi : i < ρ.length) (ho : O i = some a) (hw : SlOk (Av C O) C.T C.S K (upd H a o) σ[i]? (some a) (hid O ρ.length i) w') : EnvOk C O K σ (upd H a o) (ρ.set i w') n ∧ StepS C O O H (upd H a o) := by
  have hav : Av C O a := .inr (.inr ⟨i, ho⟩)
  obtain ⟨t1, t2, t3⟩ := E.own i a ho
  have kp : Keep (Av C O) (Av C O) H (upd H a o) := fun b u nb r => by
    have ne : b ≠ a := fun e => nb (by rw [e]; exact hav)
    exact ⟨nb, by rw [upd_ne ne]; exact r⟩
  have nn : ∀ b, upd H a o b = none → H b = none := fun b e => by
    by_cases h : b = a
    · rw [h, upd_same] at e; cases e
    · rw [upd_ne h] at e; exact e
  refine ⟨⟨by simpa using E.len, fun j w e => ?_, E.inj, fun j b h => ⟨(E.own j b h).1, (E.own j b h).2.1, fun e => (E.own j b h).2.2 (nn b e)⟩, fun b e => ?_, fun b u h t => ?_, fun b h e => E.ptr b h (nn b e), fun b e => E.fr b (nn b e), E.tk, ?_⟩, fun b u e t no => ?_, nn, fun j b h => .inl ⟨j, h⟩⟩
  · rw [List.length_set]
    by_cases h : j = i
    · subst h
      by_cases hl : j < ρ.length
      · rw [List.getElem?_set_self hl] at e
        cases e
        rw [ho]
        exact hw
      · rw [List.getElem?_eq_none (by simpa using hl)] at e; cases e
    · rw [List.getElem?_set_ne (Ne.symm h)] at e
      have q := E.sl j w e
      cases w with
      | no => trivial
      | d x => obtain ⟨u, h1, h2⟩ := q; exact ⟨u, h1, h2.mono kp⟩
      | town => exact q
      | ol xs =>
        obtain ⟨b, vs, h1, h2, h3, h4⟩ := q
        have ne : b ≠ a := fun e => h (E.inj j i b h1 (by rw [ho, e]))
        exact ⟨b, vs, h1, h2, by rw [upd_ne ne]; exact h3, h4.mono kp⟩
      | od kvs =>
        obtain ⟨b, h1, h2, h3⟩ := q
        have ne : b ≠ a := fun e => h (E.inj j i b h1 (by rw [ho, e]))
        exact ⟨b, h1, h2, h3.mono kp fun u e => by rw [upd_ne ne]; exact e⟩
      | oll xss =>
        obtain ⟨b, bs, h1, h2, h3, h4⟩ := q
        have ne : b ≠ a := fun e => h (E.inj j i b h1 (by rw [ho, e]))
        exact ⟨b, bs, h1, h2, by rw [upd_ne ne]; exact h3, h4.mono kp (fun _ _ => rfl) fun x c u hx g e => by
          have ne : c ≠ a := fun e => by
            have := E.inj _ i c g (by rw [ho, e])
            omega
          rw [upd_ne ne]; exact e⟩
      | fn g => obtain ⟨u, h1, h2⟩ := q; exact ⟨u, h1, h2.mono kp⟩
      | shR now => obtain ⟨u, h1, h2⟩ := q; exact ⟨u, h1, h2.mono kp⟩
      | sh sf now bef lat =>
        obtain ⟨b, h1, h2, hs, h3⟩ := q
        have ne : b ≠ a := fun e => h (E.inj j i b h1 (by rw [ho, e]))
        exact ⟨b, h1, h2, hs, h3.mono kp (fun u e => by rw [upd_ne ne]; exact e) (fun _ _ => rfl) fun x c u hx g e => by
          have ne : c ≠ a := fun e => by
            have := E.inj _ i c g (by rw [ho, e])
            omega
          rw [upd_ne ne]; exact e⟩
  · rw [upd_ne (fun z => t1 (.inl (by rw [← z]; exact e)))]
    exact E.town b e
  · rw [upd_ne (fun z => by rw [z, t2] at h; cases h)]
    exact E.base b u h t
  · exact E.tb.to rfl rfl (fun b u nb r => (kp b u nb r).2) (fun b q h => upd_ne fun z => t1 (.inr ⟨q, by rw [← z]; exact h⟩)) fun b z => .inl z
  · rw [upd_ne (fun z => no i (by rw [z]; exact ho))]
    exact e
theorem keep_upd (hav : Av C O a) : Keep (Av C O) (Av C O) H (upd H a o) := fun b u nb r => by
  have ne : b ≠ a := fun e => nb (by rw [e]; exact hav)
  exact ⟨nb, by rw [upd_ne ne]; exact r⟩
end
section
variable {X : Cx} {e a b : Expr} {es : List Expr} {f fa fb : Fe} {d da db : Fd} {fs : Fa} {ds : Fds} {pos : Pos} {st : Stmt} {rest sts sts' : List Stmt} {g h : Fs}
/-! x.append(e) -/
def sApp (i : Nat) (f : Fe) : Fs := fun ρ n => (f ρ n).bind fun p => p.1.frz.val.bind fun x => match ρ[i]? with
  | some (.ol xs) => if xs.length < big then some (.nx (ρ.set i (.ol (xs ++ [x]))) p.2) else none
  | _ => none
theorem Res.val {A : Addr → Prop} {T : Option Addr} {K : PySem.W.Frag} {H H' : Hp} {v : V} {w : W} {x : PyData} (h : Res A T K H H' v w) (e : w.val = some x) : Dv A K H' v x := by
  cases w with
  | d y => cases e; exact h
  | _ => cases e
theorem ss_append {i : Nat} {p2 p3 : Pos} (hb : PE X b (tVar i)) (ha : EvE X e f) (hbase : attributeBase b "append" X.env (eval b X.env) = eval b X.env := by rfl)
    (hfew : ((backTo p3 (starEach [e] X.env)).all (fun x => !x.1) && (backToKw p3 (keywordEach [] X.env)).all (fun x => x.1.isSome)
      && decide ([e].length + ([] : List Keyword).length + (if ([] : List Keyword).isEmpty then 0 else 1) < 30)) = true := by rfl)
    (hline : (p2.endLine == p3.line) = true := by rfl) (hs : starEach [e] X.env = (false, eval e X.env) :: starEach [] X.env := by rfl)
    (hsw : swapsWith (.Call (.Attribute b "append" p2) [e] [] p3) none pos.line X.env = pure false := by rfl) :
    EvS X (.Expr (.Call (.Attribute b "append" p2) [e] [] p3) pos) (sApp i f) := psI (ps_expr (pe_bm PySem.F.plainAttrs_list PySem.F.slot_list_append PySem.F.type_list_append mt_append hb (pa_cons ha pa_nil hs) hbase hfew hline hs rfl) hsw) (by
  rintro D σ H ⟨C, O, ρ, n, out, hf, E, np, q⟩
  unfold sApp at hf
  obtain ⟨⟨w, n1⟩, e1, hf⟩ := Option.bind_eq_some_iff.mp hf
  obtain ⟨x, e2, hf⟩ := Option.bind_eq_some_iff.mp hf
  split at hf
  · rename_i xs hx
    split at hf
    · rename_i hz
      cases hf
      obtain ⟨l, vs, h1, h2, h3, h4⟩ := E.sl _ _ hx
      refine ⟨_, h2, .inl ⟨rfl, vs, SqL.of h3⟩, C, O, ρ, n, w, n1, e1, E, fun v H1 s t r => ?_⟩
      have E1 := E.step s t
      have h3' : H1 l = some (.lst vs) := s.st _ _ h3 (E.own i l h1).1
      have r' : Dv (Av C O) X.K H1 v x := (r.frz E.av).val e2
      refine ⟨l, vs, v, rfl, rfl, h3', by rw [h4.length, big_eq]; exact hz, ?_⟩
      have hav : Av C O l := .inr (.inr ⟨i, h1⟩)
      obtain ⟨E2, s2⟩ := E1.write (o := .lst (vs ++ [v])) (w' := .ol (xs ++ [x])) (lt_of_get (by assumption)) h1 ⟨l, vs ++ [v], rfl, h2, upd_same, ((h4.mono (s.keep Av.t)).append (.cons r' .nil)).mono (keep_upd hav)⟩
      exact q O σ _ (s.stepS0.trans s2) E2
    · cases hf
  · cases hf)
/-- the town grows -/
def sTown (i : Nat) : Fs := fun ρ n => match ρ[i]? with
  | some .town => if n < big then some (.nx ρ (n + 1)) else none
  | _ => none
theorem ss_town {i : Nat} {j : Nat} {p2 p3 p4 : Pos} (hb : PE X b (tVar i)) (hbase : attributeBase b "append" X.env (eval b X.env) = eval b X.env := by rfl)
    (hfew : ((backTo p3 (starEach [.Constant (.int 0) j p4] X.env)).all (fun x => !x.1) && (backToKw p3 (keywordEach [] X.env)).all (fun x => x.1.isSome)
      && decide ([Expr.Constant (.int 0) j p4].length + ([] : List Keyword).length + (if ([] : List Keyword).isEmpty then 0 else 1) < 30)) = true := by rfl)
    (hline : (p2.endLine == p3.line) = true := by rfl)
    (hsw : swapsWith (.Call (.Attribute b "append" p2) [.Constant (.int 0) j p4] [] p3) none pos.line X.env = pure false := by rfl) :
    EvS X (.Expr (.Call (.Attribute b "append" p2) [.Constant (.int 0) j p4] [] p3) pos) (sTown i) := psI (ps_expr (pe_bm PySem.F.plainAttrs_list PySem.F.slot_list_append PySem.F.type_list_append mt_append hb (pa_cons pe_int pa_nil) hbase hfew hline rfl rfl) hsw) (by
  rintro D σ H ⟨C, O, ρ, n, out, hf, E, np, q⟩
  unfold sTown at hf
  split at hf
  · rename_i hx
    split at hf
    · rename_i hz
      cases hf
      obtain ⟨l, h1, h2⟩ := E.sl _ _ hx
      have h3 := E.town l h1
      refine ⟨_, h2, .inl ⟨rfl, _, SqL.of h3⟩, ?_⟩
      refine ⟨l, _, .int 0, rfl, rfl, h3, by rw [List.length_replicate, big_eq]; exact hz, ?_⟩
      have ne : ∀ b, b ≠ l → upd H l (.lst (List.replicate n (V.int 0) ++ [.int 0])) b = H b := fun b hb => upd_ne hb
      have st : Step C H (upd H l (.lst (List.replicate n (V.int 0) ++ [.int 0]))) := ⟨fun b o e t _ => by rw [ne b (fun z => t (by rw [z]; exact h1))]; exact e, (fun b e => by
        by_cases hb : b = l
        · rw [hb, upd_same] at e; cases e
        · rw [ne b hb] at e; exact e), fun P q G _ _ t => t.go (fun ps e => by rw [ne P (fun z => by rw [z, h3] at e; cases e)]; exact e) fun c n e => ⟨n, by rw [ne c (fun z => by rw [z, h3] at e; exact codeO_lst (Option.some.inj e))]; exact e⟩⟩
      have tw : TownAt C (upd H l (.lst (List.replicate n (V.int 0) ++ [.int 0]))) (n + 1) := fun b e => by
        have : b = l := Option.some.inj (e.symm.trans h1)
        rw [this, upd_same, List.replicate_succ']
      exact q O σ _ st.stepS0 (E.step st tw)
    · cases hf
  · cases hf)
/-- x.extend(a new list) -/
def sExt (i : Nat) (f : Fe) : Fs := fun ρ n => (f ρ n).bind fun p => match p.1, ρ[i]? with
  | .ol ys, some (.ol xs) => if xs.length + ys.length ≤ big then some (.nx (ρ.set i (.ol (xs ++ ys))) p.2) else none
  | _, _ => none
/-- x.insert(k, e) -/
def sIns (i : Nat) (d : Fd) (f : Fe) : Fs := fun ρ n => (d ρ n).bind fun k => (f ρ k.2).bind fun p => p.1.frz.val.bind fun x => match k.1, ρ[i]? with
  | .int z, some (.ol xs) => if xs.length < big ∧ 0 ≤ z ∧ z ≤ xs.length then some (.nx (ρ.set i (.ol (xs.take z.toNat ++ x :: xs.drop z.toNat))) p.2) else none
  | _, _ => none
/-! x[k] = e -/
def sSetIx (i : Nat) (d : Fd) (f : Fe) : Fs := fun ρ n => (f ρ n).bind fun p => p.1.frz.val.bind fun x => (d ρ p.2).bind fun k => match k.1, ρ[i]? with
  | .int z, some (.ol xs) => (ixN xs.length z).map fun j => .nx (ρ.set i (.ol (xs.set j x))) k.2
  | _, _ => none
theorem ss_setix {i : Nat} {p1 : Pos} (hb : PE X a (tVar i)) (hk : EvB X b d) (ha : EvE X e f)
    (hset : ∀ v, assign (.Subscript a b p1) X.env v = (do
      let ov ← holding [v] (eval a X.env)
      let iv ← holding [v, ov] (eval b X.env)
      standAt p1
      holding [v, ov, iv] (setItem ov iv v)
      release [v, ov, iv] []) := by intro _; rfl)
    (hs : swapsWithSole [.Subscript a b p1] e pos.line X.env = pure false := by rfl) (hw : swappedStores [.Subscript a b p1] e X.env = pure none := by rfl)
    (h1 : (assignEach [.Subscript a b p1] X.env).map (·.2) = [assign (.Subscript a b p1) X.env] := by rfl) :
    EvS X (.Assign [.Subscript a b p1] e pos) (sSetIx i d f) := psI (ps_asg ha (pg_sub hb hk set_list hset) hs hw h1) (by
  rintro D σ H ⟨C, O, ρ, n, out, hf, E, np, q⟩
  unfold sSetIx at hf
  obtain ⟨⟨w, n1⟩, e1, hf⟩ := Option.bind_eq_some_iff.mp hf
  obtain ⟨x, e2, hf⟩ := Option.bind_eq_some_iff.mp hf
  obtain ⟨⟨k, n2⟩, e3, hf⟩ := Option.bind_eq_some_iff.mp hf
  simp only at hf
  split at hf
  · rename_i z xs hx
    obtain ⟨j, e4, hf⟩ := Option.map_eq_some_iff.mp hf
    cases hf
    refine ⟨C, O, ρ, n, w, n1, e1, E, fun v H1 s t r => ?_⟩
    have E1 := E.step s t
    obtain ⟨l, vs, h1, h2, h3, h4⟩ := E1.sl _ _ hx
    refine ⟨_, h2, C, O, ρ, n1, _, n2, e3, E1, fun u H2 s2 t2 r2 => ?_⟩
    have E2 := E1.step s2 t2
    have r' : Dv (Av C O) X.K H2 v x := ((r.frz E.av).val e2).mono (s2.keep Av.t)
    have h3' : H2 l = some (.lst vs) := s2.st _ _ h3 (E.own i l h1).1
    refine ⟨l, vs, z, j, rfl, r2.int, h3', by rw [h4.length]; exact e4, ?_⟩
    have hav : Av C O l := .inr (.inr ⟨i, h1⟩)
    obtain ⟨E3, s3⟩ := E2.write (o := .lst (vs.set j v)) (w' := .ol (xs.set j x)) (lt_of_get (by assumption)) h1 ⟨l, vs.set j v, rfl, h2, upd_same, ((h4.mono (s2.keep Av.t)).set j r').mono (keep_upd hav)⟩
    exact q O σ _ ((s.trans s2).stepS0.trans s3) E3
  · cases hf)
/-! targets -/
abbrev Fg := PyData → List W → Option (List W)
def setV : List Nat → List V → St → St
  | i :: is, v :: vs, σ => setV is vs (σ.set i (some v))
  | _, _, σ => σ
def setD : List Nat → List PyData → List W → Option (List W)
  | [], [], ρ => some ρ
  | i :: is, x :: xs, ρ => setD is xs (ρ.set i (.d x))
  | _, _, _ => none
/-- one name, or several -/
def gOne (i : Nat) : Fg := fun x ρ => some (ρ.set i (.d x))
def gMany (is : List Nat) : Fg := fun x ρ => match x with
  | .tuple xs => setD is xs ρ
  | _ => none
/-- what a walk gives out: data, or (p) a new pair -/
def DvI (p : Bool) (A : Addr → Prop) (K : PySem.W.Frag) (H : Hp) (v : V) (x : PyData) : Prop := Dv A K H v x ∨ (p = true ∧ ∃ a vs ds, v = .ref a ∧ x = .tuple ds ∧ SqT K H a vs ∧ DvAll A K H vs ds)
theorem DvI.dv {A : Addr → Prop} {K : PySem.W.Frag} {H : Hp} {v : V} {x : PyData} (h : DvI false A K H v x) : Dv A K H v x := h.elim id fun z => nomatch z.1
def tVG (p : Bool) (K : PySem.W.Frag) (is : List Nat) (g : Fg) : TG := fun v σ H Q => ∃ C O ρ n x ρ', g x ρ = some ρ' ∧ EnvOk C O K σ H ρ n ∧ DvI p (Av C O) K H v x ∧
  ∀ O' vs, StepS C O O' H H → EnvOk C O' K (setV is vs σ) H ρ' n → Q (setV is vs σ) H
def tVGs (K : PySem.W.Frag) (is : List Nat) : TGs := fun vs σ H Q => ∃ C O ρ n xs ρ', setD is xs ρ = some ρ' ∧ EnvOk C O K σ H ρ n ∧ DvAll (Av C O) K H vs xs ∧
    ∀ O' us, StepS C O O' H H → EnvOk C O' K (setV is us σ) H ρ' n → Q (setV is us σ) H
abbrev EvG (X : Cx) (p : Bool) (e : Expr) (is : List Nat) (g : Fg) : Prop := PG X e (tVG p X.K is g)
structure EvGs (X : Cx) (es : List Expr) (is : List Nat) : Prop where
  ex : PGs X es (tVGs X.K is)
  len : is.length = es.length
theorem pgI {t t' : TG} (h : PG X e t) (w : ∀ v σ H Q, t' v σ H Q → t v σ H Q) : PG X e t' := ⟨fun pins s σ H v u Q I r q => h.run pins s σ H v u Q I r (w v σ H Q q)⟩
theorem pgsI {t t' : TGs} (h : PGs X es t) (w : ∀ v σ H Q, t' v σ H Q → t v σ H Q) : PGs X es t' := ⟨fun pins s σ H v u Q I r q => h.run pins s σ H v u Q I r (w v σ H Q q)⟩
theorem eg_one {i : Nat} {x : Str} {p : Pos} (hg : PG X (.Name x p) (gName i)) : EvG X false (.Name x p) [i] (gOne i) := pgI hg (by
  rintro v σ H Q ⟨C, O, ρ, n, x, ρ', hf, E, r, q⟩
  cases hf
  obtain ⟨O', E', s'⟩ := E.assign (i := i) (w := .d x) (v := v) (n' := n) (H1 := H) Step.refl E.town r.dv
  exact q O' [v] s' E')
theorem egs_nil : EvGs X [] [] := ⟨pgsI pgs_nil (by
  rintro vs σ H Q ⟨C, O, ρ, n, xs, ρ', hf, E, r, q⟩
  cases r with
  | nil =>
    cases hf
    exact ⟨rfl, q O [] Step.refl.stepS0 E⟩
  | cons r1 r2 => cases hf), rfl⟩
theorem egs_cons {i : Nat} {is : List Nat} {x : Str} {p : Pos} (hg : PG X (.Name x p) (gName i)) (hr : EvGs X es is) (hs : (assignEach (.Name x p :: es) X.env).map (·.2) = assign (.Name x p) X.env :: (assignEach es X.env).map (·.2) := by rfl) : EvGs X (.Name x p :: es) (i :: is) := by
  refine ⟨pgsI (pgs_cons hg hr.ex hs) ?_, by simp [hr.len]⟩
  rintro vs σ H Q ⟨C, O, ρ, n, xs, ρ', hf, E, r, q⟩
  cases r with
  | nil => cases hf
  | cons r1 r2 =>
    rename_i v vs' x xs'
    refine ⟨v, vs', rfl, ?_⟩
    obtain ⟨O1, E1, s1⟩ := E.assign (i := i) (w := .d x) (v := v) (n' := n) (H1 := H) Step.refl E.town r1
    exact ⟨C, O1, _, n, xs', ρ', hf, E1, r2.mono s1.keep, fun O' us s2 E2 => q O' (v :: us) (s1.trans s2) E2⟩
theorem setD_len : ∀ {is : List Nat} {xs : List PyData} {ρ ρ' : List W}, setD is xs ρ = some ρ' → xs.length = is.length
  | [], [], _, _, _ => rfl
  | [], _ :: _, _, _, h => by cases h
  | _ :: _, [], _, _, h => by cases h
  | i :: is, x :: xs, ρ, ρ', h => by
    have := setD_len (is := is) (xs := xs) h
    simp [this]
theorem eg_many {p : Bool} {k : Nat} {is : List Nat} (hc : X.calm = true) (h : EvGs X es is) (hn : (assignEach es X.env).length = es.length := by rfl) (hst : (assignEach es X.env).findIdx? (·.1) = none := by rfl) : EvG X p (.Tuple es k pos) is (gMany is) := pgI (pg_tup hc h.ex hn hst) (by
  rintro v σ H Q ⟨C, O, ρ, n, x, ρ', hf, E, r, q⟩
  have key : ∀ a vs ds, v = .ref a → x = .tuple ds → SqT X.K H a vs → DvAll (Av C O) X.K H vs ds → gTup X.K es.length (tVGs X.K is) v σ H Q := by
    rintro a vs ds rfl rfl r1 r2
    refine ⟨a, vs, rfl, r1, ?_, C, O, ρ, n, ds, ρ', hf, E, r2, q⟩
    rw [r2.length, setD_len hf, h.len]
  cases x with
  | tuple xs =>
    rcases r with r | ⟨_, a, vs, ds, h1, h2, h3, h4⟩
    · obtain ⟨a, vs, h1, r1, r2, _⟩ := DvB.tup (T := none) (.inl r)
      exact key a vs xs h1 rfl r1 r2
    · exact key a vs ds h1 h2 h3 h4
  | _ => cases hf)
/-- target = value -/
def sAsg (g : Fg) (f : Fe) : Fs := fun ρ n => (f ρ n).bind fun p => p.1.frz.val.bind fun x => (g x ρ).map fun ρ' => .nx ρ' p.2
theorem ss_asg {tg : Expr} {is : List Nat} {g : Fg} (ha : EvE X e f) (hg : EvG X false tg is g) (hs : swapsWithSole [tg] e pos.line X.env = pure false := by rfl) (hw : swappedStores [tg] e X.env = pure none := by rfl)
    (h1 : (assignEach [tg] X.env).map (·.2) = [assign tg X.env] := by rfl) : EvS X (.Assign [tg] e pos) (sAsg g f) := psI (ps_asg ha hg hs hw h1) (by
  rintro D σ H ⟨C, O, ρ, n, out, hf, E, np, q⟩
  unfold sAsg at hf
  obtain ⟨⟨w, n1⟩, e1, hf⟩ := Option.bind_eq_some_iff.mp hf
  obtain ⟨x, e2, hf⟩ := Option.bind_eq_some_iff.mp hf
  obtain ⟨ρ', e3, hf⟩ := Option.map_eq_some_iff.mp hf
  cases hf
  exact ⟨C, O, ρ, n, w, n1, e1, E, fun v H1 s t r => ⟨C, O, ρ, n1, x, ρ', e3, E.step s t, .inl ((r.frz E.av).val e2), fun O' vs s' E' => q O' _ H1 (s.stepS0.trans s') E'⟩⟩)
/-- a, b = x, y -/
def sPar (i j : Nat) (fs : Fa) : Fs := fun ρ n => (fs ρ n).bind fun p => match p.1 with
  | [w, w'] => some (.nx ((ρ.set i w).set j w') p.2)
  | _ => none
/-! what is walked -/
abbrev Fi := List W → Nat → Option (List PyData × Nat)
/-- it walks xs, as long as what A leaves out stands -/
def ItOk (p : Bool) (K : PySem.W.Frag) (J : It) (xs : List PyData) (A B : Addr → Prop) (H1 : Hp) : Prop :=
  ∀ H2, (∀ a o, H1 a = some o → ¬ A a → H2 a = some o) → (∀ a, H2 a = none → H1 a = none) →
    (∀ i x, xs[i]? = some x → J.go i H2 ∧ ∀ v H', J.yld i H2 v H' → Grow H2 H' ∧ ∀ B', Keep B B' H1 H2 → (∀ a, B' a → H2 a ≠ none) → DvI p B' K H' v x) ∧ J.stop xs.length H2
/-- of a for: what is walked is not ours -/
def tVI (p : Bool) (K : PySem.W.Frag) (f : Fi) : TI := fun σ H R => ∃ C O ρ n xs n', f ρ n = some (xs, n') ∧ EnvOk C O K σ H ρ n ∧ ∀ J H', Step C H H' → TownAt C H' n' → ItOk p K J xs (Av C O) (Av C O) H' → R J H'
/-- of a comprehension -/
def tVJ (p : Bool) (K : PySem.W.Frag) (f : Fi) : TI := fun σ H R => ∃ C O ρ n xs n', f ρ n = some (xs, n') ∧ EnvOk C O K σ H ρ n ∧ ∀ J H', Step C H H' → TownAt C H' n' → ItOk p K J xs (TX C) (Av C O) H' → R J H'
abbrev EvI (X : Cx) (p : Bool) (tg e : Expr) (f : Fi) : Prop := PI X tg e (tVI p X.K f)
abbrev EvJ (X : Cx) (p : Bool) (tg e : Expr) (f : Fi) : Prop := PI X tg e (tVJ p X.K f)
theorem piI {tg : Expr} {t t' : TI} (h : PI X tg e t) (w : ∀ σ H R, t' σ H R → t σ H R) : PI X tg e t' := ⟨fun pins s σ H R I q => h.run pins s σ H R I (w σ H R q)⟩
theorem ItOk.less {p : Bool} {K : PySem.W.Frag} {J : It} {xs : List PyData} {A A' B : Addr → Prop} {H1 : Hp} (i : ∀ a, A' a → A a) (h : ItOk p K J xs A B H1) : ItOk p K J xs A' B H1 := fun H2 k f => h H2 (fun a o e n => k a o e fun z => n (i a z)) f
theorem ej_of {p : Bool} {tg : Expr} {f : Fi} (h : EvI X p tg e f) : EvJ X p tg e f := piI h (by
  rintro σ H R ⟨C, O, ρ, n, xs, n', hf, E, q⟩
  exact ⟨C, O, ρ, n, xs, n', hf, E, fun J H' s t k => q J H' s t (k.less Av.t)⟩)
def iSeq : PyData → Option (List PyData)
  | .list xs => some xs
  | .tuple xs => some xs
  | _ => none
def iOf (d : Fd) : Fi := fun ρ n => (d ρ n).bind fun p => (iSeq p.1).map (·, p.2)
/-- a list or a tuple -/
def iLT (K : PySem.W.Frag) (tl : TE) : TI := fun σ H R => tl σ H fun x H1 => ∃ a, x = .ref a ∧ (((∃ xs, SqL K H1 a xs) ∧ R (Itl K a) H1) ∨ ((∃ xs, SqT K H1 a xs) ∧ R (Itt K a) H1))
theorem pi_seq {tg : Expr} {tl : TE} (hl : PE X e tl) : PI X tg e (iLT X.K tl) := by
  refine ⟨fun pins s σ H R I h => thn (hl.run pins s σ H _ I h) fun v s1 ⟨x, H1, I1, r1, q1⟩ => ?_⟩
  obtain ⟨a, hx, q⟩ := q1
  subst hx
  have hv : v = Value.ref a := r1
  subst hv
  have young : ∀ b ∈ [s1.heap.objs.size], FpOk X pins H1 b := fun b hb => by
    rw [List.mem_singleton.mp hb]
    exact I1.fpOk (Nat.le_refl _) (I1.hok.fresh (Nat.le_refl _))
  rcases q with ⟨⟨xs, hq⟩, q⟩ | ⟨⟨xs, hq⟩, q⟩
  · obtain ⟨its, _, p, _⟩ := I1.list hq
    exact wpAny_pyIter_list p.isList ⟨_, _, _, _, H1, rfl, I1.kept (t' := s1.toks) fun b o e => Heap.get?_push_of_some _ e, turn_list a _, ⟨_, Heap.get?_push_size _ rfl, rfl, rfl⟩, young, q⟩
  · obtain ⟨its, _, p, _⟩ := I1.tuple hq
    exact wpAny_pyIter_tuple (items := its.toArray) p ⟨_, _, _, _, H1, rfl, I1.kept (t' := s1.toks) fun b o e => Heap.get?_push_of_some _ e, turn_tuple a _, ⟨_, Heap.get?_push_size _ rfl, rfl, rfl⟩, young, q⟩
section
variable {K : PySem.W.Frag} {A B : Addr → Prop} {H H1 H2 : Hp} {vs : List V} {xs : List PyData} {l : Addr}
theorem it_list (hs : (¬ A l ∧ Rd H1 l (.lst vs)) ∨ SqL K Hz l vs) (hd : DvAll B K H1 vs xs) : ItOk false K (Itl K l) xs A B H1 := fun H2 k f => by
  have h2 : SqL K H2 l vs := hs.elim (fun ⟨na, r⟩ => .inl (r.imp (fun z => k _ _ z na) fun ⟨o, z⟩ => ⟨o, k _ _ z na⟩)) sqLz
  refine ⟨fun i x hx => ?_, vs, h2, by rw [hd.length]; exact Nat.le_refl _⟩
  obtain ⟨v, e1, e2⟩ := hd.get hx
  refine ⟨⟨vs, v, h2, e1⟩, ?_⟩
  rintro v' H' ⟨rfl, y⟩
  refine ⟨Grow.refl, fun B' kp _ => ?_⟩
  have := y vs h2
  rw [e1] at this
  cases this
  exact .inl (e2.mono kp)
theorem it_tup (hs : (¬ A l ∧ Rd H1 l (.tup vs)) ∨ SqT K Hz l vs) (hd : DvAll B K H1 vs xs) : ItOk false K (Itt K l) xs A B H1 := fun H2 k f => by
  have h2 : SqT K H2 l vs := hs.elim (fun ⟨na, r⟩ => .inl (r.imp (fun z => k _ _ z na) fun ⟨o, z⟩ => ⟨o, k _ _ z na⟩)) sqTz
  refine ⟨fun i x hx => ?_, vs, h2, by rw [hd.length]; exact Nat.le_refl _⟩
  obtain ⟨v, e1, e2⟩ := hd.get hx
  refine ⟨⟨vs, v, h2, e1⟩, ?_⟩
  rintro v' H' ⟨rfl, y⟩
  refine ⟨Grow.refl, fun B' kp _ => ?_⟩
  have := y vs h2
  rw [e1] at this
  cases this
  exact .inl (e2.mono kp)
end
/-- walked data, kept for ever -/
def iVal (f : Fe) : Fi := fun ρ n => (f ρ n).bind fun p => p.1.frz.val.bind fun x => (iSeq x).map (·, p.2)
theorem ei_seq {tg : Expr} (h : EvE X e f) : EvI X false tg e (iVal f) := piI (pi_seq h) (by
  rintro σ H R ⟨C, O, ρ, n, xs, n', hf, E, q⟩
  unfold iVal at hf
  obtain ⟨⟨w, n1⟩, e1, hf⟩ := Option.bind_eq_some_iff.mp hf
  obtain ⟨x, e2, hf⟩ := Option.bind_eq_some_iff.mp hf
  obtain ⟨ys, e3, hf⟩ := Option.map_eq_some_iff.mp hf
  cases hf
  refine ⟨C, O, ρ, n, w, n1, e1, E, fun v H1 s t r => ?_⟩
  have r' : Dv (Av C O) X.K H1 v x := (r.frz E.av).val e2
  cases x with
  | list zs =>
    cases e3
    cases r' with
    | lst hs ha => exact ⟨_, rfl, .inl ⟨⟨_, hs.elim (fun z => .inl z.2) sqLz⟩, q _ H1 s t (it_list hs ha)⟩⟩
  | tuple zs =>
    cases e3
    cases r' with
    | tup hs ha => exact ⟨_, rfl, .inr ⟨⟨_, sqT_of hs⟩, q _ H1 s t (it_tup (hs.imp (fun z => ⟨z.1, let ⟨o, z, _⟩ := z.2; .inr ⟨o, z⟩⟩) (·.1)) ha)⟩⟩
  | _ => cases e3)
/-- in a comprehension a list of one's own may be walked -/
theorem ej_seq {tg : Expr} (h : EvB X e d) : EvJ X false tg e (iOf d) := piI (pi_seq h) (by
  rintro σ H R ⟨C, O, ρ, n, xs, n', hf, E, q⟩
  unfold iOf at hf
  obtain ⟨⟨x, n1⟩, e1, hf⟩ := Option.bind_eq_some_iff.mp hf
  obtain ⟨ys, e3, hf⟩ := Option.map_eq_some_iff.mp hf
  cases hf
  refine ⟨C, O, ρ, n, x, n1, e1, E, fun v H1 s t r => ?_⟩
  have tn : ∀ a, ¬ Av C O a → ¬ TX C a := fun a h z => h (Av.t a z)
  cases x with
  | list zs =>
    cases e3
    rcases r with r | ⟨l, vs, ds, rfl, h2, h3, h4, h5⟩ | ⟨l, kvs, _, h2, _⟩
    · cases r with
      | lst hs ha => exact ⟨_, rfl, .inl ⟨⟨_, hs.elim (fun z => .inl z.2) sqLz⟩, q _ H1 s t (it_list (hs.imp (fun z => ⟨tn _ z.1, z.2⟩) id) ha)⟩⟩
    · cases h2
      exact ⟨_, rfl, .inl ⟨⟨_, SqL.of h4⟩, q _ H1 s t (it_list (.inl ⟨(E.step s t).ntx h3 h4 (fun ps z => nomatch z), .inl h4⟩) h5)⟩⟩
    · cases h2
  | tuple zs =>
    cases e3
    rcases r with r | ⟨l, vs, ds, rfl, h2, h3, h4, h5⟩ | ⟨l, kvs, _, h2, _⟩
    · cases r with
      | tup hs ha => exact ⟨_, rfl, .inr ⟨⟨_, sqT_of hs⟩, q _ H1 s t (it_tup (hs.imp (fun z => ⟨tn _ z.1, let ⟨o, z, _⟩ := z.2; .inr ⟨o, z⟩⟩) (·.1)) ha)⟩⟩
    · cases h2
    · cases h2
  | _ => cases e3)
/-! ranges -/
def rangeD (lo : Int) (n : Nat) : List PyData := (List.range n).map fun (i : Nat) => .int (lo + i)
def rng1 : PyData → Option (List PyData)
  | .int j => if -(2 ^ 62) ≤ j ∧ j < 2 ^ 62 then some (rangeD 0 j.toNat) else none
  | _ => none
def rng2 : PyData → PyData → Option (List PyData)
  | .int i, .int j => if -(2 ^ 62) ≤ i ∧ i < 2 ^ 62 ∧ -(2 ^ 62) ≤ j ∧ j < 2 ^ 62 then some (rangeD i (j - i).toNat) else none
  | _, _ => none
def iRng1 (d : Fd) : Fi := fun ρ n => (d ρ n).bind fun p => (rng1 p.1).map (·, p.2)
def iRng2 (da db : Fd) : Fi := fun ρ n => (da ρ n).bind fun p => (db ρ p.2).bind fun q => (rng2 p.1 q.1).map (·, q.2)
theorem it_rng {K : PySem.W.Frag} {A B : Addr → Prop} {H1 : Hp} {lo : Int} {n : Nat} : ItOk false K (Itr lo n) (rangeD lo n) A B H1 := fun H2 k f => by
  have hl : (rangeD lo n).length = n := by simp [rangeD]
  refine ⟨fun i x hx => ?_, by rw [hl]; exact Nat.le_refl _⟩
  have hi : i < n := by rw [← hl]; exact (List.getElem?_eq_some_iff.mp hx).1
  refine ⟨hi, ?_⟩
  rintro v H' ⟨rfl, rfl⟩
  refine ⟨Grow.refl, fun B' _ _ => ?_⟩
  have e : (rangeD lo n)[i]? = some (.int (lo + i)) := by simp [rangeD, hi]
  rw [e] at hx
  cases hx
  exact .inl (.int _)
theorem ei_range1 {tg : Expr} {p : Pos} (hg : Gl X "range") (hm : X.mg "range" = none) (ha : EvB X a d) (hs : starEach [a] X.env = [(false, eval a X.env)] := by rfl) : EvI X false tg (.Call (.Name "range" p) [a] [] pos) (iRng1 d) := piI (pi_range1 hg hm (pa_cons ha pa_nil hs) hs) (by
  rintro σ H R ⟨C, O, ρ, n, xs, n', hf, E, q⟩
  unfold iRng1 at hf
  obtain ⟨⟨y, n1⟩, e1, hf⟩ := Option.bind_eq_some_iff.mp hf
  obtain ⟨zs, e3, hf⟩ := Option.map_eq_some_iff.mp hf
  cases hf
  refine ⟨C, O, ρ, n, y, n1, e1, E, fun v H1 s t r => ?_⟩
  cases y with
  | int j =>
    simp only [rng1] at e3
    split at e3
    · rename_i hj
      cases e3
      exact ⟨j, by rw [r.int], hj.1, hj.2, q _ H1 s t it_rng⟩
    · cases e3
  | _ => cases e3)
end
end L2.Lv
namespace L2.Lv
open PySem PySem.Spec PyProof.Rows
def loopF (g : Fg) (body : Fs) : List PyData → Fs
  | [], ρ, n => some (.nx ρ n)
  | x :: xs, ρ, n => (g x ρ).bind fun ρ1 => (body ρ1 n).bind fun o => match o with
    | .nx ρ' n' => loopF g body xs ρ' n'
    | .bk ρ' n' => some (.nx ρ' n')
    | .rt w n' => some (.rt w n')
    | .rs x ρ' n' => some (.rs x ρ' n')
def sFor (fi : Fi) (g : Fg) (body : Fs) : Fs := fun ρ n => (fi ρ n).bind fun p => loopF g body p.1 ρ p.2
def loopW (c : Ft) (body : Fs) : Nat → Fs
  | 0, _, _ => none
  | k + 1, ρ, n => (c ρ n).bind fun p => if p.1 then (body ρ p.2).bind fun o => match o with
    | .nx ρ' n' => loopW c body k ρ' n'
    | .bk ρ' n' => some (.nx ρ' n')
    | .rt w n' => some (.rt w n')
    | .rs x ρ' n' => some (.rs x ρ' n')
    else some (.nx ρ p.2)
def wipeW (ρ : List W) : List Nat → List W
  | [] => ρ
  | v :: vs => (wipeW ρ vs).set v .no
def loopC (g : Fg) (own : List Nat) (tst : Ft) (elt : Fe) (ρ : List W) : List PyData → Nat → Option (List PyData × Nat)
  | [], n => some ([], n)
  | x :: xs, n => (g x (wipeW ρ own)).bind fun ρ1 => (tst ρ1 n).bind fun b => if b.1 then
      (elt ρ1 b.2).bind fun w => w.1.frz.val.bind fun y => (loopC g own tst elt ρ xs w.2).map fun r => (y :: r.1, r.2)
    else loopC g own tst elt ρ xs b.2
def eComp (fi : Fi) (g : Fg) (own : List Nat) (tst : Ft) (elt : Fe) : Fe := fun ρ n => (fi ρ n).bind fun p => if p.1.length ≤ big then (loopC g own tst elt ρ p.1 p.2).map fun q => (.ol q.1, q.2) else none
section
variable {X : Cx} {e a b : Expr} {es : List Expr} {f fa fb : Fe} {d da db : Fd} {fs : Fa} {ds : Fds} {pos : Pos} {st : Stmt} {rest sts sts' : List Stmt} {gs h : Fs}
theorem ss_for {p : Bool} {tg : Expr} {fi : Fi} {is : List Nat} {g : Fg} {body : Fs} (hp : PassesOwn (model X.prog X.w) X.A X.env X.xe) (hc : X.calm = true) (hi : EvI X p tg e fi) (hg : EvG X p tg is g) (hb : EvSs X sts body)
    (hs : ∀ x, foldedSetIterable e X.env x = pure x := by intro _; rfl) : EvS X (.For tg e sts [] pos) (sFor fi g body) := psI (ps_for hp hc hi hg hb hs) (by
  rintro D σ H ⟨C, O, ρ, n, out, hf, E, np, q⟩
  unfold sFor at hf
  obtain ⟨⟨xs, n1⟩, e1, hf⟩ := Option.bind_eq_some_iff.mp hf
  refine ⟨C, O, ρ, n, xs, n1, e1, E, fun J H1 s t it => ?_⟩
  refine ⟨fun i m σ' H' => ∃ O' ρ' n', m = xs.length - i ∧ i ≤ xs.length ∧ StepS C O O' H1 H' ∧ EnvOk C O' X.K σ' H' ρ' n' ∧ loopF g body (xs.drop i) ρ' n' = some out,
    ⟨_, O, ρ, n1, rfl, Nat.zero_le _, Step.refl.stepS0, E.step s t, hf⟩, ?_⟩
  rintro i m σ' H' ⟨O', ρ', n', rfl, hi, S', E', hl⟩
  obtain ⟨items, stop⟩ := it H' (fun a o e na => S'.st a o e (fun z => na (Av.t _ z)) fun j z => na (.inr (.inr ⟨j, z⟩))) S'.fr
  by_cases hlt : i < xs.length
  · obtain ⟨go, yl⟩ := items i xs[i] (List.getElem?_eq_getElem hlt)
    rw [List.drop_eq_getElem_cons hlt] at hl
    unfold loopF at hl
    obtain ⟨ρ1, e2, hl⟩ := Option.bind_eq_some_iff.mp hl
    obtain ⟨o, e3, hl⟩ := Option.bind_eq_some_iff.mp hl
    refine .inr ⟨go, fun σ'' H'' => ∃ O'' ρ'' n'', StepS C O O'' H1 H'' ∧ EnvOk C O'' X.K σ'' H'' ρ'' n'' ∧ loopF g body (xs.drop (i + 1)) ρ'' n'' = some out, ?_, fun v H2 y => ?_⟩
    · rintro σ'' H'' ⟨O'', ρ'', n'', S'', E'', hl''⟩
      exact ⟨xs.length - (i + 1), by omega, O'', ρ'', n'', rfl, hlt, S'', E'', hl''⟩
    · obtain ⟨gr, it2⟩ := yl v H2 y
      have r := it2 (Av C O') S'.keep E'.av
      have E2 := E'.step gr.step (gr.town E'.town)
      have S2 : StepS C O O' H1 H2 := S'.trans gr.step.stepS0
      refine ⟨C, O', ρ', n', xs[i], ρ1, e2, E2, r, fun O3 vs s3 E3 => ⟨C, O3, ρ1, n', o, e3, E3, np.step E (s.stepS0.trans (S2.trans s3)), ?_⟩⟩
      cases o with
      | nx ρ4 n4 => exact fun O4 σ4 H4 s4 E4 => ⟨O4, ρ4, n4, (S2.trans s3).trans s4, E4, hl⟩
      | bk ρ4 n4 =>
        cases hl
        exact fun O4 σ4 H4 s4 E4 => q O4 σ4 H4 (s.stepS0.trans ((S2.trans s3).trans s4)) E4
      | rt w n4 =>
        cases hl
        exact q
      | rs x ρ4 n4 =>
        cases hl
        exact fun O4 σ4 v4 H4 s4 E4 r4 => q O4 σ4 v4 H4 (s.stepS0.trans ((S2.trans s3).trans s4)) E4 r4
  · have hie : i = xs.length := by omega
    subst hie
    rw [List.drop_length] at hl
    cases hl
    exact .inl ⟨stop, q O' σ' H' (s.stepS0.trans S') E'⟩)
theorem ss_while {c : Expr} {tc : Ft} {body : Fs} (k : Nat) (hp : PassesOwn (model X.prog X.w) X.A X.env X.xe) (hc : EvT X c tc) (hb : EvSs X sts body) : EvS X (.While c sts [] pos) (loopW tc body k) := psI (ps_while hp hc hb) (by
  rintro D σ H ⟨C, O, ρ, n, out, hf, E, np, q⟩
  refine ⟨fun m σ' H' => ∃ O' ρ' n', StepS C O O' H H' ∧ EnvOk C O' X.K σ' H' ρ' n' ∧ loopW tc body m ρ' n' = some out, ⟨k, O, ρ, n, Step.refl.stepS0, E, hf⟩, ?_⟩
  rintro m σ' H' ⟨O', ρ', n', S', E', hl⟩
  cases m with
  | zero => cases hl
  | succ m =>
    unfold loopW at hl
    obtain ⟨⟨x, n1⟩, e1, hl⟩ := Option.bind_eq_some_iff.mp hl
    refine ⟨C, O', ρ', n', x, n1, e1, E', fun H1 s1 t1 => ?_⟩
    have E1 := E'.step s1 t1
    have S1 := S'.trans s1.stepS0
    cases x with
    | false =>
      simp only [Bool.false_eq_true, if_false] at hl ⊢
      cases hl
      exact q O' σ' H1 S1 E1
    | true =>
      simp only [if_true] at hl ⊢
      obtain ⟨o, e3, hl⟩ := Option.bind_eq_some_iff.mp hl
      refine ⟨fun σ'' H'' => ∃ O'' ρ'' n'', StepS C O O'' H H'' ∧ EnvOk C O'' X.K σ'' H'' ρ'' n'' ∧ loopW tc body m ρ'' n'' = some out, fun σ'' H'' z => ⟨m, Nat.lt_succ_self m, z⟩, C, O', ρ', n1, o, e3, E1, np.step E S', ?_⟩
      cases o with
      | nx ρ4 n4 => exact fun O4 σ4 H4 s4 E4 => ⟨O4, ρ4, n4, S1.trans s4, E4, hl⟩
      | bk ρ4 n4 =>
        cases hl
        exact fun O4 σ4 H4 s4 E4 => q O4 σ4 H4 (S1.trans s4) E4
      | rt w n4 =>
        cases hl
        exact q
      | rs x ρ4 n4 =>
        cases hl
        exact fun O4 σ4 v4 H4 s4 E4 r4 => q O4 σ4 v4 H4 (S1.trans s4) E4 r4)
/-! comprehensions -/
theorem wipe_get (σ : St) : ∀ (vs : List Nat) (j : Nat), (wipe σ vs)[j]? = if j ∈ vs ∧ j < σ.length then some none else σ[j]?
  | [], j => by simp [wipe]
  | v :: vs, j => by
    unfold wipe
    by_cases hv : v = j
    · subst hv
      by_cases hl : v < σ.length
      · rw [List.getElem?_set_self (by rw [wipe_length]; exact hl), if_pos ⟨List.mem_cons_self, hl⟩]
      · rw [List.getElem?_eq_none (by rw [List.length_set, wipe_length]; omega), if_neg (fun z => hl z.2), List.getElem?_eq_none (by omega)]
    · rw [List.getElem?_set_ne hv, wipe_get σ vs j]
      simp [Ne.symm hv]
theorem wipe_set {σ : St} {vs : List Nat} {i : Nat} {x : Option V} (h : i ∈ vs) : wipe (σ.set i x) vs = wipe σ vs := by
  apply List.ext_getElem?
  intro j
  rw [wipe_get, wipe_get, List.length_set]
  by_cases hj : j ∈ vs ∧ j < σ.length
  · rw [if_pos hj, if_pos hj]
  · rw [if_neg hj, if_neg hj]
    by_cases hi : i = j
    · subst hi
      have : ¬ i < σ.length := fun z => hj ⟨h, z⟩
      rw [List.getElem?_eq_none (by simpa using this), List.getElem?_eq_none (by omega)]
    · rw [List.getElem?_set_ne hi]
theorem wipe_wipe {σ : St} {vs : List Nat} : wipe (wipe σ vs) vs = wipe σ vs := by
  apply List.ext_getElem?
  intro j
  rw [wipe_get, wipe_length, wipe_get]
  split <;> rfl
theorem wipe_setV {vs : List Nat} : ∀ {is : List Nat} {us : List V} {σ : St}, (∀ i ∈ is, i ∈ vs) → wipe (setV is us σ) vs = wipe σ vs
  | [], _, _, _ => by unfold setV; rfl
  | _ :: _, [], _, _ => by unfold setV; rfl
  | i :: is, u :: us, σ, h => by
    unfold setV
    rw [wipe_setV (fun j hj => h j (List.mem_cons_of_mem _ hj)), wipe_set (h i List.mem_cons_self)]
theorem wipeW_length (ρ : List W) : ∀ vs : List Nat, (wipeW ρ vs).length = ρ.length
  | [] => rfl
  | v :: vs => by unfold wipeW; rw [List.length_set, wipeW_length ρ vs]
theorem wipeW_get (ρ : List W) : ∀ (vs : List Nat) (j : Nat), (wipeW ρ vs)[j]? = if j ∈ vs ∧ j < ρ.length then some .no else ρ[j]?
  | [], j => by simp [wipeW]
  | v :: vs, j => by
    unfold wipeW
    by_cases hv : v = j
    · subst hv
      by_cases hl : v < ρ.length
      · rw [List.getElem?_set_self (by rw [wipeW_length]; exact hl), if_pos ⟨List.mem_cons_self, hl⟩]
      · rw [List.getElem?_eq_none (by rw [List.length_set, wipeW_length]; omega), if_neg (fun z => hl z.2), List.getElem?_eq_none (by omega)]
    · rw [List.getElem?_set_ne hv, wipeW_get ρ vs j]
      simp [Ne.symm hv]
/-- in a block all that is ours, and the new list at D, is as others' -/
def blkC (C : Cn) (O : Ow) (D : Addr) : Cn := ⟨C.T, fun a => C.P a ∨ (∃ i, O i = some a) ∨ a = D, C.H0, C.B, fun a q h => .inl (C.bp a q h), C.bf, C.S⟩
theorem blkC_av {C : Cn} {O O' : Ow} {D : Addr} : ∀ a, Av C O a ∨ a = D → Av (blkC C O D) O' a := by
  rintro a ((z | z | z) | z)
  · exact .inl (.inl z)
  · exact .inr (.inl z)
  · exact .inl (.inr (.inl z))
  · exact .inl (.inr (.inr z))
theorem blkC_va {C : Cn} {O : Ow} {D : Addr} : ∀ a, Av (blkC C O D) O a → Av C O a ∨ a = D := by
  rintro a ((z | z | z) | z | z)
  · exact .inl (.inl z)
  · exact .inl (.inr (.inr z))
  · exact .inr z
  · exact .inl (.inr (.inl z))
  · exact .inl (.inr (.inr z))
/-- the block's state -/
theorem EnvOk.blk {C : Cn} {O : Ow} {K : PySem.W.Frag} {σ : St} {H1 H' : Hp} {ρ : List W} {n n' : Nat} {D : Addr} {vs : List Nat} (E : EnvOk C O K σ H1 ρ n) (hD : H1 D = none) (s : Step C H1 H') (t : TownAt C H' n') (hD' : ∃ o, H' D = some o ∧ ∀ q, o ≠ LamX.CodeO D q) :
    EnvOk (blkC C O D) O K (wipe σ vs) H' (wipeW ρ vs) n' := by
  have E1 := E.step s t
  have kp : Keep (Av C O) (Av (blkC C O D) O) H1 H' := fun a u na r => by
    refine ⟨fun z => ?_, s.st _ _ r (fun e => na (Av.t _ e))⟩
    rcases blkC_va a z with z | z
    · exact na z
    · rw [z, hD] at r; cases r
  refine ⟨by rw [wipeW_length, wipe_length]; exact E.len, fun i w e => ?_, E.inj, E1.own, t, E1.base, fun a z => z.elim (E1.ptr a) fun z => z.elim (fun ⟨i, z⟩ => (E1.own i a z).2.2) fun z => by rw [z]; obtain ⟨o, e, _⟩ := hD'; rw [e]; simp, E1.fr, E1.tk, E1.tb.sub rfl rfl fun a z => (blkC_va a z).imp id fun z q e => by
    obtain ⟨o, e1, e2⟩ := hD'
    rw [z] at e
    rw [e1] at e
    exact e2 q (Option.some.inj e)⟩
  rw [wipeW_get] at e
  rw [wipe_get]
  split at e
  · cases e
    trivial
  · rename_i hn
    rw [if_neg (by rw [← E.len]; exact hn)]
    have q := E.sl i w e
    cases w with
    | no => trivial
    | d x => obtain ⟨u, h1, h2⟩ := q; exact ⟨u, h1, h2.mono kp⟩
    | town => exact q
    | ol xs =>
      obtain ⟨a, us, h1, h2, h3, h4⟩ := q
      exact ⟨a, us, h1, h2, s.st _ _ h3 (E.own i a h1).1, h4.mono kp⟩
    | od kvs =>
      obtain ⟨a, h1, h2, h3⟩ := q
      exact ⟨a, h1, h2, h3.mono kp fun o e => s.st _ _ e (E.own i a h1).1⟩
    | oll xss =>
      obtain ⟨a, bs, h1, h2, h3, h4⟩ := q
      exact ⟨a, bs, h1, h2, s.st _ _ h3 (E.own i a h1).1, h4.mono kp (fun _ _ => by rw [wipeW_length]) fun x b u _ h e => s.st _ _ e (E.own _ b h).1⟩
    | fn g => obtain ⟨u, h1, h2⟩ := q; exact ⟨u, h1, h2.mono kp⟩
    | shR now => obtain ⟨u, h1, h2⟩ := q; exact ⟨u, h1, h2.mono kp⟩
    | sh sf now bef lat =>
      obtain ⟨a, h1, h2, hs, h3⟩ := q
      exact ⟨a, h1, h2, hs, h3.mono kp (fun u e => s.st _ _ e (E.own i a h1).1) (fun _ _ => by rw [wipeW_length]) fun x c u _ h e => s.st _ _ e (E.own _ c h).1⟩
def bYes : Ft := fun _ n => some (true, n)
abbrev EvTs (X : Cx) (es : List Expr) (f : Ft) : Prop := PTs X es (tVT X.K f)
theorem ptsI {t t' : TT} (h : PTs X es t) (w : ∀ σ H Q, t' σ H Q → t σ H Q) : PTs X es t' := ⟨fun pins s σ H Q I q => h.run pins s σ H Q I (w σ H Q q)⟩
theorem ets_nil : EvTs X [] bYes := ptsI pts_nil (by
  rintro σ H Q ⟨C, O, ρ, n, c, n', hf, E, q⟩
  cases hf
  exact q H Step.refl E.town)
theorem ets_one {ft : Ft} (h : EvT X e ft) : EvTs X [e] ft := pts_one h
theorem comp_run {p : Bool} {K : PySem.W.Frag} {fi : Fi} {is own : List Nat} {g : Fg} {tst : Ft} {elt : Fe} (ho : ∀ i ∈ is, i ∈ own) {σ : St} {H : Hp} {Q : VK} (h : tV K (eComp fi g own tst elt) σ H Q) :
    tLc (tVJ p K fi) (tVG p K is g) (tVT K tst) (tV K elt) own σ H Q := by
  obtain ⟨C, O, ρ, n, w, n', hf, E, q⟩ := h
  unfold eComp at hf
  obtain ⟨⟨xs, n1⟩, e1, hf⟩ := Option.bind_eq_some_iff.mp hf
  simp only at hf
  split at hf
  case isFalse => cases hf
  rename_i hz
  obtain ⟨⟨ys, nf⟩, e2, hf⟩ := Option.map_eq_some_iff.mp hf
  cases hf
  refine ⟨C, O, ρ, n, xs, n1, e1, E, fun J H1 s t it D hD => ?_⟩
  have E1 := E.step s t
  have hDH : H D = none := s.fr D hD
  let Inv1 : Nat → Hp → Prop := fun i H' => ∃ n2 acc vs r, Step C H1 H' ∧ TownAt C H' n2 ∧ H' D = some (.lst vs) ∧ DvAll (fun b => Av C O b ∨ b = D) K H' vs acc ∧ acc.length ≤ i ∧ loopC g own tst elt ρ (xs.drop i) n2 = some (r, nf) ∧ acc ++ r = ys
  refine ⟨fun i m H' => m = xs.length - i ∧ i ≤ xs.length ∧ Inv1 i H', ⟨_, rfl, Nat.zero_le _, n1, [], [], ys, (Grow.upd hD).step, (Grow.upd hD).town t, upd_same, .nil, Nat.le_refl _, e2, rfl⟩, ?_⟩
  rintro i m H' ⟨rfl, hi, n2, acc, vs, r, S', T', hD', hacc, hlen, hl, hys⟩
  obtain ⟨items, stop⟩ := it H' (fun a o e na => S'.st a o e na) S'.fr
  have EB : EnvOk (blkC C O D) O K (wipe σ own) H' (wipeW ρ own) n2 := E1.blk hD S' T' ⟨_, hD', fun q => codeO_lst⟩
  by_cases hlt : i < xs.length
  · obtain ⟨go, yl⟩ := items i xs[i] (List.getElem?_eq_getElem hlt)
    rw [List.drop_eq_getElem_cons hlt] at hl
    unfold loopC at hl
    obtain ⟨ρ1, e3, hl⟩ := Option.bind_eq_some_iff.mp hl
    obtain ⟨⟨c, n3⟩, e4, hl⟩ := Option.bind_eq_some_iff.mp hl
    refine .inr ⟨go, Inv1 (i + 1), fun H'' z => ⟨xs.length - (i + 1), by omega, rfl, hlt, z⟩, fun v H2 y => ?_⟩
    obtain ⟨gr, it2⟩ := yl v H2 y
    have rx : DvI p (Av (blkC C O D) O) K H2 v xs[i] := it2 _ (fun a u na rd => by
      refine ⟨fun z => ?_, S'.st _ _ rd (fun e => na (Av.t _ e))⟩
      rcases blkC_va a z with z | z
      · exact na z
      · rw [z, hD] at rd; cases rd) EB.av
    have E2 := EB.step gr.step (gr.town EB.town)
    refine ⟨_, O, wipeW ρ own, n2, xs[i], ρ1, e3, E2, rx, fun O3 us s3 E3 => ⟨by rw [wipe_setV ho, wipe_wipe], ?_⟩⟩
    refine ⟨_, O3, ρ1, n2, c, n3, e4, E3, fun H3 s4 t4 => ?_⟩
    have E4 := E3.step s4 t4
    have toC : ∀ {Ha Hb : Hp}, Step ((blkC C O D) : Cn) Ha Hb → Step C Ha Hb := fun {Ha Hb} z => ⟨z.st0, z.fr, z.tb⟩
    have S3 : Step C H1 H3 := (S'.trans gr.step).trans (toC s4)
    have TD : ¬ TX C D := fun z => E1.ta D z hD
    have hD3 : H3 D = some (.lst vs) := s4.st _ _ (gr _ _ hD') TD
    have hacc3 : DvAll (fun b => Av C O b ∨ b = D) K H3 vs acc := (hacc.mono gr.keep).mono ((toC s4).keep fun a z => .inl (Av.t a z))
    cases c with
    | false =>
      simp only [Bool.false_eq_true, if_false] at hl ⊢
      exact ⟨n3, acc, vs, r, S3, t4, hD3, hacc3, by omega, hl, hys⟩
    | true =>
      simp only [if_true] at hl ⊢
      obtain ⟨⟨wy, n4⟩, e5, hl⟩ := Option.bind_eq_some_iff.mp hl
      obtain ⟨y', e6, hl⟩ := Option.bind_eq_some_iff.mp hl
      obtain ⟨⟨r', n5⟩, e7, hl⟩ := Option.map_eq_some_iff.mp hl
      cases hl
      refine ⟨_, O3, ρ1, n3, wy, n4, e5, E4, fun vy H4 s5 t5 ry => ?_⟩
      have ry' : Dv (Av (blkC C O D) O3) K H4 vy y' := (ry.frz E4.av).val e6
      have hD4 : H4 D = some (.lst vs) := s5.st _ _ hD3 TD
      have hacc4 := hacc3.mono ((toC s5).keep fun a z => .inl (Av.t a z))
      have S4 : Step C H1 H4 := S3.trans (toC s5)
      have ne : ∀ b u, b ≠ D → upd H4 D u b = H4 b := fun b u hb => upd_ne hb
      have kp : Keep (fun b => Av C O b ∨ b = D) (fun b => Av C O b ∨ b = D) H4 (upd H4 D (.lst (vs ++ [vy]))) := fun a u na rd => ⟨na, by
        rw [upd_ne (fun z => na (.inr z))]
        exact rd⟩
      have kq : Keep (Av (blkC C O D) O3) (fun b => Av C O b ∨ b = D) H4 H4 := fun a u na rd => ⟨fun z => na (blkC_av a z), rd⟩
      have nn : ∀ b, upd H4 D (.lst (vs ++ [vy])) b = none → H4 b = none := fun b z => by
        by_cases h : b = D
        · rw [h, upd_same] at z; cases z
        · rw [upd_ne h] at z; exact z
      refine ⟨vs, hD4, by rw [hacc.length, big_eq]; omega, n4, acc ++ [y'], vs ++ [vy], r', ⟨fun a o z t tt => ?_, fun a z => S4.fr a (nn a z), fun P q G h e t => (S4.tb P q G h e t).go (fun ps e => by rw [upd_ne (fun z => TD (.inr ⟨q, by rw [← z]; exact h⟩))]; exact e) fun c n e => ⟨n, by rw [upd_ne (fun z => by rw [z, hD4] at e; exact codeO_lst (Option.some.inj e))]; exact e⟩⟩, fun a z => ?_, upd_same, (hacc4.append (.cons (ry'.mono kq) .nil)).mono kp, by rw [List.length_append]; simp; omega, e7, ?_⟩
      · rw [upd_ne (fun h => by rw [h, hD] at z; cases z)]
        exact S4.st0 a o z t tt
      · rw [upd_ne (fun h => TD (.inl (by rw [← h]; exact z)))]
        exact t5 a z
      · rw [List.append_assoc]
        exact hys
  · have hie : i = xs.length := by omega
    subst hie
    rw [List.drop_length] at hl
    cases hl
    rw [List.append_nil] at hys
    subst hys
    exact .inl ⟨stop, q _ _ (s.trans S') T' ⟨D, vs, rfl, hDH, hD', hacc⟩⟩
end
end L2.Lv
namespace L2.Lv
open PySem PySem.Spec PyProof.Rows
/-! comprehensions as expressions -/
section
variable {X : Cx} {e a b : Expr} {es : List Expr} {f fa fb : Fe} {d da db : Fd} {fs : Fa} {ds : Fds} {pos : Pos} {st : Stmt} {rest sts sts' : List Stmt} {gs h : Fs}
theorem ev_lc {elt tg iter : Expr} {ifs : List Expr} {scope : Scope} {own : List (Str × Nat)} {p : Bool} {fi : Fi} {is : List Nat} {g : Fg} {tst : Ft} {fe : Fe} (hc : X.calm = true) (hN : X.N.Nodup) (hi : EvJ X p tg iter fi) (ok : BlkOk X.N X.env.scope scope own)
    (hg : ∀ (s : Shared) (H : Hp) (C : Addr) (cl : List (Str × Addr)) (fp : List Addr), EvG (X.blk s H scope (compEnvC scope cl C X.env) fp) p tg is g)
    (ht : ∀ (s : Shared) (H : Hp) (C : Addr) (cl : List (Str × Addr)) (fp : List Addr), EvTs (X.blk s H scope (compEnvC scope cl C X.env) fp) ifs tst)
    (he : ∀ (s : Shared) (H : Hp) (C : Addr) (cl : List (Str × Addr)) (fp : List Addr), EvE (X.blk s H scope (compEnvC scope cl C X.env) fp) elt fe)
    (ho : ∀ i ∈ is, i ∈ own.map (·.2) := by decide) (hs : ∀ x, foldedSetIterable iter X.env x = pure x := by intro _; rfl) :
    EvE X (.ListComp elt [⟨tg, iter, ifs, 0⟩] scope pos) (eComp fi g (own.map (·.2)) tst fe) :=
  peI (pe_lc hc hN hi ok hg ht he hs) fun σ H Q h => comp_run ho h
theorem ss_setLcF {i : Nat} {y : Str} {py : Pos} {elt tg iter : Expr} {ifs : List Expr} {scope : Scope} {own : List (Str × Nat)} {spos : Pos} {p : Bool} {fi : Fi} {is : List Nat} {g : Fg} {tst : Ft} {fe : Fe} (hc : X.calm = true) (hN : X.N.Nodup) (hy : X.N[i]? = some y) (hyl : X.env.scope.names.lookup y = some .local)
    (hsw : swapsWith (.ListComp elt [⟨tg, iter, ifs, 0⟩] scope pos) (some (.Name y py)) spos.line X.env = pure true) (hi : EvJ X p tg iter fi) (ok : BlkOk X.N X.env.scope scope own)
    (hg : ∀ (s : Shared) (H : Hp) (C : Addr) (cl : List (Str × Addr)) (fp : List Addr), EvG (X.blk s H scope (compEnvC scope cl C X.env) fp) p tg is g)
    (ht : ∀ (s : Shared) (H : Hp) (C : Addr) (cl : List (Str × Addr)) (fp : List Addr), EvTs (X.blk s H scope (compEnvC scope cl C X.env) fp) ifs tst)
    (he : ∀ (s : Shared) (H : Hp) (C : Addr) (cl : List (Str × Addr)) (fp : List Addr), EvE (X.blk s H scope (compEnvC scope cl C X.env) fp) elt fe)
    (ho : ∀ i ∈ is, i ∈ own.map (·.2) := by decide) (hs : ∀ x, foldedSetIterable iter X.env x = pure x := by intro _; rfl) :
    EvS X (.Assign [.Name y py] (.ListComp elt [⟨tg, iter, ifs, 0⟩] scope pos) spos) (sSet i (eFrz (eComp fi g (own.map (·.2)) tst fe))) :=
  psI (ps_setLc hc hN hy hyl hsw hi ok hg ht he hs) (by
    rintro D σ H ⟨C, O, ρ, n, out, hf, E, np, q⟩
    unfold sSet at hf
    obtain ⟨⟨w, n1⟩, e1, hf⟩ := Option.map_eq_some_iff.mp hf
    cases hf
    unfold eFrz at e1
    obtain ⟨⟨w0, n2⟩, e0, e1⟩ := Option.map_eq_some_iff.mp e1
    cases e1
    refine comp_run ho ⟨C, O, ρ, n, w0, _, e0, E, fun v H1 s t r => ?_⟩
    obtain ⟨O', E', s'⟩ := E.assign (i := i) s t (r.frz E.av)
    exact q O' _ H1 s' E')
/-- a list of one's own is given away -/
def frzAt (i : Nat) (g : Fs) : Fs := fun ρ n => match ρ[i]? with
  | some w => g (ρ.set i w.frz) n
  | none => none
theorem EnvOk.frzAt {C : Cn} {O : Ow} {K : PySem.W.Frag} {σ : St} {H : Hp} {ρ : List W} {n i : Nat} {w : W} (E : EnvOk C O K σ H ρ n) (np : OwnP C O) (e : ρ[i]? = some w) : ∃ O', EnvOk C O' K σ H (ρ.set i w.frz) n ∧ StepS C O O' H H := by
  have same : ∀ w', w' = w → ∃ O', EnvOk C O' K σ H (ρ.set i w') n ∧ StepS C O O' H H := by
    rintro w' rfl
    have h : ρ.set i w' = ρ := by
      apply List.ext_getElem?
      intro j
      by_cases h : i = j
      · subst h
        rw [List.getElem?_set_self (List.getElem?_eq_some_iff.mp e).1, e]
      · rw [List.getElem?_set_ne h]
    rw [h]
    exact ⟨O, E, Step.refl.stepS0⟩
  cases w with
  | no => exact same _ rfl
  | d x => exact same _ rfl
  | town => exact same _ rfl
  | od x => exact same _ rfl
  | oll x => exact same _ rfl
  | fn _ => exact same _ rfl
  | shR _ => exact same _ rfl
  | sh _ _ _ _ => exact same _ rfl
  | ol xs =>
    obtain ⟨a, vs, h1, h2, h3, h4⟩ := E.sl i _ e
    have hi : i < σ.length := (List.getElem?_eq_some_iff.mp h2).1
    have hs : σ.set i (some (.ref a)) = σ := by
      apply List.ext_getElem?
      intro j
      by_cases h : i = j
      · subst h
        rw [List.getElem?_set_self hi, h2]
      · rw [List.getElem?_set_ne h]
    have kp : Keep (Av C O) (Av C (owSet O i none)) H H := fun b u nb r => ⟨fun z => nb (by
      rcases z with z | z | ⟨j, z⟩
      · exact .inl z
      · exact .inr (.inl z)
      · by_cases h : j = i
        · rw [h, owSet_at] at z; cases z
        · rw [owSet_of h] at z; exact .inr (.inr ⟨j, z⟩)), r⟩
    have na : ¬ Av C (owSet O i none) a := by
      rintro (z | z | ⟨j, z⟩)
      · exact np i a h1 z
      · exact (E.own i a h1).1 (.inl z)
      · by_cases h : j = i
        · rw [h, owSet_at] at z; cases z
        · rw [owSet_of h] at z; exact h (E.inj j i a z h1)
    refine ⟨owSet O i none, ⟨by simpa using E.len, fun j w' e' => ?_, fun j k b h h' => ?_, fun j b h => ?_, E.town, E.base, E.ptr, E.fr, E.tk, ?_⟩, Step.refl.stepS fun j b h => ?_⟩
    · by_cases h : j = i
      · subst h
        rw [List.getElem?_set_self (List.getElem?_eq_some_iff.mp e).1] at e'
        cases e'
        exact ⟨_, h2, .lst (.inl ⟨na, .inl h3⟩) (h4.mono kp)⟩
      · rw [List.getElem?_set_ne (Ne.symm h)] at e'
        rw [owSet_of h]
        have q := E.sl j w' e'
        cases w' with
        | no => trivial
        | d x => obtain ⟨u, h1, h2⟩ := q; exact ⟨u, h1, h2.mono kp⟩
        | town => exact q
        | ol xs => obtain ⟨b, us, h1, h2, h3, h4⟩ := q; exact ⟨b, us, h1, h2, h3, h4.mono kp⟩
        | od kvs => obtain ⟨b, h1, h2, h3⟩ := q; exact ⟨b, h1, h2, h3.mono kp fun o e => e⟩
        | oll xss => obtain ⟨b, bs, h1, h2, h3, h4⟩ := q; exact ⟨b, bs, h1, h2, h3, h4.mono kp (fun x hx => by rw [List.length_set]; exact owSet_of (by have := (List.getElem?_eq_some_iff.mp e).1; omega)) fun _ _ _ _ _ e => e⟩
        | fn g => obtain ⟨u, h1, h2⟩ := q; exact ⟨u, h1, h2.mono kp⟩
        | shR now => obtain ⟨u, h1, h2⟩ := q; exact ⟨u, h1, h2.mono kp⟩
        | sh sf now bef lat =>
          obtain ⟨b, h1, h2, hs, h3⟩ := q
          exact ⟨b, h1, h2, hs, h3.mono kp (fun _ e => e) (fun x hx => by rw [List.length_set]; exact owSet_of (by have := (List.getElem?_eq_some_iff.mp e).1; omega)) fun _ _ _ _ _ e => e⟩
    · by_cases hj : j = i
      · rw [hj, owSet_at] at h; cases h
      · by_cases hk : k = i
        · rw [hk, owSet_at] at h'; cases h'
        · rw [owSet_of hj] at h; rw [owSet_of hk] at h'; exact E.inj j k b h h'
    · by_cases hj : j = i
      · rw [hj, owSet_at] at h; cases h
      · rw [owSet_of hj] at h; exact E.own j b h
    · refine E.tb.sub rfl rfl ?_
      rintro b (z | z | ⟨j, z⟩)
      · exact .inl (.inl z)
      · exact .inl (.inr (.inl z))
      · by_cases h : j = i
        · rw [h, owSet_at] at z; cases z
        · rw [owSet_of h] at z; exact .inl (.inr (.inr ⟨j, z⟩))
    · by_cases hj : j = i
      · rw [hj, owSet_at] at h; cases h
      · rw [owSet_of hj] at h; exact .inl ⟨j, h⟩
/-! a def by its body -/
def runB (m : Nat) (g : Fs) : Fn := fun ws n => (g (ws ++ List.replicate (m - ws.length) .no) n).bind fun o => match o with
  | .rt w n' => some (w, n')
  | .nx _ n' => some (.d .none, n')
  | .bk _ _ => none
  | .rs _ _ _ => none
theorem start_env {C : Cn} {K : PySem.W.Frag} {N : List Str} {H : Hp} {ws : List W} {vs : List V} {n : Nat} (h0 : C.H0 = H) (hP : ∀ a, C.P a → H a ≠ none) (t : TownAt C H n) (ha : ArgsOk (Av C Ow0) C.T K H vs ws) (tk : ∀ x ∈ tabsOf K, C.B x.1 x.2) (tg : TabG C Ow0 H) :
    EnvOk C Ow0 K (start N vs) H (ws ++ List.replicate (N.length - ws.length) .no) n := by
  have hl : vs.length = ws.length := Paired.length ha
  refine ⟨by simp [start, hl], fun i w e => ?_, fun i j a h => (nomatch h), fun i a h => (nomatch h), t, fun a o h _ => by rw [← h0]; exact h, hP, fun a h => by rw [h0]; exact h, tk, tg⟩
  by_cases hi : i < ws.length
  · rw [List.getElem?_append_left hi] at e
    have get : ∀ {vs : List V} {ws : List W} {i : Nat} {w : W}, ArgsOk (Av C Ow0) C.T K H vs ws → ws[i]? = some w → ∃ v, vs[i]? = some v ∧ ArgOk (Av C Ow0) C.T K H v w := by
      intro vs ws i w h e
      induction h generalizing i with
      | nil => simp at e
      | cons r t ih =>
        cases i with
        | zero => simp at e; subst e; exact ⟨_, rfl, r⟩
        | succ i =>
          obtain ⟨v, h1, h2⟩ := ih (i := i) (by simpa using e)
          exact ⟨v, by simpa using h1, h2⟩
    obtain ⟨v, h1, h2⟩ := get ha e
    have hs : (start N vs)[i]? = some (some v) := by
      unfold start
      rw [List.getElem?_append_left (by rw [List.length_map, hl]; exact hi), List.getElem?_map, h1]
      rfl
    rw [hs]
    cases w with
    | d x => exact ⟨v, rfl, h2⟩
    | town => obtain ⟨a, z1, z2⟩ := h2; exact ⟨a, z1, by rw [z2]⟩
    | no => trivial
    | ol _ => exact False.elim h2
    | od _ => exact False.elim h2
    | oll _ => exact False.elim h2
    | fn _ => exact ⟨v, rfl, h2⟩
    | shR _ => exact ⟨v, rfl, h2⟩
    | sh _ _ _ _ => exact False.elim h2
  · rw [List.getElem?_append_right (by omega), List.getElem?_replicate] at e
    split at e
    · cases e
      trivial
    · cases e
theorem fn_val {P : Program} {w : World} {K : PySem.W.Frag} {mg : Str → Option Value} {base : Heap} {x qual : Str} {st : Stmt} {f : Addr} {fd : FuncData} {N ps : List Str} {k : Nat} {g : Fs} (F : Fun K x qual st f fd) (S : FnScope N ps (defScope st))
    (hb : ∀ (cdv : Value) (A : Around) (outer : List Env) (s : Shared) (H : Hp) (E : XK), Room k (A.deeper (envOfC qual (defScope st) s.heap.objs.size f cdv)) →
      EvSs (cxOf CX0 P w K mg base N qual (defScope st) f cdv A outer s H E).nox (defBody st) g) : FnOk P w K mg base CX0 (k + 1) f fd ps (spOf K ps.length (runB N.length g)) := by
  refine F.ok S spOf.len fun cdv A outer s H vs Q E hr h => ⟨_, hb cdv A outer s H E hr, ?_⟩
  obtain ⟨C, ws, n, w, n', rfl, hP, t, hl, ha, hf, tk, tg, q⟩ := h
  unfold runB at hf
  obtain ⟨o, e1, hf⟩ := Option.bind_eq_some_iff.mp hf
  refine ⟨C, Ow0, _, n, o, e1, start_env rfl hP t ha tk tg, fun i a z => (nomatch z), ?_⟩
  cases o with
  | rt w1 n1 =>
    cases hf
    exact fun v H' r => q v H' (r.toStep tg) r.town r.res
  | nx ρ1 n1 =>
    cases hf
    exact fun O' σ' H' s E' => q .non H' (E'.toStep tg) E'.town .non
  | bk ρ1 n1 => cases hf
  | rs x1 ρ1 n1 => cases hf
end
end L2.Lv
namespace L2.Lv
open PySem PySem.Spec PyProof.Rows
section
variable {X : Cx} {e a b : Expr} {es : List Expr} {f fa fb : Fe} {d da db : Fd} {fs : Fa} {ds : Fds} {pos : Pos}
/-! ints -/
def dI (C : Int → Int → Bool) (g : Int → Int → Int) : PyData → PyData → Option W
  | .int i, .int j => if C i j then some (.d (.int (g i j))) else none
  | _, _ => none
theorem opv_I {f : Value → Value → Sem Value} {Cp : Int → Int → Prop} {C : Int → Int → Bool} {g : Int → Int → Int} (h : OpR X f (rI Cp fun i j => .int (g i j))) (hc : ∀ i j, C i j = true → Cp i j) : OpV X f (dI C g) := ⟨_, h, fun A T x y dx dy w H Q tr rx ry e q => by
  cases dx with
  | int i =>
    cases dy with
    | int j =>
      simp only [dI] at e
      split at e
      · rename_i hC
        cases e
        exact ⟨i, j, rx.int, ry.int, hc i j hC, q _ _ Grow.refl (.int _)⟩
      · cases e
    | _ => cases e
  | _ => cases e⟩
def yesC : Int → Int → Bool := fun _ _ => true
theorem rI_of {f : Value → Value → Sem Value} {g : Int → Int → V} (h : OpR X f (rI0 g)) : OpR X f (rI (fun _ _ => True) g) := fun pins s σ H x y v u Q I rx ry ⟨i, j, h1, h2, _, q⟩ => h pins s σ H x y v u Q I rx ry ⟨i, j, h1, h2, q⟩
abbrev dAddI := dI yesC (· + ·)
abbrev dSub := dI yesC (· - ·)
def mulC (i j : Int) : Bool := decide ((-(2 ^ 64) < i ∧ i < 2 ^ 64) ∨ (-(2 ^ 64) < j ∧ j < 2 ^ 64))
abbrev dMul := dI mulC (· * ·)
def divC (_ j : Int) : Bool := decide (0 < j ∧ j < 1073741824)
abbrev dDiv := dI divC (· / ·)
def modC (_ j : Int) : Bool := decide (0 < j)
abbrev dMod := dI modC (· % ·)
theorem ov_addI : OpV X (binaryOp .Add) dAddI := opv_I (rI_of op_add) fun _ _ _ => trivial
theorem ov_sub : OpV X (binaryOp .Sub) dSub := opv_I (rI_of op_sub) fun _ _ _ => trivial
theorem ov_mul : OpV X (binaryOp .Mult) dMul := opv_I op_mul fun i j h => of_decide_eq_true (p := (-(2 ^ 64) < i ∧ i < 2 ^ 64) ∨ (-(2 ^ 64) < j ∧ j < 2 ^ 64)) h
theorem ov_div : OpV X (binaryOp .FloorDiv) dDiv := opv_I op_fdiv fun i j h => of_decide_eq_true (p := 0 < j ∧ j < 1073741824) h
theorem ov_mod : OpV X (binaryOp .Mod) dMod := opv_I op_mod fun _ _ h => of_decide_eq_true h
/-! t + u, xs + ys, s + t -/
def dCatT : PyData → PyData → Option W
  | .tuple xs, .tuple ys => if xs.length + ys.length ≤ big then some (.d (.tuple (xs ++ ys))) else none
  | _, _ => none
theorem ov_catT : OpV X (binaryOp .Add) dCatT := ⟨_, op_catF, fun A T x y dx dy w H Q tr rx ry e q => by
  cases dx with
  | tuple xs =>
    cases dy with
    | tuple ys =>
      simp only [dCatT] at e
      split at e
      · rename_i hz
        cases e
        obtain ⟨a, vs, rfl, h1, h2, h3⟩ := rx.tup
        obtain ⟨b, us, rfl, k1, k2, k3⟩ := ry.tup
        refine ⟨a, b, vs, us, rfl, rfl, h1, k1, by rw [h2.length, k2.length, big_eq]; exact hz, fun z => ?_, fun z => ?_, fun p o ho hp => q _ _ (Grow.upd hp) (new_tup hp tr ho (h2.append k2))⟩
        · subst z
          cases h2
          exact q _ _ Grow.refl k3
        · subst z
          cases k2
          rw [List.append_nil] at q
          exact q _ _ Grow.refl h3
      · cases e
    | _ => cases e
  | _ => cases e⟩
def rCatR (K : PySem.W.Frag) : R2 := fun x y H Q => ∃ l b xs zs, x = .ref l ∧ y = .ref b ∧ SqL K H l xs ∧ SqL K H b zs ∧ xs.length + zs.length ≤ sizeLine ∧ ∀ p, H p = none → Q (.ref p) (upd H p (.lst (xs ++ zs)))
theorem op_catR : OpR X (binaryOp .Add) (rCatR X.K) := by
  rintro pins s σ H x y v u Q I rx ry ⟨l, b, xs, zs, rfl, rfl, hH, hB, hz, q⟩
  have hv : v = .ref l := rx
  have hu : u = .ref b := ry
  subst hv hu
  obtain ⟨its, r, ⟨⟨cls, dd, data, sl⟩, n, e, hc, hdd, hd⟩, z⟩ := I.list hH
  obtain ⟨its2, r2, ⟨⟨cls2, dd2, data2, sl2⟩, n2, e2, hc2, hdd2, hd2⟩, z2⟩ := I.list hB
  simp only at hc hd hc2 hd2
  subst hc hd hc2 hd2
  have l1 := r.length
  have l2 := r2.length
  refine concat_meets ⟨_, e, rfl⟩ ⟨_, e2, rfl⟩ noFill_list_add seq_list_add PySem.F.slot_list_add PySem.F.entry_list_add (PySem.F.args_list_add_2 _ _) (list_addW l b its.toArray its2.toArray n n2 dd dd2 sl sl2 (by rw [List.size_toArray, List.size_toArray]; omega)) ⟨e, e2, ?_⟩
  rw [show its.toArray ++ its2.toArray = (its ++ its2).toArray by simp]
  exact ⟨.ref _, _, I.lnew (t' := s.toks) (r.append r2) (by rw [List.length_append]; omega), rfl, q _ I.fresh⟩
def dCatL : PyData → PyData → Option W
  | .list xs, .list ys => if xs.length + ys.length ≤ big then some (.ol (xs ++ ys)) else none
  | _, _ => none
theorem ov_catL : OpV X (binaryOp .Add) dCatL := ⟨_, op_catR, fun A T x y dx dy w H Q tr rx ry e q => by
  cases dx with
  | list xs =>
    cases dy with
    | list ys =>
      simp only [dCatL] at e
      split at e
      · rename_i hz
        cases e
        obtain ⟨a, vs, rfl, h1, h2⟩ := rx.lst
        obtain ⟨b, us, rfl, k1, k2⟩ := ry.lst
        exact ⟨a, b, vs, us, rfl, rfl, h1, k1, by rw [h2.length, k2.length, big_eq]; exact hz, fun p hp => q _ _ (Grow.upd hp) (new_lst hp (h2.append k2))⟩
      · cases e
    | _ => cases e
  | _ => cases e⟩
def dCatS : PyData → PyData → Option W
  | .str xs, .str ys => if xs.length + ys.length ≤ big then some (.d (.str (xs ++ ys))) else none
  | _, _ => none
theorem ov_catS : OpV X (binaryOp .Add) dCatS := ⟨_, op_add_str, fun A T x y dx dy w H Q tr rx ry e q => by
  cases dx with
  | str xs =>
    cases dy with
    | str ys =>
      simp only [dCatS] at e
      split at e
      · rename_i hz
        cases e
        exact ⟨xs, ys, rx.str, ry.str, by rw [big_eq]; exact hz, q _ _ Grow.refl (.str _)⟩
      · cases e
    | _ => cases e
  | _ => cases e⟩
/-- + of ints, tuples, lists -/
def dAdd : PyData → PyData → Option W := fun x y => match x, y with
  | .int i, .int j => some (.d (.int (i + j)))
  | .tuple xs, .tuple ys => if xs.length + ys.length ≤ big then some (.d (.tuple (xs ++ ys))) else none
  | .list xs, .list ys => if xs.length + ys.length ≤ big then some (.ol (xs ++ ys)) else none
  | .str xs, .str ys => if xs.length + ys.length ≤ big then some (.d (.str (xs ++ ys))) else none
  | _, _ => none
theorem OpV.cast {f : Value → Value → Sem Value} {g g' : PyData → PyData → Option W} (h : OpV X f g) (e : ∀ x y, g' x y = g x y) : OpV X f g' := by
  have : g' = g := funext fun x => funext fun y => e x y
  rw [this]; exact h
theorem ov_add : OpV X (binaryOp .Add) dAdd := (((ov_addI.or ov_catT).or ov_catL).or ov_catS).cast fun x y => by
  cases x <;> cases y <;> simp [dAdd, dI, yesC, dCatT, dCatL, dCatS]
/-! == and != -/
def shp (x : PyData) : Bool := SeqAt.shaped x
def dEq (x y : PyData) : Option W := if shp x && shp y then some (.d (.bool (PyData.eqv x y))) else none
def dNe (x y : PyData) : Option W := if shp x && shp y then some (.d (.bool (!PyData.eqv x y))) else none
theorem DvB.dp {A : Addr → Prop} {T : Option Addr} {K : PySem.W.Frag} {H : Hp} {v : V} {x : PyData} (h : DvB A T K H v x) (hs : shp x = true) : Dp K H v x := by
  rcases h with h | ⟨a, vs, ds, rfl, rfl, _, h4, h5⟩ | ⟨a, kvs, _, rfl, _⟩
  · exact h.dp
  · exact .lst (SqL.of h4) h5.dp
  · exact absurd hs (by simp [shp, SeqAt.shaped, PyData.canLay0])
theorem ov_eq (hu : X.A.units + 64 < cLine) : OpV X (compareOp .Eq) dEq := ⟨_, op_eqD hu, fun A T x y dx dy w H Q tr rx ry e q => by
  unfold dEq at e
  split at e
  · rename_i hs
    rw [Bool.and_eq_true] at hs
    cases e
    exact ⟨dx, dy, rx.dp hs.1, ry.dp hs.2, hs.1, hs.2, q _ _ Grow.refl (.bl _)⟩
  · cases e⟩
theorem ov_ne (hu : X.A.units + 64 < cLine) : OpV X (compareOp .NotEq) dNe := ⟨_, op_neD hu, fun A T x y dx dy w H Q tr rx ry e q => by
  unfold dNe at e
  split at e
  · rename_i hs
    rw [Bool.and_eq_true] at hs
    cases e
    exact ⟨dx, dy, rx.dp hs.1, ry.dp hs.2, hs.1, hs.2, q _ _ Grow.refl (.bl _)⟩
  · cases e⟩
/-! is None -/
def isNo : PyData → Bool
  | .none => true
  | _ => false
def dIsN : PyData → PyData → Option W
  | x, .none => some (.d (.bool (isNo x)))
  | _, _ => none
def dNotN : PyData → PyData → Option W
  | x, .none => some (.d (.bool (!isNo x)))
  | _, _ => none
theorem DvB.isN {A : Addr → Prop} {T : Option Addr} {K : PySem.W.Frag} {H : Hp} {v : V} {x : PyData} (h : DvB A T K H v x) : decide (v = .non) = isNo x := by
  cases x with
  | none => rw [h.non]; rfl
  | bool b => rw [h.bl]; rfl
  | int b => rw [h.int]; rfl
  | str b => rw [h.str]; rfl
  | list b => obtain ⟨a, vs, rfl, _⟩ := h.lst; rfl
  | tuple b => obtain ⟨a, vs, rfl, _⟩ := h.tup; rfl
  | dict b => obtain ⟨a, rfl, _⟩ := h.dct; rfl
theorem ov_isN : OpV X (compareOp .Is) dIsN := ⟨_, op_isN, fun A T x y dx dy w H Q tr rx ry e q => by
  cases dy with
  | none =>
    cases e
    exact ⟨ry.non, by rw [rx.isN]; exact q _ _ Grow.refl (.bl _)⟩
  | _ => cases e⟩
/-! order -/
def intsOf : List PyData → Option (List Int)
  | [] => some []
  | .int i :: xs => (intsOf xs).map (i :: ·)
  | _ :: _ => none
theorem intsOf_ok : ∀ {xs : List PyData} {ns : List Int}, intsOf xs = some ns → xs = ns.map .int
  | [], _, h => by cases h; rfl
  | x :: xs, ns, h => by
    cases x with
    | int i =>
      obtain ⟨ms, h1, h2⟩ := Option.map_eq_some_iff.mp (show (intsOf xs).map (i :: ·) = some ns from h)
      subst h2
      rw [intsOf_ok h1]
      rfl
    | _ => cases h
@[simp] theorem intsOf_map : ∀ (ns : List Int), intsOf (ns.map .int) = some ns
  | [] => rfl
  | n :: ns => by show (intsOf (ns.map .int)).map (n :: ·) = _; rw [intsOf_map ns]; rfl
theorem DvAll.ints {A : Addr → Prop} {K : PySem.W.Frag} {H : Hp} : ∀ {ns : List Int} {vs : List V}, DvAll A K H vs (ns.map .int) → vs = ns.map V.int
  | [], _, h => by cases h; rfl
  | n :: ns, _, h => by
    cases h with
    | cons h1 h2 => cases h1; rw [DvAll.ints h2]; rfl
def lexB (r : Int → Int → Bool) (z : Nat → Nat → Bool) : List Int → List Int → Bool
  | x :: xs, y :: ys => if x = y then lexB r z xs ys else r x y
  | xs, ys => z xs.length ys.length
theorem lexB_cons {r : Int → Int → Bool} {z : Nat → Nat → Bool} {x y : Int} {xs ys : List Int} : lexB r z (x :: xs) (y :: ys) = if x = y then lexB r z xs ys else r x y := rfl
theorem lexB_at {r : Int → Int → Bool} {z : Nat → Nat → Bool} (hz : ∀ i j, z (i + 1) (j + 1) = z i j) (ns ms : List Int) : ∀ (k i : Nat), i + k = min ns.length ms.length →
    Ob.lexAt (fun j => decide (ns.getD j 0 = ms.getD j 0)) (fun j => r (ns.getD j 0) (ms.getD j 0)) (z ns.length ms.length) i k = lexB r z (ns.drop i) (ms.drop i) := by
  have hzz : ∀ i n m, i ≤ n → i ≤ m → z (n - i) (m - i) = z n m := by
    intro i
    induction i with
    | zero => intro n m _ _; rfl
    | succ i ih =>
      intro n m h1 h2
      obtain ⟨n, rfl⟩ : ∃ n', n = n' + 1 := ⟨n - 1, by omega⟩
      obtain ⟨m, rfl⟩ : ∃ m', m = m' + 1 := ⟨m - 1, by omega⟩
      rw [Nat.add_sub_add_right, Nat.add_sub_add_right, ih n m (by omega) (by omega), hz]
  intro k
  induction k with
  | zero =>
    intro i h
    rw [Ob.lexAt_zero]
    have : lexB r z (ns.drop i) (ms.drop i) = z (ns.drop i).length (ms.drop i).length := by
      rcases Nat.le_total ns.length ms.length with g | g
      · rw [List.drop_eq_nil_of_le (show ns.length ≤ i by omega)]; unfold lexB; rfl
      · rw [List.drop_eq_nil_of_le (show ms.length ≤ i by omega)]
        cases ns.drop i <;> (unfold lexB; rfl)
    rw [this, List.length_drop, List.length_drop]
    exact (hzz i _ _ (by omega) (by omega)).symm
  | succ k ih =>
    intro i h
    rw [Ob.lexAt_succ, ih (i + 1) (by omega)]
    have h1 : i < ns.length := by omega
    have h2 : i < ms.length := by omega
    rw [List.drop_eq_getElem_cons h1, List.drop_eq_getElem_cons h2]
    have g1 : ns.getD i 0 = ns[i] := by simp [h1]
    have g2 : ms.getD i 0 = ms[i] := by simp [h2]
    rw [g1, g2, lexB_cons]
    by_cases he : ns[i] = ms[i]
    · simp [he]
    · simp [he]
def dCmpT (r : Int → Int → Bool) (z : Nat → Nat → Bool) : PyData → PyData → Option W
  | .tuple xs, .tuple ys => (intsOf xs).bind fun ns => (intsOf ys).map fun ms => .d (.bool (lexB r z ns ms))
  | _, _ => none
theorem cmpT {op : CmpOp} {r : Int → Int → Bool} {z : Nat → Nat → Bool} (hz : ∀ i j, z (i + 1) (j + 1) = z i j) (hc : ∀ a b, compareOp op a b = richCompare op a b)
    (hi : ∀ (A : Around) (s : Shared) (i j : Int) (t u : Tok), Ob.RcOp op A s (.int i t) (.int j u) (r i j))
    (ht : ∀ {A : Around} {s : Shared} {l b : Addr} {items items2 : Array Value} {e r : Nat → Bool}, s.heap.IsTuple l items → s.heap.IsTuple b items2 → A.units < cLine →
      (∀ j (h1 : j < items.size) (h2 : j < items2.size), SeqAt.EqAt A.in1 s items[j] items2[j] (e j)) → (∀ j (h1 : j < items.size) (h2 : j < items2.size), e j = false → Ob.RcOp op A.in1 s items[j] items2[j] (r j)) →
      Ob.RcOp op A s (.ref l) (.ref b) (Ob.lexAt e r (z items.size items2.size) 0 (min items.size items2.size)))
    (hu : X.A.units < cLine) : OpV X (compareOp op) (dCmpT r z) := by
  refine ⟨fun x y H Q => ∃ (a b : Addr) (ns ms : List Int), x = .ref a ∧ y = .ref b ∧ SqT X.K H a (ns.map V.int) ∧ SqT X.K H b (ms.map V.int) ∧ Q (.bl (lexB r z ns ms)) H, ?_, ?_⟩
  · rintro pins s σ H x y v u Q I rx ry ⟨a, b, ns, ms, rfl, rfl, ha, hb, q⟩
    have hv : v = .ref a := rx
    have hw : u = .ref b := ry
    subst hv hw
    obtain ⟨its, r1, p1, _⟩ := I.tuple ha
    obtain ⟨its2, r2, p2, _⟩ := I.tuple hb
    have i1 : IntsAre its ns := Vals.ints r1
    have i2 : IntsAre its2 ms := Vals.ints r2
    have e1 : its.toArray.size = ns.length := by rw [List.size_toArray]; exact i1.length
    have e2 : its2.toArray.size = ms.length := by rw [List.size_toArray]; exact i2.length
    have at1 : ∀ j (h1 : j < its.toArray.size), ∃ t, its.toArray[j] = .int (ns.getD j 0) t := fun j h1 => IntsAre.int_at i1 _ _ (by simp at h1; simp [h1])
    have at2 : ∀ j (h1 : j < its2.toArray.size), ∃ t, its2.toArray[j] = .int (ms.getD j 0) t := fun j h1 => IntsAre.int_at i2 _ _ (by simp at h1; simp [h1])
    have R := ht (A := X.A) (s := s) (e := fun j => decide (ns.getD j 0 = ms.getD j 0)) (r := fun j => r (ns.getD j 0) (ms.getD j 0)) p1 p2 hu (fun j h1 h2 => by
      obtain ⟨t, et⟩ := at1 j h1
      obtain ⟨t', et'⟩ := at2 j h2
      have hb : decide (ns.getD j 0 = ms.getD j 0) = (ns.getD j 0 == ms.getD j 0) := by
        by_cases g : ns.getD j 0 = ms.getD j 0
        · rw [decide_eq_true g, g]; simp
        · rw [decide_eq_false g]; exact (beq_eq_false_iff_ne.mpr g).symm
      rw [et, et']
      show SeqAt.EqAt _ _ _ _ (decide (ns.getD j 0 = ms.getD j 0))
      rw [hb]
      exact SeqAt.EqAt.int_int _ _ _ _) (fun j h1 h2 _ => by
      obtain ⟨t, et⟩ := at1 j h1
      obtain ⟨t', et'⟩ := at2 j h2
      rw [et, et']
      exact hi _ _ _ _ _ _)
    rw [e1, e2, lexB_at hz ns ms _ 0 (by omega), List.drop_zero, List.drop_zero] at R
    rw [hc]
    exact R _ _ _ _ ⟨.bl _, H, I, rfl, q⟩
  · intro A T x y dx dy w H Q tr rx ry e q
    cases dx with
    | tuple xs =>
      cases dy with
      | tuple ys =>
        simp only [dCmpT] at e
        obtain ⟨ns, h1, e⟩ := Option.bind_eq_some_iff.mp e
        obtain ⟨ms, h2, e⟩ := Option.map_eq_some_iff.mp e
        subst e
        obtain ⟨a, vs, rfl, k1, k2, _⟩ := rx.tup
        obtain ⟨b, us, rfl, j1, j2, _⟩ := ry.tup
        rw [intsOf_ok h1] at k2
        rw [intsOf_ok h2] at j2
        rw [k2.ints] at k1
        rw [j2.ints] at j1
        exact ⟨a, b, ns, ms, rfl, rfl, k1, j1, q _ _ Grow.refl (.bl _)⟩
      | _ => cases e
    | _ => cases e
def rLt (i j : Int) : Bool := decide (i < j)
def rLe (i j : Int) : Bool := decide (i ≤ j)
def rGt (i j : Int) : Bool := decide (j < i)
def rGe (i j : Int) : Bool := decide (j ≤ i)
def zLt (i j : Nat) : Bool := decide (i < j)
def zLe (i j : Nat) : Bool := decide (i ≤ j)
def zGt (i j : Nat) : Bool := decide (j < i)
def zGe (i j : Nat) : Bool := decide (j ≤ i)
/-- <, <=, >, >= of ints, of tuples of ints -/
def dCmp (r : Int → Int → Bool) (z : Nat → Nat → Bool) : PyData → PyData → Option W
  | .int i, .int j => some (.d (.bool (r i j)))
  | .tuple xs, .tuple ys => (intsOf xs).bind fun ns => (intsOf ys).map fun ms => .d (.bool (lexB r z ns ms))
  | _, _ => none
def dCmpI (r : Int → Int → Bool) : PyData → PyData → Option W
  | .int i, .int j => some (.d (.bool (r i j)))
  | _, _ => none
theorem opv_B {f : Value → Value → Sem Value} {r : Int → Int → Bool} (h : OpR X f (rI0 fun i j => .bl (r i j))) : OpV X f (dCmpI r) := ⟨_, h, fun A T x y dx dy w H Q tr rx ry e q => by
  cases dx with
  | int i =>
    cases dy with
    | int j =>
      cases e
      exact ⟨i, j, rx.int, ry.int, q _ _ Grow.refl (.bl _)⟩
    | _ => cases e
  | _ => cases e⟩
theorem dCmp_eq {r : Int → Int → Bool} {z : Nat → Nat → Bool} (x y : PyData) : dCmp r z x y = (dCmpI r x y).or (dCmpT r z x y) := by
  cases x <;> cases y <;> simp [dCmp, dCmpI, dCmpT]
theorem ov_lt (hu : X.A.units < cLine) : OpV X (compareOp .Lt) (dCmp rLt zLt) := ((opv_B (r := rLt) op_lt).or (cmpT (fun i j => by simp [zLt]) (fun _ _ => rfl) (fun _ _ _ _ _ _ => Ob.RcOp.lt_int _ _ _ _) (fun h1 h2 h3 h4 h5 => Ob.RcOp.tuples_lt h1 h2 h3 h4 h5) hu)).cast dCmp_eq
theorem ov_le (hu : X.A.units < cLine) : OpV X (compareOp .LtE) (dCmp rLe zLe) := ((opv_B (r := rLe) op_le).or (cmpT (fun i j => by simp [zLe]) (fun _ _ => rfl) (fun _ _ _ _ _ _ => Ob.RcOp.le_int _ _ _ _) (fun h1 h2 h3 h4 h5 => Ob.RcOp.tuples_le h1 h2 h3 h4 h5) hu)).cast dCmp_eq
theorem ov_gt (hu : X.A.units < cLine) : OpV X (compareOp .Gt) (dCmp rGt zGt) := ((opv_B (r := rGt) op_gt).or (cmpT (fun i j => by simp [zGt]) (fun _ _ => rfl) (fun _ _ _ _ _ _ => Ob.RcOp.gt_int _ _ _ _) (fun h1 h2 h3 h4 h5 => Ob.RcOp.tuples_gt h1 h2 h3 h4 h5) hu)).cast dCmp_eq
end
end L2.Lv
namespace L2.Lv
open PySem PySem.Spec PyProof.Rows
section
variable {X : Cx} {e a b c : Expr} {es rest : List Expr} {f fa fb : Fe} {d da db dc : Fd} {fs : Fa} {ds : Fds} {pos : Pos}
/-! in, not in -/
def seqOf : PyData → Option (List PyData)
  | .list xs => some xs
  | .tuple xs => some xs
  | _ => none
def memD (x : PyData) (xs : List PyData) : Bool := xs.any fun y => PyData.eqv y x
def dIn (x y : PyData) : Option W := (seqOf y).bind fun xs => if shp x && shp y then some (.d (.bool (memD x xs))) else none
def dNotIn (x y : PyData) : Option W := (seqOf y).bind fun xs => if shp x && shp y then some (.d (.bool (!memD x xs))) else none
theorem room_shp {A : Around} {xs : List PyData} {d : PyData} (hd : SeqAt.shaped d = true) (hu : A.units + 65 < cLine) : A.units + 1 + min (PyData.depthAll xs) d.depth < cLine := by
  have h1 := SeqAt.depth_of_shaped hd
  have h2 : min (PyData.depthAll xs) d.depth ≤ d.depth := Nat.min_le_right _ _
  omega
theorem ov_inG {op : CmpOp} {neg : Bool} (hu : X.A.units + 65 < cLine)
    (rl : ∀ {s : Shared} {c x : Value} {xs : List PyData} {d : PyData} {as bs : List Addr} {Q : Value → Shared → Prop} {E : Value → Shared → Prop}, Reads s.heap c (.list xs) as → Reads s.heap x d bs → PyData.canLayAll0 xs = true → d.canLay0 = true →
      X.A.units + 1 + min (PyData.depthAll xs) d.depth < cLine → Q (.bool (xor neg (memD d xs))) s → wpAny (model X.prog X.w) X.A (compareOp op x c) Q E s)
    (rt : ∀ {s : Shared} {c x : Value} {xs : List PyData} {d : PyData} {as bs : List Addr} {Q : Value → Shared → Prop} {E : Value → Shared → Prop}, Reads s.heap c (.tuple xs) as → Reads s.heap x d bs → PyData.canLayAll0 xs = true → d.canLay0 = true →
      X.A.units + 1 + min (PyData.depthAll xs) d.depth < cLine → Q (.bool (xor neg (memD d xs))) s → wpAny (model X.prog X.w) X.A (compareOp op x c) Q E s) :
    OpV X (compareOp op) (fun x y => (seqOf y).bind fun xs => if shp x && shp y then some (.d (.bool (xor neg (memD x xs)))) else none) := by
  refine ⟨fun x y H Q => ∃ d y', Dp X.K H x d ∧ Dp X.K H y y' ∧ shp d = true ∧ shp y' = true ∧ ∃ xs, seqOf y' = some xs ∧ Q (.bl (xor neg (memD d xs))) H, ?_, ?_⟩
  · rintro pins s σ H x y v u Q I rx ry ⟨d, y', hd, hy, sd, sy, xs, hs, q⟩
    obtain ⟨as, r1⟩ := Dp.reads I d x v hd rx
    obtain ⟨bs, r2⟩ := Dp.reads I y' y u hy ry
    cases y' with
    | list ys => cases hs; exact rl r2 r1 (SeqAt.canLay_of_shaped sy) (SeqAt.canLay_of_shaped sd) (room_shp sd hu) ⟨.bl _, H, I, rfl, q⟩
    | tuple ys => cases hs; exact rt r2 r1 (SeqAt.canLay_of_shaped sy) (SeqAt.canLay_of_shaped sd) (room_shp sd hu) ⟨.bl _, H, I, rfl, q⟩
    | _ => cases hs
  · intro A T x y dx dy w H Q tr rx ry e q
    obtain ⟨xs, h1, e⟩ := Option.bind_eq_some_iff.mp e
    split at e
    · rename_i hs
      rw [Bool.and_eq_true] at hs
      cases e
      exact ⟨dx, dy, rx.dp hs.1, ry.dp hs.2, hs.1, hs.2, xs, h1, q _ _ Grow.refl (.bl _)⟩
    · cases e
theorem ov_in (hu : X.A.units + 65 < cLine) : OpV X (compareOp .In) dIn := (ov_inG (neg := false) hu (fun h1 h2 h3 h4 h5 h6 => SeqAt.in_list_reads h1 h2 h3 h4 h5 (by simpa [memD] using h6)) (fun h1 h2 h3 h4 h5 h6 => SeqAt.in_tuple_reads h1 h2 h3 h4 h5 (by simpa [memD] using h6))).cast fun x y => by simp [dIn]
theorem ov_notIn (hu : X.A.units + 65 < cLine) : OpV X (compareOp .NotIn) dNotIn := (ov_inG (neg := true) hu (fun h1 h2 h3 h4 h5 h6 => SeqAt.notIn_list_reads h1 h2 h3 h4 h5 (by simpa [memD] using h6)) (fun h1 h2 h3 h4 h5 h6 => SeqAt.notIn_tuple_reads h1 h2 h3 h4 h5 (by simpa [memD] using h6))).cast fun x y => by simp [dNotIn]
/-! -x -/
def dNeg : PyData → Option W
  | .int i => some (.d (.int (-i)))
  | _ => none
def eUn (g : PyData → Option W) (d : Fd) : Fe := fun ρ n => (d ρ n).bind fun p => (g p.1).map (·, p.2)
theorem ev_neg (ha : EvB X a d) : EvE X (.UnaryOp .USub a pos) (eUn dNeg d) := peI (pe_un un_neg ha) (by
  rintro σ H Q ⟨C, O, ρ, n, w, n', hf, E, q⟩
  unfold eUn at hf
  obtain ⟨⟨x, n1⟩, e1, hf⟩ := Option.bind_eq_some_iff.mp hf
  obtain ⟨z, e2, hf⟩ := Option.map_eq_some_iff.mp hf
  cases hf
  refine ⟨C, O, ρ, n, x, _, e1, E, fun v H1 s t r => ?_⟩
  cases x with
  | int i =>
    cases e2
    exact ⟨i, r.int, q _ H1 s t (.int _)⟩
  | _ => cases e2)
/-- not x as a value -/
def eNotD (d : Fd) : Fe := fun ρ n => (d ρ n).bind fun p => (dTru p.1).map fun c => (.d (.bool (!c)), p.2)
theorem ev_notD (ha : EvB X a d) : EvE X (.UnaryOp .Not a pos) (eNotD d) := peI (pe_notT ha) (by
  rintro σ H Q ⟨C, O, ρ, n, w, n', hf, E, q⟩
  unfold eNotD at hf
  obtain ⟨⟨x, n1⟩, e1, hf⟩ := Option.bind_eq_some_iff.mp hf
  obtain ⟨z, e2, hf⟩ := Option.map_eq_some_iff.mp hf
  cases hf
  exact ⟨C, O, ρ, n, x, _, e1, E, fun v H1 s t r => ⟨z, dTru_ok r e2, q _ H1 s t (.bl _)⟩⟩)
/-- x or y by truth -/
def eOrD (fa fb : Fe) : Fe := fun ρ n => (fa ρ n).bind fun p => p.1.val.bind fun x => (dTru x).bind fun c => if c then some (.d x, p.2) else fb ρ p.2
/-! a op b op' c -/
def eChain (g g' : PyData → PyData → Option W) (da db dc : Fd) : Fe := fun ρ n => (da ρ n).bind fun p => (db ρ p.2).bind fun q => (g p.1 q.1).bind fun w => match w with
  | .d (.bool true) => (dc ρ q.2).bind fun r => (g' q.1 r.1).map (·, r.2)
  | .d (.bool false) => some (.d (.bool false), q.2)
  | _ => none
theorem chain_run {fo fo' : Value → Value → Sem Value} {g g' : PyData → PyData → Option W} {r r' : R2} {σ : St} {H : Hp} {Q : VK}
    (h2 : ∀ (A : Addr → Prop) (T : Option Addr) (x y : V) (dx dy : PyData) (w : W) (H : Hp) (Q : VK), (∀ a, A a → H a ≠ none) → DvB A T X.K H x dx → DvB A T X.K H y dy → g dx dy = some w → (∀ v H', Grow H H' → Res A none X.K H H' v w → Q v H') → r x y H Q)
    (h2' : ∀ (A : Addr → Prop) (T : Option Addr) (x y : V) (dx dy : PyData) (w : W) (H : Hp) (Q : VK), (∀ a, A a → H a ≠ none) → DvB A T X.K H x dx → DvB A T X.K H y dy → g' dx dy = some w → (∀ v H', Grow H H' → Res A none X.K H H' v w → Q v H') → r' x y H Q)
    (h : tV X.K (eChain g g' da db dc) σ H Q) : tChain r r' (tVB X.K da) (tVB X.K db) (tVB X.K dc) σ H Q := by
  obtain ⟨C, O, ρ, n, w, n', hf, E, q⟩ := h
  unfold eChain at hf
  obtain ⟨⟨x, n1⟩, e1, hf⟩ := Option.bind_eq_some_iff.mp hf
  obtain ⟨⟨y, n2⟩, e2, hf⟩ := Option.bind_eq_some_iff.mp hf
  obtain ⟨z, e3, hf⟩ := Option.bind_eq_some_iff.mp hf
  refine ⟨C, O, ρ, n, x, n1, e1, E, fun vx H1 s1 t1 r1 => ?_⟩
  have E1 := E.step s1 t1
  refine ⟨C, O, ρ, n1, y, n2, e2, E1, fun vy H2 s2 t2 r2 => ?_⟩
  have E2 := E1.step s2 t2
  refine h2 (Av C O) C.T vx vy x y z H2 _ E2.av (r1.step s2 Av.t) r2 e3 fun v H3 g3 r3 => ?_
  have r3 := r3.none_any (T := C.T)
  have E3 := E2.step g3.step (g3.town t2)
  have S3 : Step C H H3 := (s1.trans s2).trans g3.step
  cases z with
  | d zd =>
    cases zd with
    | bool cc =>
      have r3 : Dv (Av C O) X.K H3 v (.bool cc) := r3
      cases r3
      refine ⟨cc, rfl, ?_⟩
      cases cc with
      | true =>
        rw [if_pos rfl]
        obtain ⟨⟨u, n3⟩, e4, hf⟩ := Option.bind_eq_some_iff.mp hf
        obtain ⟨z', e5, hf⟩ := Option.map_eq_some_iff.mp hf
        cases hf
        refine ⟨C, O, ρ, n2, u, _, e4, E3, fun vu H4 s4 t4 r4 => ?_⟩
        refine h2' (Av C O) C.T vy vu y u _ H4 Q (E3.step s4 t4).av ((r2.step g3.step Av.t).step s4 Av.t) r4 e5 fun v H5 g5 r5 => ?_
        exact q v H5 ((S3.trans s4).trans g5.step) (g5.town t4) (r5.none_any.back fun a ha => (S3.trans s4).fr a ha)
      | false =>
        rw [if_neg (by simp)]
        cases hf
        exact q _ H3 S3 (g3.town t2) (.bl _)
    | _ => cases hf
  | _ => cases hf
theorem et_chain {op op' : CmpOp} {g g' : PyData → PyData → Option W} (ho : OpV X (compareOp op) g) (ho' : OpV X (compareOp op') g') (ha : EvB X a da) (hb : EvB X b db) (hc : EvB X c dc)
    (hm : lastMarks [op, op'] [b, c] = false := by with_unfolding_all rfl) : EvT X (.Compare a [op, op'] [b, c] pos) (bTest (eChain g g' da db dc)) := by
  obtain ⟨r, h1, h2⟩ := ho
  obtain ⟨r', h1', h2'⟩ := ho'
  exact ptI (pt_chain h1 h1' ha hb hc hm) fun σ H Q h => chain_run (fo := compareOp op) (fo' := compareOp op') h2 h2' (tV_bool h)
/-! built-ins -/
theorem DvBs.one {A : Addr → Prop} {T : Option Addr} {K : PySem.W.Frag} {H : Hp} {vs : List V} {x : PyData} (h : DvBs A T K H vs [x]) : ∃ v, vs = [v] ∧ DvB A T K H v x := by
  cases h with
  | cons h t => cases t; exact ⟨_, rfl, h⟩
theorem DvBs.two {A : Addr → Prop} {T : Option Addr} {K : PySem.W.Frag} {H : Hp} {vs : List V} {x y : PyData} (h : DvBs A T K H vs [x, y]) : ∃ v u, vs = [v, u] ∧ DvB A T K H v x ∧ DvB A T K H u y := by
  cases h with
  | cons h t =>
    cases t with
    | cons h' t => cases t; exact ⟨_, _, rfl, h, h'⟩
def gLen : List PyData → Option W
  | [.list xs] => some (.d (.int xs.length))
  | [.tuple xs] => some (.d (.int xs.length))
  | _ => none
theorem cv_len : CallV X (.builtin "len") gLen := ⟨_, call_len_seq, fun A T vs xs w H Q tr rx e q => by
  unfold gLen at e
  split at e
  · cases e
    obtain ⟨v, rfl, r⟩ := rx.one
    obtain ⟨a, us, rfl, h1, h2⟩ := r.lst
    exact ⟨a, us, rfl, .inl h1, by rw [h2.length]; exact q _ _ Grow.refl (.int _)⟩
  · cases e
    obtain ⟨v, rfl, r⟩ := rx.one
    obtain ⟨a, us, rfl, h1, h2, _⟩ := r.tup
    exact ⟨a, us, rfl, .inr h1, by rw [h2.length]; exact q _ _ Grow.refl (.int _)⟩
  · cases e⟩
def gAbs : List PyData → Option W
  | [.int i] => some (.d (.int (if i < 0 then -i else i)))
  | _ => none
theorem cv_abs : CallV X (.builtin "abs") gAbs := ⟨_, call_abs, fun A T vs xs w H Q tr rx e q => by
  unfold gAbs at e
  split at e
  · cases e
    obtain ⟨v, rfl, r⟩ := rx.one
    exact ⟨_, by rw [r.int], q _ _ Grow.refl (.int _)⟩
  · cases e⟩
def gMax2 : List PyData → Option W
  | [.int i, .int j] => some (.d (.int (if j > i then j else i)))
  | _ => none
theorem cv_max2 (hc : X.calm = true) : CallV X (.builtin "max") gMax2 := ⟨_, call_max2 hc, fun A T vs xs w H Q tr rx e q => by
  unfold gMax2 at e
  split at e
  · cases e
    obtain ⟨v, u, rfl, r, r'⟩ := rx.two
    exact ⟨_, _, by rw [r.int, r'.int], q _ _ Grow.refl (.int _)⟩
  · cases e⟩
def gMin2 : List PyData → Option W
  | [.int i, .int j] => some (.d (.int (if j < i then j else i)))
  | _ => none
def gInt : List PyData → Option W
  | [.int i] => some (.d (.int i))
  | [.bool b] => some (.d (.int (if b then 1 else 0)))
  | _ => none
theorem cv_int : CallV X (.type "int") gInt := ⟨_, call_int1, fun A T vs xs w H Q tr rx e q => by
  unfold gInt at e
  split at e
  · cases e
    obtain ⟨v, rfl, r⟩ := rx.one
    exact .inl ⟨_, by rw [r.int], q _ _ Grow.refl (.int _)⟩
  · cases e
    obtain ⟨v, rfl, r⟩ := rx.one
    exact .inr ⟨_, by rw [r.bl], q _ _ Grow.refl (.int _)⟩
  · cases e⟩
def gTup : List PyData → Option W
  | [.list xs] => some (.d (.tuple xs))
  | [.tuple xs] => some (.d (.tuple xs))
  | _ => none
theorem cv_tup : CallV X (.type "tuple") gTup := ⟨_, call_tupF, fun A T vs xs w H Q tr rx e q => by
  unfold gTup at e
  split at e
  · cases e
    obtain ⟨v, rfl, r⟩ := rx.one
    obtain ⟨a, us, rfl, h1, h2⟩ := r.lst
    exact ⟨a, us, rfl, .inl ⟨h1, fun p o ho hp => q _ _ (Grow.upd hp) (new_tup hp tr ho h2)⟩⟩
  · cases e
    obtain ⟨v, rfl, r⟩ := rx.one
    obtain ⟨a, us, rfl, h1, h2, h3⟩ := r.tup
    exact ⟨a, us, rfl, .inr ⟨h1, q _ _ Grow.refl h3⟩⟩
  · cases e⟩
def gList : List PyData → Option W
  | [.list xs] => some (.ol xs)
  | [.tuple xs] => some (.ol xs)
  | _ => none
def boolsOf : List PyData → Option (List Bool)
  | [] => some []
  | .bool i :: xs => (boolsOf xs).map (i :: ·)
  | _ :: _ => none
theorem boolsOf_ok : ∀ {xs : List PyData} {ns : List Bool}, boolsOf xs = some ns → xs = ns.map .bool
  | [], _, h => by cases h; rfl
  | x :: xs, ns, h => by
    cases x with
    | bool i =>
      obtain ⟨ms, h1, h2⟩ := Option.map_eq_some_iff.mp (show (boolsOf xs).map (i :: ·) = some ns from h)
      subst h2
      rw [boolsOf_ok h1]
      rfl
    | _ => cases h
@[simp] theorem boolsOf_map : ∀ (ns : List Bool), boolsOf (ns.map .bool) = some ns
  | [] => rfl
  | n :: ns => by show (boolsOf (ns.map .bool)).map (n :: ·) = _; rw [boolsOf_map ns]; rfl
theorem DvAll.bools {A : Addr → Prop} {K : PySem.W.Frag} {H : Hp} : ∀ {ns : List Bool} {vs : List V}, DvAll A K H vs (ns.map .bool) → vs = ns.map V.bl
  | [], _, h => by cases h; rfl
  | n :: ns, _, h => by
    cases h with
    | cons h1 h2 => cases h1; rw [DvAll.bools h2]; rfl
def gAll : List PyData → Option W
  | [.list xs] => (boolsOf xs).map fun bs => .d (.bool (bs.all id))
  | _ => none
theorem cv_all (hc : X.calm = true) : CallV X (.builtin "all") gAll := ⟨_, cr_all hc, fun A T vs xs w H Q tr rx e q => by
  unfold gAll at e
  split at e
  · rename_i ys
    obtain ⟨bs, h, e⟩ := Option.map_eq_some_iff.mp e
    subst e
    obtain ⟨v, rfl, r⟩ := rx.one
    obtain ⟨a, us, rfl, h1, h2⟩ := r.lst
    rw [boolsOf_ok h] at h2
    rw [h2.bools] at h1
    exact ⟨a, bs, rfl, h1, q _ _ Grow.refl (.bl _)⟩
  · cases e⟩
def gAny : List PyData → Option W
  | [.list xs] => (boolsOf xs).map fun bs => .d (.bool (bs.any id))
  | _ => none
def gSum : List PyData → Option W
  | [.list xs] => (intsOf xs).map fun bs => .d (.int bs.sum)
  | _ => none
/-! list(range(..)) -/
def eListRg1 (d : Fd) : Fe := fun ρ n => (d ρ n).bind fun p => match p.1 with
  | .int j => if 0 ≤ j ∧ j ≤ big then some (.ol (rangeD 0 j.toNat), p.2) else none
  | _ => none
theorem DvAll.rg {A : Addr → Prop} {K : PySem.W.Frag} {H : Hp} {a b : Int} : DvAll A K H (rgV a b) (rangeD a (b - a).toNat) := by
  unfold rgV rangeD
  generalize List.range (b - a).toNat = l
  induction l with
  | nil => exact .nil
  | cons x xs ih => exact .cons (.int _) ih
/-! isinstance -/
def tyN : PyData → String
  | .none => "NoneType"
  | .bool _ => "bool"
  | .int _ => "int"
  | .str _ => "str"
  | .list _ => "list"
  | .tuple _ => "tuple"
  | .dict _ => "dict"
/-- whether a thing is of one of the five types asked here -/
def isa (T : String) (x : PyData) : Bool := T == tyN x || (T == "int" && tyN x == "bool")
def eIsa (T : String) (d : Fd) : Fe := fun ρ n => (d ρ n).bind fun p => match p.1 with
  | .dict _ => none
  | x => some (.d (.bool (isa T x)), p.2)
theorem dv_ty {A : Addr → Prop} {T : Option Addr} {K : PySem.W.Frag} {H : Hp} {v : V} {x : PyData} (h : DvB A T K H v x) (hx : ∀ kvs, x ≠ .dict kvs) : TyX K H v (.type (tyN x)) := by
  cases x with
  | none => rw [h.non]; exact .base .non
  | bool b => rw [h.bl]; exact .base (.bl b)
  | int b => rw [h.int]; exact .base (.int b)
  | str b => rw [h.str]; exact .base (.str b)
  | list b =>
    obtain ⟨a, vs, rfl, h1, _⟩ := h.lst
    rcases h1 with (h1 | ⟨o, h1⟩) | ⟨o, _, _, h1, h2, _⟩
    · exact .base (.lst h1)
    · exact .base (.frz h1)
    · exact .kList h1 h2
  | tuple b =>
    rcases h with h | ⟨a, vs, ds, _, h2, _⟩ | ⟨a, kvs, _, h2, _⟩
    · cases h with
      | tup hs ha =>
        rcases hs with ⟨_, o, h1, _⟩ | ⟨_, o, h1, h2, _⟩
        · exact .fTuple h1
        · exact .kTuple h1 h2
    · cases h2
    · cases h2
  | dict kvs => exact absurd rfl (hx kvs)
theorem ev_isa {T : String} {p : Pos} (hT : ∀ (K : PySem.W.Frag) (x : PyData), (∀ kvs, x ≠ .dict kvs) → PySem.W.kitOne K (.type (tyN x)) (.type T) = some (isa T x))
    (hg : Gl X "isinstance") (hm : X.mg "isinstance" = none) (hv : bootBuiltins "isinstance" = some (.builtin "isinstance")) (ha : EvB X a d) (hb : PE X b (tC (.ty T))) (he : starEach [a, b] X.env = (false, eval a X.env) :: starEach [b] X.env := by rfl) (he2 : starEach [b] X.env = (false, eval b X.env) :: starEach [] X.env := by rfl) (hpl : (backTo pos (starEach [b] X.env)).any (·.1) = false := by rfl) :
    EvE X (.Call (.Name "isinstance" p) [a, b] [] pos) (eIsa T d) := by
  refine peI (pe_callB call_isi hg hm hv (pa_cons ha (pa_cons hb pa_nil he2) he) (by decide) (by decide) he hpl) ?_
  rintro σ H Q ⟨C, O, ρ, n, w, n', hf, E, q⟩
  unfold eIsa at hf
  obtain ⟨⟨x, n1⟩, e1, hf⟩ := Option.bind_eq_some_iff.mp hf
  refine ⟨C, O, ρ, n, x, n1, e1, E, fun v H1 s t r => ?_⟩
  have key : (∀ kvs, x ≠ .dict kvs) → w = .d (.bool (isa T x)) → n1 = n' → rIsi X.K [v, .ty T] H1 Q := by
    rintro hx rfl rfl
    exact ⟨v, .ty T, _, _, _, rfl, .ty T, dv_ty r hx, hT X.K x hx, q _ H1 s t (.bl _)⟩
  cases x with
  | dict kvs => cases hf
  | none => cases hf; exact key (fun _ z => nomatch z) rfl rfl
  | bool _ => cases hf; exact key (fun _ z => nomatch z) rfl rfl
  | int _ => cases hf; exact key (fun _ z => nomatch z) rfl rfl
  | str _ => cases hf; exact key (fun _ z => nomatch z) rfl rfl
  | list _ => cases hf; exact key (fun _ z => nomatch z) rfl rfl
  | tuple _ => cases hf; exact key (fun _ z => nomatch z) rfl rfl
theorem isa_int (K : PySem.W.Frag) (x : PyData) (h : ∀ kvs, x ≠ .dict kvs) : PySem.W.kitOne K (.type (tyN x)) (.type "int") = some (isa "int" x) := by
  cases x with
  | dict kvs => exact absurd rfl (h kvs)
  | _ => rfl
theorem isa_bool (K : PySem.W.Frag) (x : PyData) (h : ∀ kvs, x ≠ .dict kvs) : PySem.W.kitOne K (.type (tyN x)) (.type "bool") = some (isa "bool" x) := by
  cases x with
  | dict kvs => exact absurd rfl (h kvs)
  | _ => rfl
theorem isa_str (K : PySem.W.Frag) (x : PyData) (h : ∀ kvs, x ≠ .dict kvs) : PySem.W.kitOne K (.type (tyN x)) (.type "str") = some (isa "str" x) := by
  cases x with
  | dict kvs => exact absurd rfl (h kvs)
  | _ => rfl
theorem isa_tuple (K : PySem.W.Frag) (x : PyData) (h : ∀ kvs, x ≠ .dict kvs) : PySem.W.kitOne K (.type (tyN x)) (.type "tuple") = some (isa "tuple" x) := by
  cases x with
  | dict kvs => exact absurd rfl (h kvs)
  | _ => rfl
end
end L2.Lv
namespace L2.Lv
open PySem PySem.Spec PyProof.Rows
/-! sorted of a list or a tuple, at the library's level -/
section
variable {prog : Program} {w : World} {A : Around} {E : Value → Shared → Prop} {s : Shared}
theorem collect_tup {l : Addr} {vs : List Value} {Q : List Value → Shared → Prop} (ht : IsTup s.heap l vs.toArray) (hz : vs.length ≤ sizeLine)
    (h : Q vs { s with heap := (s.heap.push (seqObj "list" #[] 0)).update s.heap.objs.size (Obj.mapSeq (· ++ vs.toArray)) }) : wpAny (model prog w) A (collect (.ref l)) Q E s := by
  obtain ⟨o, ho, hcl, n, hd⟩ := id ht
  have ho' : (s.heap.push (seqObj "list" #[] 0)).get? l = some o := Heap.get?_push_of_some _ ho
  have hnew : (s.heap.push (seqObj "list" #[] 0)).get? s.heap.objs.size = some (seqObj "list" #[] 0) := Heap.get?_push_size _ rfl
  unfold collect
  refine wpAny_bind (wpAny_runValue (codeAny_builtin entry_proto_collect' ?_))
  show wpAny _ _ (do again (.builtin "list.__iadd__" ⟨[← newList [], .ref l], []⟩)) _ _ s
  refine wpAny_bind (wpAny_newList (wpAny_pure ⟨Code.quiet_builtin _ (by decide +kernel), codeAny_builtin entry_list_iadd' ?_⟩))
  show wpAny _ _ (Builtin.List.listExtendWith (.ref s.heap.objs.size) (.ref l) (.ref s.heap.objs.size)) _ _ { s with heap := s.heap.push (seqObj "list" #[] 0) }
  unfold Builtin.List.listExtendWith
  refine wpAny_bind (wpAny_typeOf (T := "tuple") ⟨o, ho', hcl⟩ ?_)
  rw [if_pos (by rw [show (Value.type "tuple" == Value.type "tuple") = true from rfl, Bool.or_true])]
  refine wpAny_bind (listItems_at ho' hd (wpAny_bind (listItems_at (xs := #[]) (n := 0) hnew rfl ?_)))
  rw [if_neg (by simp)]
  refine wpAny_bind (listUpdate_at (xs := #[]) (n := 0) hnew rfl ?_ (Nat.zero_le _) (by show (#[] ++ vs.toArray).size ≤ sizeLine + 1; simp only [Array.size_append, List.size_toArray, List.length_nil]; omega))
  refine wpAny_pure ?_
  show wpAny (model prog w) A (do
      let x ← load s.heap.objs.size
      match x.data with
      | .seq ys _ => pure ys.toList
      | _ => unsupported "internal:collect") Q E _
  refine wpAny_bind (wpAny_load (get?_update_seq hnew _) ?_)
  show wpAny _ _ (pure ((#[] : Array Value) ++ vs.toArray).toList) Q E _
  rw [show ((#[] : Array Value) ++ vs.toArray).toList = vs by simp]
  exact wpAny_pure h
open PySem.W in
theorem sorted_tup {l : Addr} {vs : List Value} {κ : PyProof.Rows.KeyKind} {Q : Value → Shared → Prop} (ht : IsTup s.heap l vs.toArray) (hz : vs.length ≤ sizeLine)
    (S : SortsAt prog w A.in1.in1 { s with heap := sortingHeap (copyHeap s.heap vs) (s.heap.objs.size + 1) vs } κ vs)
    (h : Q (.ref (s.heap.objs.size + 1)) { s with heap := sortedAll s.heap vs (sortVals κ false vs vs).toArray }) : wpAny (model prog w) A (call (.builtin "sorted") [.ref l]) Q E s := by
  refine call_function_entry_kw kind_sorted plain_sorted entry_sorted (args_sorted1 _) ?_
  unfold Builtin.«sorted»
  refine wpAny_bind (m := checkCount "sorted" 1 1 _) (wpAny_pure (wpAny_bind (collect_tup ht hz (wpAny_bind (wpAny_newList ?_ hz)))))
  have hsz : ((s.heap.push (seqObj "list" #[] 0)).update s.heap.objs.size (Obj.mapSeq (· ++ vs.toArray))).objs.size = s.heap.objs.size + 1 := by
    rw [Heap.size_update, size_push']
  show wpAny _ _ _ _ _ { s with heap := copyHeap s.heap vs }
  rw [hsz]
  refine wpAny_bind (wpAny_holding (wpAny_call_entry_kw slot_list_sort ⟨_, copyHeap_at s.heap vs, rfl⟩ entry_list_sort ?body (args_list_sort _)))
  case body =>
    show wpAny (model prog w) A.in1.in1 (Builtin.«list.sort» ⟨[.ref (s.heap.objs.size + 1)], []⟩) _ _ _
    exact list_sort_vals (s := { s with heap := copyHeap s.heap vs }) (copyHeap_at s.heap vs) S hz ⟨_, rfl, wpAny_pure ⟨_, rfl, h⟩⟩
end
section
open PySem.W
/-- what sorted can put in order here -/
def srtOk (xs : List PyData) : Bool := (xs.all fun x => xs.all fun y => alike x y) && ((xs.all fun x => match x with | .tuple (_ :: _) => true | _ => false) || (xs.all fun x => match x with | .none => false | .tuple _ => false | _ => true)) && xs.all fun x => decide (x.depth ≤ 64)
def srt (xs : List PyData) : List PyData := xs.mergeSort (dataLe false fun x => x)
def gSorted : List PyData → Option W
  | [x] => (seqOf x).bind fun xs => if srtOk xs then some (.ol (srt xs)) else none
  | _ => none
theorem srtOk_alike {xs : List PyData} (h : srtOk xs = true) : AllAlike (xs.map fun x => x) := by
  unfold srtOk at h
  simp only [Bool.and_eq_true, List.all_eq_true] at h
  intro d hd d' hd'
  rw [List.map_id'] at hd hd'
  exact h.1.1 d hd d' hd'
theorem srtOk_sortable {xs : List PyData} (h : srtOk xs = true) : Sortable (xs.map fun x => x) := by
  unfold srtOk at h
  simp only [Bool.and_eq_true, Bool.or_eq_true, List.all_eq_true] at h
  rcases h.1.2 with h | h
  · refine .inl fun d hd => ?_
    rw [List.map_id'] at hd
    have := h d hd
    split at this
    · exact ⟨_, _, rfl⟩
    · cases this
  · refine .inr fun d hd => ?_
    rw [List.map_id'] at hd
    have := h d hd
    refine ⟨fun e => ?_, fun ys e => ?_⟩ <;> (subst e; cases this)
theorem srtOk_depth {xs : List PyData} (h : srtOk xs = true) : ∀ d ∈ xs, d.depth ≤ 64 := by
  unfold srtOk at h
  simp only [Bool.and_eq_true, List.all_eq_true] at h
  intro d hd
  exact of_decide_eq_true (h.2 d hd)
variable {X : Cx}
def RvD (A : Addr → Prop) (K : PySem.W.Frag) (H : Hp) (u : Value) (d : PyData) : Prop := ∃ v, RelV v u ∧ Dv A K H v d
theorem each_of {A : Addr → Prop} {K : PySem.W.Frag} {H : Hp} : ∀ {ds : List PyData} {vs : List V} {us : List Value}, DvAll A K H vs ds → Vals vs us → EachIs (RvD A K H) us ds
  | [], _, _, h, r => by cases h; cases r; exact .nil
  | d :: ds, _, _, h, r => by
    cases h with
    | cons h1 h2 =>
      cases r with
      | cons r1 r2 => exact .cons ⟨_, r1, h1⟩ (each_of h2 r2)
theorem of_each {A : Addr → Prop} {K : PySem.W.Frag} {H : Hp} : ∀ {ds : List PyData} {us : List Value}, EachIs (RvD A K H) us ds → ∃ vs, DvAll A K H vs ds ∧ Vals vs us
  | [], _, h => by cases h; exact ⟨[], .nil, .nil⟩
  | d :: ds, _, h => by
    cases h with
    | cons h1 h2 =>
      obtain ⟨v, r1, q1⟩ := h1
      obtain ⟨vs, q2, r2⟩ := of_each h2
      exact ⟨v :: vs, .cons q1 q2, .cons r1 r2⟩
theorem eachIs_len {α β : Type} {R : α → β → Prop} : ∀ {as : List α} {bs : List β}, EachIs R as bs → as.length = bs.length
  | _, _, .nil => rfl
  | _, _, .cons _ t => congrArg (· + 1) (eachIs_len t)
def rSortedV (K : PySem.W.Frag) : List V → Hp → VK → Prop := fun vs H Q => ∃ (A : Addr → Prop) (a : Addr) (us : List V) (xs : List PyData), vs = [V.ref a] ∧ (SqL K H a us ∨ SqT K H a us) ∧ DvAll A K H us xs ∧ srtOk xs = true ∧
  ∀ p us', H p = none → DvAll A K H us' (srt xs) → Q (.ref p) (upd H p (.lst us'))
theorem cr_sortedV (hu : X.A.units + 100 < cLine) : CallR X (.builtin "sorted") (rSortedV X.K) := by
  rintro pins s σ H vs us Q I r ⟨A, a, zs, xs, rfl, hs, hd, hok, q⟩
  rw [Vals.ref1 r]
  have fin : ∀ (its out : List Value), out.length = xs.length → xs.length ≤ sizeLine → EachIs (RvD A X.K H) out (srt xs) → EP X pins σ Q (.ref (s.heap.objs.size + 1)) { s with heap := sortedAll s.heap its out.toArray } := by
    intro its out h1 hz h2
    obtain ⟨us', k1, k2⟩ := of_each h2
    obtain ⟨ep, he'⟩ := PyProof.Rows.sortedAll_at s.heap its out.toArray
    exact ⟨.ref _, upd H (s.heap.objs.size + 1) (.lst us'), I.laid (t' := s.toks) (fun _ _ => PyProof.Rows.sortedAll_old) (Nat.le_succ _) ⟨by rw [k2.length, h1]; exact hz, out, ep, k2, he'⟩, rfl, q _ us' (I.hok.fresh (Nat.le_succ _)) k1⟩
  rcases hs with hs | hs
  · obtain ⟨its, rv, hl, hz⟩ := I.list hs
    have e1 := each_of hd rv
    obtain ⟨as, hr⟩ := Dp.readsAll I xs zs its hd.dp rv
    have hlen : xs.length ≤ sizeLine := by rw [← hd.length]; exact hz
    refine sorted_data (enc := fun x => x) hl.isList e1 (readsAll_each (fun x => x) (as := as) (by rw [List.map_id']; exact hr)) (srtOk_alike hok) (srtOk_sortable hok) hlen (fun b hb => ?_) fun out h1 h2 => fin its out h1 hlen h2
    have := srtOk_depth hok b hb
    omega
  · obtain ⟨its, rv, hl, hz⟩ := I.tuple hs
    have e1 := each_of hd rv
    obtain ⟨as, hr⟩ := Dp.readsAll I xs zs its hd.dp rv
    have hlen : xs.length ≤ sizeLine := by rw [← hd.length]; exact hz
    have er : EachIs (fun v b => ∃ as, Reads s.heap v ((fun x => x) b) as) its xs := readsAll_each (fun x => x) (as := as) (by rw [List.map_id']; exact hr)
    have er' : EachIs (fun v b => ∃ as, Reads (sortingHeap (copyHeap s.heap its) (s.heap.objs.size + 1) its) v ((fun x => x) b) as) its xs := er.mono fun _ _ ⟨as, r⟩ => ⟨as, PyProof.Rows.Reads.keeps (fun _ _ => sorting_copy_old) r⟩
    have hb : ∀ d, d ∈ xs.map (fun x => x) → X.A.in1.in1.units + d.depth < cLine := fun d hd => by
      rw [List.map_id'] at hd
      have := srtOk_depth hok d hd
      show X.A.units + 1 + 1 + _ < _
      omega
    refine sorted_tup hl (by rw [← rv.length]; exact hz) (SortsAt.data (s := { s with heap := sortingHeap (copyHeap s.heap its) (s.heap.objs.size + 1) its }) (each_map (R := fun v d => ∃ as, Reads (sortingHeap (copyHeap s.heap its) (s.heap.objs.size + 1) its) v d as) (fun x => x) er') (srtOk_alike hok) (srtOk_sortable hok) hb) ?_
    exact fin its _ (by rw [sortVals_length false rfl]; exact eachIs_len e1) hlen (sortVals_data false e1 er' (srtOk_alike hok))
theorem cv_sorted (hu : X.A.units + 100 < cLine) : CallV X (.builtin "sorted") gSorted := ⟨_, cr_sortedV hu, fun A T vs xs w H Q tr rx e q => by
  unfold gSorted at e
  split at e
  · rename_i x
    obtain ⟨ys, h1, e⟩ := Option.bind_eq_some_iff.mp e
    split at e
    · rename_i hok
      cases e
      obtain ⟨v, rfl, r⟩ := rx.one
      have key : ∀ a us, v = .ref a → (SqL X.K H a us ∨ SqT X.K H a us) → DvAll A X.K H us ys → rSortedV X.K [v] H Q := by
        rintro a us rfl hs hd
        exact ⟨A, a, us, ys, rfl, hs, hd, hok, fun p us' hp hd' => q _ _ (Grow.upd hp) (new_lst hp hd')⟩
      cases x with
      | list zs => cases h1; obtain ⟨a, us, h1, h2, h3⟩ := r.lst; exact key a us h1 (.inl h2) h3
      | tuple zs => cases h1; obtain ⟨a, us, h1, h2, h3, _⟩ := r.tup; exact key a us h1 (.inr h2) h3
      | _ => cases h1
    · cases e
  · cases e⟩
end
/-! methods of tuples -/
section
variable {X : Cx} {o e a b : Expr} {es : List Expr} {d da db : Fd} {ds : Fds} {name : Str} {apos cpos : Pos} {id : String}
def isTupV (K : PySem.W.Frag) (x : V) (H : Hp) : Prop := ∃ a xs, x = .ref a ∧ (TupAt H a xs ∨ KTup K a xs)
def tTM (K : PySem.W.Frag) (r : V → List V → Hp → VK → Prop) (to : TE) (t : L2.TA) : TE := fun σ H Q => to σ H fun x H1 => isTupV K x H1 ∧ t σ H1 fun xs H2 => r x xs H2 Q
theorem pe_tm {to : TE} {t : L2.TA} {r : V → List V → Hp → VK → Prop} (slot : Slot "tuple" name id) (hty : typeOf (.builtin id) = pure (.type "method_descriptor")) (hm : MtR X id r) (ho : PE X o to) (ha : PA X (e :: es) t)
    (hbase : attributeBase o name X.env (eval o X.env) = eval o X.env := by rfl)
    (hfew : ((backTo cpos (starEach (e :: es) X.env)).all (fun x => !x.1) && (backToKw cpos (keywordEach [] X.env)).all (fun x => x.1.isSome)
      && decide ((e :: es).length + ([] : List Keyword).length + (if ([] : List Keyword).isEmpty then 0 else 1) < 30)) = true := by rfl)
    (hline : (apos.endLine == cpos.line) = true := by rfl) (hs : starEach (e :: es) X.env = (false, eval e X.env) :: starEach es X.env := by rfl) (hplain : (backTo cpos (starEach es X.env)).any (·.1) = false := by rfl) :
    PE X (.Call (.Attribute o name apos) (e :: es) [] cpos) (tTM X.K r to t) := ⟨fun pins s σ H Q I h => by
  refine wpAny_Call_method_late hbase hfew hline rfl (thn (ho.run pins s σ H _ I h) fun v s1 ⟨x, H1, I1, r1, ⟨p, xs, hx, ty⟩, q1⟩ => ?_)
  subst hx
  have hv : v = .ref p := r1
  subst hv
  obtain ⟨ob, g1, g2, g3⟩ : ∃ ob, s1.heap.get? p = some ob ∧ ob.cls = .type "tuple" ∧ ob.dict = none := by
    rcases ty with ⟨ob, z, hd⟩ | ⟨z, ob, hk, hc, hd⟩
    · obtain ⟨z1, z2⟩ := I1.hok p _ z
      obtain ⟨_, _, _, ob', z3, z4, _⟩ := z2
      rw [z1] at z3
      cases z3
      exact ⟨ob, z1, z4, hd⟩
    · exact ⟨ob, I1.kIn p ob hk, hc, hd⟩
  refine ⟨"tuple", id, PySem.F.plainAttrs_tuple, slot, hty, ⟨ob, g1, g2⟩, fun c hc => ?_, ?_⟩
  · cases hc
    exact ⟨ob, g1, g3⟩
  · have hA := ha.run cpos pins s1 σ H1 _ I1 q1
    rw [hs] at hA ⊢
    refine Calls.callWith_builtin (by show (false || (backTo cpos (starEach es X.env)).any (·.1)) = false; rw [hplain] <;> rfl) (Calls.evalArgs_plain ?_)
    exact thn hA fun us s2 ⟨vs, H2, I2, r2, q2⟩ => hm pins s2 σ H2 (.ref p) vs (.ref p) us Q I2 rfl r2 q2⟩
theorem dv_isTup {A : Addr → Prop} {T : Option Addr} {K : PySem.W.Frag} {H : Hp} {v : V} {xs : List PyData} (h : DvB A T K H v (.tuple xs)) : isTupV K v H := by
  rcases h with h | ⟨a, vs, ds, _, h2, _⟩ | ⟨a, kvs, _, h2, _⟩
  · cases h with
    | tup hs ha => exact ⟨_, _, rfl, hs.imp (·.2) fun z => z⟩
  · cases h2
  · cases h2
/-- a method that looks: by values -/
def MtV (X : Cx) (id : String) (g : PyData → List PyData → Option W) : Prop := ∃ r, MtR X id r ∧
  ∀ (A : Addr → Prop) (T : Option Addr) (x : V) (vs : List V) (dx : PyData) (xs : List PyData) (w : W) (H : Hp) (Q : VK), (∀ a, A a → H a ≠ none) → DvB A T X.K H x dx → DvBs A T X.K H vs xs → g dx xs = some w →
    (∀ v H', Grow H H' → Res A none X.K H H' v w → Q v H') → r x vs H Q
def eMt (p : PyData → Bool) (g : PyData → List PyData → Option W) (d : Fd) (ds : Fds) : Fe := fun ρ n => (d ρ n).bind fun x => if p x.1 then (ds ρ x.2).bind fun q => (g x.1 q.1).map (·, q.2) else none
def isTupD : PyData → Bool
  | .tuple _ => true
  | _ => false
def isLstD : PyData → Bool
  | .list _ => true
  | _ => false
theorem ev_tm {g : PyData → List PyData → Option W} (slot : Slot "tuple" name id) (hty : typeOf (.builtin id) = pure (.type "method_descriptor")) (hm : MtV X id g) (ho : EvB X o d) (ha : EvD X (e :: es) ds)
    (hbase : attributeBase o name X.env (eval o X.env) = eval o X.env := by rfl)
    (hfew : ((backTo cpos (starEach (e :: es) X.env)).all (fun x => !x.1) && (backToKw cpos (keywordEach [] X.env)).all (fun x => x.1.isSome)
      && decide ((e :: es).length + ([] : List Keyword).length + (if ([] : List Keyword).isEmpty then 0 else 1) < 30)) = true := by rfl)
    (hline : (apos.endLine == cpos.line) = true := by rfl) (hs : starEach (e :: es) X.env = (false, eval e X.env) :: starEach es X.env := by rfl) (hplain : (backTo cpos (starEach es X.env)).any (·.1) = false := by rfl) :
    EvE X (.Call (.Attribute o name apos) (e :: es) [] cpos) (eMt isTupD g d ds) := by
  obtain ⟨r, h1, h2⟩ := hm
  refine peI (pe_tm slot hty h1 ho ha hbase hfew hline hs hplain) ?_
  rintro σ H Q ⟨C, O, ρ, n, w, n', hf, E, q⟩
  unfold eMt at hf
  obtain ⟨⟨x, n1⟩, e1, hf⟩ := Option.bind_eq_some_iff.mp hf
  simp only at hf
  split at hf
  case isFalse => cases hf
  rename_i hp
  obtain ⟨⟨xs, n2⟩, e2, hf⟩ := Option.bind_eq_some_iff.mp hf
  obtain ⟨z, e3, hf⟩ := Option.map_eq_some_iff.mp hf
  cases hf
  refine ⟨C, O, ρ, n, x, n1, e1, E, fun v H1 s t rx => ?_⟩
  have E1 := E.step s t
  refine ⟨?_, C, O, ρ, n1, xs, n2, e2, E1, fun vs H2 s2 t2 r2 => ?_⟩
  · cases x with
    | tuple ys => exact dv_isTup rx
    | _ => cases hp
  · refine h2 (Av C O) C.T v vs x xs _ H2 Q (E1.step s2 t2).av (rx.step s2 Av.t) r2 e3 fun v H3 g3 r3 => ?_
    exact q v H3 ((s.trans s2).trans g3.step) (g3.town t2) (r3.none_any.back fun a ha => s.fr a (s2.fr a ha))
/-- x.index(k), ints -/
def gIndexT (x : PyData) (ys : List PyData) : Option W := match x, ys with
  | .tuple xs, [.int k] => (intsOf xs).bind fun ns => if k ∈ ns then some (.d (.int (ns.idxOf k : Nat))) else none
  | _, _ => none
theorem mv_tindex : MtV X "tuple.index" gIndexT := by
  refine ⟨fun x xs H Q => ∃ (p : Addr) (ns : List Int) (k : Int), x = .ref p ∧ xs = [.int k] ∧ SqT X.K H p (ns.map V.int) ∧ k ∈ ns ∧ Q (.int (ns.idxOf k : Nat)) H, ?_, ?_⟩
  · rintro pins s σ H x xs v us Q I rx rxs ⟨p, ns, k, rfl, rfl, hs, hk, q⟩
    have hv : v = .ref p := rx
    subst hv
    obtain ⟨u, rfl, t, rfl⟩ := rxs.one
    obtain ⟨its, rv, pl, hz⟩ := I.tuple hs
    exact SeqAt.tuple_index_ints (s := s) pl rv.ints hk ⟨.int (ns.idxOf k : Nat), H, I.tok _, ⟨_, rfl⟩, q⟩
  · intro A T x vs dx xs w H Q tr rx rxs e q
    unfold gIndexT at e
    split at e
    · rename_i zs k
      obtain ⟨ns, h2, e⟩ := Option.bind_eq_some_iff.mp e
      split at e
      · rename_i hk
        cases e
        obtain ⟨v, rfl, r⟩ := rxs.one
        obtain ⟨a, us, rfl, k1, k2, _⟩ := rx.tup
        rw [intsOf_ok h2] at k2
        rw [k2.ints] at k1
        exact ⟨a, ns, k, rfl, by rw [r.int], k1, hk, q _ _ Grow.refl (.int _)⟩
      · cases e
    · cases e
def gIndexL (x : PyData) (ys : List PyData) : Option W := match x, ys with
  | .list xs, [.int k] => (intsOf xs).bind fun ns => if k ∈ ns then some (.d (.int (ns.idxOf k : Nat))) else none
  | _, _ => none
end
end L2.Lv
namespace L2.Lv
open PySem PySem.Spec PyProof.Rows
/-! enumerate of a tuple -/
theorem meets_enum1 {v : Value} {o : Obj} {Hs : Heap → Prop} (B : Begins v o Hs) :
    Meets (Builtin.«enumerate.__new__» ⟨[.type "enumerate", v], []⟩) (fun _ R s => Hs s.heap ∧
      R (.ok (.ret (.ref (s.heap.push o).objs.size))) { s with heap := (s.heap.push o).push { cls := .type "enumerate", data := .fields #[.none, .bool false, .ref s.heap.objs.size, rawInt 0, .none, .none] } }) :=
  .of_wp fun prog w A R s h => by
    obtain ⟨hp, g, d, tk, os⟩ := s
    obtain ⟨h1, h⟩ := h
    have hsub := sub_enumerate
    have q1 : ∀ {A' : Around} {E : Value → Shared → Prop} {Q : Value → Shared → Prop}, Q (.ref hp.objs.size) ⟨hp.push o, g, d, tk, os⟩ → wpAny (model prog w) A' (pyIter v) Q E ⟨hp, g, d, tk, os⟩ :=
      fun q => B.iter prog w _ _ ⟨hp, g, d, tk, os⟩ _ h1 q
    wp_walk using q1
    refine wpAny_stack_any fun st => wpAny_pure ?_
    split
    · rename_i c _ _ _ _ _
      cases (c == Value.type "enumerate")
      · wp_walk using q1
        exact ⟨_, rfl, h⟩
      · wp_walk using q1
        exact ⟨_, rfl, h⟩
    · wp_walk using q1
      exact ⟨_, rfl, h⟩
theorem enum1_begins {prog : Program} {w : World} {A : Around} {E : Value → Shared → Prop} {s : Shared} {v : Value} {o : Obj} {Hs : Heap → Prop} {Q : Value → Shared → Prop} (B : Begins v o Hs) (h1 : Hs s.heap)
    (h : ∀ h', IsEnum h' (s.heap.objs.size + 1) s.heap.objs.size 0 .none → h'.get? s.heap.objs.size = some o → h'.objs.size = s.heap.objs.size + 2 →
      (∀ b o, s.heap.get? b = some o → h'.get? b = some o) → Q (.ref (s.heap.objs.size + 1)) { s with heap := h' }) : wpAny (model prog w) A (call (.type "enumerate") [v]) Q E s := by
  refine callType_new F.called_enumerate (by decide) (F.typeCall_enumerate_1 _) (F.newCall_enumerate_1 _) (fun obj => F.args_object_init_2 obj _) F.entry_enumerate_new (meets_enum1 B) ⟨h1, ?_⟩
  have hz : (s.heap.push o).objs.size = s.heap.objs.size + 1 := Heap.size_push ..
  show _ ∧ _
  rw [hz]
  have he : IsEnum ((s.heap.push o).push { cls := .type "enumerate", data := .fields #[.none, .bool false, .ref s.heap.objs.size, rawInt 0, .none, .none] }) (s.heap.objs.size + 1) s.heap.objs.size 0 .none := by
    have := Heap.get?_push_size (s.heap.push o) (o := { cls := .type "enumerate", data := .fields #[.none, .bool false, .ref s.heap.objs.size, rawInt 0, .none, .none] }) rfl
    rw [hz] at this
    exact this
  exact ⟨⟨_, he, rfl⟩, h _ he (Heap.get?_push_of_some _ (Heap.get?_push_size _ B.free)) (by rw [Heap.size_push, hz]) fun b u x => Heap.get?_push_of_some _ (Heap.get?_push_of_some _ x)⟩
/-- each item of the tuple at a in a new pair -/
def IteT (K : PySem.W.Frag) (a : Addr) : It :=
  ⟨fun i H => ∃ (xs : List V) (x : V), SqT K H a xs ∧ xs[i]? = some x, fun i H v H' => ∃ T x, v = .ref T ∧ H T = none ∧ H' = upd H T (.tup [.int (i : Nat), x]) ∧ ∀ xs, SqT K H a xs → xs[i]? = some x, fun i H => ∃ xs : List V, SqT K H a xs ∧ xs.length = i⟩
theorem turn_enumT {P : Program} {w : World} {K : PySem.W.Frag} {elts : List Expr} {kk : Nat} {tpos : Pos} (a e it : Addr) :
    Turn P w K (.Tuple elts kk tpos) (IteT K a) [e, it] e (fun i h => (∃ old, IsEnum h e it ((i : Nat) : Int) old) ∧ h.IsTupleIter it a i ∧ e ≠ it) where
  mem := by simp
  obj := fun i h st b hb => by
    obtain ⟨⟨old, he⟩, ⟨o, ho, _, hd⟩, _⟩ := st
    rcases List.mem_cons.mp hb with z | hb
    · rw [z]; exact ⟨_, he, fun v q => nomatch q⟩
    · rw [List.mem_singleton.mp hb]; exact ⟨o, ho, fun v q => by rw [hd] at q; cases q⟩
  keep := fun i h h' st k => let ⟨⟨old, he⟩, hi, hne⟩ := st; ⟨⟨old, k e (by simp) _ he⟩, hi.at fun o q => k it (by simp) o q, hne⟩
  item := by
    intro X hP hw hK hc i pins s σ H E I hf st hg
    subst hP hw hK
    obtain ⟨⟨old, he⟩, hit, hne⟩ := st
    obtain ⟨xs, x, hq, hx⟩ := hg
    obtain ⟨its, rv, p, hz⟩ := I.tuple hq
    obtain ⟨u, hu, ru⟩ := rv.get hx
    have hal : a ≠ it := fun z => by
      obtain ⟨o, h1, h2, _⟩ := p
      obtain ⟨o', g1, g2, _⟩ := hit
      rw [z, g1] at h1
      cases h1
      rw [g2] at h2
      simp at h2
    have hae : e ∉ [it, a] := fun z => by
      rcases List.mem_cons.mp z with z | z
      · exact hne z
      · obtain ⟨o, h1, h2, _⟩ := p
        have z := List.mem_singleton.mp z
        rw [← z, show s.heap.get? e = some _ from he] at h1
        cases h1
        simp at h2
    have G := GoesN.enumFrom (prog := X.prog) (w := X.w) (A := X.A) (elts := elts) (x1 := kk) (pos := tpos) 0 (Draws.tuple (prog := X.prog) (w := X.w) (A := X.A.in1) (show X.A.in1.handled = none from I.ok.hd hc) it a hal its.toArray) e hne hae (by simp)
    have hlt : i < its.toArray.size := by
      rw [List.size_toArray]
      exact (List.getElem?_eq_some_iff.mp hu).1
    refine G.goes i s _ E hlt ⟨⟨old, by rw [Int.zero_add]; exact he⟩, hit, p⟩ fun v h' tk ⟨T, t, y, ev, hT, hy, hTup⟩ st' hk _ => ?_
    subst ev
    have ey : y = u := by
      rw [List.getElem?_toArray, hu] at hy
      exact (Option.some.inj hy).symm
    subst ey
    have new : ObjOk X.prog X.w (upd H T (.tup [.int (i : Nat), x])) h' T (.tup [.int (i : Nat), x]) :=
      ⟨by show 2 ≤ sizeLine; decide, [.int (0 + (i : Int)) t, y], .cons ⟨t, by rw [Int.zero_add]⟩ (.cons ru .nil), hTup⟩
    have I1 : Inv X pins σ (upd H T (.tup [.int (i : Nat), x])) { s with heap := h', toks := tk } :=
      I.turnedNew (ch := [e, it]) (fun b ob hb q => hk b ob hb q) hf hT new
    obtain ⟨⟨old', he'⟩, hit', _⟩ := st'
    refine ⟨.ref T, _, I1, rfl, ⟨T, x, rfl, I.hok.fresh hT, rfl, fun ys hy => by rw [I.tuple_inj hy hq]; exact hx⟩, ⟨⟨old', by rw [Int.zero_add] at he'; exact he'⟩, hit', hne⟩, fun b hb => ?_⟩
    have hb' : b < s.heap.objs.size := by
      rcases List.mem_cons.mp hb with z | z
      · rw [z]; exact Heap.lt_size he
      · rw [List.mem_singleton.mp z]; obtain ⟨o, h1, _⟩ := hit; exact Heap.lt_size h1
    rw [upd_ne (Nat.ne_of_lt (Nat.lt_of_lt_of_le hb' hT))]
    exact (hf b hb).1
  done := by
    intro X hP hw hK hc i pins s σ H E I hf st hg
    subst hP hw hK
    obtain ⟨⟨old, he⟩, hit, hne⟩ := st
    obtain ⟨xs, hq, hx⟩ := hg
    obtain ⟨its, rv, p, hz⟩ := I.tuple hq
    have hl := rv.length
    have hal : a ≠ it := fun z => by
      obtain ⟨o, h1, h2, _⟩ := p
      obtain ⟨o', g1, g2, _⟩ := hit
      rw [z, g1] at h1
      cases h1
      rw [g2] at h2
      simp at h2
    have hs : its.toArray.size = i := by rw [List.size_toArray]; omega
    have D := Draws.tuple (prog := X.prog) (w := X.w) (A := X.A.in1) (show X.A.in1.handled = none from I.ok.hd hc) it a hal its.toArray
    rw [hs] at D
    obtain ⟨f0, f1, f2, f3, f4, f5⟩ := hf it (by simp)
    exact wpAny_pyNext_enum_endD D he ⟨hit, p⟩ fun h' hx => ⟨rfl, I.turned (t' := s.toks) (fun b o hb q => hx b o hb q) f0 f1 f3 f4 f5⟩
  self := fun A i s Q E st h => let ⟨⟨_, he⟩, _⟩ := st; wpAny_pyIter_enum he h
def iEnumA (K : PySem.W.Frag) (te : TE) : TI := fun σ H R => te σ H fun v H1 => ∃ a xs, v = .ref a ∧ ((SqL K H1 a xs ∧ R (Ite K a) H1) ∨ (SqT K H1 a xs ∧ R (IteT K a) H1))
section
variable {X : Cx} {e a b : Expr} {d da db : Fd} {pos : Pos}
theorem pi_enumA {te : TE} {p tpos : Pos} {elts : List Expr} {kk : Nat} (hg : Gl X "enumerate") (hm : X.mg "enumerate" = none) (he : PE X e te) (hs : starEach [e] X.env = (false, eval e X.env) :: starEach [] X.env := by rfl) :
    PI X (.Tuple elts kk tpos) (.Call (.Name "enumerate" p) [e] [] pos) (iEnumA X.K te) := ⟨fun pins s σ H R I h => by
  have two : ∀ {H1 : Hp} {s1 : Shared}, Inv X pins σ H1 s1 → ∀ b ∈ [s1.heap.objs.size + 1, s1.heap.objs.size], FpOk X pins H1 b := fun {H1 s1} I1 b hb => by
    have hle : s1.heap.objs.size ≤ b := by
      rcases List.mem_cons.mp hb with z | z
      · rw [z]; exact Nat.le_succ _
      · rw [List.mem_singleton.mp z]; exact Nat.le_refl _
    exact I1.fpOk hle (I1.hok.fresh hle)
  refine Call_ (ld_blt I hg hm boot_enumerate (PyProof.Rows.callWith_type1 (thn ((pa_cons he pa_nil hs).run pos pins s σ H (fun vs H1 => match vs with | [v] => ∃ a xs, v = V.ref a ∧ ((SqL X.K H1 a xs ∧ R (Ite X.K a) H1) ∨ (SqT X.K H1 a xs ∧ R (IteT X.K a) H1)) | _ => False) I ?_) fun us s1 ⟨vs, H1, I1, r1, q0⟩ => ?_) hs rfl))
  · exact h
  · obtain ⟨a, xs, hv, q1⟩ : ∃ a xs, vs = [V.ref a] ∧ ((SqL X.K H1 a xs ∧ R (Ite X.K a) H1) ∨ (SqT X.K H1 a xs ∧ R (IteT X.K a) H1)) := by
      match vs, q0 with
      | [v], ⟨a, xs, hv, q⟩ => exact ⟨a, xs, by rw [hv], q⟩
    subst hv
    rw [Vals.ref1 r1]
    rcases q1 with ⟨hq, q⟩ | ⟨hq, q⟩
    · obtain ⟨its, rv, p', hz⟩ := I1.list hq
      exact call_enumerate_list p'.isList fun h' he hit hsz hk => wpAny_pyIter_enum he ⟨s1.heap.objs.size + 1, [s1.heap.objs.size + 1, s1.heap.objs.size], _, _, H1, rfl, I1.kept (t' := s1.toks) hk, turn_enum a (s1.heap.objs.size + 1) s1.heap.objs.size, ⟨⟨.none, he⟩, hit, Nat.succ_ne_self _⟩, two I1, q⟩
    · obtain ⟨its, rv, p', hz⟩ := I1.tuple hq
      exact enum1_begins (begins_tuple a its.toArray) p' fun h' he hit hsz hk => wpAny_pyIter_enum he ⟨s1.heap.objs.size + 1, [s1.heap.objs.size + 1, s1.heap.objs.size], _, _, H1, rfl, I1.kept (t' := s1.toks) hk, turn_enumT a (s1.heap.objs.size + 1) s1.heap.objs.size, ⟨⟨.none, he⟩, ⟨_, hit, rfl, rfl⟩, Nat.succ_ne_self _⟩, two I1, q⟩⟩
/-! enumerate, zip: by values -/
def enumD (xs : List PyData) : List PyData := xs.mapIdx fun i x => .tuple [.int i, x]
def zipD : List PyData → List PyData → List PyData
  | x :: xs, y :: ys => .tuple [x, y] :: zipD xs ys
  | _, _ => []
def iEnumV (d : Fd) : Fi := fun ρ n => (d ρ n).bind fun p => (seqOf p.1).map fun xs => (enumD xs, p.2)
theorem enumD_get {xs : List PyData} {i : Nat} {x : PyData} (h : (enumD xs)[i]? = some x) : ∃ y, xs[i]? = some y ∧ x = .tuple [.int i, y] := by
  unfold enumD at h
  rw [List.getElem?_mapIdx] at h
  obtain ⟨y, h1, h2⟩ := Option.map_eq_some_iff.mp h
  exact ⟨y, h1, h2.symm⟩
theorem pair_ok {A : Addr → Prop} {K : PySem.W.Frag} {H : Hp} {T : Addr} {vs : List V} {ds : List PyData} (hT : H T = none) (h : DvAll A K H vs ds) : DvI true A K (upd H T (.tup vs)) (.ref T) (.tuple ds) :=
  .inr ⟨rfl, T, vs, ds, rfl, rfl, .inl (.inl upd_same), h.mono (Grow.upd hT).keep⟩
section
variable {K : PySem.W.Frag} {A B : Addr → Prop} {H1 : Hp} {vs us : List V} {xs ys : List PyData} {l m : Addr}
theorem sqL_keep {H2 : Hp} (hs : (¬ A l ∧ Rd H1 l (.lst vs)) ∨ SqL K Hz l vs) (k : ∀ a o, H1 a = some o → ¬ A a → H2 a = some o) : SqL K H2 l vs := hs.elim (fun ⟨na, r⟩ => .inl (r.imp (fun z => k _ _ z na) fun ⟨o, z⟩ => ⟨o, k _ _ z na⟩)) sqLz
theorem sqT_keep {H2 : Hp} (hs : (¬ A l ∧ Rd H1 l (.tup vs)) ∨ SqT K Hz l vs) (k : ∀ a o, H1 a = some o → ¬ A a → H2 a = some o) : SqT K H2 l vs := hs.elim (fun ⟨na, r⟩ => .inl (r.imp (fun z => k _ _ z na) fun ⟨o, z⟩ => ⟨o, k _ _ z na⟩)) sqTz
theorem it_enumL (hs : (¬ A l ∧ Rd H1 l (.lst vs)) ∨ SqL K Hz l vs) (hd : DvAll B K H1 vs xs) : ItOk true K (Ite K l) (enumD xs) A B H1 := fun H2 k f => by
  have h2 : SqL K H2 l vs := sqL_keep hs k
  refine ⟨fun i x hx => ?_, vs, h2, by rw [hd.length]; simp [enumD]⟩
  obtain ⟨y, hy, rfl⟩ := enumD_get hx
  obtain ⟨v, e1, e2⟩ := hd.get hy
  refine ⟨⟨vs, v, h2, e1⟩, ?_⟩
  rintro v' H' ⟨T, z, rfl, hT, rfl, fz⟩
  refine ⟨Grow.upd hT, fun B' kp _ => ?_⟩
  have := fz vs h2
  rw [e1] at this
  cases this
  exact pair_ok hT (.cons (.int _) (.cons (e2.mono kp) .nil))
theorem it_enumT (hs : (¬ A l ∧ Rd H1 l (.tup vs)) ∨ SqT K Hz l vs) (hd : DvAll B K H1 vs xs) : ItOk true K (IteT K l) (enumD xs) A B H1 := fun H2 k f => by
  have h2 : SqT K H2 l vs := sqT_keep hs k
  refine ⟨fun i x hx => ?_, vs, h2, by rw [hd.length]; simp [enumD]⟩
  obtain ⟨y, hy, rfl⟩ := enumD_get hx
  obtain ⟨v, e1, e2⟩ := hd.get hy
  refine ⟨⟨vs, v, h2, e1⟩, ?_⟩
  rintro v' H' ⟨T, z, rfl, hT, rfl, fz⟩
  refine ⟨Grow.upd hT, fun B' kp _ => ?_⟩
  have := fz vs h2
  rw [e1] at this
  cases this
  exact pair_ok hT (.cons (.int _) (.cons (e2.mono kp) .nil))
theorem zipD_length : ∀ (xs ys : List PyData), (zipD xs ys).length = min xs.length ys.length
  | [], _ => by simp [zipD]
  | _ :: _, [] => by simp [zipD]
  | x :: xs, y :: ys => by simp [zipD, zipD_length xs ys, Nat.succ_min_succ]
theorem zipD_get : ∀ {xs ys : List PyData} {i : Nat} {x : PyData}, (zipD xs ys)[i]? = some x → ∃ y z, xs[i]? = some y ∧ ys[i]? = some z ∧ x = .tuple [y, z]
  | [], _, _, _, h => by simp [zipD] at h
  | _ :: _, [], _, _, h => by simp [zipD] at h
  | a :: xs, b :: ys, 0, x, h => by simp [zipD] at h; exact ⟨a, b, rfl, rfl, h.symm⟩
  | a :: xs, b :: ys, i + 1, x, h => by
    obtain ⟨y, z, h1, h2, h3⟩ := zipD_get (xs := xs) (ys := ys) (i := i) (by simpa [zipD] using h)
    exact ⟨y, z, by simpa using h1, by simpa using h2, h3⟩
end
theorem dv_seq {C : Cn} {O : Ow} {σ : St} {ρ : List W} {n : Nat} {K : PySem.W.Frag} {H : Hp} {v : V} {x : PyData} {xs : List PyData} (E : EnvOk C O K σ H ρ n) (h : DvB (Av C O) C.T K H v x) (e : seqOf x = some xs) :
    ∃ a vs, v = .ref a ∧ DvAll (Av C O) K H vs xs ∧ ((x = .list xs ∧ ((¬ TX C a ∧ Rd H a (.lst vs)) ∨ SqL K Hz a vs)) ∨ (x = .tuple xs ∧ ((¬ TX C a ∧ Rd H a (.tup vs)) ∨ SqT K Hz a vs))) := by
  cases x with
  | list zs =>
    cases e
    rcases h with h | ⟨a, vs, ds, rfl, h2, h3, h4, h5⟩ | ⟨a, kvs, _, h2, _⟩
    · cases h with
      | lst hs ha => exact ⟨_, _, rfl, ha, .inl ⟨rfl, hs.imp (fun z => ⟨fun q => z.1 (Av.t _ q), z.2⟩) id⟩⟩
    · cases h2
      exact ⟨a, vs, rfl, h5, .inl ⟨rfl, .inl ⟨E.ntx h3 h4 (fun ps z => nomatch z), .inl h4⟩⟩⟩
    · cases h2
  | tuple zs =>
    cases e
    rcases h with h | ⟨a, vs, ds, _, h2, _⟩ | ⟨a, kvs, _, h2, _⟩
    · cases h with
      | tup hs ha => exact ⟨_, _, rfl, ha, .inr ⟨rfl, hs.imp (fun z => ⟨fun q => z.1 (Av.t _ q), let ⟨o, z, _⟩ := z.2; .inr ⟨o, z⟩⟩) (·.1)⟩⟩
    · cases h2
    · cases h2
  | _ => cases e
theorem sqL_of {A : Addr → Prop} {K : PySem.W.Frag} {H : Hp} {l : Addr} {vs : List V} (hs : (¬ A l ∧ Rd H l (.lst vs)) ∨ SqL K Hz l vs) : SqL K H l vs := hs.elim (fun z => .inl z.2) sqLz
theorem sqT_of' {A : Addr → Prop} {K : PySem.W.Frag} {H : Hp} {l : Addr} {vs : List V} (hs : (¬ A l ∧ Rd H l (.tup vs)) ∨ SqT K Hz l vs) : SqT K H l vs := hs.elim (fun z => .inl z.2) sqTz
theorem ej_enum {p tpos : Pos} {elts : List Expr} {kk : Nat} (hg : Gl X "enumerate") (hm : X.mg "enumerate" = none) (he : EvB X e d) (hs : starEach [e] X.env = (false, eval e X.env) :: starEach [] X.env := by rfl) :
    EvJ X true (.Tuple elts kk tpos) (.Call (.Name "enumerate" p) [e] [] pos) (iEnumV d) := piI (pi_enumA hg hm he hs) (by
  rintro σ H R ⟨C, O, ρ, n, xs, n', hf, E, q⟩
  unfold iEnumV at hf
  obtain ⟨⟨x, n1⟩, e1, hf⟩ := Option.bind_eq_some_iff.mp hf
  obtain ⟨ys, e2, hf⟩ := Option.map_eq_some_iff.mp hf
  cases hf
  refine ⟨C, O, ρ, n, x, _, e1, E, fun v H1 s t r => ?_⟩
  obtain ⟨a, vs, hv, hd, ⟨_, hs⟩ | ⟨_, hs⟩⟩ := dv_seq (E.step s t) r e2
  · exact ⟨a, vs, hv, .inl ⟨sqL_of hs, q _ H1 s t (it_enumL hs hd)⟩⟩
  · exact ⟨a, vs, hv, .inr ⟨sqT_of' hs, q _ H1 s t (it_enumT hs hd)⟩⟩)
def iEnumF (f : Fe) : Fi := fun ρ n => (f ρ n).bind fun p => p.1.frz.val.bind fun x => (seqOf x).map fun xs => (enumD xs, p.2)
/-- both lists, or both tuples -/
def zipOk : PyData → PyData → Option (List PyData)
  | .list xs, .list ys => some (zipD xs ys)
  | .tuple xs, .tuple ys => some (zipD xs ys)
  | _, _ => none
theorem it_zipL {K : PySem.W.Frag} {A B : Addr → Prop} {H1 : Hp} {vs us : List V} {xs ys : List PyData} {l m : Addr} (hs : (¬ A l ∧ Rd H1 l (.lst vs)) ∨ SqL K Hz l vs) (hd : DvAll B K H1 vs xs) (hs2 : (¬ A m ∧ Rd H1 m (.lst us)) ∨ SqL K Hz m us) (hd2 : DvAll B K H1 us ys) :
    ItOk true K (Itz K l m) (zipD xs ys) A B H1 := fun H2 k f => by
  have h2 : SqL K H2 l vs := sqL_keep hs k
  have h3 : SqL K H2 m us := sqL_keep hs2 k
  refine ⟨fun i x hx => ?_, ?_⟩
  · obtain ⟨y, z, hy, hz, rfl⟩ := zipD_get hx
    obtain ⟨v, e1, e2⟩ := hd.get hy
    obtain ⟨u, g1, g2⟩ := hd2.get hz
    refine ⟨⟨vs, us, v, u, h2, h3, e1, g1⟩, ?_⟩
    rintro v' H' ⟨T, p, r, rfl, hT, rfl, fp, fr⟩
    refine ⟨Grow.upd hT, fun B' kp _ => ?_⟩
    have z1 := fp vs h2
    have z2 := fr us h3
    rw [e1] at z1
    rw [g1] at z2
    cases z1
    cases z2
    exact pair_ok hT (.cons (e2.mono kp) (.cons (g2.mono kp) .nil))
  · refine ⟨vs, us, h2, h3, ?_⟩
    rw [hd.length, hd2.length, zipD_length]
    omega
theorem it_zipT {K : PySem.W.Frag} {A B : Addr → Prop} {H1 : Hp} {vs us : List V} {xs ys : List PyData} {l m : Addr} (hs : (¬ A l ∧ Rd H1 l (.tup vs)) ∨ SqT K Hz l vs) (hd : DvAll B K H1 vs xs) (hs2 : (¬ A m ∧ Rd H1 m (.tup us)) ∨ SqT K Hz m us) (hd2 : DvAll B K H1 us ys) :
    ItOk true K (RZ.ItzT K l m) (zipD xs ys) A B H1 := fun H2 k f => by
  have h2 : SqT K H2 l vs := sqT_keep hs k
  have h3 : SqT K H2 m us := sqT_keep hs2 k
  refine ⟨fun i x hx => ?_, ?_⟩
  · obtain ⟨y, z, hy, hz, rfl⟩ := zipD_get hx
    obtain ⟨v, e1, e2⟩ := hd.get hy
    obtain ⟨u, g1, g2⟩ := hd2.get hz
    refine ⟨⟨vs, us, v, u, h2, h3, e1, g1⟩, ?_⟩
    rintro v' H' ⟨T, p, r, rfl, hT, rfl, fp, fr⟩
    refine ⟨Grow.upd hT, fun B' kp _ => ?_⟩
    have z1 := fp vs h2
    have z2 := fr us h3
    rw [e1] at z1
    rw [g1] at z2
    cases z1
    cases z2
    exact pair_ok hT (.cons (e2.mono kp) (.cons (g2.mono kp) .nil))
  · refine ⟨vs, us, h2, h3, ?_⟩
    rw [hd.length, hd2.length, zipD_length]
    omega
def iZipV (da db : Fd) : Fi := fun ρ n => (da ρ n).bind fun p => (db ρ p.2).bind fun q => (zipOk p.1 q.1).map (·, q.2)
theorem zipOk_seq {x y : PyData} {zs : List PyData} (h : zipOk x y = some zs) : ∃ xs ys, seqOf x = some xs ∧ seqOf y = some ys ∧ zs = zipD xs ys ∧ ((x = .list xs ∧ y = .list ys) ∨ (x = .tuple xs ∧ y = .tuple ys)) := by
  cases x <;> cases y <;> simp [zipOk] at h
  · exact ⟨_, _, rfl, rfl, h.symm, .inl ⟨rfl, rfl⟩⟩
  · exact ⟨_, _, rfl, rfl, h.symm, .inr ⟨rfl, rfl⟩⟩
theorem ej_zip {p tpos : Pos} {elts : List Expr} {kk : Nat} (hg : Gl X "zip") (hm : X.mg "zip" = none) (ha : EvB X a da) (hb : EvB X b db) (hs : starEach [a, b] X.env = (false, eval a X.env) :: starEach [b] X.env := by rfl) (hs2 : starEach [b] X.env = (false, eval b X.env) :: starEach [] X.env := by rfl)
    (hpl : (backTo pos (starEach [b] X.env)).any (·.1) = false := by rfl) : EvJ X true (.Tuple elts kk tpos) (.Call (.Name "zip" p) [a, b] [] pos) (iZipV da db) := piI (RZ.pi_zipA hg hm (pa_cons ha (pa_cons hb pa_nil hs2) hs) hs hpl) (by
  rintro σ H R ⟨C, O, ρ, n, xs, n', hf, E, q⟩
  unfold iZipV at hf
  obtain ⟨⟨x, n1⟩, e1, hf⟩ := Option.bind_eq_some_iff.mp hf
  obtain ⟨⟨y, n2⟩, e2, hf⟩ := Option.bind_eq_some_iff.mp hf
  obtain ⟨zs, e3, hf⟩ := Option.map_eq_some_iff.mp hf
  cases hf
  obtain ⟨ps, qs, h1, h2, rfl, hk⟩ := zipOk_seq e3
  refine ⟨C, O, ρ, n, x, n1, e1, E, fun v H1 s t r => ⟨C, O, ρ, n1, y, _, e2, E.step s t, fun u H2 s2 t2 r2 => ?_⟩⟩
  obtain ⟨a1, vs, rfl, hd, k1⟩ := dv_seq ((E.step s t).step s2 t2) (r.step s2 Av.t) h1
  obtain ⟨b1, us, rfl, hd2, k2⟩ := dv_seq ((E.step s t).step s2 t2) r2 h2
  rcases hk with ⟨rfl, rfl⟩ | ⟨rfl, rfl⟩
  · rcases k1 with ⟨_, k1⟩ | ⟨z, _⟩
    · rcases k2 with ⟨_, k2⟩ | ⟨z, _⟩
      · exact ⟨a1, b1, vs, us, rfl, .inl ⟨sqL_of k1, sqL_of k2, q _ H2 (s.trans s2) t2 (it_zipL k1 hd k2 hd2)⟩⟩
      · cases z
    · cases z
  · rcases k1 with ⟨z, _⟩ | ⟨_, k1⟩
    · cases z
    · rcases k2 with ⟨z, _⟩ | ⟨_, k2⟩
      · cases z
      · exact ⟨a1, b1, vs, us, rfl, .inr ⟨sqT_of' k1, sqT_of' k2, q _ H2 (s.trans s2) t2 (it_zipT k1 hd k2 hd2)⟩⟩)
def iZipF (fa fb : Fe) : Fi := fun ρ n => (fa ρ n).bind fun p => p.1.frz.val.bind fun x => (fb ρ p.2).bind fun q => q.1.frz.val.bind fun y => (zipOk x y).map (·, q.2)
end
end L2.Lv
namespace L2.Lv
open PySem PySem.Spec PyProof.Rows
/-! what a module's name is -/
theorem bt_len : bootBuiltins "len" = some (.builtin "len") := by decide +kernel
theorem bt_abs : bootBuiltins "abs" = some (.builtin "abs") := by decide +kernel
theorem bt_max : bootBuiltins "max" = some (.builtin "max") := by decide +kernel
theorem bt_all : bootBuiltins "all" = some (.builtin "all") := by decide +kernel
theorem bt_sorted : bootBuiltins "sorted" = some (.builtin "sorted") := by decide +kernel
theorem bt_isinstance : bootBuiltins "isinstance" = some (.builtin "isinstance") := by decide +kernel
theorem bt_int : bootBuiltins "int" = some (.type "int") := by decide +kernel
theorem bt_tuple : bootBuiltins "tuple" = some (.type "tuple") := by decide +kernel
theorem bt_bool : bootBuiltins "bool" = some (.type "bool") := by decide +kernel
theorem bt_str : bootBuiltins "str" = some (.type "str") := by decide +kernel
structure DF (K : PySem.W.Frag) (mg : Str → Option Value) (x : Str) (st : Stmt) (ps : List Str) where
  f : Addr
  fd : FuncData
  F : Fun K x x st f fd
  b : Binds K fd ps []
  g : mg x = some (.ref f)
section
variable {X : Cx} {e a b : Expr} {es : List Expr} {f fa fb : Fe} {d da db : Fd} {fs : Fa} {ds : Fds} {pos : Pos} {st : Stmt} {rest sts sts' : List Stmt} {gs h : Fs} {ps : List Str}
theorem ev_callD {k j l : Nat} {F : Fn} {x : Str} {p : Pos} (D : DF X.K X.mg x st ps) (G : FnOk X.prog X.w X.K X.mg X.base CX0 j D.f D.fd ps (spOf X.K k F)) (hr : Room l X.A) (hj : j ≤ l) (hg : Gl X x) (ha : EvA X (e :: es) fs)
    (hl : (e :: es).length = k := by rfl) (hdb : (x == ("__debug__" : Str)) = false := by decide) (he : starEach (e :: es) X.env = (false, eval e X.env) :: starEach es X.env := by rfl) (hpl : (backTo pos (starEach es X.env)).any (·.1) = false := by rfl) :
    EvE X (.Call (.Name x p) (e :: es) [] pos) (eCall F fs) := ev_call G (hr.mono hj) hg D.g D.F.kp D.b ha hl hdb he hpl
/-- len of the town -/
def eTLen (i : Nat) : Fe := fun ρ n => match ρ[i]? with
  | some .town => some (.d (.int n), n)
  | _ => none
theorem ev_tlen {i : Nat} {p : Pos} (hg : Gl X "len") (hm : X.mg "len" = none) (hb : PE X a (tVar i)) (he : starEach [a] X.env = (false, eval a X.env) :: starEach [] X.env := by rfl) (hpl : (backTo pos (starEach [] X.env)).any (·.1) = false := by rfl) :
    EvE X (.Call (.Name "len" p) [a] [] pos) (eTLen i) := peI (pe_callB call_len_seq hg hm bt_len (pa_cons hb pa_nil he) (by decide) (by decide) he hpl) (by
  rintro σ H Q ⟨C, O, ρ, n, w, n', hf, E, q⟩
  unfold eTLen at hf
  split at hf
  · rename_i hx
    cases hf
    obtain ⟨l, h1, h2⟩ := E.sl _ _ hx
    have h3 := E.town l h1
    refine ⟨_, h2, l, _, rfl, .inl (SqL.of h3), ?_⟩
    rw [List.length_replicate]
    exact q _ _ Step.refl E.town (.int _)
  · cases hf)
theorem hu64 {l : Nat} {A : Around} (r : Room l A) : A.units + 64 < cLine := by have := r.un; omega
theorem hu65 {l : Nat} {A : Around} (r : Room l A) : A.units + 65 < cLine := by have := r.un; omega
theorem hu100 {l : Nat} {A : Around} (r : Room l A) : A.units + 100 < cLine := by have := r.un; omega
theorem hu0 {l : Nat} {A : Around} (r : Room l A) : A.units < cLine := by have := r.un; omega
end
theorem fn_none {P : Program} {w : World} {K : PySem.W.Frag} {mg : Str → Option Value} {base : Heap} {f : Addr} {fd : FuncData} {ps : List Str} {j : Nat} : FnOk P w K mg base CX0 j f fd ps (spOf K ps.length fun _ _ => none) :=
  ⟨spOf.len, fun A outer s H args us vs Q E _ _ _ _ h => by obtain ⟨C, ws, n, w, n', _, _, _, _, _, hf, _⟩ := h; cases hf⟩
/-! the law -/
def spLaw (K : PySem.W.Frag) (m : Nat) : Sp := fun vs H Q _ => ∃ (a : Addr) (ns : List Int), vs = [.ref a] ∧ ((∀ x ∈ tabsOf K, H x.1 = some (.tbl #[])) ∧ ∀ a q q', (a, q) ∈ tabsOf K → (a, q') ∈ tabsOf K → q = q') ∧ SqL K H a (ns.map V.int) ∧ ns.length ≤ m ∧ ∀ H', Q (.bl true) H'
theorem dv_ints {A : Addr → Prop} {K : PySem.W.Frag} {H : Hp} : ∀ ns : List Int, DvAll A K H (ns.map V.int) (ns.map PyData.int)
  | [] => .nil
  | n :: ns => .cons (.int n) (dv_ints ns)
theorem fn_law {P : Program} {w : World} {K : PySem.W.Frag} {mg : Str → Option Value} {base : Heap} {st : Stmt} {f : Addr} {fd : FuncData} {N : List Str} {x y : Str} {k m : Nat} {g : Fs} {p p2 p3 : Pos} {rest : List Stmt} (F : Fun K "law" "law" st f fd) (S : FnScope N [x] (defScope st))
    (hbd : defBody st = .Assign [.Name y p] (.List [] p2) p3 :: rest) (hy : N[1]? = some y) (hyl : Loc (defScope st) y)
    (hb : ∀ (cdv : Value) (A : Around) (outer : List Env) (s : Shared) (H : Hp) (E : XK), Room k (A.deeper (envOfC "law" (defScope st) s.heap.objs.size f cdv)) →
      EvSs (cxOf CX0 P w K mg base N "law" (defScope st) f cdv A outer s H E).nox rest g)
    (hm : ∀ ns : List Int, ns.length ≤ m → ∃ n', g (.d (.list (ns.map .int)) :: .town :: List.replicate (N.length - 2) .no) 0 = some (.rt (.d (.bool true)) n')) :
    FnOk P w K mg base CX0 (k + 1) f fd [x] (spLaw K m) := by
  refine F.ok S (fun vs H Q E h => by obtain ⟨a, ns, rfl, _⟩ := h; rfl) fun cdv A outer s H vs Q E hr h => ?_
  obtain ⟨a, ns, rfl, ⟨hO, hF⟩, hS, hlen, q⟩ := h
  rw [hbd]
  have hN : ∃ N', N = x :: y :: N' := by
    have h1 := S.pre
    match N, h1, hy with
    | [], h1, _ => simp at h1
    | [_], _, hy => simp at hy
    | x' :: y' :: N', h1, hy =>
      simp at h1 hy
      exact ⟨N', by rw [h1, hy]⟩
  obtain ⟨N', rfl⟩ := hN
  refine ⟨_, pss_cons (ps_set (i := 1) S.nd rfl hyl (pe_lst pa_nil)) (hb cdv A outer s H E hr), Nat.zero_le _, fun p np => ?_⟩
  obtain ⟨n', e⟩ := hm ns hlen
  have hT : ∀ P q, (P, q) ∈ tabsOf K → upd H p (.lst []) P = some (.tbl #[]) := fun P q z => by
    have z := hO _ z
    rw [upd_ne (fun y => by rw [y, np] at z; cases z)]
    exact z
  refine ⟨⟨some p, fun b => ∃ q, (b, q) ∈ tabsOf K, upd H p (.lst []), fun b q => (b, q) ∈ tabsOf K, fun b q z => ⟨q, z⟩, hF, none⟩, Ow0, _, 0, _, e, ⟨by simp [start], fun i w hw => ?_, fun _ _ _ z => (nomatch z), fun _ _ z => (nomatch z), fun b z => ?_, fun _ _ z _ => z, fun P ⟨q, z⟩ => by rw [hT P q z]; simp, fun _ z => z, fun x hx => hx,
    fun P q z => ⟨⟨#[], hT P q z, True.intro, fun pos cv hc => by have z : codeAmong pos [] = some cv := hc; simp [codeAmong] at z⟩, fun G _ t => t⟩⟩, fun _ _ z => (nomatch z), fun v H' r => ?_⟩
  · match i with
    | 0 =>
      cases hw
      refine ⟨.ref a, rfl, .lst ?_ (dv_ints ns)⟩
      rcases hS with hS | hS
      · have ne : a ≠ p := fun z => by subst z; exact Rd.there hS np
        refine .inl ⟨?_, ?_⟩
        · rintro (⟨q, z⟩ | z | ⟨_, z⟩)
          · have z := hO _ z
            rcases hS with hS | ⟨o, hS⟩ <;> rw [hS] at z <;> cases z
          · exact ne (Option.some.inj z).symm
          · cases z
        · rcases hS with hS | ⟨o, hS⟩
          · exact .inl (by rw [upd_ne ne]; exact hS)
          · exact .inr ⟨o, by rw [upd_ne ne]; exact hS⟩
      · exact .inr (.inr hS)
    | 1 =>
      cases hw
      exact ⟨p, rfl, rfl⟩
    | i + 2 =>
      simp only [List.getElem?_cons_succ, List.getElem?_replicate] at hw
      split at hw
      · cases hw; trivial
      · cases hw
  · cases z
    exact upd_same
  · have r' : Dv _ K H' v (.bool true) := r.res
    cases r'
    exact q H'
end L2.Lv
namespace L2.Lv
open PySem PySem.Spec PyProof.Rows
/-! ranges with a step -/
def rangeC (lo c : Int) (n : Nat) : List PyData := (List.range n).map fun (i : Nat) => .int (lo + (i : Nat) * c)
def rng3 : PyData → PyData → PyData → Option (List PyData)
  | .int i, .int j, .int c => if c ≠ 0 ∧ c.natAbs < 1073741824 ∧ Builtin.Range.small i j c = true ∧ 0 ≤ Builtin.Range.rangeSize i j c then some (rangeC i c (Builtin.Range.rangeSize i j c).toNat) else none
  | _, _, _ => none
def iRng3D (da db dc : Fd) : Fi := fun ρ n => (da ρ n).bind fun p => (db ρ p.2).bind fun q => (dc ρ q.2).bind fun r => (rng3 p.1 q.1 r.1).map (·, r.2)
section
variable {X : Cx} {a b c : Expr} {da db dc : Fd} {pos : Pos}
end
end L2.Lv
namespace HT
open PySem PySem.Spec PyProof.Rows
section
variable {prog : Program} {w : World} {A : Around} {E : Value → Shared → Prop} {s : Shared}
end
end HT
namespace L2.Lv
open PySem PySem.Spec PyProof.Rows
/-! what no one reads any more is forgotten -/
def Out.kill (is : List Nat) : Out → Out
  | .nx ρ n => .nx (wipeW ρ is) n
  | o => o
def sEnd (is : List Nat) (g : Fs) : Fs := fun ρ n => (g ρ n).map (Out.kill is)
theorem EnvOk.wipe {C : Cn} {O : Ow} {K : PySem.W.Frag} {σ : St} {H : Hp} {ρ : List W} {n : Nat} (is : List Nat) (E : EnvOk C O K σ H ρ n) : EnvOk C O K σ H (wipeW ρ is) n := by
  refine ⟨by rw [wipeW_length]; exact E.len, fun i w hw => ?_, E.inj, E.own, E.town, E.base, E.ptr, E.fr, E.tk, E.tb⟩
  rw [wipeW_get] at hw
  split at hw
  · cases hw; trivial
  · have q := E.sl i w hw
    rw [wipeW_length]
    exact q
theorem ss_end {X : Cx} {st : Stmt} {g : Fs} (is : List Nat) (h : EvS X st g) : EvS X st (sEnd is g) := psI h (by
  rintro D σ H ⟨C, O, ρ, n, out, hf, E, np, q⟩
  obtain ⟨o, e1, e2⟩ := Option.map_eq_some_iff.mp hf
  refine ⟨C, O, ρ, n, o, e1, E, np, ?_⟩
  cases o with
  | nx ρ1 n1 => cases e2; exact fun O' σ' H' s E' => q O' σ' H' s (E'.wipe is)
  | bk ρ1 n1 => cases e2; exact q
  | rs x1 ρ1 n1 => cases e2; exact q
  | rt w n1 => cases e2; exact q)
/-! slices with a step -/
section
variable {X : Cx} {e a b : Expr} {d da : Fd} {pos p2 : Pos}
def eSs (g : PyData → Option Int → Option Int → Int → Option W) (d : Fd) (o o' o'' : Fo) : Fe := fun ρ n => (d ρ n).bind fun p => (o ρ p.2).bind fun q => (o' ρ q.2).bind fun r => (o'' ρ r.2).bind fun s => s.1.bind fun c => (g p.1 q.1 r.1 c).map (·, s.2)
/-! x.count(k), ints -/
end
end L2.Lv
namespace L2.Lv
open PySem PySem.Spec PyProof.Rows
section
variable {X : Cx} {e a b c : Expr} {es : List Expr} {f fa fb fc : Fe} {d da db : Fd} {fs : Fa} {ds : Fds} {pos : Pos} {st : Stmt} {rest sts sts' : List Stmt} {g h : Fs}
/-! x.insert(k, e) -/
/-! is True, is not True -/
/-! a, b, c = x, y, z -/
def sPar3 (i j l : Nat) (fs : Fa) : Fs := fun ρ n => (fs ρ n).bind fun p => match p.1 with
  | [w, w', w''] => some (.nx (((ρ.set i w).set j w').set l w'') p.2)
  | _ => none
/-! an expression that takes an item out of a list of ours -/
abbrev Fx := List W → Nat → Option (PyData × List W × Nat)
def tVX (K : PySem.W.Frag) (f : Fx) : TE := fun σ H Q => ∃ C O ρ n x ρ' n', f ρ n = some (x, ρ', n') ∧ EnvOk C O K σ H ρ n ∧ OwnP C O ∧ ∀ v H', StepS C O O H H' → EnvOk C O K σ H' ρ' n' → Dv (Av C O) K H' v x → Q v H'
abbrev EvX (X : Cx) (e : Expr) (f : Fx) : Prop := PE X e (tVX X.K f)
def xPop (i : Nat) (d : Fd) : Fx := fun ρ n => (d ρ n).bind fun k => match k.1, ρ[i]? with
  | .int z, some (.ol xs) => if xs.length ≤ big then (ixN xs.length z).bind fun j => (xs[j]?).map fun x => (x, ρ.set i (.ol (xs.eraseIdx j)), k.2) else none
  | _, _ => none
def xTup1 (f : Fx) : Fx := fun ρ n => (f ρ n).map fun p => (.tuple [p.1], p.2.1, p.2.2)
/-- a + (the taken one) -/
def xCat (fa : Fe) (f : Fx) : Fx := fun ρ n => (fa ρ n).bind fun p => p.1.val.bind fun x => (f ρ p.2).bind fun q => match dAdd x q.1 with
  | some (.d z) => some (z, q.2.1, q.2.2)
  | _ => none
def sSetX (i : Nat) (f : Fx) : Fs := fun ρ n => (f ρ n).map fun p => .nx (p.2.1.set i (.d p.1)) p.2.2
/-- x.append(the taken one) -/
def sAppX (i : Nat) (f : Fx) : Fs := fun ρ n => match ρ[i]? with
  | some (.ol _) => (f ρ n).bind fun p => match p.2.1[i]? with
    | some (.ol xs) => if xs.length < big then some (.nx (p.2.1.set i (.ol (xs ++ [p.1]))) p.2.2) else none
    | _ => none
  | _ => none
end
end L2.Lv
namespace L2.Lv
open PySem PySem.Spec PyProof.Rows
/-! a, b = x, y where they may be ours -/
section
variable {X : Cx} {e a b : Expr} {es : List Expr} {f fa fb : Fe} {d da db : Fd} {fs : Fa} {ds : Fds} {pos : Pos} {st : Stmt} {rest sts sts' : List Stmt} {gs h : Fs}
def sParO (i j : Nat) (fa fb : Fe) : Fs := fun ρ n => (fa ρ n).bind fun p => (fb ρ p.2).bind fun q => some (.nx ((ρ.set i p.1).set j q.1) q.2)
end
end L2.Lv
namespace L2.Lv
open PySem PySem.Spec PyProof.Rows
/-! for p, q in enumerate(a list of ours): if test: y = e -/
def loopI (p q : Nat) (tst : Ft) (y : Nat) (fe : Fe) : List (Nat × PyData) → List W → Nat → Option (List W × Nat)
  | [], ρ, n => some (ρ, n)
  | x :: xs, ρ, n => (tst ((ρ.set p (.d (.int (x.1 : Nat)))).set q (.d x.2)) n).bind fun c => if c.1 then (fe ((ρ.set p (.d (.int (x.1 : Nat)))).set q (.d x.2)) c.2).bind fun w => w.1.val.bind fun z => loopI p q tst y fe xs (((ρ.set p (.d (.int (x.1 : Nat)))).set q (.d x.2)).set y (.d z)) w.2
      else loopI p q tst y fe xs ((ρ.set p (.d (.int (x.1 : Nat)))).set q (.d x.2)) c.2
def enumN (xs : List PyData) : List (Nat × PyData) := xs.mapIdx fun i x => (i, x)
def sForEI (i p q : Nat) (tst : Ft) (y : Nat) (fe : Fe) : Fs := fun ρ n => match ρ[i]? with
  | some (.ol xs) => (loopI p q tst y fe (enumN xs) ρ n).map fun r => .nx r.1 r.2
  | _ => none
section
variable {X : Cx} {e a b : Expr} {es : List Expr} {f fa fb fe : Fe} {d da db : Fd} {fs : Fa} {ds : Fds} {pos : Pos} {st : Stmt} {rest sts sts' : List Stmt} {gs h : Fs} {tst : Ft}
end
end L2.Lv
namespace L2.Lv
open PySem PySem.Spec PyProof.Rows
/-! a for whose walked thing is forgotten -/
def sForK (ks : List Nat) (fi : Fi) (g : Fg) (body : Fs) : Fs := fun ρ n => (fi ρ n).bind fun p => loopF g body p.1 (wipeW ρ ks) p.2
section
variable {X : Cx} {e a b : Expr} {es : List Expr} {f fa fb : Fe} {d da db : Fd} {fs : Fa} {ds : Fds} {pos : Pos} {st : Stmt} {rest sts sts' : List Stmt} {gs h : Fs}
theorem ss_forK (ks : List Nat) {p : Bool} {tg : Expr} {fi : Fi} {is : List Nat} {g : Fg} {body : Fs} (hp : PassesOwn (model X.prog X.w) X.A X.env X.xe) (hc : X.calm = true) (hi : EvI X p tg e fi) (hg : EvG X p tg is g) (hb : EvSs X sts body)
    (hs : ∀ x, foldedSetIterable e X.env x = pure x := by intro _; rfl) : EvS X (.For tg e sts [] pos) (sForK ks fi g body) := psI (ps_for hp hc hi hg hb hs) (by
  rintro D σ H ⟨C, O, ρ, n, out, hf, E, np, q⟩
  unfold sForK at hf
  obtain ⟨⟨xs, n1⟩, e1, hf⟩ := Option.bind_eq_some_iff.mp hf
  refine ⟨C, O, ρ, n, xs, n1, e1, E, fun J H1 s t it => ?_⟩
  refine ⟨fun i m σ' H' => ∃ O' ρ' n', m = xs.length - i ∧ i ≤ xs.length ∧ StepS C O O' H1 H' ∧ EnvOk C O' X.K σ' H' ρ' n' ∧ loopF g body (xs.drop i) ρ' n' = some out,
    ⟨_, O, wipeW ρ ks, n1, rfl, Nat.zero_le _, Step.refl.stepS0, (E.step s t).wipe ks, hf⟩, ?_⟩
  rintro i m σ' H' ⟨O', ρ', n', rfl, hi, S', E', hl⟩
  obtain ⟨items, stop⟩ := it H' (fun a o e na => S'.st a o e (fun z => na (Av.t _ z)) fun j z => na (.inr (.inr ⟨j, z⟩))) S'.fr
  by_cases hlt : i < xs.length
  · obtain ⟨go, yl⟩ := items i xs[i] (List.getElem?_eq_getElem hlt)
    rw [List.drop_eq_getElem_cons hlt] at hl
    unfold loopF at hl
    obtain ⟨ρ1, e2, hl⟩ := Option.bind_eq_some_iff.mp hl
    obtain ⟨o, e3, hl⟩ := Option.bind_eq_some_iff.mp hl
    refine .inr ⟨go, fun σ'' H'' => ∃ O'' ρ'' n'', StepS C O O'' H1 H'' ∧ EnvOk C O'' X.K σ'' H'' ρ'' n'' ∧ loopF g body (xs.drop (i + 1)) ρ'' n'' = some out, ?_, fun v H2 y => ?_⟩
    · rintro σ'' H'' ⟨O'', ρ'', n'', S'', E'', hl''⟩
      exact ⟨xs.length - (i + 1), by omega, O'', ρ'', n'', rfl, hlt, S'', E'', hl''⟩
    · obtain ⟨gr, it2⟩ := yl v H2 y
      have r := it2 (Av C O') S'.keep E'.av
      have E2 := E'.step gr.step (gr.town E'.town)
      have S2 : StepS C O O' H1 H2 := S'.trans gr.step.stepS0
      refine ⟨C, O', ρ', n', xs[i], ρ1, e2, E2, r, fun O3 vs s3 E3 => ⟨C, O3, ρ1, n', o, e3, E3, np.step E (s.stepS0.trans (S2.trans s3)), ?_⟩⟩
      cases o with
      | nx ρ4 n4 => exact fun O4 σ4 H4 s4 E4 => ⟨O4, ρ4, n4, (S2.trans s3).trans s4, E4, hl⟩
      | bk ρ4 n4 =>
        cases hl
        exact fun O4 σ4 H4 s4 E4 => q O4 σ4 H4 (s.stepS0.trans ((S2.trans s3).trans s4)) E4
      | rt w n4 =>
        cases hl
        exact q
      | rs x ρ4 n4 =>
        cases hl
        exact fun O4 σ4 v4 H4 s4 E4 r4 => q O4 σ4 v4 H4 (s.stepS0.trans ((S2.trans s3).trans s4)) E4 r4
  · have hie : i = xs.length := by omega
    subst hie
    rw [List.drop_length] at hl
    cases hl
    exact .inl ⟨stop, q O' σ' H' (s.stepS0.trans S') E'⟩)
end
end L2.Lv
namespace L2.Lv
open PySem PySem.Spec PyProof.Rows
/-! [..] * k -/
def eRep (fa : Fe) (db : Fd) : Fe := fun ρ n => (fa ρ n).bind fun p => match p.1 with
  | .ol xs => (db ρ p.2).bind fun q => match q.1 with
    | .int k => if -1000000 ≤ k ∧ k ≤ 1000000 ∧ xs.length * k.toNat ≤ big then some (.ol (List.replicate k.toNat xs).flatten, q.2) else none
    | _ => none
  | _ => none
section
variable {X : Cx} {a b : Expr} {fa : Fe} {db : Fd} {pos : Pos}
end
end L2.Lv
namespace L2.Lv
open PySem PySem.Spec PyProof.Rows
/-! any(xs), ints -/
def gAnyI : List PyData → Option W
  | [.list xs] => (intsOf xs).map fun ns => .d (.bool (ns.any fun k => k != 0))
  | _ => none
def gAnyX : List PyData → Option W := fun xs => (gAny xs).or (gAnyI xs)
end L2.Lv
namespace L2.Lv
open PySem PySem.Spec PyProof.Rows
/-! x.index(y), any data -/
section
variable {prog : Program} {w : World} {A : Around} {E : Value → Shared → Prop} {s : Shared}
end
section
variable {X : Cx}
def gIndexD (x : PyData) (ys : List PyData) : Option W := match x, ys with
  | .list xs, [y] => if shp y && shp (.list xs) then (SeqAt.dataPlace xs y).map fun j => .d (.int (j : Nat)) else none
  | _, _ => none
theorem MtV.or {id : String} {g g' : PyData → List PyData → Option W} (hg : MtV X id g) (hh : MtV X id g') : MtV X id (fun x xs => (g x xs).or (g' x xs)) := by
  obtain ⟨r, h1, h2⟩ := hg
  obtain ⟨r', h1', h2'⟩ := hh
  refine ⟨fun x vs H Q => r x vs H Q ∨ r' x vs H Q, ?_, fun A T x vs dx xs w H Q tr rx rxs e q => ?_⟩
  · intro pins s σ H x xs v us Q I rx rxs h
    rcases h with h | h
    · exact h1 pins s σ H x xs v us Q I rx rxs h
    · exact h1' pins s σ H x xs v us Q I rx rxs h
  · have e : (g dx xs).or (g' dx xs) = some w := e
    cases hq : g dx xs with
    | some z =>
      rw [hq] at e
      cases e
      exact .inl (h2 A T x vs dx xs _ H Q tr rx rxs hq q)
    | none =>
      rw [hq, Option.none_or] at e
      exact .inr (h2' A T x vs dx xs _ H Q tr rx rxs e q)
def gIndexLX (x : PyData) (xs : List PyData) : Option W := (gIndexL x xs).or (gIndexD x xs)
end
end L2.Lv
namespace L2.Lv
open PySem PySem.Spec PyProof.Rows
/-! set(xs), xs a list of ints -/
section
variable {P : Program} {w : World} {A : Around} {E : Value → Shared → Prop} {s : Shared}
end
/-- the distinct ones, in order -/
def insS (x : Int) : List Int → List Int
  | [] => [x]
  | y :: ys => if x < y then x :: y :: ys else if x = y then y :: ys else y :: insS x ys
def ssetI : List Int → List Int
  | [] => []
  | x :: xs => insS x (ssetI xs)
def gSortSet : List PyData → Option W
  | [.list xs] => (intsOf xs).bind fun ns => if ns.length < 64 then some (.ol ((ssetI ns).map .int)) else none
  | _ => none
end L2.Lv
namespace L2.Lv
open PySem PySem.Spec PyProof.Rows
/-! max(xs), min(xs), ints -/
def topI : Int → List Int → Int
  | x, [] => x
  | x, y :: ys => topI (if x < y then y else x) ys
section
variable {X : Cx}
def gMaxL : List PyData → Option W
  | [.list xs] => (intsOf xs).bind fun ns => match ns with
    | [] => none
    | n :: ns => some (.d (.int (topI n ns)))
  | _ => none
def gMaxT : List PyData → Option W
  | [.tuple xs] => (intsOf xs).bind fun ns => match ns with
    | [] => none
    | n :: ns => some (.d (.int (topI n ns)))
  | _ => none
def gMax1 : List PyData → Option W := fun xs => (gMaxL xs).or (gMaxT xs)
end
end L2.Lv
namespace L2.Lv
open PySem PySem.Spec PyProof.Rows
/-! sorted(dict([(k, ..), ..])), ints -/
def pairKs : List PyData → Option (List Int)
  | [] => some []
  | .tuple [.int k, _] :: xs => (pairKs xs).map (k :: ·)
  | _ :: _ => none
def gSortDict : List PyData → Option W
  | [.list xs] => (pairKs xs).bind fun ks => if ks.length < 64 then some (.ol ((ssetI ks).map .int)) else none
  | _ => none
end L2.Lv
namespace L2.Lv
open PySem PySem.Spec PyProof.Rows
/-! len(set(xs)), ints -/
/-! a tuple of texts that the module holds -/
/-! (..) * k -/
end L2.Lv
namespace L2.Lv
open PySem PySem.Spec PyProof.Rows
/-! dicts: the keys ints, or tuples of ints -/
theorem DTat.full {P : Program} {w : World} {h : Heap} {a : Addr} {xs : List (List Int × Addr × Value)} (d : DTat h a xs) (hk : ∀ x ∈ xs, IsTupleKey (intKind P w) h x.1 x.2.1) : h.DictOfH (tupleKind (intKind P w)) a xs := by
  obtain ⟨_, _, P', w', o, es, ep, h1, h2, h3, h4, h5⟩ := d
  exact ⟨o, es, ep, h1, h2, h3, h4.trans (List.map_congr_left fun x _ => rfl), hk, h5⟩
theorem DTat.of {P : Program} {w : World} {h : Heap} {a : Addr} {xs : List (List Int × Addr × Value)} (hz : xs.length ≤ sizeLine) (hs : (a == sysModules) = false) (d : h.DictOfH (tupleKind (intKind P w)) a xs) : DTat h a xs := by
  obtain ⟨o, es, ep, h1, h2, h3, h4, _, h5⟩ := d
  exact ⟨hz, hs, P, w, o, es, ep, h1, h2, h3, h4, h5⟩
section
variable {X : Cx} {pins : List (Addr × Obj)} {σ : St} {H : Hp} {s : Shared} {a b : Addr} {A : Addr → Prop}
/-- a key, as the model sees it -/
def KeyAt (A : Addr → Prop) (K : PySem.W.Frag) (H : Hp) (b : Addr) (ns : List Int) : Prop := (¬ A b ∧ TupAt H b (ns.map V.int)) ∨ KTup K b (ns.map V.int)
theorem _root_.L2.Inv.keyT (I : Inv X pins σ H s) {ns : List Int} (h : KeyAt A X.K H b ns) : IsTupleKey (intKind X.prog X.w) s.heap ns b := L2.Inv.isT I (sqT_of h)
theorem _root_.L2.Inv.dct (I : Inv X pins σ H s) {xs : List (List Int × Addr × Value)} {rest : List (PyData × PyData)} (e : H a = some (DO a xs)) (r : Paired (DRel A X.K H) xs rest) : DTat s.heap a xs ∧ s.heap.DictOfH (tupleKind (intKind X.prog X.w)) a xs := by
  have d : DTat s.heap a xs := (I.hok a _ e).1
  refine ⟨d, d.full fun x hx => ?_⟩
  clear e d
  induction r with
  | nil => cases hx
  | cons h t ih =>
    rcases List.mem_cons.mp hx with rfl | hx
    · exact I.keyT h.2.1
    · exact ih hx
end
/-- what stands at a key -/
def lookT : List (PyData × PyData) → List Int → Option PyData
  | [], _ => none
  | kv :: r, ns => match kv.1 with
    | .tuple ks => if intsOf ks = some ns then some kv.2 else lookT r ns
    | _ => lookT r ns
def lookI : List (PyData × PyData) → Int → Option PyData
  | [], _ => none
  | kv :: r, i => match kv.1 with
    | .int j => if j = i then some kv.2 else lookI r i
    | _ => lookI r i
/-- the key's int, the key's ints -/
def isFz : PyData × PyData → Bool
  | (.none, .bool true) => true
  | _ => false
def isMk : PyData × PyData → Bool
  | (.none, .none) => true
  | _ => false
def lookD : List (PyData × PyData) → PyData → Option (Option PyData)
  | kv :: rest, .tuple ks => if isMk kv then (intsOf ks).map (lookT rest) else none
  | kvs, .int i => match kvs with
    | kv :: _ => if isMk kv then none else some (lookI kvs i)
    | [] => some none
  | _, _ => none
section
variable {X : Cx} {A : Addr → Prop} {T : Option Addr} {H : Hp} {x y : V} {kvs : List (PyData × PyData)} {dy : PyData} {r : Option PyData}
theorem DvAll.ints_inv {A : Addr → Prop} {K : PySem.W.Frag} {H : Hp} : ∀ {vs : List V} {ns : List Int}, DvAll A K H vs (ns.map .int) → vs = ns.map V.int
  | _, [], .nil => rfl
  | _, n :: ns, h => by
    cases h with
    | cons h1 h2 => cases h1; rw [DvAll.ints_inv h2, List.map_cons]
theorem DvB.key {ks : List PyData} {ns : List Int} (h : DvB A T X.K H y (.tuple ks)) (e : intsOf ks = some ns) : ∃ b, y = .ref b ∧ KeyAt A X.K H b ns := by
  rw [intsOf_ok e] at h
  rcases h with h | ⟨a, vs, ds, _, h2, _⟩ | ⟨a, kvs, _, h2, _⟩
  · cases h with
    | tup hs ha =>
      rw [ha.ints_inv] at hs
      exact ⟨_, rfl, hs⟩
  · cases h2
  · cases h2
end
/-! the rules -/
section
variable {X : Cx} {pins : List (Addr × Obj)} {σ : St} {H : Hp} {s : Shared} {x y : V} {u v : Value} {E : Value → Shared → Prop}
end
section
variable {X : Cx}
/-- d[k] -/
def dIxD (x y : PyData) : Option W := match x with
  | .dict kvs => (lookD kvs y).bind fun r => r.map .d
  | _ => none
def dNotInD (x y : PyData) : Option W := match y with
  | .dict kvs => (lookD kvs x).map fun r => .d (.bool (!r.isSome))
  | _ => none
end
/-! {} -/
def eDicK : Fe := fun _ n => some (.od [], n)
def eDicT : Fe := fun _ n => some (.od [markT], n)
section
variable {X : Cx} {pos : Pos}
end
/-! d[k] = e -/
def putT : List (PyData × PyData) → List Int → PyData → List (PyData × PyData)
  | [], ns, y => [(.tuple (ns.map .int), y)]
  | kv :: r, ns, y => if (match kv.1 with | .tuple ks => intsOf ks | _ => none) = some ns then (kv.1, y) :: r else kv :: putT r ns y
def putI : List (PyData × PyData) → Int → PyData → List (PyData × PyData)
  | [], i, y => [(.int i, y)]
  | kv :: r, i, y => if (match kv.1 with | .int j => some j | _ => none) = some i then (kv.1, y) :: r else kv :: putI r i y
def putD : List (PyData × PyData) → PyData → PyData → Option (List (PyData × PyData))
  | kv :: rest, .tuple ks, y => if isMk kv then (intsOf ks).bind fun ns => if rest.length < big then some (markT :: putT rest ns y) else none else none
  | kvs, .int i, y => match kvs with
    | kv :: _ => if isMk kv || isFz kv then none else if kvs.length < big then some (putI kvs i y) else none
    | [] => some [(.int i, y)]
  | _, _, _ => none
def sPut (i : Nat) (d : Fd) (f : Fe) : Fs := fun ρ n => (f ρ n).bind fun p => p.1.frz.val.bind fun x => (d ρ p.2).bind fun k => match ρ[i]? with
  | some (.od kvs) => (putD kvs k.1 x).map fun m => .nx (ρ.set i (.od m)) k.2
  | _ => none
section
variable {X : Cx} {A : Addr → Prop} {K : PySem.W.Frag} {H : Hp}
end
section
variable {X : Cx}
end
end L2.Lv
namespace L2.Lv
open PySem PySem.Spec PyProof.Rows
section
variable {X : Cx} {e a b : Expr} {f : Fe} {d : Fd} {pos : Pos}
end
/-! len(d), list(d), sorted(d) -/
section
variable {X : Cx}
def lenDk : List (PyData × PyData) → Nat
  | [] => 0
  | kv :: rest => if isMk kv then rest.length else rest.length + 1
def hdF : List (PyData × PyData) → Bool
  | kv :: _ => isFz kv
  | [] => false
def gLenD : List PyData → Option W
  | [.dict kvs] => if hdF kvs = true then none else some (.d (.int (lenDk kvs)))
  | _ => none
def gListD : List PyData → Option W
  | [.dict (kv :: rest)] => if isMk kv then some (.ol (rest.map (·.1))) else none
  | _ => none
def gSortedD : List PyData → Option W
  | [.dict (kv :: rest)] => if isMk kv && srtOk (rest.map (·.1)) then some (.ol (srt (rest.map (·.1)))) else none
  | _ => none
end
end L2.Lv
namespace L2.Lv
open PySem PySem.Spec PyProof.Rows
/-! dict([(k, v), ..]) -/
section
variable {X : Cx} {A : Addr → Prop} {H : Hp}
end
/-! len(dict([(k, ..), ..])), ints -/
/-- by the one road, or by the other -/
def eAlt (f g : Fe) : Fe := fun ρ n => (f ρ n).or (g ρ n)
end L2.Lv
namespace L2.Lv
open PySem PySem.Spec PyProof.Rows PySem.W
/-! min of a list of alike data -/
section
variable {X : Cx}
end
end L2.Lv
namespace L2.Lv
open PySem PySem.Spec PyProof.Rows
/-! what may be raised: classes by number -/
abbrev Fex := List W → Nat → Option ((W × Nat) ⊕ (Nat × Nat))
abbrev Fnx := List W → Nat → Option ((W × Nat) ⊕ (Nat × Nat))
abbrev Fsx := List W → Nat → Option (Out ⊕ (Nat × List W × Nat))
def spX (K : PySem.W.Frag) (cls : Nat → Addr) (k : Nat) (F : Fnx) : Sp := fun vs H Q E => ∃ (C : Cn) (ws : List W) (n : Nat) (r : (W × Nat) ⊕ (Nat × Nat)), C.H0 = H ∧
  (∀ a, C.P a → H a ≠ none) ∧ TownAt C H n ∧ ws.length = k ∧ ArgsOk (Av C Ow0) C.T K H vs ws ∧ F ws n = some r ∧ (∀ x ∈ tabsOf K, C.B x.1 x.2) ∧ TabG C Ow0 H ∧
  match r with
  | .inl (w, n') => ∀ v H', Step C H H' → TownAt C H' n' → Res (Av C Ow0) C.T K H H' v w → Q v H'
  | .inr (c, n') => ∀ H', Step C H H' → TownAt C H' n' → E (.ref (cls c)) none H'
theorem spX.len {K : PySem.W.Frag} {cls : Nat → Addr} {k : Nat} {F : Fnx} : ∀ vs H Q E, spX K cls k F vs H Q E → vs.length = k := by
  rintro vs H Q E ⟨C, ws, n, r, _, _, _, hl, ha, _⟩
  rw [← hl]
  exact Paired.length ha
def tSX (K : PySem.W.Frag) (cls : Nat → Addr) (V : WX) (f : Fsx) : TS := fun D σ H => ∃ C O ρ n r, f ρ n = some r ∧ EnvOk C O K σ H ρ n ∧ OwnP C O ∧
  match r with
  | .inl out => EndOk C O K H D out
  | .inr (c, ρ', n') => ∀ O' σ' H', StepS C O O' H H' → EnvOk C O' K σ' H' ρ' n' → V (.ref (cls c)) none σ' H'
section
variable {X : Cx} {cls : Nat → Addr} {V : WX} {e : Expr} {es : List Expr} {fs : Fa} {st : Stmt} {sts sts' rest : List Stmt} {pos : Pos} {f : Fex} {g h : Fs} {r r1 r2 : Fsx}
/-- a call that may raise -/
def xCall (F : Fnx) (fs : Fa) : Fex := fun ρ n => (fs ρ n).bind fun p => F p.1 p.2
def lft (g : Fs) : Fsx := fun ρ n => (g ρ n).map .inl
theorem sx_lift (hs : EvS X st g) : PS X st (tSX X.K cls V (lft g)) := psI hs (by
  rintro D σ H ⟨C, O, ρ, n, r, hf, E, np, q⟩
  obtain ⟨o, e1, e2⟩ := Option.map_eq_some_iff.mp hf
  cases e2
  exact ⟨C, O, ρ, n, o, e1, E, np, q⟩)
theorem sxs_lift (hs : EvSs X sts g) : PSs X sts (tSX X.K cls V (lft g)) := pssI hs (by
  rintro D σ H ⟨C, O, ρ, n, r, hf, E, np, q⟩
  obtain ⟨o, e1, e2⟩ := Option.map_eq_some_iff.mp hf
  cases e2
  exact ⟨C, O, ρ, n, o, e1, E, np, q⟩)
theorem sxs_nox (hs : EvSs X.nox sts g) : PSs X sts (tSX X.K cls V (lft g)) := sxs_lift hs.nox
def sSeqX (r1 r2 : Fsx) : Fsx := fun ρ n => (r1 ρ n).bind fun o => match o with
  | .inl (.nx ρ' n') => r2 ρ' n'
  | o => some o
theorem sx_cons (h1 : PS X st (tSX X.K cls V r1)) (h2 : PSs X rest (tSX X.K cls V r2)) : PSs X (st :: rest) (tSX X.K cls V (sSeqX r1 r2)) := pssI (pss_cons h1 h2) (by
  rintro D σ H ⟨C, O, ρ, n, r, hf, E, np, q⟩
  unfold sSeqX at hf
  obtain ⟨o, e1, hf⟩ := Option.bind_eq_some_iff.mp hf
  refine ⟨C, O, ρ, n, o, e1, E, np, ?_⟩
  match o, hf with
  | .inl (.nx ρ' n'), hf =>
    intro O' σ' H' s E'
    refine ⟨C, O', ρ', n', r, hf, E', np.step E s, ?_⟩
    match r, q with
    | .inl out, q => exact EndOk.after s q
    | .inr (c, ρ2, n2), q => exact fun O2 σ2 H2 s2 E2 => q O2 σ2 H2 (s.trans s2) E2
  | .inl (.rt w n'), hf => cases hf; exact q
  | .inl (.bk ρ' n'), hf => cases hf; exact q
  | .inl (.rs x ρ' n'), hf => cases hf; exact q
  | .inr (c, ρ', n'), hf => cases hf; exact q)
def sEndX (is : List Nat) (r : Fsx) : Fsx := fun ρ n => (r ρ n).map fun o => match o with
  | .inl (.nx ρ' n') => .inl (.nx (wipeW ρ' is) n')
  | o => o
theorem sx_end (is : List Nat) (h1 : PS X st (tSX X.K cls V r1)) : PS X st (tSX X.K cls V (sEndX is r1)) := psI h1 (by
  rintro D σ H ⟨C, O, ρ, n, r, hf, E, np, q⟩
  unfold sEndX at hf
  obtain ⟨o, e1, hf⟩ := Option.map_eq_some_iff.mp hf
  refine ⟨C, O, ρ, n, o, e1, E, np, ?_⟩
  match o, hf with
  | .inl (.nx ρ' n'), hf => cases hf; exact fun O' σ' H' s E' => q O' σ' H' s (E'.wipe is)
  | .inl (.rt w n'), hf => cases hf; exact q
  | .inl (.bk ρ' n'), hf => cases hf; exact q
  | .inl (.rs x ρ' n'), hf => cases hf; exact q
  | .inr (c, ρ', n'), hf => cases hf; exact q)
theorem sx_one (h1 : PS X st (tSX X.K cls V r1)) : PSs X [st] (tSX X.K cls V r1) := pss_one h1
def sIfX (c : Ft) (r1 r2 : Fsx) : Fsx := fun ρ n => (c ρ n).bind fun p => if p.1 then r1 ρ p.2 else r2 ρ p.2
theorem sx_if {c : Expr} {tc : Ft} (hc : EvT X c tc) (ha : PSs X sts (tSX X.K cls V r1)) (hb : PSs X sts' (tSX X.K cls V r2)) : PS X (.If c sts sts' pos) (tSX X.K cls V (sIfX tc r1 r2)) := psI (ps_if hc ha hb) (by
  rintro D σ H ⟨C, O, ρ, n, r, hf, E, np, q⟩
  unfold sIfX at hf
  obtain ⟨⟨x, n1⟩, e1, hf⟩ := Option.bind_eq_some_iff.mp hf
  refine ⟨C, O, ρ, n, x, n1, e1, E, fun H1 s t => ?_⟩
  have fin : ∀ rr : Fsx, rr ρ n1 = some r → tSX X.K cls V rr D σ H1 := fun rr e2 => by
    refine ⟨C, O, ρ, n1, r, e2, E.step s t, np, ?_⟩
    match r, q with
    | .inl out, q => exact EndOk.after s.stepS0 q
    | .inr (c, ρ2, n2), q => exact fun O2 σ2 H2 s2 E2 => q O2 σ2 H2 (s.stepS0.trans s2) E2
  cases x with
  | true => exact fin r1 (by simpa using hf)
  | false => exact fin r2 (by simpa using hf))
def sDropX (f : Fex) : Fsx := fun ρ n => (f ρ n).map fun r => match r with
  | .inl (_, n') => .inl (.nx ρ n')
  | .inr (c, n') => .inr (c, ρ, n')
/-- X() -/
theorem pmk_own0 {C : Addr} {bmB : List Value} {B newId initId : String} {x : Str} {p pos : Pos} (F : ExcBaseFacts B newId initId bmB) (q : PySem.W.excIn X.K C bmB newId = true) (gC : X.mg x = some (.ref C)) (kC : PySem.W.keepIn X.K (.ref C) = true) (r : Raises X (.ref C)) (hg : Gl X x)
    (hdb : (x == ("__debug__" : Str)) = false := by decide) : PMk X (.Call (.Name x p) [] [] pos) (fun _ H Q => Q (.ref C) none H) := by
  intro pins s σ H Q I h
  refine wpAny_Call_Name_kw (ld_glob I hg gC ?_ hdb)
  refine PySem.W.callWith_K0 I.kIn kC ?_
  show wpAny _ _ (call (.ref C) []) _ _ _
  obtain ⟨bm, N, nm, qn, bs, hdct, sn, sub, ab, col, dd, k0, k1, k2, k3, k5, mN, hC, hN, hni, T⟩ := exc_obj I.kIn q
  refine wpAny_call_exc_subT F T hC hN hni (fun h' e hm => ?_) (Nat.zero_le _)
  exact mk_of I hm r h (I.hok.gone hm.new)
def sRz (c : Nat) : Fsx := fun ρ n => some (.inr (c, ρ, n))
theorem sx_raise {c : Nat} (hc : X.calm = true) (tk : Takes X V) (he : PMk X e (fun _ H Q => Q (.ref (cls c)) none H)) : PS X (.Raise (some e) none pos) (tSX X.K cls V (sRz c)) := psI (ps_raise hc tk he) (by
  rintro D σ H ⟨C, O, ρ, n, r, hf, E, np, q⟩
  cases hf
  exact q O σ H Step.refl.stepS0 E)
/-- try: .. except X: .. -/
def sTry (r : Fsx) (g : Fs) : Fs := fun ρ n => (r ρ n).bind fun o => match o with
  | .inl out => some out
  | .inr (_, ρ', n') => g ρ' n'
end
/-- a def that may raise -/
def runX (m : Nat) (r : Fsx) : Fnx := fun ws n => (r (ws ++ List.replicate (m - ws.length) .no) n).bind fun o => match o with
  | .inl (.rt w n') => some (.inl (w, n'))
  | .inl (.nx _ n') => some (.inl (.d .none, n'))
  | .inl (.bk _ _) => none
  | .inl (.rs _ _ _) => none
  | .inr (c, _, n') => some (.inr (c, n'))
/-- a class of the program's own, caught by its own name -/
theorem exm_own {K : PySem.W.Frag} {S : Addr} (hb : PySem.W.subIn K (.ref S) (.type "BaseException") = some true) (hi : PySem.W.isClsIn K S = true) (ht : PySem.W.typeIn K (.ref S) = some (.type "type")) (hs : PySem.W.subIn K (.ref S) (.ref S) = some true) :
    PySem.W.exmOne K (.ref S) (.ref S) = some true := by
  unfold PySem.W.exmOne PySem.W.kitCls
  unfold PySem.W.isClsIn at hi
  simp [hb, hi, ht, hs]
end L2.Lv
set_option maxHeartbeats 1000000
namespace L2.Lv.Tb
open PySem PySem.Spec PyProof.Rows L2
/-! tables of sets, up to 511 -/
def Msk (m : Nat) : Prop := m = 7 ∨ m = 31 ∨ m = 127 ∨ m = 511
theorem lcg_shift (m i : Nat) : ∀ k, lcgI m ((i * 5 + 1) % (m + 1)) k = lcgI m i (k + 1)
  | 0 => rfl
  | k + 1 => by
    have ih := lcg_shift m i k
    show (lcgI m ((i * 5 + 1) % (m + 1)) k * 5 + 1) % (m + 1) = (lcgI m i (k + 1) * 5 + 1) % (m + 1)
    rw [ih]
def orbit : Nat → Nat → List Nat
  | 0, _ => []
  | n + 1, x => x :: orbit n ((x * 5 + 1) % (511 + 1))
theorem orbit_at : ∀ (n x k : Nat), k < n → (orbit n x)[k]? = some (lcgI 511 x k)
  | 0, _, _, h => by omega
  | n + 1, x, 0, _ => rfl
  | n + 1, x, k + 1, h => by
    show (orbit n ((x * 5 + 1) % (511 + 1)))[k]? = _
    rw [orbit_at n _ k (by omega), lcg_shift]
theorem orbit_all : ((List.range 512).all fun j => (orbit 512 0).contains j) = true := by decide +kernel
theorem orbit_back : (orbit 513 0)[512]? = some 0 := by decide +kernel
theorem from0 {j : Nat} (hj : j ≤ 511) : ∃ k, k ≤ 511 ∧ lcgI 511 0 k = j := by
  have h := List.all_eq_true.mp orbit_all j (List.mem_range.mpr (by omega))
  have h : j ∈ orbit 512 0 := by simpa using h
  obtain ⟨k, hk, e⟩ := List.getElem_of_mem h
  have hl : ∀ n x, (orbit n x).length = n := by
    intro n
    induction n with
    | zero => intro x; rfl
    | succ n ih => intro x; show (orbit n _).length + 1 = _; rw [ih]
  have hk' : k < 512 := by rw [hl] at hk; exact hk
  have a := orbit_at 512 0 k hk'
  rw [List.getElem?_eq_getElem hk, e] at a
  exact ⟨k, by omega, (Option.some.inj a).symm⟩
theorem lcg_plus (m i a : Nat) : ∀ k, lcgI m (lcgI m i a) k = lcgI m i (a + k)
  | 0 => rfl
  | k + 1 => by
    have ih := lcg_plus m i a k
    show (lcgI m (lcgI m i a) k * 5 + 1) % (m + 1) = (lcgI m i (a + k) * 5 + 1) % (m + 1)
    rw [ih]
theorem lcg_meets {m : Nat} (hm : Msk m) {i j : Nat} (hi : i ≤ m) (hj : j ≤ m) : ∃ k, k ≤ m ∧ lcgI m i k = j := by
  rcases hm with e | e | e | e
  · exact lcgI_all (.inl e) hi hj
  · exact lcgI_all (.inr (.inl e)) hi hj
  · exact lcgI_all (.inr (.inr e)) hi hj
  · subst e
    obtain ⟨a, la, ea⟩ := from0 hi
    obtain ⟨b, lb, eb⟩ := from0 hj
    have back : lcgI 511 0 512 = 0 := by
      have := orbit_at 513 0 512 (by omega)
      rw [orbit_back] at this
      exact (Option.some.inj this).symm
    subst ea
    by_cases c : a ≤ b
    · refine ⟨b - a, by omega, ?_⟩
      have s : a + (b - a) = b := by omega
      rw [lcg_plus, s, eb]
    · refine ⟨512 + b - a, by omega, ?_⟩
      have s : a + (512 + b - a) = 512 + b := by omega
      rw [lcg_plus, s, ← lcg_plus, back, eb]
theorem run_hits {m : Nat} (hm : Msk m) (h : Int) {j : Nat} (hj : j ≤ m) : ∃ n, n ≤ m + 12 ∧ runI m (SetTable.bits h) n = j := by
  obtain ⟨k, l, e⟩ := lcg_meets hm (runI_le m (SetTable.bits h) 12) hj
  refine ⟨12 + k, by omega, ?_⟩
  rw [runI_tail (bits_lt h), e]
theorem way_hits {m : Nat} (hm : Msk m) (h : Int) {j : Nat} (hj : j ≤ m) : ∃ k, k < 10 * SetTable.turns m ∧ way m h k = j := by
  obtain ⟨n, l, e⟩ := run_hits hm h hj
  obtain ⟨k, lk, ek⟩ := run_nth m (SetTable.bits h) n
  have tn : SetTable.turns m = m + 15 := rfl
  refine ⟨k, by omega, ?_⟩
  unfold way
  rw [ek]
  exact e
/-- a table whose places are found again -/
structure TabQ (t : SetTable) (hs : List Int) : Prop where
  up : Ris t.place.toList
  nodum : t.dummies = #[]
  cnt : t.place.size = hs.length
  msk : Msk t.mask
  low : ∀ x ∈ t.place.toList, x ≤ t.mask
  find : ∀ (i : Nat) (h : Int) (j : Nat), hs[i]? = some h → t.place.toList[i]? = some j → ∃ k, way t.mask h k = j ∧ ∀ k', k' < k → way t.mask h k' ∈ t.place.toList
theorem TabQ.of {t : SetTable} {hs : List Int} (T : TabOk t hs) : TabQ t hs := ⟨T.ris, T.dm, T.sz, by
  rcases T.mok with e | e | e
  · exact .inl e
  · exact .inr (.inl e)
  · exact .inr (.inr (.inl e)), T.bd, T.reach⟩
section
variable {t : SetTable} {hs : List Int}
theorem TabQ.plen (T : TabQ t hs) : t.place.toList.length = hs.length := by rw [Array.length_toList, T.cnt]
theorem TabQ.gap (T : TabQ t hs) (room : hs.length ≤ t.mask) (h : Int) : ∃ K, K < 10 * SetTable.turns t.mask ∧ way t.mask h K ∉ t.place.toList ∧ ∀ k, k < K → way t.mask h k ∈ t.place.toList := by
  obtain ⟨j, lj, nj⟩ := st_missing t.place.toList (t.mask + 1) (by rw [T.plen]; omega)
  obtain ⟨k, lk, ek⟩ := way_hits T.msk h (j := j) (by omega)
  obtain ⟨K, a, b, c⟩ := st_least (p := fun k => way t.mask h k ∉ t.place.toList) k (by
    show way t.mask h k ∉ t.place.toList
    rw [ek]; exact nj)
  exact ⟨K, by omega, b, fun k' l => Classical.not_not.mp (c k' l)⟩
theorem TabQ.ahead (T : TabQ t hs) {h : Int} {K i j : Nat} (out : way t.mask h K ∉ t.place.toList) (e1 : hs[i]? = some h) (e2 : t.place.toList[i]? = some j) : ∃ k, k < K ∧ way t.mask h k = j := by
  obtain ⟨k, a, b⟩ := T.find i h j e1 e2
  refine ⟨k, ?_, a⟩
  refine Classical.byContradiction fun c => ?_
  by_cases d : K = k
  · subst d
    rw [a] at out
    exact out (List.mem_of_getElem? e2)
  · exact out (b K (by omega))
end
/-! laid anew -/
end L2.Lv.Tb
set_option maxHeartbeats 1000000
namespace L2.Lv.Tb
open PySem PySem.Spec PyProof.Rows L2
/-! sets of many tuples of ints -/
structure SetQ (P : Program) (w : World) (h : Heap) (a : Addr) (L : List (Addr × List Int)) (es : Array (Int × Value)) (ep : Nat) (t : SetTable) : Prop where
  obj : ∃ o, h.get? a = some o ∧ o.ExactSet ∧ o.data = .set es ep t
  row : es.toList = rowsOf P w L
  tab : TabQ t (L.map fun p => thash P w p.2)
  once : (L.map (·.2)).Nodup
  keys : ∀ p ∈ L, IsT P w h p.2 p.1
  pln : t.plain = true
  byP : w.params.followText "set-order" = true ∨ t.led = true
  spare : L.length * 5 < t.mask * 3
  less : L.length ≤ 300
section
variable {P : Program} {w : World} {A : Around} {E : Value → Shared → Prop} {s : Shared}
variable {a : Addr} {L : List (Addr × List Int)} {es : Array (Int × Value)} {ep : Nat} {t : SetTable}
theorem rows_len {L : List (Addr × List Int)} {es : Array (Int × Value)} (e : es.toList = rowsOf P w L) : es.size = L.length := by
  rw [← Array.length_toList, e]
  unfold rowsOf
  rw [List.length_map]
theorem SetQ.size (R : SetQ P w s.heap a L es ep t) : es.size = L.length := rows_len R.row
theorem SetQ.at_ (R : SetQ P w s.heap a L es ep t) {i : Nat} {p : Addr × List Int} (e : L[i]? = some p) : es[i]? = some (thash P w p.2, Value.ref p.1) := by
  have : es.toList[i]? = some (thash P w p.2, Value.ref p.1) := by
    rw [R.row]
    unfold rowsOf
    rw [List.getElem?_map, e]; rfl
  rwa [Array.getElem?_toList] at this
end
end L2.Lv.Tb
set_option maxHeartbeats 2000000
namespace L2.Lv.Tb
open PySem PySem.Spec PyProof.Rows L2
/-! set(xs), xs a list of tuples of ints -/
section
variable {P : Program} {w : World} {A : Around} {E : Value → Shared → Prop} {s : Shared}
theorem SetQ.over {h h' : Heap} {a : Addr} {L : List (Addr × List Int)} {es : Array (Int × Value)} {ep : Nat} {t : SetTable} (R : SetQ P w h a L es ep t) (e : ∀ o, h.get? a = some o → h'.get? a = some o) (ks : ∀ p ∈ L, IsT P w h' p.2 p.1) : SetQ P w h' a L es ep t := by
  obtain ⟨o, q, r⟩ := R.obj
  exact ⟨⟨o, e o q, r⟩, R.row, R.tab, R.once, ks, R.pln, R.byP, R.spare, R.less⟩
end
/-! as an object -/
structure SetQ0 (P : Program) (w : World) (h : Heap) (a : Addr) (L : List (Addr × List Int)) : Prop where
  ex : ∃ (es : Array (Int × Value)) (ep : Nat) (t : SetTable), (∃ o, h.get? a = some o ∧ o.ExactSet ∧ o.data = .set es ep t) ∧ es.toList = rowsOf P w L ∧ TabQ t (L.map fun p => thash P w p.2) ∧ (L.map (·.2)).Nodup ∧ t.plain = true ∧
    (w.params.followText "set-order" = true ∨ t.led = true) ∧ L.length * 5 < t.mask * 3 ∧ L.length ≤ 300
theorem SetQ.part {P : Program} {w : World} {h : Heap} {a : Addr} {L : List (Addr × List Int)} {es : Array (Int × Value)} {ep : Nat} {t : SetTable} (R : SetQ P w h a L es ep t) : SetQ0 P w h a L := ⟨es, ep, t, R.obj, R.row, R.tab, R.once, R.pln, R.byP, R.spare, R.less⟩
theorem SetQ0.whole {P : Program} {w : World} {h : Heap} {a : Addr} {L : List (Addr × List Int)} (R : SetQ0 P w h a L) (ks : ∀ p ∈ L, IsT P w h p.2 p.1) : ∃ es ep t, SetQ P w h a L es ep t := by
  obtain ⟨es, ep, t, a1, a2, a3, a4, a5, a6, a7, a8⟩ := R.ex
  exact ⟨es, ep, t, a1, a2, a3, a4, ks, a5, a6, a7, a8⟩
end L2.Lv.Tb
set_option maxHeartbeats 2000000
namespace L2.Lv
open PySem PySem.Spec PyProof.Rows L2.Lv.Tb
/-! sorted(set(xs)), xs a list of tuples of ints -/
def tI (k : List Int) : PyData := .tuple (k.map .int)
def sortI (ks : List (List Int)) : List (List Int) := ks.mergeSort fun a b => !decide (b < a)
def ddup : List (List Int) → List (List Int)
  | [] => []
  | x :: xs => if x ∈ xs then ddup xs else x :: ddup xs
def keysT : List PyData → Option (List (List Int))
  | [] => some []
  | .tuple ys :: r => (intsOf ys).bind fun ns => (keysT r).map (ns :: ·)
  | _ => none
def okK (ks : List (List Int)) : Bool := (ks.all fun k => !k.isEmpty) || ks.all fun k => k.isEmpty
def gSortSetT : List PyData → Option W
  | [.list xs] => (keysT xs).bind fun ks => if okK ks && decide (ks.length ≤ 300) then some (.ol ((sortI (ddup ks)).map tI)) else none
  | _ => none
/-! the model -/
section
variable {X : Cx}
end
theorem keyed {A : Addr → Prop} {K : PySem.W.Frag} {H : Hp} : ∀ {ks : List (List Int)} {us : List V}, DvAll A K H us (ks.map tI) → ∃ ps : List (Addr × List Int), us = ps.map (fun p => V.ref p.1) ∧ ps.map (·.2) = ks ∧ ∀ p ∈ ps, Dv A K H (.ref p.1) (tI p.2)
  | [], _, h => by cases h; exact ⟨[], rfl, rfl, fun p hp => (by cases hp)⟩
  | k :: ks, _, h => by
    cases h with
    | cons h1 h2 =>
      obtain ⟨ps, e1, e2, e3⟩ := keyed h2
      obtain ⟨a, xs, rfl, _⟩ := DvB.tup (T := none) (.inl h1)
      refine ⟨(a, k) :: ps, by rw [e1]; rfl, by rw [← e2]; rfl, fun p hp => ?_⟩
      rcases List.mem_cons.mp hp with rfl | hp
      · exact h1
      · exact e3 p hp
end L2.Lv
set_option maxHeartbeats 1000000
namespace L2.Lv
open PySem PySem.Spec PyProof.Rows
/-! d.get(k, x) -/
section
variable {X : Cx} {pins : List (Addr × Obj)} {σ : St} {H : Hp} {s : Shared} {x y z : V} {u v r : Value} {E : Value → Shared → Prop}
end
def dGet3 (x y z : PyData) : Option W := match x, z with
  | .dict kvs, .int i => (lookD kvs y).map fun r => .d (r.getD (.int i))
  | _, _ => none
def eGetD (da db dc : Fd) : Fe := fun ρ n => (da ρ n).bind fun p => (db ρ p.2).bind fun q => (dc ρ q.2).bind fun r => (dGet3 p.1 q.1 r.1).map (·, r.2)
end L2.Lv
set_option maxHeartbeats 1000000
namespace L2.Lv
open PySem PySem.Spec PyProof.Rows PySem.W
/-! sorted(xs), xs empty tuples -/
section
variable {prog : Program} {w : World} {A : Around} {E : Value → Shared → Prop} {s : Shared}
end
section
variable {X : Cx}
end
end L2.Lv
namespace L2.Lv
open PySem PySem.Spec PyProof.Rows
/-! an int, reckoned while a dict is gone through -/
def hdM : List (PyData × PyData) → Bool
  | kv :: _ => isMk kv || isFz kv
  | [] => false
def eLockI (i : Nat) (f : Fe) : Fe := fun ρ n => match ρ[i]? with
  | some (.od kvs) => if hdM kvs = true then none else (f (ρ.set i (.od (markF :: kvs))) n).bind fun p => match p.1 with
    | .d (.int z) => some (.d (.int z), p.2)
    | _ => none
  | _ => none
def iKeyF (i : Nat) : Fi := fun ρ n => match ρ[i]? with
  | some (.od (kv :: rest)) => if isFz kv = true then some (rest.map (·.1), n) else none
  | _ => none
section
variable {X : Cx} {e : Expr} {f : Fe}
end
end L2.Lv
namespace L2.Lv
open PySem PySem.Spec PyProof.Rows
/-! sum and min of a tuple of ints -/
section
variable {X : Cx}
end
end L2.Lv
namespace L2.Lv
open PySem PySem.Spec PyProof.Rows
/-! len(dict([(b, v), ..])), b bools -/
def pairsB : List PyData → Option (List Bool)
  | [] => some []
  | .tuple [.bool b, _] :: xs => (pairsB xs).map (b :: ·)
  | _ :: _ => none
def bcnt (bs : List Bool) : Nat := (if true ∈ bs then 1 else 0) + if false ∈ bs then 1 else 0
def gLenDictB : List PyData → Option W
  | [.list xs] => (pairsB xs).bind fun bs => if bs.length ≤ 100000 then some (.d (.int (bcnt bs : Nat))) else none
  | _ => none
section
variable {X : Cx} {A : Addr → Prop} {H : Hp}
end
end L2.Lv
namespace L2.Lv
open PySem PySem.Spec PyProof.Rows
/-! d.setdefault(k, v), keys tuples of ints -/
def sSetDef (i : Nat) (d : Fd) (f : Fe) : Fs := fun ρ n => (d ρ n).bind fun k => (f ρ k.2).bind fun p => p.1.frz.val.bind fun x => match k.1, ρ[i]? with
  | .tuple ks, some (.od (kv :: rest)) => if isMk kv = true then (intsOf ks).bind fun ns => if rest.length < big then some (.nx (ρ.set i (.od (markT :: (if (lookT rest ns).isSome = true then rest else putT rest ns x)))) p.2) else none else none
  | _, _ => none
section
variable {X : Cx} {e b f : Expr} {fe : Fe} {d : Fd} {pos cpos apos : Pos}
end
end L2.Lv
namespace L2.Lv
open PySem PySem.Spec PyProof.Rows
/-! tuple(d.values()), keys tuples of ints -/
section
variable {prog : Program} {w : World} {A : Around} {E : Value → Shared → Prop} {s : Shared} {r d : Addr} {n : Nat} {P : Nat → Value → Prop} {OK : Heap → Prop}
end
def eTupVals (da : Fd) : Fe := fun ρ n => (da ρ n).bind fun p => match p.1 with
  | .dict (kv :: rest) => if isMk kv = true then some (.d (.tuple (rest.map (·.2))), p.2) else none
  | _ => none
section
variable {X : Cx} {o : Expr} {td : TE}
end
end L2.Lv
namespace L2.Lv
open PySem PySem.Spec PyProof.Rows
/-! len(dict([(k, v), ..])), k tuples of texts, ints and such tuples -/
mutual
def nkOf : PyData → Option NestedKey
  | .int i => some (.num i)
  | .str x => some (.text x)
  | .tuple xs => (nkAll xs).map .tup
  | _ => none
def nkAll : List PyData → Option (List NestedKey)
  | [] => some []
  | x :: xs => (nkOf x).bind fun k => (nkAll xs).map (k :: ·)
end
section
variable {X : Cx} {A : Addr → Prop} {H : Hp}
mutual
theorem nest_of {pins : List (Addr × Obj)} {σ : St} {s : Shared} (I : Inv X pins σ H s) : ∀ (d : PyData) (v : V) (u : Value) (k : NestedKey), Dv A X.K H v d → RelV v u → nkOf d = some k → NestedIs s.heap k u
  | .int i, v, u, k, h, r, e => by
    cases h
    obtain ⟨t, rfl⟩ := r
    cases e
    exact .int _ _
  | .str x, v, u, k, h, r, e => by
    cases h
    obtain ⟨t, rfl⟩ := r
    cases e
    exact .text _ _
  | .tuple ds, v, u, k, h, r, e => by
    unfold nkOf at e
    obtain ⟨ks, e1, rfl⟩ := Option.map_eq_some_iff.mp e
    cases h with
    | tup hs ha =>
      cases r
      obtain ⟨its, r2, ht, _⟩ := I.tuple (sqT_of hs)
      obtain ⟨o, ho, hc, n, hd⟩ := ht
      exact .tup ho hc hd (nest_all I ds _ _ ks ha r2 e1)
  | .none, v, u, k, h, r, e => by cases e
  | .bool _, v, u, k, h, r, e => by cases e
  | .list _, v, u, k, h, r, e => by cases e
  | .dict _, v, u, k, h, r, e => by cases e
theorem nest_all {pins : List (Addr × Obj)} {σ : St} {s : Shared} (I : Inv X pins σ H s) : ∀ (ds : List PyData) (vs : List V) (us : List Value) (ks : List NestedKey), DvAll A X.K H vs ds → Vals vs us → nkAll ds = some ks → NestedAll s.heap ks us
  | [], _, _, ks, h, r, e => by
    cases h
    cases r
    cases e
    exact .nil
  | d :: ds, _, _, ks, h, r, e => by
    unfold nkAll at e
    obtain ⟨k, e1, e⟩ := Option.bind_eq_some_iff.mp e
    obtain ⟨ks', e2, rfl⟩ := Option.map_eq_some_iff.mp e
    cases h with
    | cons h1 h2 =>
      cases r with
      | cons r1 r2 => exact .cons (nest_of I d _ _ k h1 r1 e1) (nest_all I ds _ _ ks' h2 r2 e2)
end
end
end L2.Lv
namespace L2.Lv
open PySem PySem.Spec PyProof.Rows PySem.W
open PySem.SeqAt (RcLt EqAt firstLt firstLt_yes firstLt_no pairEq room_here room_in room_head room_tail)
/-! sorted of tuples whose items may be of unlike kinds behind the first place that differs -/
mutual
def aLz : PyData → PyData → Bool
  | .int _, .int _ => true
  | .str _, .str _ => true
  | .tuple xs, .tuple ys => aLzAll xs ys
  | _, _ => false
def aLzAll : List PyData → List PyData → Bool
  | x :: xs, y :: ys => if PyData.eqv x y = true then W.alike x y && aLzAll xs ys else aLz x y
  | [], _ => true
  | _ :: _, [] => true
end
theorem lz_yes {x y : PyData} {xs ys : List PyData} (h : aLzAll (x :: xs) (y :: ys) = true) (e : PyData.eqv x y = true) : W.alike x y = true ∧ aLzAll xs ys = true := by
  rw [aLzAll, if_pos e, Bool.and_eq_true] at h
  exact h
theorem lz_no {x y : PyData} {xs ys : List PyData} (h : aLzAll (x :: xs) (y :: ys) = true) (e : PyData.eqv x y = false) : aLz x y = true := by
  rw [aLzAll, if_neg (by rw [e]; decide)] at h
  exact h
mutual
theorem lz_refl : ∀ d : PyData, aLz d d = true → PyData.eqv d d = true
  | .int _, _ => by simp [PyData.eqv]
  | .str _, _ => by simp [PyData.eqv]
  | .tuple zs, h => by rw [PyData.eqv]; exact lzAll_refl zs (by simpa [aLz] using h)
  | .none, h => absurd h (by simp [aLz])
  | .bool _, h => absurd h (by simp [aLz])
  | .list _, h => absurd h (by simp [aLz])
  | .dict _, h => absurd h (by simp [aLz])
theorem lzAll_refl : ∀ zs : List PyData, aLzAll zs zs = true → PyData.eqvAll zs zs = true
  | [], _ => by simp [PyData.eqvAll]
  | z :: zs, h => by
    have hz : PyData.eqv z z = true := by
      cases q : PyData.eqv z z with
      | true => rfl
      | false => rw [← q]; exact lz_refl z (lz_no h q)
    rw [PyData.eqvAll, hz, lzAll_refl zs (lz_yes h hz).2]; rfl
end
mutual
theorem lz_one {h : Heap} : ∀ (d e : PyData) (v : Value) (as bs : List Addr), aLz d e = true → Reads h v d as → Reads h v e bs → d = e
  | .int _, e, _, _, _, q, r, r' => by
    cases e with
    | int _ => cases r; cases r'; rfl
    | _ => exact absurd q (by simp [aLz])
  | .str _, e, _, _, _, q, r, r' => by
    cases e with
    | str _ => cases r; cases r'; rfl
    | _ => exact absurd q (by simp [aLz])
  | .tuple xs, e, _, _, _, q, r, r' => by
    cases e with
    | tuple ys =>
      cases r with
      | tuple g1 g2 g3 g4 =>
        cases r' with
        | tuple k1 k2 k3 k4 =>
          rw [g1] at k1
          cases k1
          rw [g3] at k3
          cases k3
          rw [lz_ones xs ys _ _ _ (by simpa [aLz] using q) g4 k4]
    | _ => exact absurd q (by simp [aLz])
  | .none, e, _, _, _, q, _, _ => absurd q (by cases e <;> simp [aLz])
  | .bool _, e, _, _, _, q, _, _ => absurd q (by cases e <;> simp [aLz])
  | .list _, e, _, _, _, q, _, _ => absurd q (by cases e <;> simp [aLz])
  | .dict _, e, _, _, _, q, _, _ => absurd q (by cases e <;> simp [aLz])
theorem lz_ones {h : Heap} : ∀ (ds es : List PyData) (vs : List Value) (as bs : List Addr), aLzAll ds es = true → ReadsAll h vs ds as → ReadsAll h vs es bs → ds = es
  | [], es, _, _, _, _, r, r' => by cases r; cases r'; rfl
  | d :: ds, [], _, _, _, _, r, r' => by cases r; cases r'
  | d :: ds, e :: es, _, _, _, q, r, r' => by
    cases r with
    | cons r1 r2 =>
      cases r' with
      | cons k1 k2 =>
        cases z : PyData.eqv d e with
        | true =>
          rw [alike_unique _ _ _ _ _ (lz_yes q z).1 r1 k1, lz_ones ds es _ _ _ (lz_yes q z).2 r2 k2]
        | false =>
          have l := lz_no q z
          have de := lz_one d e _ _ _ l r1 k1
          subst de
          rw [lz_refl d l] at z
          cases z
end
mutual
theorem lz_toks : ∀ (d e : PyData), aLz d e = true → (PyData.eqv d e = true → keyToks d = keyToks e) ∧ (PyData.eqv d e = false → ∀ l m, lexLt itemOrd (keyToks d ++ l) (keyToks e ++ m) = lexLt itemOrd (keyToks d) (keyToks e))
  | .int a, e, q => toks_eqv (.int a) e (by cases e <;> first | rfl | exact absurd q (by simp [aLz]))
  | .str a, e, q => toks_eqv (.str a) e (by cases e <;> first | rfl | exact absurd q (by simp [aLz]))
  | .tuple xs, e, q => by
    cases e with
    | tuple ys =>
      have t := lz_toksAll xs ys (by simpa [aLz] using q)
      simp only [keyToks, PyData.eqv]
      exact t
    | _ => exact absurd q (by simp [aLz])
  | .none, e, q => absurd q (by cases e <;> simp [aLz])
  | .bool _, e, q => absurd q (by cases e <;> simp [aLz])
  | .list _, e, q => absurd q (by cases e <;> simp [aLz])
  | .dict _, e, q => absurd q (by cases e <;> simp [aLz])
theorem lz_toksAll : ∀ (ds es : List PyData), aLzAll ds es = true → (PyData.eqvAll ds es = true → keyToksAll ds = keyToksAll es) ∧ (PyData.eqvAll ds es = false → ∀ l m, lexLt itemOrd (keyToksAll ds ++ l) (keyToksAll es ++ m) = lexLt itemOrd (keyToksAll ds) (keyToksAll es))
  | [], [], _ => ⟨fun _ => rfl, fun z => absurd z (by simp [PyData.eqvAll])⟩
  | [], e :: es, _ => ⟨fun z => absurd z (by simp [PyData.eqvAll]), fun _ l m => by
      simp only [keyToksAll, List.cons_append, List.nil_append]
      exact (lex_atom (by simp) l _).trans (lex_atom (by simp) [] _).symm⟩
  | d :: ds, [], _ => ⟨fun z => absurd z (by simp [PyData.eqvAll]), fun _ l m => by
      simp only [keyToksAll, List.cons_append, List.nil_append]
      exact (lex_atom (by simp) _ m).trans (lex_atom (by simp) _ []).symm⟩
  | d :: ds, e :: es, q => by
    rw [eqv_all_cons, toks_all_cons, toks_all_cons]
    cases z : PyData.eqv d e with
    | true =>
      obtain ⟨b1, b2⟩ := lz_toksAll ds es (lz_yes q z).2
      rw [(toks_eqv d e (lz_yes q z).1).1 z, Bool.true_and]
      refine ⟨fun y => by rw [b1 y], fun y l m => ?_⟩
      simp only [List.cons_append, List.append_assoc]
      have t1 := lex_self (O := itemOrd) (Sum.inl 1) (keyToks e ++ (keyToksAll ds ++ l)) (keyToks e ++ (keyToksAll es ++ m))
      have t2 := lex_self (O := itemOrd) (Sum.inl 1) (keyToks e ++ keyToksAll ds) (keyToks e ++ keyToksAll es)
      exact t1.trans (((lex_pre _ _ _).trans (b2 y l m)).trans ((lex_pre _ _ _).symm.trans t2.symm))
    | false =>
      obtain ⟨_, a2⟩ := lz_toks d e (lz_no q z)
      rw [Bool.false_and]
      refine ⟨fun y => (by cases y), fun _ l m => ?_⟩
      simp only [List.cons_append, List.append_assoc]
      have t1 := lex_self (O := itemOrd) (Sum.inl 1) (keyToks d ++ (keyToksAll ds ++ l)) (keyToks e ++ (keyToksAll es ++ m))
      have t2 := lex_self (O := itemOrd) (Sum.inl 1) (keyToks d ++ keyToksAll ds) (keyToks e ++ keyToksAll es)
      exact (t1.trans (a2 z _ _)).trans (t2.trans (a2 z _ _)).symm
end
theorem lz_lex_no {x y : PyData} {xs ys : List PyData} (h : aLz x y = true) (e : PyData.eqv x y = false) : lexLt itemOrd (keyToksAll (x :: xs)) (keyToksAll (y :: ys)) = dataLt x y := by
  rw [toks_all_cons, toks_all_cons, lex_self (O := itemOrd)]
  exact (lz_toks x y h).2 e _ _
theorem lz_first : ∀ (ds es : List PyData), aLzAll ds es = true →
    firstLt (pairEq ds es) (fun j => dataLt (ds.getD j .none) (es.getD j .none)) (decide (ds.length < es.length)) (List.range (min ds.length es.length)) = lexLt itemOrd (keyToksAll ds) (keyToksAll es)
  | [], [], _ => by simp [firstLt, keyToksAll, lex_irrefl]
  | [], e :: es, _ => by
    simp only [toks_all_cons, keyToksAll]
    rw [lex_diff (O := itemOrd) (by simp)]
    simp [firstLt, itemLt]
  | d :: ds, [], _ => by
    simp only [toks_all_cons, keyToksAll]
    rw [lex_diff (O := itemOrd) (by simp)]
    simp [firstLt, itemLt]
  | d :: ds, e :: es, q => by
    have e1 : min (ds.length + 1) (es.length + 1) = min ds.length es.length + 1 := by omega
    have e2 : decide (ds.length + 1 < es.length + 1) = decide (ds.length < es.length) := by simp
    simp only [List.length_cons]
    rw [e1, e2, List.range_succ_eq_map]
    cases z : PyData.eqv d e with
    | true =>
      have ih := lz_first ds es (lz_yes q z).2
      rw [firstLt_yes (show pairEq (d :: ds) (e :: es) 0 = true from z), firstLt_map, dataLt_all_yes (lz_yes q z).1 z]
      exact ih
    | false =>
      rw [firstLt_no (show pairEq (d :: ds) (e :: es) 0 = false from z), lz_lex_no (lz_no q z) z]
      rfl
end L2.Lv
namespace PySem.SeqAt
open MeetsSeq MeetsSeq2 MeetsSeq3 SeqRoads2
/-- as tuple_ltAt, but < is asked at the first place alone that differs -/
theorem tuple_ltLz (p q : Addr) (us ws : Array Value) (k1 k2 : Nat) (c1 c2 : Option Addr) (t1 t2 : Array (Option Value)) (e r : Nat → Bool) :
    Meets (Builtin.«tuple.__lt__» ⟨[.ref p, .ref q], []⟩)
      (fun A R s => s.heap.get? p = some { cls := .type "tuple", dict := c1, data := .seq us k1, slots := t1 } ∧ s.heap.get? q = some { cls := .type "tuple", dict := c2, data := .seq ws k2, slots := t2 } ∧
        (∀ j (g1 : j < us.size) (g2 : j < ws.size), EqAt A.in1 s us[j] ws[j] (e j)) ∧ (∀ j (g1 : j < us.size) (g2 : j < ws.size), e j = false → (∀ i, i < j → e i = true) → RcLt A.in1 s us[j] ws[j] (r j)) ∧
        R (.ok (.ret (.bool (firstLt e r (decide (us.size < ws.size)) (List.range (min us.size ws.size)))))) s) :=
  .of_wp fun prog w A R s z => by
    obtain ⟨hp, g, d, tk, os⟩ := s
    obtain ⟨z1, z2, he, hr, z⟩ := z
    have f2 := AutoSeq1.sub_tuple_tuple
    have lz : (us.toList.zip ws.toList).length = min us.size ws.size := by simp
    wp_walk using AutoSeq1.wpAny_loadPart' z1, AutoSeq1.wpAny_loadPart' z2, wpAny_forIn_list _ (fun rest b s' => b.1 = none ∧ s' = ⟨hp, g, d, tk, os⟩ ∧ ∃ i, (∀ j, j < i → e j = true) ∧ rest = (us.toList.zip ws.toList).drop i ∧
      R (.ok (.ret (.bool (firstLt e r (decide (us.size < ws.size)) ((List.range (min us.size ws.size)).drop i))))) ⟨hp, g, d, tk, os⟩) _
    case turn =>
      rintro ⟨y, x⟩ rest b s' ⟨b0, rfl, i, pre, hz, hR⟩
      have lt : i < (us.toList.zip ws.toList).length := by
        rcases Nat.lt_or_ge i (us.toList.zip ws.toList).length with q | q
        · exact q
        · rw [List.drop_of_length_le q] at hz; cases hz
      have g1 : i < us.size := by omega
      have g2 : i < ws.size := by omega
      rw [List.drop_eq_getElem_cons lt] at hz
      injection hz with pr tl
      have ey : y = us[i] := by have := congrArg Prod.fst pr; simpa using this
      have ex : x = ws[i] := by have := congrArg Prod.snd pr; simpa using this
      subst ey ex
      rw [show (List.range (min us.size ws.size)).drop i = i :: (List.range (min us.size ws.size)).drop (i + 1) by simp [List.drop_eq_getElem_cons, show i < min us.size ws.size by omega]] at hR
      refine wpAny_bind (he i g1 g2 prog w _ _ ?_)
      cases ei : e i with
      | true =>
        rw [firstLt_yes ei] at hR
        wp_walk
        refine ⟨rfl, rfl, i + 1, fun j hj => ?_, tl, hR⟩
        rcases Nat.lt_succ_iff_lt_or_eq.mp hj with q | q
        · exact pre j q
        · rw [q]; exact ei
      | false =>
        rw [firstLt_no ei] at hR
        have key : ∀ (E' : Value → Shared → Prop) (Q' : Value → Shared → Prop), Q' (.bool (r i)) ⟨hp, g, d, tk, os⟩ → wpAny (model prog w) A.in1 (PySem.richCompare .Lt us[i] ws[i]) Q' E' ⟨hp, g, d, tk, os⟩ := fun E' Q' q => hr i g1 g2 ei pre prog w E' Q' q
        wp_walk using key _ _
        exact ⟨_, rfl, hR⟩
    case fin =>
      rintro ⟨b1, b2⟩ s' ⟨b0, rfl, i, pre, hz, hR⟩
      simp only at b0
      subst b0
      have ge : min us.size ws.size ≤ i := by
        rcases Nat.lt_or_ge i (us.toList.zip ws.toList).length with q | q
        · rw [List.drop_eq_getElem_cons q] at hz; cases hz
        · exact lz ▸ q
      rw [List.drop_of_length_le (by simpa using ge)] at hR
      wp_walk
      exact ⟨_, rfl, by simpa [Builtin.Tuple.tupleCompareSizes, firstLt] using hR⟩
    case h =>
      exact ⟨rfl, rfl, 0, fun j q => absurd q (Nat.not_lt_zero _), rfl, by simpa using z⟩
theorem RcLt.tuplesLz {A : Around} {s : Shared} {p q : Addr} {us ws : Array Value} {e r : Nat → Bool} (hl : s.heap.IsTuple p us) (hb : s.heap.IsTuple q ws) (hu : A.units < cLine)
    (he : ∀ j (g1 : j < us.size) (g2 : j < ws.size), EqAt A.in1 s us[j] ws[j] (e j)) (hr : ∀ j (g1 : j < us.size) (g2 : j < ws.size), e j = false → (∀ i, i < j → e i = true) → RcLt A.in1 s us[j] ws[j] (r j)) :
    RcLt A s (.ref p) (.ref q) (firstLt e r (decide (us.size < ws.size)) (List.range (min us.size ws.size))) := fun prog w E Q h => by
  obtain ⟨⟨cl1, c1, da1, t1⟩, o1, rfl, k1, rfl⟩ := id hl
  obtain ⟨⟨cl2, c2, da2, t2⟩, o2, rfl, k2, rfl⟩ := id hb
  refine richCompare_meets_room (op := .Lt) ⟨_, o1, rfl⟩ ⟨_, o2, rfl⟩ F.slot_tuple_lt F.entry_tuple_lt (F.args_tuple_lt_2 _ _) (tuple_ltLz p q us ws k1 k2 c1 c2 t1 t2 e r) ⟨o1, o2, he, hr, ?_⟩ (hu := hu)
  exact ⟨(fun x => nomatch x), h⟩
end PySem.SeqAt
namespace L2.Lv
open PySem PySem.Spec PyProof.Rows PySem.W
open PySem.SeqAt (RcLt EqAt firstLt firstLt_yes firstLt_no pairEq room_here room_in room_head room_tail)
theorem plain_cons {x : PyData} {xs : List PyData} (h : PyData.plainAll (x :: xs) = true) : x.plain = true ∧ PyData.plainAll xs = true := by simpa [PyData.plainAll] using h
mutual
theorem rcLt_lz : ∀ (d e : PyData) (A : Around) (s : Shared) (a b : Value) (as bs : List Addr), Reads s.heap a d as → Reads s.heap b e bs → aLz d e = true → d.plain = true → e.plain = true → A.units + min d.depth e.depth < cLine → RcLt A s a b (dataLt d e)
  | .int i, e, A, s, a, b, as, bs, r1, r2, q, _, _, hu => rcLt_alike (.int i) e A s a b as bs r1 r2 (by cases e <;> first | rfl | exact absurd q (by simp [aLz])) (by simp) hu
  | .str i, e, A, s, a, b, as, bs, r1, r2, q, _, _, hu => rcLt_alike (.str i) e A s a b as bs r1 r2 (by cases e <;> first | rfl | exact absurd q (by simp [aLz])) (by simp) hu
  | .tuple ds, e, A, s, a, b, as, bs, r1, r2, q, p1, p2, hu => by
    cases e with
    | tuple es =>
      have q : aLzAll ds es = true := by simpa [aLz] using q
      have p1 : PyData.plainAll ds = true := by simpa [PyData.plain] using p1
      have p2 : PyData.plainAll es = true := by simpa [PyData.plain] using p2
      cases r1 with
      | @tuple l o us n _ as1 g1 g2 g3 g4 =>
        cases r2 with
        | @tuple l' o' ws n' _ bs1 k1 k2 k3 k4 =>
          have m1 : us.size = ds.length := by simpa using SeqAt.ReadsAll.length _ _ _ g4
          have m2 : ws.size = es.length := by simpa using SeqAt.ReadsAll.length _ _ _ k4
          rw [dataLt_tuple, ← lz_first ds es q, ← m1, ← m2]
          refine RcLt.tuplesLz ⟨_, g1, g2, _, g3⟩ ⟨_, k1, k2, _, k3⟩ (room_here hu) (fun j j1 j2 => ?_) fun j j1 j2 hj hp => ?_
          · have := SeqAt.eqAt_plainAll ds es A.in1 s us.toList ws.toList _ _ g4 k4 p1 p2 (room_in hu) j (by simpa using j1) (by simpa using j2)
            simpa using this
          · have := rcLt_lzs ds es A.in1 s us.toList ws.toList _ _ g4 k4 q p1 p2 (room_in hu) j (by simpa using j1) (by simpa using j2) hj hp
            simpa using this
    | _ => exact absurd q (by simp [aLz])
  | .none, e, _, _, _, _, _, _, _, _, q, _, _, _ => absurd q (by cases e <;> simp [aLz])
  | .bool _, e, _, _, _, _, _, _, _, _, q, _, _, _ => absurd q (by cases e <;> simp [aLz])
  | .list _, e, _, _, _, _, _, _, _, _, q, _, _, _ => absurd q (by cases e <;> simp [aLz])
  | .dict _, e, _, _, _, _, _, _, _, _, q, _, _, _ => absurd q (by cases e <;> simp [aLz])
theorem rcLt_lzs : ∀ (ds es : List PyData) (A : Around) (s : Shared) (us ws : List Value) (as bs : List Addr), ReadsAll s.heap us ds as → ReadsAll s.heap ws es bs → aLzAll ds es = true → PyData.plainAll ds = true → PyData.plainAll es = true →
    A.units + min (PyData.depthAll ds) (PyData.depthAll es) < cLine → ∀ j (g1 : j < us.length) (g2 : j < ws.length), pairEq ds es j = false → (∀ i, i < j → pairEq ds es i = true) → RcLt A s us[j] ws[j] (dataLt (ds.getD j .none) (es.getD j .none))
  | [], _, _, _, _, _, _, _, r, _, _, _, _, _, j, g1, _, _, _ => by cases r; exact absurd g1 (Nat.not_lt_zero _)
  | _ :: _, [], _, _, _, _, _, _, _, r, _, _, _, _, j, _, g2, _, _ => by cases r; exact absurd g2 (Nat.not_lt_zero _)
  | d :: ds, e :: es, A, s, _, _, _, _, r1, r2, q, p1, p2, hu, j, g1, g2, hj, hp => by
    cases r1 with
    | cons x1 x2 =>
      cases r2 with
      | cons y1 y2 =>
        cases j with
        | zero => exact rcLt_lz d e A s _ _ _ _ x1 y1 (lz_no q hj) (plain_cons p1).1 (plain_cons p2).1 (room_head hu)
        | succ j => exact rcLt_lzs ds es A s _ _ _ _ x2 y2 (lz_yes q (hp 0 (Nat.succ_pos j))).2 (plain_cons p1).2 (plain_cons p2).2 (room_tail hu) j (Nat.lt_of_succ_lt_succ g1) (Nat.lt_of_succ_lt_succ g2) hj fun i hi => hp (i + 1) (Nat.succ_lt_succ hi)
end
section
variable {prog : Program} {w : World} {A : Around} {s : Shared}
theorem katLex_lz {fin : Bool} {Q : Bool → Shared → Prop} : ∀ (ds es : List PyData) (i : Nat) (us ws : List Value) (as bs : List Addr), ReadsAll s.heap us ds as → ReadsAll s.heap ws es bs → aLzAll ds es = true → PyData.plainAll ds = true → PyData.plainAll es = true →
    A.units + min (PyData.depthAll ds) (PyData.depthAll es) < cLine → fin = decide (ds.length < es.length) → Q (lexLt itemOrd (keyToksAll ds) (keyToksAll es)) s → KatLex prog w A false fin Q (us.zip ws) i s
  | [], [], i, _, _, _, _, r1, r2, _, _, _, _, hf, hq => by
    cases r1
    cases r2
    rw [lex_irrefl] at hq
    exact kat_nil (by rw [hf]; simpa using hq)
  | [], e :: es, i, _, _, _, _, r1, r2, _, _, _, _, hf, hq => by
    cases r1
    simp only [toks_all_cons, keyToksAll] at hq
    rw [lex_diff (O := itemOrd) (by simp)] at hq
    rw [List.zip_nil_left]
    exact kat_nil (by rw [hf]; simpa [itemLt] using hq)
  | d :: ds, [], i, _, _, _, _, r1, r2, _, _, _, _, hf, hq => by
    cases r2
    simp only [toks_all_cons, keyToksAll] at hq
    rw [lex_diff (O := itemOrd) (by simp)] at hq
    rw [List.zip_nil_right]
    exact kat_nil (by rw [hf]; simpa [itemLt] using hq)
  | d :: ds, e :: es, i, _, _, _, _, r1, r2, q, p1, p2, hu, hf, hq => by
    have hf2 : fin = decide (ds.length < es.length) := by rw [hf]; simp
    cases r1 with
    | cons x1 x2 =>
      cases r2 with
      | cons y1 y2 =>
        rw [List.zip_cons_cons]
        refine kat_cons (SeqAt.eqAt_plain d e A s _ _ _ _ x1 y1 (plain_cons p1).1 (plain_cons p2).1 (room_head hu) prog w _ _ ?_)
        cases z : PyData.eqv d e with
        | true =>
          rw [dataLt_all_yes (lz_yes q z).1 z] at hq
          exact kat_yes (katLex_lz ds es (i + 1) _ _ _ _ x2 y2 (lz_yes q z).2 (plain_cons p1).2 (plain_cons p2).2 (room_tail hu) hf2 hq)
        | false =>
          rw [lz_lex_no (lz_no q z) z] at hq
          refine kat_no ?_
          rw [Bool.false_and, oneLt'_eq]
          simp only [Bool.false_eq_true, if_false]
          exact wpAny_bind (rcLt_lz d e A s _ _ _ _ x1 y1 (lz_no q z) (plain_cons p1).1 (plain_cons p2).1 (room_head hu) prog w _ _ (wpAny_truthy_bool hq))
def AllLz (ds : List PyData) : Prop := ∀ d, d ∈ ds → ∀ e, e ∈ ds → aLz d e = true
theorem lzKey {h : Heap} {ds : List PyData} (hal : AllLz ds) {v : Value} {d : PyData} {as : List Addr} (hd : d ∈ ds) (r : Reads h v d as) : (dataKind h ds).keyOf v = some (keyToks d) := by
  have q : ∃ d, d ∈ ds ∧ ∃ as, Reads h v d as := ⟨d, hd, as, r⟩
  obtain ⟨e, he⟩ : ∃ k, (dataKind h ds).keyOf v = some k := by
    refine ⟨keyToks q.choose, ?_⟩
    show (open Classical in if q : ∃ d, d ∈ ds ∧ ∃ as, Reads h v d as then some (keyToks q.choose) else none) = _
    rw [dif_pos q]
    rfl
  obtain ⟨d', as', h1, h2, h3⟩ := dataKind_inv he
  rw [he, h3, lz_one d' d v _ _ (hal _ h1 _ hd) h2 r]
  rfl
theorem SortsAt.lz {vs : List Value} {ds : List PyData} (e : EachIs (fun v d => ∃ as, Reads s.heap v d as) vs ds) (hal : AllLz ds) (hp : ∀ d, d ∈ ds → d.plain = true) (ht : ∀ d, d ∈ ds → ∃ t r, d = .tuple (.tuple t :: r)) (hu : ∀ d, d ∈ ds → A.units + d.depth < cLine) :
    SortsAt prog w A s (dataKind s.heap ds) vs := by
  refine ⟨fun v hv => ?_, tuples' false, fun E x y a b Q ha hb hq => ?_, fun h2 E Q hq => ?_⟩
  · obtain ⟨d, hd, as, r⟩ := e.left v hv
    exact ⟨_, lzKey hal hd r⟩
  · obtain ⟨d, as, hd, ra, rfl⟩ := dataKind_inv ha
    obtain ⟨d', as', hd', rb, rfl⟩ := dataKind_inv hb
    have q := hal d hd d' hd'
    have p1 := hp d hd
    have p2 := hp d' hd'
    have room : A.units + min d.depth d'.depth < cLine := by have := hu d hd; omega
    obtain ⟨t1, r1, rfl⟩ := ht d hd
    obtain ⟨t2, r2, rfl⟩ := ht d' hd'
    have hq : Q (dataLt (.tuple (.tuple t1 :: r1)) (.tuple (.tuple t2 :: r2))) s := hq
    rw [dataLt_tuple] at hq
    cases ra with
    | @tuple l o us n _ _ g1 g2 g3 g4 =>
      cases rb with
      | @tuple l' o' ws n' _ _ k1 k2 k3 k4 =>
        have m1 : us.size = (PyData.tuple t1 :: r1).length := by simpa using SeqAt.ReadsAll.length _ _ _ g4
        have m2 : ws.size = (PyData.tuple t2 :: r2).length := by simpa using SeqAt.ReadsAll.length _ _ _ k4
        exact kat_lt g1 g3 k1 k3 (katLex_lz _ _ 0 _ _ _ _ g4 k4 (by simpa [aLz] using q) (by simpa [PyData.plain] using p1) (by simpa [PyData.plain] using p2) (by have := SeqAt.room_in room; omega) (by rw [m1, m2]) hq)
  · obtain ⟨fs, f1, f2, f3⟩ := each_katTups e fun d hd => let ⟨t, r, q⟩ := ht d hd; ⟨_, r, q⟩
    refine kat_kind (T := .type "tuple") f1 (by omega) (fun f hf => ?_) (beq_self_eq_true _) (by rw [show (Value.type "tuple" != Value.type "tuple") = false by rw [bne, beq_self_eq_true]; rfl]; exact hq)
    obtain ⟨x, r, as, n1, n2⟩ := f3 f hf
    obtain ⟨t, r', z⟩ := ht _ n1
    cases z
    exact looks_reads n2
end
variable {X : Cx}
end L2.Lv
namespace L2.Lv
open PySem PySem.Spec PyProof.Rows
/-! a list of lists of one's own -/
theorem SlOk.mono {A A' : Addr → Prop} {T S : Option Addr} {K : PySem.W.Frag} {H H' : Hp} {v : Option (Option V)} {o : Option Addr} {hd hd' : Nat → Option Addr} {w : W} (q : SlOk A T S K H v o hd w) (m : Keep A A' H H') (k : ∀ a u, o = some a → H a = some u → H' a = some u)
    (eh : ∀ j, j < 1000 → hd' j = hd j) (kh : ∀ j a u, j < 1000 → hd j = some a → H a = some u → H' a = some u) : SlOk A' T S K H' v o hd' w := by
  cases w with
  | no => trivial
  | d x => obtain ⟨u, h1, h2⟩ := q; exact ⟨u, h1, h2.mono m⟩
  | town => exact q
  | ol xs => obtain ⟨a, vs, h1, h2, h3, h4⟩ := q; exact ⟨a, vs, h1, h2, k _ _ h1 h3, h4.mono m⟩
  | od kvs => obtain ⟨a, h1, h2, h3⟩ := q; exact ⟨a, h1, h2, h3.mono m fun o e => k _ _ h1 e⟩
  | oll xss =>
    obtain ⟨a, bs, h1, h2, h3, h4⟩ := q
    exact ⟨a, bs, h1, h2, k _ _ h1 h3, h4.mono m (fun j hj => eh j (by have := h4.2.1; omega)) fun j b u hj g e => kh j b u (by have := h4.2.1; omega) g e⟩
  | fn g => obtain ⟨u, h1, h2⟩ := q; exact ⟨u, h1, h2.mono m⟩
  | shR now => obtain ⟨u, h1, h2⟩ := q; exact ⟨u, h1, h2.mono m⟩
  | sh sf now bef lat =>
    obtain ⟨a, h1, h2, hs, h3⟩ := q
    exact ⟨a, h1, h2, hs, h3.mono m (fun u e => k _ _ h1 e) (fun j hj => eh j (by omega)) fun j c u hj g e => kh j c u (by omega) g e⟩
section
variable {C : Cn} {O : Ow} {K : PySem.W.Frag} {σ : St} {H H1 : Hp} {ρ : List W} {n n' i : Nat} {w w' : W}
theorem EnvOk.reslot (E : EnvOk C O K σ H ρ n) (hx : ρ[i]? = some w) (h : SlOk (Av C O) C.T C.S K H σ[i]? (O i) (hid O ρ.length i) w → SlOk (Av C O) C.T C.S K H σ[i]? (O i) (hid O ρ.length i) w') : EnvOk C O K σ H (ρ.set i w') n := by
  refine ⟨by simpa using E.len, fun j u e => ?_, E.inj, E.own, E.town, E.base, E.ptr, E.fr, E.tk, E.tb⟩
  rw [List.length_set]
  by_cases z : j = i
  · subst z
    rw [List.getElem?_set_self (lt_of_get hx)] at e
    cases e
    exact h (E.sl j w hx)
  · rw [List.getElem?_set_ne (Ne.symm z)] at e
    exact E.sl j u e
end
def nstO (i : Nat) : Out → Option Out
  | .nx ρ n => match ρ[i]? with
    | some (.ol []) => some (.nx (ρ.set i (.oll [])) n)
    | _ => none
  | o => some o
/-- the empty list that was just stored is to hold lists -/
def sNst (i : Nat) (g : Fs) : Fs := fun ρ n => (g ρ n).bind (nstO i)
/-! a new list behind the others -/
section
variable {C : Cn} {O : Ow} {K : PySem.W.Frag} {σ : St} {H H1 : Hp} {ρ : List W} {n n' i : Nat}
end
def frzNAt (i : Nat) (g : Fs) : Fs := fun ρ n => match ρ[i]? with
  | some (.oll xss) => g (ρ.set i (.d (.list (xss.map .list)))) n
  | _ => none
section
variable {X : Cx} {e a b b1 b2 : Expr} {es : List Expr} {f fa fb : Fe} {d d1 d2 da db : Fd} {pos : Pos} {st : Stmt}
/-- x.append(a new list) -/
def sAppN (i : Nat) (f : Fe) : Fs := fun ρ n => (f ρ n).bind fun p => match p.1, ρ[i]? with
  | .ol xs, some (.oll xss) => if xss.length < 1000 then some (.nx (ρ.set i (.oll (xss ++ [xs]))) p.2) else none
  | _, _ => none
/-- x[j][k] = e -/
def sStN (i : Nat) (d1 d2 : Fd) (f : Fe) : Fs := fun ρ n => (f ρ n).bind fun p => p.1.frz.val.bind fun x => (d1 ρ p.2).bind fun k => (d2 ρ k.2).bind fun m => match k.1, m.1, ρ[i]? with
  | .int z1, .int z2, some (.oll xss) => (ixN xss.length z1).bind fun j1 => xss[j1]?.bind fun xs => (ixN xs.length z2).map fun j2 => .nx (ρ.set i (.oll (xss.set j1 (xs.set j2 x)))) m.2
  | _, _, _ => none
end
end L2.Lv
namespace L2.Lv
open PySem PySem.Spec PyProof.Rows
/-! list(range(i, j)) -/
section
variable {X : Cx} {a b : Expr} {da db : Fd} {pos : Pos}
def eListRg2 (da db : Fd) : Fe := fun ρ n => (da ρ n).bind fun p => (db ρ p.2).bind fun q => match p.1, q.1 with
  | .int i, .int j => if -1000000 ≤ i ∧ i ≤ 1000000 ∧ -1000000 ≤ j ∧ j ≤ 1000000 then some (.ol (rangeD i (j - i).toNat), q.2) else none
  | _, _ => none
end
end L2.Lv
namespace L2.Lv
open PySem PySem.Spec PyProof.Rows
/-! a lambda of two ints: made, handed on, called -/
def eLam (g : Int → Int → Bool) : Fe := fun _ n => some (.fn g, n)
section
variable {X : Cx} {L : LamT} {g : Int → Int → Bool} {c P : Addr} {N ps : List Str} {a b : Str} {pos p : Pos}
/-- x(a, b), x a parameter that holds a lambda -/
def eCallP (i : Nat) (fs : Fa) : Fe := fun ρ n => match ρ[i]? with
  | some (.fn g) => (fs ρ n).bind fun p => match p.1 with
    | [.d (.int a), .d (.int b)] => some (.d (.bool (g a b)), p.2)
    | _ => none
  | _ => none
end
/-- no def of the law makes lambdas -/
theorem no_tabs {K : PySem.W.Frag} {H : Hp} (h : tabsOf K = []) : (∀ x ∈ tabsOf K, H x.1 = some (.tbl #[])) ∧ ∀ a q q', (a, q) ∈ tabsOf K → (a, q') ∈ tabsOf K → q = q' := by
  rw [h]
  exact ⟨fun x z => absurd z List.not_mem_nil, fun a q q' z => absurd z List.not_mem_nil⟩
/-! the makers -/
section
variable {X : Cx} {g : Int → Int → Bool} {N ps : List Str} {pos : Pos}
end
end L2.Lv
namespace L2.Lv
open PySem PySem.Spec PyProof.Rows
/-! sorted(dict(..)) of many int keys -/
section
variable {X : Cx}
end
end L2.Lv
namespace L2.Lv
open PySem PySem.Spec PyProof.Rows
/-! x.index(y), x a tuple of any data -/
section
variable {prog : Program} {w : World} {A : Around} {E : Value → Shared → Prop} {s : Shared}
end
section
variable {X : Cx}
end
end L2.Lv
namespace L2.Lv
open PySem PySem.Spec PyProof.Rows
/-! shelves -/
structure ShK (K : PySem.W.Frag) (C : Addr) : Prop where
  c : ShC K C
  cls : Cls K C
  now : NoAttr K C "now"
  bef : NoAttr K C "before"
  lat : NoAttr K C "later"
theorem ShC.uniq {K : PySem.W.Frag} {C C' : Addr} (h : ShC K C) (h' : ShC K C') : C = C' := by
  unfold ShC at h h'
  rw [h] at h'
  cases h'
  rfl
section
variable {C : Cn} {O : Ow} {K : PySem.W.Frag} {σ : St} {H H1 : Hp} {ρ : List W} {n n' i : Nat} {w w' : W} {v : V}
/-- the part of the owners that belongs to the slot i -/
def InSlot (l i idx : Nat) : Prop := idx = i ∨ ∃ j, j < 1000 ∧ idx = l + 1000 * i + j
theorem EnvOk.dropS (E : EnvOk C O K σ H ρ n) (i : Nat) : EnvOk C O K σ H (ρ.set i .no) n := by
  by_cases h : i < ρ.length
  · exact E.reslot (List.getElem?_eq_getElem h) fun _ => trivial
  · rw [List.set_eq_of_length_le (by omega)]; exact E
theorem EnvOk.setNo (E : EnvOk C O K σ H ρ n) (i : Nat) (v : V) : EnvOk C O K (σ.set i (some v)) H (ρ.set i .no) n := by
  refine ⟨by simpa using E.len, fun j u e => ?_, E.inj, E.own, E.town, E.base, E.ptr, E.fr, E.tk, E.tb⟩
  rw [List.length_set]
  by_cases z : j = i
  · subst z
    by_cases h : j < ρ.length
    · rw [List.getElem?_set_self h] at e; cases e; trivial
    · rw [List.getElem?_eq_none (by rw [List.length_set]; omega)] at e; cases e
  · rw [List.getElem?_set_ne (Ne.symm z)] at e ⊢
    exact E.sl j u e
/-- more owners -/
def owAdd (O ps : Ow) : Ow := fun k => match ps k with
  | some p => some p
  | none => O k
theorem owAdd_some {O ps : Ow} {k : Nat} {p : Addr} (h : ps k = some p) : owAdd O ps k = some p := by unfold owAdd; rw [h]
theorem owAdd_none {O ps : Ow} {k : Nat} (h : ps k = none) : owAdd O ps k = O k := by unfold owAdd; rw [h]
theorem owAdd_cases {O ps : Ow} {k : Nat} {a : Addr} (h : owAdd O ps k = some a) : ps k = some a ∨ (ps k = none ∧ O k = some a) := by
  cases e : ps k with
  | some p => rw [owAdd_some e] at h; exact .inl h
  | none => rw [owAdd_none e] at h; exact .inr ⟨rfl, h⟩
/-- new objects are taken in hand, at places of the slot i, which holds nothing -/
theorem EnvOk.adopt {ps : Ow} (E : EnvOk C O K σ H ρ n) (s : Step C H H1) (t : TownAt C H1 n') (hx : ρ[i]? = some .no) (hps : ∀ k p, ps k = some p → InSlot ρ.length i k ∧ H p = none ∧ ∃ o, H1 p = some o ∧ ∀ q, o ≠ LamX.CodeO p q) (inj : ∀ j k p, ps j = some p → ps k = some p → j = k) :
    EnvOk C (owAdd O ps) K σ H1 ρ n' ∧ StepS C O (owAdd O ps) H H1 := by
  have hil := lt_of_get hx
  have E1 := E.step s t
  have kp : Keep (Av C O) (Av C (owAdd O ps)) H H1 := fun a u na r => by
    refine ⟨?_, s.st _ _ r (fun e => na (Av.t _ e))⟩
    rintro (z | z | ⟨j, z⟩)
    · exact na (.inl z)
    · exact na (.inr (.inl z))
    · rcases owAdd_cases z with z | ⟨_, z⟩
      · rw [(hps j a z).2.1] at r; cases r
      · exact na (.inr (.inr ⟨j, z⟩))
  have out : ∀ j, (∀ k p, ps k = some p → k ≠ j) → owAdd O ps j = O j := fun j h => by
    cases e : ps j with
    | none => exact owAdd_none e
    | some p => exact absurd rfl (h j p e)
  refine ⟨⟨E.len, fun j u e => ?_, fun j k a g1 g2 => ?_, fun j a g => ?_, t, E1.base, E1.ptr, E1.fr, E1.tk, E1.tb.sub rfl rfl ?_⟩, s.stepS fun j a g => ?_⟩
  · by_cases z : j = i
    · subst z
      rw [hx] at e
      cases e
      trivial
    · have hj := lt_of_get e
      have e1 : owAdd O ps j = O j := out j fun k p h => by
        rcases (hps k p h).1 with h | ⟨x, h, h'⟩ <;> omega
      rw [e1]
      exact (E.sl j u e).mono kp (fun a u g r => s.st _ _ r (E.own j a g).1) (fun x hx => out _ fun k p h => by
        rcases (hps k p h).1 with h | ⟨y, h, h'⟩ <;> omega) fun x a u _ g r => s.st _ _ r (E.own _ a g).1
  · rcases owAdd_cases g1 with g1 | ⟨_, g1⟩ <;> rcases owAdd_cases g2 with g2 | ⟨_, g2⟩
    · exact inj j k a g1 g2
    · exact absurd (hps j a g1).2.1 (E.own k a g2).2.2
    · exact absurd (hps k a g2).2.1 (E.own j a g1).2.2
    · exact E.inj j k a g1 g2
  · rcases owAdd_cases g with g | ⟨_, g⟩
    · obtain ⟨_, h0, o, h1, _⟩ := hps j a g
      exact ⟨fun z => E.ta a z h0, E.fr a h0, by rw [h1]; simp⟩
    · exact E1.own j a g
  · rintro a (z | z | ⟨j, z⟩)
    · exact .inl (.inl z)
    · exact .inl (.inr (.inl z))
    · rcases owAdd_cases z with z | ⟨_, z⟩
      · obtain ⟨_, _, o, h1, h2⟩ := hps j a z
        exact .inr fun q e => by rw [h1] at e; exact h2 q (Option.some.inj e)
      · exact .inl (.inr (.inr ⟨j, z⟩))
  · rcases owAdd_cases g with g | ⟨_, g⟩
    · exact .inr (hps j a g).2.1
    · exact .inl ⟨j, g⟩
/-- an object of one's own is changed, one of those of the slot i -/
theorem EnvOk.writeAt {idx : Nat} {p : Addr} {o : HO} (E : EnvOk C O K σ H ρ n) (hx : ρ[i]? = some w) (hi : InSlot ρ.length i idx) (hp : O idx = some p) (hw : SlOk (Av C O) C.T C.S K (upd H p o) σ[i]? (O i) (hid O ρ.length i) w') :
    EnvOk C O K σ (upd H p o) (ρ.set i w') n ∧ StepS C O O H (upd H p o) := by
  have hil := lt_of_get hx
  obtain ⟨o1, o2, o3⟩ := E.own _ p hp
  have hav : Av C O p := .inr (.inr ⟨_, hp⟩)
  have at_ : ∀ a, a ≠ p → upd H p o a = H a := fun a z => upd_ne z
  have kp : Keep (Av C O) (Av C O) H (upd H p o) := keep_upd hav
  have nn : ∀ a, upd H p o a = none → H a = none := fun a e => by
    by_cases h : a = p
    · rw [h, upd_same] at e; cases e
    · rw [at_ a h] at e; exact e
  refine ⟨⟨by simpa using E.len, fun j u e => ?_, E.inj, fun j a g => ⟨(E.own j a g).1, (E.own j a g).2.1, fun e => (E.own j a g).2.2 (nn a e)⟩, fun a e => ?_, fun a u g ht => ?_, fun a g e => E.ptr a g (nn a e), fun a e => E.fr a (nn a e), E.tk, ?_⟩, fun a u r ht no => ?_, fun a e => nn a e, fun j a g => .inl ⟨j, g⟩⟩
  · rw [List.length_set]
    by_cases z : j = i
    · subst z
      rw [List.getElem?_set_self hil] at e
      cases e
      exact hw
    · rw [List.getElem?_set_ne (Ne.symm z)] at e
      have hjl := lt_of_get e
      refine (E.sl j u e).mono kp (fun a u g r => ?_) (fun _ _ => rfl) fun x a u hx g r => ?_
      · have ne : a ≠ p := fun q => by
          have := E.inj _ j p hp (by rw [g, q])
          rcases hi with h | ⟨x, h, h'⟩ <;> omega
        rw [at_ a ne]; exact r
      · have ne : a ≠ p := fun q => by
          have := E.inj _ _ p hp (by rw [q] at g; exact g)
          rcases hi with h | ⟨y, h, h'⟩ <;> omega
        rw [at_ a ne]; exact r
  · rw [at_ a (fun z => o1 (.inl (by rw [← z]; exact e)))]
    exact E.town a e
  · rw [at_ a (fun z => by rw [z, o2] at g; cases g)]
    exact E.base a u g ht
  · exact E.tb.to rfl rfl (fun a u na r => (kp a u na r).2) (fun a q h => at_ a fun z => o1 (.inr ⟨q, by rw [← z]; exact h⟩)) fun a z => .inl z
  · rw [at_ a (fun z => no _ (by rw [z]; exact hp))]
    exact r
end
/-! its stand, read -/
section
variable {X : Cx} {e : Expr} {pos : Pos} {Cl : Addr} {f : Fe}
def eNow (i : Nat) : Fe := fun ρ n => match ρ[i]? with
  | some (.sh _ now _ _) => some (.d now, n)
  | some (.shR now) => some (.d now, n)
  | _ => none
theorem ev_now {i : Nat} (k : ShK X.K Cl) (h : PE X e (tVar i)) (hb : attributeBase e "now" X.env (eval e X.env) = eval e X.env := by rfl) : EvE X (.Attribute e "now" pos) (eNow i) := peI (pe_fld h hb) (by
  rintro σ H Q ⟨C, O, ρ, n, w, n', hf, E, q⟩
  unfold eNow at hf
  split at hf
  · rename_i sf now bef lat hx
    cases hf
    obtain ⟨a, h1, h2, hs, C1, dx, b, l, vn, vb, vl, h0, g1, g2, g3, g4, g5, g6, g7, g8, g9, g10⟩ := E.sl _ _ hx
    have := h0.uniq k.c
    subst this
    exact ⟨_, h2, a, C1, dx, _, vn, rfl, g4, k.cls, k.now, rfl, q _ _ Step.refl E.town g8⟩
  · rename_i now hx
    cases hf
    obtain ⟨u, h2, a, C1, dx, b, l, vn, rfl, h3, h0, h4, h5⟩ := E.sl _ _ hx
    have := h0.uniq k.c
    subst this
    exact ⟨_, h2, a, C1, dx, _, vn, rfl, h4, k.cls, k.now, rfl, q _ _ Step.refl E.town h5⟩
  · cases hf)
/-- the stands behind (true), ahead (false), looked at -/
def pick2 {α : Type} (b : Bool) (x y : α) : α := match b with
  | true => x
  | false => y
def dBef (c : Bool) (i : Nat) : Fd := fun ρ n => match ρ[i]? with
  | some (.sh _ _ bef lat) => some (.list (pick2 c bef lat), n)
  | _ => none
abbrev fNm (c : Bool) : Str := pick2 c "before" "later"
theorem eb_bef {c : Bool} {i : Nat} (k : ShK X.K Cl) (h : PE X e (tVar i)) (hb : attributeBase e (fNm c) X.env (eval e X.env) = eval e X.env := by rfl) : EvB X (.Attribute e (fNm c) pos) (dBef c i) := peI (pe_fld h hb) (by
  rintro σ H Q ⟨C, O, ρ, n, w, n', hf, E, q⟩
  unfold dBef at hf
  split at hf
  · rename_i sf now bef lat hx
    cases hf
    obtain ⟨a, h1, h2, hs, C1, dx, b, l, vn, vb, vl, h0, g1, g2, g3, g4, g5, g6, g7, g8, g9, g10⟩ := E.sl _ _ hx
    have := h0.uniq k.c
    subst this
    cases c with
    | true => exact ⟨_, h2, a, C1, dx, _, .ref b, rfl, g4, k.cls, k.bef, rfl, q _ _ Step.refl E.town (.inr (.inl ⟨b, vb, bef, rfl, rfl, fun z => (E.own _ b g2).1 (.inl z), g6, g9⟩))⟩
    | false => exact ⟨_, h2, a, C1, dx, _, .ref l, rfl, g4, k.cls, k.lat, rfl, q _ _ Step.refl E.town (.inr (.inl ⟨l, vl, lat, rfl, rfl, fun z => (E.own _ l g3).1 (.inl z), g7, g10⟩))⟩
  · cases hf)
/-! its parts, changed -/
def shSet (c sf : Bool) (now : PyData) (bef lat xs : List PyData) : W := pick2 c (.sh sf now xs lat) (.sh sf now bef xs)
/-- one of the lists of a shelf of ours is changed -/
theorem EnvOk.shWr {C : Cn} {O : Ow} {K : PySem.W.Frag} {σ : St} {H : Hp} {ρ : List W} {n i : Nat} {now : PyData} {bef lat xs : List PyData} {us : List V} {c sf : Bool} {l : Addr} (E : EnvOk C O K σ H ρ n) (hx : ρ[i]? = some (.sh sf now bef lat)) (hl : hid O ρ.length i (pick2 c 1 2) = some l) (d : DvAll (Av C O) K H us xs) :
    EnvOk C O K σ (upd H l (.lst us)) (ρ.set i (shSet c sf now bef lat xs)) n ∧ StepS C O O H (upd H l (.lst us)) := by
  have hav : Av C O l := .inr (.inr ⟨_, hl⟩)
  have kp := keep_upd (H := H) (o := HO.lst us) hav
  obtain ⟨a, h1, h2, hs, C1, dx, b, m, vn, vb, vl, h0, g1, g2, g3, g4, g5, g6, g7, g8, g9, g10⟩ := E.sl _ _ hx
  have hi := lt_of_get hx
  have na : a ≠ l := fun z => by
    have := E.inj _ i l hl (by rw [h1, z])
    cases c <;> simp only [pick2] at this <;> omega
  have nd : dx ≠ l := fun z => by
    have := E.inj _ _ l hl (show O (ρ.length + 1000 * i + 0) = some l by rw [← z]; exact g1)
    cases c <;> simp only [pick2] at this <;> omega
  have idx : InSlot ρ.length i (ρ.length + 1000 * i + pick2 c 1 2) := .inr ⟨_, by cases c <;> simp [pick2], rfl⟩
  refine E.writeAt hx idx hl ?_
  cases c with
  | true =>
    have hbl : b = l := Option.some.inj (g2.symm.trans hl)
    subst hbl
    have nm : m ≠ b := fun z => by
      have := E.inj _ _ b hl (show O (ρ.length + 1000 * i + 2) = some b by rw [← z]; exact g3)
      simp only [pick2] at this; omega
    exact ⟨a, h1, h2, hs, C1, dx, b, m, vn, us, vl, h0, g1, g2, g3, by rw [upd_ne na]; exact g4, by rw [upd_ne nd]; exact g5, upd_same, by rw [upd_ne nm]; exact g7, g8.mono kp, d.mono kp, g10.mono kp⟩
  | false =>
    have hbl : m = l := Option.some.inj (g3.symm.trans hl)
    subst hbl
    have nm : b ≠ m := fun z => by
      have := E.inj _ _ m hl (show O (ρ.length + 1000 * i + 1) = some m by rw [← z]; exact g2)
      simp only [pick2] at this; omega
    exact ⟨a, h1, h2, hs, C1, dx, b, m, vn, vb, us, h0, g1, g2, g3, by rw [upd_ne na]; exact g4, by rw [upd_ne nd]; exact g5, by rw [upd_ne nm]; exact g6, upd_same, g8.mono kp, g9.mono kp, d.mono kp⟩
def sShApp (c : Bool) (i : Nat) (f : Fe) : Fs := fun ρ n => (f ρ n).bind fun p => p.1.frz.val.bind fun x => match ρ[i]? with
  | some (.sh sf now bef lat) => if (pick2 c bef lat).length < big then some (.nx (ρ.set i (shSet c sf now bef lat (pick2 c bef lat ++ [x]))) p.2) else none
  | _ => none
theorem ss_shApp {c : Bool} {i : Nat} {e0 : Expr} {p1 p2 p3 : Pos} (k : ShK X.K Cl) (h : PE X e0 (tVar i)) (ha : EvE X e f) (hb : attributeBase e0 (fNm c) X.env (eval e0 X.env) = eval e0 X.env := by rfl)
    (hbase : attributeBase (.Attribute e0 (fNm c) p1) "append" X.env (eval (.Attribute e0 (fNm c) p1) X.env) = eval (.Attribute e0 (fNm c) p1) X.env := by rfl)
    (hfew : ((backTo p3 (starEach [e] X.env)).all (fun x => !x.1) && (backToKw p3 (keywordEach [] X.env)).all (fun x => x.1.isSome)
      && decide ([e].length + ([] : List Keyword).length + (if ([] : List Keyword).isEmpty then 0 else 1) < 30)) = true := by rfl)
    (hline : (p2.endLine == p3.line) = true := by rfl) (hs : starEach [e] X.env = (false, eval e X.env) :: starEach [] X.env := by rfl)
    (hsw : swapsWith (.Call (.Attribute (.Attribute e0 (fNm c) p1) "append" p2) [e] [] p3) none pos.line X.env = pure false := by rfl) :
    EvS X (.Expr (.Call (.Attribute (.Attribute e0 (fNm c) p1) "append" p2) [e] [] p3) pos) (sShApp c i f) := psI (ps_expr (pe_bm PySem.F.plainAttrs_list PySem.F.slot_list_append PySem.F.type_list_append mt_append (pe_fld h hb) (pa_cons ha pa_nil hs) hbase hfew hline hs rfl) hsw) (by
  rintro D σ H ⟨C, O, ρ, n, out, hf, E, np, q⟩
  unfold sShApp at hf
  obtain ⟨⟨w, n1⟩, e1, hf⟩ := Option.bind_eq_some_iff.mp hf
  obtain ⟨x, e2, hf⟩ := Option.bind_eq_some_iff.mp hf
  split at hf
  · rename_i sf now bef lat hx
    split at hf
    · rename_i hz
      cases hf
      obtain ⟨a, h1, h2, hs, C1, dx, b, m, vn, vb, vl, h0, g1, g2, g3, g4, g5, g6, g7, g8, g9, g10⟩ := E.sl _ _ hx
      have := h0.uniq k.c
      subst this
      cases c with
      | true =>
        refine ⟨_, h2, a, C1, dx, _, .ref b, rfl, g4, k.cls, k.bef, rfl, .inl ⟨rfl, vb, SqL.of g6⟩, C, O, ρ, n, w, n1, e1, E, fun v H1 s t r => ?_⟩
        have E1 := E.step s t
        have h3' : H1 b = some (.lst vb) := s.st _ _ g6 (E.own _ b g2).1
        have r' : Dv (Av C O) X.K H1 v x := (r.frz E.av).val e2
        refine ⟨b, vb, v, rfl, rfl, h3', by rw [g9.length, big_eq]; exact hz, ?_⟩
        obtain ⟨E2, s2⟩ := E1.shWr (c := true) (us := vb ++ [v]) (xs := bef ++ [x]) hx g2 ((g9.mono (s.keep Av.t)).append (.cons r' .nil))
        exact q O σ _ (s.stepS0.trans s2) E2
      | false =>
        refine ⟨_, h2, a, C1, dx, _, .ref m, rfl, g4, k.cls, k.lat, rfl, .inl ⟨rfl, vl, SqL.of g7⟩, C, O, ρ, n, w, n1, e1, E, fun v H1 s t r => ?_⟩
        have E1 := E.step s t
        have h3' : H1 m = some (.lst vl) := s.st _ _ g7 (E.own _ m g3).1
        have r' : Dv (Av C O) X.K H1 v x := (r.frz E.av).val e2
        refine ⟨m, vl, v, rfl, rfl, h3', by rw [g10.length, big_eq]; exact hz, ?_⟩
        obtain ⟨E2, s2⟩ := E1.shWr (c := false) (us := vl ++ [v]) (xs := lat ++ [x]) hx g3 ((g10.mono (s.keep Av.t)).append (.cons r' .nil))
        exact q O σ _ (s.stepS0.trans s2) E2
    · cases hf
  · cases hf)
/-- the last of one of its lists is taken out -/
def xShPop (c : Bool) (i : Nat) : Fx := fun ρ n => match ρ[i]? with
  | some (.sh sf now bef lat) => ((pick2 c bef lat)[(pick2 c bef lat).length - 1]?).map fun x => (x, ρ.set i (shSet c sf now bef lat (pick2 c bef lat).dropLast), n)
  | _ => none
theorem DvAll.dropLast {A : Addr → Prop} {K : PySem.W.Frag} {H : Hp} {vs : List V} {xs : List PyData} (h : DvAll A K H vs xs) : DvAll A K H vs.dropLast xs.dropLast := by
  rw [List.dropLast_eq_take, List.dropLast_eq_take, h.length]
  exact h.take _
theorem ex_shPop {c : Bool} {i : Nat} {e0 : Expr} {p1 p2 p3 : Pos} (k : ShK X.K Cl) (h : PE X e0 (tVar i)) (hb : attributeBase e0 (fNm c) X.env (eval e0 X.env) = eval e0 X.env := by rfl)
    (hbase : attributeBase (.Attribute e0 (fNm c) p1) "pop" X.env (eval (.Attribute e0 (fNm c) p1) X.env) = eval (.Attribute e0 (fNm c) p1) X.env := by rfl) (hline : (p2.endLine == p3.line) = true := by rfl) :
    EvX X (.Call (.Attribute (.Attribute e0 (fNm c) p1) "pop" p2) [] [] p3) (xShPop c i) := peI (pe_bm0 PySem.F.plainAttrs_list PySem.F.slot_list_pop PySem.F.type_list_pop mt_pop (pe_fld h hb) hbase hline) (by
  rintro σ H Q ⟨C, O, ρ, n, x, ρ', n', hf, E, np, q⟩
  unfold xShPop at hf
  split at hf
  · rename_i sf now bef lat hx
    obtain ⟨y, e1, hf⟩ := Option.map_eq_some_iff.mp hf
    cases hf
    obtain ⟨a, h1, h2, hs, C1, dx, b, m, vn, vb, vl, h0, g1, g2, g3, g4, g5, g6, g7, g8, g9, g10⟩ := E.sl _ _ hx
    have := h0.uniq k.c
    subst this
    cases c with
    | true =>
      obtain ⟨v, k1, k2⟩ := g9.get e1
      refine ⟨_, h2, a, C1, dx, _, .ref b, rfl, g4, k.cls, k.bef, rfl, .inl ⟨rfl, vb, SqL.of g6⟩, b, vb, v, rfl, rfl, g6, by rw [g9.length]; exact k1, ?_⟩
      obtain ⟨E2, s2⟩ := E.shWr (c := true) (us := vb.dropLast) (xs := bef.dropLast) hx g2 g9.dropLast
      exact q v _ s2 E2 (k2.mono s2.keep)
    | false =>
      obtain ⟨v, k1, k2⟩ := g10.get e1
      refine ⟨_, h2, a, C1, dx, _, .ref m, rfl, g4, k.cls, k.lat, rfl, .inl ⟨rfl, vl, SqL.of g7⟩, m, vl, v, rfl, rfl, g7, by rw [g10.length]; exact k1, ?_⟩
      obtain ⟨E2, s2⟩ := E.shWr (c := false) (us := vl.dropLast) (xs := lat.dropLast) hx g3 g10.dropLast
      exact q v _ s2 E2 (k2.mono s2.keep)
  · cases hf)
/-- its stand is another -/
theorem EnvOk.shNow {C : Cn} {O : Ow} {K : PySem.W.Frag} {σ : St} {H : Hp} {ρ : List W} {n i : Nat} {sf : Bool} {now x : PyData} {bef lat : List PyData} {a C1 dx b l : Addr} {vn v : V} (E : EnvOk C O K σ H ρ n) (hx : ρ[i]? = some (.sh sf now bef lat)) (ha : O i = some a) (hH : H a = some (.ins C1 dx (shF vn b l))) (d : Dv (Av C O) K H v x) :
    EnvOk C O K σ (upd H a (.ins C1 dx (shF v b l))) (ρ.set i (.sh sf x bef lat)) n ∧ StepS C O O H (upd H a (.ins C1 dx (shF v b l))) := by
  have hav : Av C O a := .inr (.inr ⟨_, ha⟩)
  have kp := keep_upd (H := H) (o := HO.ins C1 dx (shF v b l)) hav
  obtain ⟨a', h1, h2, hs, C2, dx', b', m, vn', vb, vl, h0, g1, g2, g3, g4, g5, g6, g7, g8, g9, g10⟩ := E.sl _ _ hx
  have : a' = a := Option.some.inj (h1.symm.trans ha)
  subst this
  rw [hH] at g4
  cases g4
  have hi := lt_of_get hx
  have ne : ∀ j c, hid O ρ.length i j = some c → c ≠ a' := fun j c h z => by
    have := E.inj _ i a' (by rw [← z]; exact h) h1
    omega
  exact E.writeAt hx (.inl rfl) ha ⟨a', h1, h2, hs, C1, dx, b, l, v, vb, vl, h0, g1, g2, g3, upd_same, by rw [upd_ne (ne 0 dx g1)]; exact g5, by rw [upd_ne (ne 1 b g2)]; exact g6, by rw [upd_ne (ne 2 l g3)]; exact g7, d.mono kp, g9.mono kp, g10.mono kp⟩
def sShNow (i : Nat) (f : Fe) : Fs := fun ρ n => (f ρ n).bind fun p => p.1.frz.val.bind fun x => match ρ[i]? with
  | some (.sh sf _ bef lat) => some (.nx (ρ.set i (.sh sf x bef lat)) p.2)
  | _ => none
theorem ss_shNow {i : Nat} {e0 : Expr} {p1 : Pos} (k : ShK X.K Cl) (h : PE X e0 (tVar i)) (ha : EvE X e f) (hs : swapsWith e (some (.Attribute e0 "now" p1)) pos.line X.env = pure false := by rfl) : EvS X (.Assign [.Attribute e0 "now" p1] e pos) (sShNow i f) := psI (ps_fld h ha hs) (by
  rintro D σ H ⟨C, O, ρ, n, out, hf, E, np, q⟩
  unfold sShNow at hf
  obtain ⟨⟨w, n1⟩, e1, hf⟩ := Option.bind_eq_some_iff.mp hf
  obtain ⟨x, e2, hf⟩ := Option.bind_eq_some_iff.mp hf
  split at hf
  · rename_i sf now bef lat hx
    cases hf
    refine ⟨C, O, ρ, n, w, n1, e1, E, fun v H1 s t r => ?_⟩
    have E1 := E.step s t
    have r' : Dv (Av C O) X.K H1 v x := (r.frz E.av).val e2
    obtain ⟨a, h1, h2, hs, C1, dx, b, m, vn, vb, vl, h0, g1, g2, g3, g4, g5, g6, g7, g8, g9, g10⟩ := E1.sl _ _ hx
    have := h0.uniq k.c
    subst this
    obtain ⟨E2, s2⟩ := E1.shNow hx h1 g4 r'
    exact ⟨_, h2, a, C1, dx, _, rfl, g4, k.cls, k.now, (by simp : ([_, _, _] : List (Str × V)).length < 1000), q O σ _ (s.stepS0.trans s2) E2⟩
  · cases hf)
def sShNowX (i : Nat) (f : Fx) : Fs := fun ρ n => (f ρ n).bind fun p => match p.2.1[i]? with
  | some (.sh sf _ bef lat) => some (.nx (p.2.1.set i (.sh sf p.1 bef lat)) p.2.2)
  | _ => none
theorem ss_shNowX {i : Nat} {e0 : Expr} {p1 : Pos} {f : Fx} (k : ShK X.K Cl) (h : PE X e0 (tVar i)) (ha : EvX X e f) (hs : swapsWith e (some (.Attribute e0 "now" p1)) pos.line X.env = pure false := by rfl) : EvS X (.Assign [.Attribute e0 "now" p1] e pos) (sShNowX i f) := psI (ps_fld h ha hs) (by
  rintro D σ H ⟨C, O, ρ, n, out, hf, E, np, q⟩
  unfold sShNowX at hf
  obtain ⟨⟨x, ρ1, n1⟩, e1, hf⟩ := Option.bind_eq_some_iff.mp hf
  simp only at hf
  split at hf
  · rename_i sf now bef lat hx
    cases hf
    refine ⟨C, O, ρ, n, x, ρ1, n1, e1, E, np, fun v H1 s E1 r' => ?_⟩
    obtain ⟨a, h1, h2, hs, C1, dx, b, m, vn, vb, vl, h0, g1, g2, g3, g4, g5, g6, g7, g8, g9, g10⟩ := E1.sl _ _ hx
    have := h0.uniq k.c
    subst this
    obtain ⟨E2, s2⟩ := E1.shNow hx h1 g4 r'
    exact ⟨_, h2, a, C1, dx, _, rfl, g4, k.cls, k.now, (by simp : ([_, _, _] : List (Str × V)).length < 1000), q O σ _ (s.trans s2) E2⟩
  · cases hf)
/-- self.later = [] -/
def sShClr (i : Nat) : Fs := fun ρ n => match ρ[i]? with
  | some (.sh sf now bef _) => some (.nx (ρ.set i (.sh sf now bef [])) n)
  | _ => none
theorem ss_shClr {i : Nat} {e0 : Expr} {p1 p4 : Pos} (k : ShK X.K Cl) (h : PE X e0 (tVar i)) (hs : swapsWith (.List [] p4) (some (.Attribute e0 "later" p1)) pos.line X.env = pure false := by rfl) : EvS X (.Assign [.Attribute e0 "later" p1] (.List [] p4) pos) (sShClr i) := psI (ps_fld h (ev_lst (pos := p4) ea_nil) hs) (by
  rintro D σ H ⟨C, O, ρ, n, out, hf, E, np, q⟩
  unfold sShClr at hf
  split at hf
  · rename_i sf now bef lat hx
    cases hf
    refine ⟨C, O, ρ, n, .ol [], n, rfl, E, fun v H1 s t r => ?_⟩
    obtain ⟨p, vs, rfl, hp, hp1, dp⟩ := r
    cases dp
    have hi := lt_of_get hx
    have Ed := E.dropS i
    have hxd : (ρ.set i .no)[i]? = some .no := List.getElem?_set_self hi
    obtain ⟨E1, s1⟩ := Ed.adopt (ps := fun j => if j = ρ.length + 1000 * i + 2 then some p else none) s t hxd (fun j p' e => by
      split at e
      · rename_i hj
        cases e
        refine ⟨.inr ⟨2, by omega, by rw [List.length_set]; exact hj⟩, hp, _, hp1, fun q => codeO_lst⟩
      · cases e) (fun j j' p' e e' => by
      split at e
      · split at e'
        · omega
        · cases e'
      · cases e)
    obtain ⟨a, h1, h2, hs, C1, dx, b, m, vn, vb, vl, h0, g1, g2, g3, g4, g5, g6, g7, g8, g9, g10⟩ := E.sl _ _ hx
    have := h0.uniq k.c
    subst this
    have g4' : H1 a = some (.ins C1 dx (shF vn b m)) := s.st _ _ g4 (E.own i a h1).1
    have keepO : ∀ j, j ≠ ρ.length + 1000 * i + 2 → owAdd O (fun j => if j = ρ.length + 1000 * i + 2 then some p else none) j = O j := fun j hj => owAdd_none (if_neg hj)
    have at2 : owAdd O (fun j => if j = ρ.length + 1000 * i + 2 then some p else none) (ρ.length + 1000 * i + 2) = some p := owAdd_some (if_pos rfl)
    generalize hO' : owAdd O (fun j => if j = ρ.length + 1000 * i + 2 then some p else none) = O' at *
    have h1' : O' i = some a := by rw [keepO i (by omega)]; exact h1
    have hav : Av C O' a := .inr (.inr ⟨_, h1'⟩)
    have kp : Keep (Av C O) (Av C O') H H1 := s1.keep
    have kq := keep_upd (H := H1) (o := HO.ins C1 dx (shF vn b p)) hav
    have l3 : (ρ.set i .no).length = ρ.length := List.length_set
    have nep : p ≠ a := fun z => by rw [z] at hp; exact (E.own i a h1).2.2 hp
    have ned : dx ≠ a := fun z => by
      have := E.inj _ i a (by rw [← z]; exact g1) h1
      omega
    have neb : b ≠ a := fun z => by
      have := E.inj _ i a (by rw [← z]; exact g2) h1
      omega
    obtain ⟨E2, s2⟩ := E1.writeAt (w' := .sh sf now bef []) (o := .ins C1 dx (shF vn b p)) hxd (.inl rfl) h1' (by
      rw [l3]
      refine ⟨a, h1', h2, hs, C1, dx, b, p, vn, vb, [], h0, ?_, ?_, at2, upd_same, by rw [upd_ne ned]; exact s.st _ _ g5 (E.own _ dx g1).1, by rw [upd_ne neb]; exact s.st _ _ g6 (E.own _ b g2).1, by rw [upd_ne nep]; exact hp1, (g8.mono kp).mono kq, (g9.mono kp).mono kq, .nil⟩
      · show O' _ = _
        rw [keepO _ (by omega)]; exact g1
      · show O' _ = _
        rw [keepO _ (by omega)]; exact g2)
    rw [List.set_set] at E2
    exact ⟨_, h2, a, C1, dx, _, rfl, g4', k.cls, k.lat, (by simp : ([_, _, _] : List (Str × V)).length < 1000), q O' σ _ (s1.trans s2) E2⟩
  · cases hf)
end
end L2.Lv
namespace L2.Lv
open PySem PySem.Spec PyProof.Rows
/-! ### defs that take a shelf in hand -/
abbrev ShT := PyData × List PyData × List PyData
abbrev Fny := ShT → List W → Nat → Option ((PyData ⊕ Nat) × ShT × Nat)
abbrev shW (sf : Bool) (s : ShT) : W := .sh sf s.1 s.2.1 s.2.2
/-- the owners at the places q, alone -/
def owAt (O : Ow) (q : Nat → Nat) : Ow := fun k => if k < 4 then O (q k) else none
/-- .. and back -/
def owBack (O : Ow) (q : Nat → Nat) (P : Ow) : Ow := fun k => if k = q 0 then P 0 else if k = q 1 then P 1 else if k = q 2 then P 2 else if k = q 3 then P 3 else O k
/-- places of a shelf -/
structure PlQ (q : Nat → Nat) : Prop where
  inj : ∀ i j, i < 4 → j < 4 → q i = q j → i = j
section
variable {O P : Ow} {q : Nat → Nat}
theorem owAt_lt {k : Nat} (h : k < 4) : owAt O q k = O (q k) := if_pos h
theorem owAt_ge {k : Nat} (h : 4 ≤ k) : owAt O q k = none := if_neg (by omega)
theorem owBack_at (hq : PlQ q) {j : Nat} (h : j < 4) : owBack O q P (q j) = P j := by
  have n : ∀ i, i < 4 → i ≠ j → q j ≠ q i := fun i hi ne e => ne (hq.inj i j hi h e.symm)
  unfold owBack
  match j, h with
  | 0, _ => rw [if_pos rfl]
  | 1, _ => rw [if_neg (n 0 (by omega) (by omega)), if_pos rfl]
  | 2, _ => rw [if_neg (n 0 (by omega) (by omega)), if_neg (n 1 (by omega) (by omega)), if_pos rfl]
  | 3, _ => rw [if_neg (n 0 (by omega) (by omega)), if_neg (n 1 (by omega) (by omega)), if_neg (n 2 (by omega) (by omega)), if_pos rfl]
theorem owBack_of {k : Nat} (h : ∀ j, j < 4 → k ≠ q j) : owBack O q P k = O k := by
  unfold owBack
  rw [if_neg (h 0 (by omega)), if_neg (h 1 (by omega)), if_neg (h 2 (by omega)), if_neg (h 3 (by omega))]
theorem owBack_cases (hq : PlQ q) (k : Nat) : (∃ j, j < 4 ∧ k = q j ∧ owBack O q P k = P j) ∨ ((∀ j, j < 4 → k ≠ q j) ∧ owBack O q P k = O k) := by
  by_cases h : ∃ j, j < 4 ∧ k = q j
  · obtain ⟨j, h1, h2⟩ := h
    exact .inl ⟨j, h1, h2, by rw [h2]; exact owBack_at hq h1⟩
  · have h' : ∀ j, j < 4 → k ≠ q j := fun j h1 h2 => h ⟨j, h1, h2⟩
    exact .inr ⟨h', owBack_of h'⟩
end
/-- the shelf is handed over: what else is ours is others' -/
def lendC (C : Cn) (O : Ow) (q : Nat → Nat) (a : Addr) : Cn := ⟨C.T, fun x => C.P x ∨ ∃ k, O k = some x ∧ ∀ j, j < 4 → k ≠ q j, C.H0, C.B, fun x p h => .inl (C.bp x p h), C.bf, some a⟩
section
variable {C : Cn} {O O1 : Ow} {K : PySem.W.Frag} {σ : St} {H H1 H2 : Hp} {ρ : List W} {n n' i : Nat} {q : Nat → Nat} {a : Addr} {s s' : ShT} {w w' : W}
theorem av_lend : ∀ x, Av (lendC C O q a) (owAt O q) x ↔ Av C O x := by
  intro x
  constructor
  · rintro ((z | ⟨k, z, _⟩) | z | ⟨k, z⟩)
    · exact .inl z
    · exact .inr (.inr ⟨k, z⟩)
    · exact .inr (.inl z)
    · by_cases h : k < 4
      · rw [owAt_lt h] at z; exact .inr (.inr ⟨_, z⟩)
      · rw [owAt_ge (by omega)] at z; cases z
  · rintro (z | z | ⟨k, z⟩)
    · exact .inl (.inl z)
    · exact .inr (.inl z)
    · by_cases h : ∃ j, j < 4 ∧ k = q j
      · obtain ⟨j, h1, h2⟩ := h
        exact .inr (.inr ⟨j, by rw [owAt_lt h1, ← h2]; exact z⟩)
      · exact .inl (.inr ⟨k, z, fun j h1 h2 => h ⟨j, h1, h2⟩⟩)
theorem hid_one {P : Ow} : hid P 1 0 = fun j => P (j + 1) := funext fun j => by
  unfold hid
  rw [show 1 + 1000 * 0 + j = j + 1 from by omega]
theorem EnvOk.lend (E : EnvOk C O K σ H ρ n) (np : OwnP C O) (hq : PlQ q) (ha : O (q 0) = some a) (hs : ShAt (Av C O) K H (fun j => O (q (j + 1))) a s.1 s.2.1 s.2.2) :
    EnvOk (lendC C O q a) (owAt O q) K [some (.ref a)] H [shW true s] n ∧ OwnP (lendC C O q a) (owAt O q) := by
  refine ⟨⟨rfl, fun j u e => ?_, fun j k x g1 g2 => ?_, fun j x g => ?_, E.town, E.base, fun x g => E.av x ((av_lend x).mp (.inl g)), E.fr, E.tk, E.tb.sub rfl rfl fun x z => .inl ((av_lend x).mp z)⟩, fun j x g => ?_⟩
  · cases j with
    | zero =>
      cases e
      refine ⟨a, by rw [owAt_lt (by omega)]; exact ha, rfl, fun _ => rfl, ?_⟩
      refine hs.mono (fun x u na r => ⟨fun z => na ((av_lend x).mp z), r⟩) (fun _ e => e) (fun j hj => ?_) fun _ _ _ _ _ e => e
      show hid (owAt O q) 1 0 j = _
      rw [hid_one]
      exact owAt_lt (by omega)
    | succ j => cases e
  · by_cases h1 : j < 4 <;> by_cases h2 : k < 4
    · rw [owAt_lt h1] at g1
      rw [owAt_lt h2] at g2
      exact hq.inj j k h1 h2 (E.inj _ _ x g1 g2)
    · rw [owAt_ge (by omega)] at g2; cases g2
    · rw [owAt_ge (by omega)] at g1; cases g1
    · rw [owAt_ge (by omega)] at g1; cases g1
  · by_cases h1 : j < 4
    · rw [owAt_lt h1] at g
      exact E.own _ x g
    · rw [owAt_ge (by omega)] at g; cases g
  · by_cases h1 : j < 4
    · rw [owAt_lt h1] at g
      rintro (z | ⟨k, z, z'⟩)
      · exact np _ x g z
      · exact z' j h1 (E.inj _ _ x z g)
    · rw [owAt_ge (by omega)] at g; cases g
/-- what comes back -/
theorem EnvOk.back (E : EnvOk C O K σ H ρ n) (np : OwnP C O) (hq : PlQ q) (ha : O (q 0) = some a) (hs : ShAt (Av C O) K H (fun j => O (q (j + 1))) a s.1 s.2.1 s.2.2) (S1 : StepS (lendC C O q a) (owAt O q) O1 H H2) (E1 : EnvOk (lendC C O q a) O1 K [some (.ref a)] H2 [shW true s'] n') (h4 : ∀ k, 4 ≤ k → O1 k = none)
    (hx : ρ[i]? = some w) (hi : ∀ j, j < 4 → InSlot ρ.length i (q j))
    (hw : (∀ x, Av C (owBack O q O1) x ↔ Av (lendC C O q a) O1 x) → owBack O q O1 (q 0) = some a → ShAt (Av C (owBack O q O1)) K H2 (fun j => owBack O q O1 (q (j + 1))) a s'.1 s'.2.1 s'.2.2 → SlOk (Av C (owBack O q O1)) C.T C.S K H2 σ[i]? (owBack O q O1 i) (hid (owBack O q O1) ρ.length i) w') :
    EnvOk C (owBack O q O1) K σ H2 (ρ.set i w') n' ∧ StepS C O (owBack O q O1) H H2 ∧ ∀ x, Av (lendC C O q a) O1 x ↔ Av C (owBack O q O1) x := by
  have E0 := E.lend np hq ha hs
  have np1 : OwnP (lendC C O q a) O1 := E0.2.step E0.1 S1
  have av : ∀ x, Av C (owBack O q O1) x ↔ Av (lendC C O q a) O1 x := fun x => by
    constructor
    · rintro (z | z | ⟨k, z⟩)
      · exact .inl (.inl z)
      · exact .inr (.inl z)
      · rcases owBack_cases (O := O) (P := O1) hq k with ⟨j, h1, h2, h3⟩ | ⟨h1, h2⟩
        · rw [h3] at z; exact .inr (.inr ⟨j, z⟩)
        · rw [h2] at z; exact .inl (.inr ⟨k, z, h1⟩)
    · rintro ((z | ⟨k, z, z'⟩) | z | ⟨k, z⟩)
      · exact .inl z
      · exact .inr (.inr ⟨k, by rw [owBack_of z']; exact z⟩)
      · exact .inr (.inl z)
      · by_cases h : k < 4
        · exact .inr (.inr ⟨q k, by rw [owBack_at hq h]; exact z⟩)
        · rw [h4 k (by omega)] at z; cases z
  have st : ∀ x o, H x = some o → ¬ TX C x → (∀ j, j < 4 → O (q j) ≠ some x) → H2 x = some o := fun x o e t no => S1.st x o e t fun k z => by
    by_cases h : k < 4
    · rw [owAt_lt h] at z; exact no k h z
    · rw [owAt_ge (by omega)] at z; cases z
  have kp : Keep (Av C O) (Av C (owBack O q O1)) H H2 := fun x o na e => by
    have k := S1.keep x o (fun z => na ((av_lend x).mp z)) e
    exact ⟨fun z => k.1 ((av x).mp z), k.2⟩
  have nn : ∀ x, H x ≠ none → H2 x ≠ none := fun x h e => h (S1.fr x e)
  have hil := lt_of_get hx
  have oth : ∀ k x, O k = some x → (∀ j, j < 4 → k ≠ q j) → ∀ j, j < 4 → O (q j) ≠ some x := fun k x g h j hj z => h j hj (E.inj _ _ x g z)
  have q0 : owBack O q O1 (q 0) = some a := by
    rw [owBack_at hq (by omega)]
    obtain ⟨a', h1, h2, _⟩ := E1.sl 0 _ rfl
    cases h2
    exact h1
  have shq : ShAt (Av C (owBack O q O1)) K H2 (fun j => owBack O q O1 (q (j + 1))) a s'.1 s'.2.1 s'.2.2 := by
    obtain ⟨a', h1, h2, _, h3⟩ := E1.sl 0 _ rfl
    cases h2
    refine h3.mono (fun x o na e => ⟨fun z => na ((av x).mp z), e⟩) (fun _ e => e) (fun j hj => ?_) fun _ _ _ _ _ e => e
    show owBack O q O1 (q (j + 1)) = hid O1 1 0 j
    rw [hid_one, owBack_at hq (by omega)]
  refine ⟨⟨by simpa using E.len, fun j u e => ?_, fun j k x g1 g2 => ?_, fun j x g => ?_, E1.town, E1.base, fun x g => E1.ptr x (.inl g), E1.fr, E1.tk, E1.tb.sub rfl rfl fun x z => .inl ((av x).mp z)⟩, ⟨fun x o e t no => st x o e t fun j _ => no _, S1.fr, fun k x g => ?_⟩, fun x => (av x).symm⟩
  · rw [List.length_set]
    by_cases z : j = i
    · subst z
      rw [List.getElem?_set_self hil] at e
      cases e
      exact hw av q0 shq
    · rw [List.getElem?_set_ne (Ne.symm z)] at e
      have hjl := lt_of_get e
      have nq : ∀ k, (k = j ∨ ∃ y, y < 1000 ∧ k = ρ.length + 1000 * j + y) → ∀ m, m < 4 → k ≠ q m := fun k hk m hm z' => by
        rcases hi m hm with h | ⟨y', h, h'⟩ <;> rcases hk with hk | ⟨y, hk, hk'⟩ <;> omega
      have oj : owBack O q O1 j = O j := owBack_of (nq j (.inl rfl))
      rw [oj]
      exact (E.sl j u e).mono kp (fun x o g r => st x o r (E.own j x g).1 (oth j x g (nq j (.inl rfl)))) (fun y hy => owBack_of (nq _ (.inr ⟨y, hy, rfl⟩))) fun y x o hy g r => st x o r (E.own _ x g).1 (oth _ x g (nq _ (.inr ⟨y, hy, rfl⟩)))
  · rcases owBack_cases (O := O) (P := O1) hq j with ⟨j', h1, h2, h3⟩ | ⟨h1, h2⟩ <;> rcases owBack_cases (O := O) (P := O1) hq k with ⟨k', h1', h2', h3'⟩ | ⟨h1', h2'⟩
    · rw [h3] at g1
      rw [h3'] at g2
      rw [h2, h2', E1.inj _ _ x g1 g2]
    · rw [h3] at g1
      rw [h2'] at g2
      exact absurd (.inr ⟨k, g2, h1'⟩) (np1 _ x g1)
    · rw [h2] at g1
      rw [h3'] at g2
      exact absurd (.inr ⟨j, g1, h1⟩) (np1 _ x g2)
    · rw [h2] at g1
      rw [h2'] at g2
      exact E.inj _ _ x g1 g2
  · rcases owBack_cases (O := O) (P := O1) hq j with ⟨j', h1, h2, h3⟩ | ⟨h1, h2⟩
    · rw [h3] at g
      exact E1.own _ x g
    · rw [h2] at g
      exact ⟨(E.own _ x g).1, (E.own _ x g).2.1, nn x (E.own _ x g).2.2⟩
  · rcases owBack_cases (O := O) (P := O1) hq k with ⟨j', h1, h2, h3⟩ | ⟨h1, h2⟩
    · rw [h3] at g
      rcases S1.ow _ x g with ⟨m, z⟩ | z
      · by_cases h : m < 4
        · rw [owAt_lt h] at z; exact .inl ⟨_, z⟩
        · rw [owAt_ge (by omega)] at z; cases z
      · exact .inr z
    · rw [h2] at g
      exact .inl ⟨k, g⟩
end
/-- the places of the shelf at the slot i -/
def slQ (l i : Nat) : Nat → Nat := fun k => if k = 0 then i else l + 1000 * i + (k - 1)
theorem slQ_ok {l i : Nat} (h : i < l) : PlQ (slQ l i) := ⟨fun j k hj hk e => by
  unfold slQ at e
  split at e <;> split at e <;> omega⟩
theorem slQ_in {l i : Nat} : ∀ j, j < 4 → InSlot l i (slQ l i j) := fun j hj => by
  unfold slQ
  split
  · exact .inl rfl
  · exact .inr ⟨j - 1, by omega, rfl⟩
theorem slQ_hid {O : Ow} {l i : Nat} : (fun j => O (slQ l i (j + 1))) = hid O l i := funext fun j => by
  unfold slQ hid
  rw [if_neg (by omega)]
  rfl
/-- the promise: the shelf first, then k more -/
def ShEnd (C : Cn) (O : Ow) (K : PySem.W.Frag) (a : Addr) (H : Hp) (s' : ShT) (n' : Nat) (O' : Ow) (H' : Hp) : Prop :=
  StepS C O O' H H' ∧ EnvOk C O' K [some (.ref a)] H' [shW true s'] n' ∧ ∀ k, 4 ≤ k → O' k = none
def spY (K : PySem.W.Frag) (cls : Nat → Addr) (k : Nat) (F : Fny) : Sp := fun vs H Q E => ∃ (C : Cn) (O : Ow) (a : Addr) (vs' : List V) (ws : List W) (n : Nat) (s : ShT) (r : (PyData ⊕ Nat) × ShT × Nat),
  vs = .ref a :: vs' ∧ ws.length = k ∧ EnvOk C O K [some (.ref a)] H [shW true s] n ∧ C.S = some a ∧ OwnP C O ∧ (∀ k, 4 ≤ k → O k = none) ∧ ArgsOk (Av C O) C.T K H vs' ws ∧ F s ws n = some r ∧
  match r with
  | (.inl x, s', n') => ∀ O' v H', ShEnd C O K a H s' n' O' H' → Dv (Av C O') K H' v x → Q v H'
  | (.inr c, s', n') => ∀ O' H', ShEnd C O K a H s' n' O' H' → E (.ref (cls c)) none H'
theorem spY.len {K : PySem.W.Frag} {cls : Nat → Addr} {k : Nat} {F : Fny} : ∀ vs H Q E, spY K cls k F vs H Q E → vs.length = k + 1 := by
  rintro vs H Q E ⟨C, O, a, vs', ws, n, s, r, rfl, hl, _, _, _, _, ha, _⟩
  rw [← hl, List.length_cons, Paired.length ha]
def shAt0 (ρ : List W) : Option ShT := match (ρ[0]? : Option W) with
  | some (.sh true now bef lat) => some (now, bef, lat)
  | _ => none
def runY (m : Nat) (r : Fsx) : Fny := fun s ws n => (r (shW true s :: (ws ++ List.replicate (m - (ws.length + 1)) .no)) n).bind fun o => match o with
  | .inl (.rs x ρ n') => (shAt0 ρ).map fun s' => (.inl x, s', n')
  | .inl (.nx ρ n') => (shAt0 ρ).map fun s' => (.inl .none, s', n')
  | .inl (.rt _ _) => none
  | .inl (.bk _ _) => none
  | .inr (c, ρ, n') => (shAt0 ρ).map fun s' => (.inr c, s', n')
theorem shAt0_some {ρ : List W} {s : ShT} (h : shAt0 ρ = some s) : ρ[0]? = some (shW true s) := by
  unfold shAt0 at h
  split at h
  · rename_i hx
    cases h
    exact hx
  · cases h
section
variable {C : Cn} {O O' : Ow} {K : PySem.W.Frag} {σ : St} {H H' : Hp} {ρ : List W} {n n' : Nat} {a : Addr} {s s' : ShT} {vs : List V} {ws : List W} {N : List Str}
theorem start_envY (E : EnvOk C O K [some (.ref a)] H [shW true s] n) (h4 : ∀ k, 4 ≤ k → O k = none) (np : OwnP C O) (ha : ArgsOk (Av C O) C.T K H vs ws) (hN : ws.length + 1 ≤ N.length) :
    EnvOk C (owBack Ow0 (slQ N.length 0) O) K (start N (.ref a :: vs)) H (shW true s :: (ws ++ List.replicate (N.length - (ws.length + 1)) .no)) n ∧ OwnP C (owBack Ow0 (slQ N.length 0) O) ∧ (∀ i x, owBack Ow0 (slQ N.length 0) O i = some x → ∃ j, O j = some x) := by
  have hq : PlQ (slQ N.length 0) := slQ_ok (by omega)
  have hl : vs.length = ws.length := Paired.length ha
  have ln : (shW true s :: (ws ++ List.replicate (N.length - (ws.length + 1)) .no)).length = N.length := by simp; omega
  have bk : ∀ i x, owBack Ow0 (slQ N.length 0) O i = some x → ∃ j, j < 4 ∧ i = slQ N.length 0 j ∧ O j = some x := fun i x h => by
    rcases owBack_cases (O := Ow0) (P := O) hq i with ⟨j, h1, h2, h3⟩ | ⟨h1, h2⟩
    · rw [h3] at h; exact ⟨j, h1, h2, h⟩
    · rw [h2] at h; cases h
  have av : ∀ x, Av C (owBack Ow0 (slQ N.length 0) O) x ↔ Av C O x := fun x => by
    constructor
    · rintro (z | z | ⟨i, z⟩)
      · exact .inl z
      · exact .inr (.inl z)
      · obtain ⟨j, _, _, h⟩ := bk i x z; exact .inr (.inr ⟨j, h⟩)
    · rintro (z | z | ⟨i, z⟩)
      · exact .inl z
      · exact .inr (.inl z)
      · by_cases h : i < 4
        · exact .inr (.inr ⟨_, by rw [owBack_at hq h]; exact z⟩)
        · rw [h4 i (by omega)] at z; cases z
  have kp : Keep (Av C O) (Av C (owBack Ow0 (slQ N.length 0) O)) H H := fun x u na r => ⟨fun z => na ((av x).mp z), r⟩
  refine ⟨⟨by simp [start, hl], fun i w e => ?_, fun i j x h1 h2 => ?_, fun i x h => ?_, E.town, E.base, E.ptr, E.fr, E.tk, E.tb.sub rfl rfl fun x z => .inl ((av x).mp z)⟩, fun i x h => ?_, fun i x h => ?_⟩
  · rw [ln]
    cases i with
    | zero =>
      cases e
      obtain ⟨a', h1, h2, h3, h5⟩ := E.sl 0 _ rfl
      refine ⟨a', ?_, h2, h3, ?_⟩
      · have := owBack_at (O := Ow0) (P := O) hq (show 0 < 4 by omega)
        exact this.trans h1
      · refine h5.mono kp (fun _ e => e) (fun j hj => ?_) fun _ _ _ _ _ e => e
        exact (congrFun (slQ_hid (O := owBack Ow0 (slQ N.length 0) O) (l := N.length) (i := 0)) j).symm.trans ((owBack_at (O := Ow0) (P := O) hq (show j + 1 < 4 by omega)).trans (congrFun (hid_one (P := O)) j).symm)
    | succ i =>
      rw [List.getElem?_cons_succ] at e
      have no : owBack Ow0 (slQ N.length 0) O (i + 1) = none ∨ N.length ≤ i + 1 := by
        by_cases h : N.length ≤ i + 1
        · exact .inr h
        · refine .inl ((owBack_of fun j hj => ?_).trans rfl)
          unfold slQ
          split <;> omega
      by_cases hi : i < ws.length
      · rw [List.getElem?_append_left hi] at e
        have get : ∀ {vs : List V} {ws : List W} {i : Nat} {w : W}, ArgsOk (Av C O) C.T K H vs ws → ws[i]? = some w → ∃ v, vs[i]? = some v ∧ ArgOk (Av C O) C.T K H v w := by
          intro vs ws i w h e
          induction h generalizing i with
          | nil => simp at e
          | cons r t ih =>
            cases i with
            | zero => simp at e; subst e; exact ⟨_, rfl, r⟩
            | succ i =>
              obtain ⟨v, h1, h2⟩ := ih (i := i) (by simpa using e)
              exact ⟨v, by simpa using h1, h2⟩
        obtain ⟨v, h1, h2⟩ := get ha e
        have hs : (start N (.ref a :: vs))[i + 1]? = some (some v) := by
          unfold start
          rw [List.getElem?_append_left (by rw [List.length_map, List.length_cons, hl]; omega), List.getElem?_map, List.getElem?_cons_succ, h1]
          rfl
        rw [hs]
        cases w with
        | d x => exact ⟨v, rfl, Dv.mono kp h2⟩
        | town => obtain ⟨a, z1, z2⟩ := h2; exact ⟨a, z1, by rw [z2]⟩
        | no => trivial
        | ol _ => exact False.elim h2
        | od _ => exact False.elim h2
        | oll _ => exact False.elim h2
        | fn _ => exact ⟨v, rfl, FnV.mono h2 kp⟩
        | shR _ => exact ⟨v, rfl, ShV.mono h2 kp⟩
        | sh _ _ _ _ => exact False.elim h2
      · rw [List.getElem?_append_right (by omega), List.getElem?_replicate] at e
        split at e
        · cases e
          trivial
        · cases e
  · obtain ⟨j1, _, e1, f1⟩ := bk i x h1
    obtain ⟨j2, _, e2, f2⟩ := bk j x h2
    rw [e1, e2, E.inj _ _ x f1 f2]
  · obtain ⟨j1, _, e1, f1⟩ := bk i x h
    exact E.own _ x f1
  · obtain ⟨j1, _, e1, f1⟩ := bk i x h
    exact np _ x f1
  · obtain ⟨j1, _, e1, f1⟩ := bk i x h
    exact ⟨_, f1⟩
theorem end_envY (S : StepS C (owBack Ow0 (slQ N.length 0) O) O' H H') (bk : ∀ i x, owBack Ow0 (slQ N.length 0) O i = some x → ∃ j, O j = some x) (E' : EnvOk C O' K σ H' ρ n') (hx : ρ[0]? = some (shW true s')) (hS : C.S = some a) :
    ShEnd C O K a H s' n' (owAt O' (slQ ρ.length 0)) H' ∧ ∀ x, Av C (owAt O' (slQ ρ.length 0)) x → Av C O' x := by
  have hq : PlQ (slQ ρ.length 0) := slQ_ok (lt_of_get hx)
  have get : ∀ i x, owAt O' (slQ ρ.length 0) i = some x → i < 4 ∧ O' (slQ ρ.length 0 i) = some x := fun i x h => by
    by_cases z : i < 4
    · rw [owAt_lt z] at h; exact ⟨z, h⟩
    · rw [owAt_ge (by omega)] at h; cases h
  have av : ∀ x, Av C (owAt O' (slQ ρ.length 0)) x → Av C O' x := by
    rintro x (z | z | ⟨i, z⟩)
    · exact .inl z
    · exact .inr (.inl z)
    · exact .inr (.inr ⟨_, (get i x z).2⟩)
  refine ⟨⟨⟨fun x o e t no => S.st x o e t fun i z => ?_, S.fr, fun i x h => ?_⟩, ⟨rfl, fun i w e => ?_, fun i j x h1 h2 => ?_, fun i x h => ?_, E'.town, E'.base, E'.ptr, E'.fr, E'.tk, E'.tb.sub rfl rfl fun x z => .inl (av x z)⟩, fun k hk => owAt_ge hk⟩, av⟩
  · obtain ⟨j, z⟩ := bk i x z
    exact no j z
  · rcases S.ow _ x (get i x h).2 with ⟨j, z⟩ | z
    · exact .inl (bk j x z)
    · exact .inr z
  · cases i with
    | zero =>
      cases e
      obtain ⟨a', h1, h2, h3, h5⟩ := E'.sl 0 _ hx
      have : a' = a := Option.some.inj ((h3 rfl).symm.trans hS)
      subst this
      refine ⟨a', (owAt_lt (by omega)).trans h1, rfl, h3, ?_⟩
      refine h5.mono (fun x u na r => ⟨fun z => na (av x z), r⟩) (fun _ e => e) (fun j hj => ?_) fun _ _ _ _ _ e => e
      exact (congrFun (hid_one (P := owAt O' (slQ ρ.length 0))) j).trans ((owAt_lt (by omega)).trans (congrFun (slQ_hid (O := O') (l := ρ.length) (i := 0)) j))
    | succ i => cases e
  · obtain ⟨a1, b1⟩ := get i x h1
    obtain ⟨a2, b2⟩ := get j x h2
    exact hq.inj i j a1 a2 (E'.inj _ _ x b1 b2)
  · exact E'.own _ x (get i x h).2
end
theorem fn_valY {P : Program} {w : World} {K : PySem.W.Frag} {mg : Str → Option Value} {base : Heap} {x qual : Str} {st : Stmt} {f : Addr} {fd : FuncData} {N ps : List Str} {k j : Nat} {cls : Nat → Addr} {r : Fsx} (F : Fun K x qual st f fd) (S : FnScope N ps (defScope st)) (hj : ps.length = j + 1) (hN : ps.length ≤ N.length)
    (hb : ∀ (cdv : Value) (A : Around) (outer : List Env) (s : Shared) (H : Hp) (E : XK), Room k (A.deeper (envOfC qual (defScope st) s.heap.objs.size f cdv)) →
      PSs (cxOf (L2.CX P w) P w K mg base N qual (defScope st) f cdv A outer s H E) (defBody st) (tSX K cls (fun c d _ H => E c d H) r)) : FnOk P w K mg base (L2.CX P w) (k + 1) f fd ps (spY K cls j (runY N.length r)) := by
  refine F.okX S (fun vs H Q E h => by rw [hj]; exact spY.len vs H Q E h) fun cdv A outer s H vs Q E hr h => ⟨_, hb cdv A outer s H E hr, ?_⟩
  obtain ⟨C, O, a, vs', ws, n, s0, rr, rfl, hl, En, hS, np, h4, ha, hf, q⟩ := h
  unfold runY at hf
  obtain ⟨o, e1, hf⟩ := Option.bind_eq_some_iff.mp hf
  obtain ⟨E1, np1, bk⟩ := start_envY (N := N) En h4 np ha (by omega)
  refine ⟨C, _, _, n, o, e1, E1, np1, ?_⟩
  match o, hf with
  | .inl (.rt w1 n1), hf => cases hf
  | .inl (.bk ρ1 n1), hf => cases hf
  | .inl (.nx ρ1 n1), hf =>
    obtain ⟨s', e2, e3⟩ := Option.map_eq_some_iff.mp hf
    cases e3
    exact fun O' σ' H' s E' => q _ .non H' (end_envY s bk E' (shAt0_some e2) hS).1 .non
  | .inl (.rs x1 ρ1 n1), hf =>
    obtain ⟨s', e2, e3⟩ := Option.map_eq_some_iff.mp hf
    cases e3
    intro O' σ' v H' s E' rv
    obtain ⟨z1, z2⟩ := end_envY s bk E' (shAt0_some e2) hS
    exact q _ v H' z1 (Dv.mono (fun x u na r => ⟨fun z => na (z2 x z), r⟩) rv)
  | .inr (c, ρ1, n1), hf =>
    obtain ⟨s', e2, e3⟩ := Option.map_eq_some_iff.mp hf
    cases e3
    exact fun O' σ' H' s E' => q _ H' (end_envY s bk E' (shAt0_some e2) hS).1
/-! ### expressions that change the slots, and may raise -/
abbrev Fyx := List W → Nat → Option ((PyData × List W × Nat) ⊕ (Nat × List W × Nat))
def tVY (K : PySem.W.Frag) (cls : Nat → Addr) (V : WX) (f : Fyx) : TE := fun σ H Q => ∃ C O ρ n r, f ρ n = some r ∧ EnvOk C O K σ H ρ n ∧ OwnP C O ∧
  match r with
  | .inl (x, ρ', n') => ∀ O' v H', StepS C O O' H H' → EnvOk C O' K σ H' ρ' n' → Dv (Av C O') K H' v x → Q v H'
  | .inr (c, ρ', n') => ∀ O' H', StepS C O O' H H' → EnvOk C O' K σ H' ρ' n' → V (.ref (cls c)) none σ H'
section
variable {X : Cx} {CX : CXT} {cls : Nat → Addr} {V : WX} {k : Nat} {f C : Addr} {fd : FuncData} {ps : List Str} {sp : Sp} {E : St → XK} {x m : Str} {p pos apos : Pos} {e o : Expr} {es : List Expr} {ta : TE} {t : TA}
/-- o.m(..), which may raise -/
def tMethS (C : Addr) (m : Str) (sp : Sp) (E : St → XK) (ta : TE) (t : TA) : TE := fun σ H Q => ta σ H fun x H1 => ∃ a dx fs, x = .ref a ∧ H1 a = some (.ins C dx fs) ∧ fs.lookup m = none ∧
  t σ H1 fun vs H2 => sp (x :: vs) H2 Q (E σ)
theorem pe_methS {pl : Sem Bool} (he : PE X o ta) (c : Cls X.K C) (hm : Meth X.K C m f) (F : FnOk X.prog X.w X.K X.mg X.base CX k f fd ps sp) (hr : Room k X.A) (hb : Binds X.K fd ps []) (hx : ∀ σ, PassesAt CX X σ (E σ)) (ha : PA X (e :: es) t)
    (hst : starEach (e :: es) X.env = (false, eval e X.env) :: starEach es X.env := by rfl) (hpl : (backTo pos (starEach es X.env)).any (·.1) = false := by rfl)
    (ht : eval (.Call (.Attribute o m apos) (e :: es) [] pos) X.env = (do
      let ov ← eval o X.env
      standAt apos.atName
      let (f, first) ← holding [ov] (getMethod ov m pl)
      callWith pos f first (backTo pos (starEach (e :: es) X.env)) (backToKw pos (keywordEach [] X.env))) := by rfl) :
    PE X (.Call (.Attribute o m apos) (e :: es) [] pos) (tMethS C m sp E ta t) := by
  refine ⟨fun pins s σ H Q I h => ?_⟩
  refine PySem.W.methodCall_KW (pl := pl) (thn (he.run pins s σ H _ I h) fun u s1 ⟨x, H1, I1, rx, a, dx, fs, ex, ea, l, q⟩ => ?_) ht
  subst ex
  obtain rfl : u = Value.ref a := rx
  refine getmeth_ok I1 ea c hm l ?_
  refine PySem.W.callWith_K (first := [.ref a]) (h₀ := X.base) I.ok.mod.kin hm.kp (thn (ha.run pos pins s1 σ H1 _ I1 q) fun us s2 ⟨vs, H2, I2, r, q2⟩ => ⟨I2.kIn, ?_⟩) hst hpl
  exact run_fnS (us := .ref a :: us) (vs := .ref a :: vs) F hr hb (hx σ) I2 (.cons rfl r) q2
theorem pe_methS0 {pl : Sem Bool} (he : PE X o ta) (c : Cls X.K C) (hm : Meth X.K C m f) (F : FnOk X.prog X.w X.K X.mg X.base CX k f fd ps sp) (hr : Room k X.A) (hb : Binds X.K fd ps []) (hx : ∀ σ, PassesAt CX X σ (E σ))
    (ht : eval (.Call (.Attribute o m apos) [] [] pos) X.env = (do
      let ov ← eval o X.env
      standAt apos.atName
      let (f, first) ← holding [ov] (getMethod ov m pl)
      callWith pos f first (backTo pos (starEach [] X.env)) (backToKw pos (keywordEach [] X.env))) := by rfl) :
    PE X (.Call (.Attribute o m apos) [] [] pos) (tMethS C m sp E ta tNil) := by
  refine ⟨fun pins s σ H Q I h => ?_⟩
  refine PySem.W.methodCall_KW (pl := pl) (thn (he.run pins s σ H _ I h) fun u s1 ⟨x, H1, I1, rx, a, dx, fs, ex, ea, l, q⟩ => ?_) ht
  subst ex
  obtain rfl : u = Value.ref a := rx
  refine getmeth_ok I1 ea c hm l ?_
  exact PySem.W.callWith_K0 (first := [.ref a]) I1.kIn hm.kp (run_fnS (us := [.ref a]) (vs := [.ref a]) F hr hb (hx σ) I1 (.cons rfl .nil) q)
end
/-- called with the shelf of the slot i -/
def yPut (i : Nat) (sf : Bool) (ρ : List W) : (PyData ⊕ Nat) × ShT × Nat → (PyData × List W × Nat) ⊕ (Nat × List W × Nat)
  | (.inl x, s', n') => .inl (x, ρ.set i (shW sf s'), n')
  | (.inr c, s', n') => .inr (c, ρ.set i (shW sf s'), n')
def yCall (F : Fny) (i : Nat) (fs : Fa) : Fyx := fun ρ n => (fs ρ n).bind fun p => match ρ[i]? with
  | some (.sh sf now bef lat) => (F (now, bef, lat) p.1 p.2).map (yPut i sf ρ)
  | _ => none
section
variable {X : Cx} {cls : Nat → Addr} {Vx : WX} {e a b o : Expr} {es : List Expr} {fs : Fa} {i : Nat} {F : Fny}
/-- the call itself -/
theorem yCall_run {C : Cn} {O : Ow} {K : PySem.W.Frag} {σ : St} {H : Hp} {Q : VK} {ρ : List W} {n : Nat} {k : Nat} {ws : List W} {vs : List V} {a : Addr} {sf : Bool} {s : ShT} {r : (PyData ⊕ Nat) × ShT × Nat} (E : EnvOk C O K σ H ρ n) (np : OwnP C O) (hx : ρ[i]? = some (shW sf s)) (h1 : O i = some a)
    (hl : ws.length = k) (ha : ArgsOk (Av C O) C.T K H vs ws) (hf : F s ws n = some r)
    (q : match yPut i sf ρ r with
      | .inl (x, ρ', n') => ∀ O' v H', StepS C O O' H H' → EnvOk C O' K σ H' ρ' n' → Dv (Av C O') K H' v x → Q v H'
      | .inr (c, ρ', n') => ∀ O' H', StepS C O O' H H' → EnvOk C O' K σ H' ρ' n' → Vx (.ref (cls c)) none σ H') : spY K cls k F (.ref a :: vs) H Q (WE Vx σ) := by
  have hil := lt_of_get hx
  have hq : PlQ (slQ ρ.length i) := slQ_ok hil
  obtain ⟨a', g1, g2, g3, g4⟩ := E.sl _ _ hx
  obtain rfl : a' = a := Option.some.inj (g1.symm.trans h1)
  have hs : ShAt (Av C O) K H (fun j => O (slQ ρ.length i (j + 1))) a' s.1 s.2.1 s.2.2 := by rw [slQ_hid]; exact g4
  have h0 : O (slQ ρ.length i 0) = some a' := h1
  obtain ⟨E0, np0⟩ := E.lend np hq h0 hs
  have fin : ∀ s' n' O' H', ShEnd (lendC C O (slQ ρ.length i) a') (owAt O (slQ ρ.length i)) K a' H s' n' O' H' →
      EnvOk C (owBack O (slQ ρ.length i) O') K σ H' (ρ.set i (shW sf s')) n' ∧ StepS C O (owBack O (slQ ρ.length i) O') H H' ∧ ∀ x, Av (lendC C O (slQ ρ.length i) a') O' x ↔ Av C (owBack O (slQ ρ.length i) O') x := by
    rintro s' n' O' H' ⟨S1, E1, k4⟩
    refine E.back np hq h0 hs S1 E1 k4 hx slQ_in fun _ q0 sh => ?_
    rw [slQ_hid] at sh
    exact ⟨a', q0, g2, g3, sh⟩
  refine ⟨lendC C O (slQ ρ.length i) a', owAt O (slQ ρ.length i), a', vs, ws, n, s, r, rfl, hl, E0, rfl, np0, fun k hk => owAt_ge hk, ?_, hf, ?_⟩
  · refine Paired.impl (fun v w z => ?_) ha
    cases w with
    | d x => exact Dv.mono (fun x u n r => ⟨fun z => n ((av_lend x).mp z), r⟩) z
    | town => exact z
    | no => exact z
    | ol _ => exact z
    | od _ => exact z
    | oll _ => exact z
    | fn _ => exact FnV.mono z (fun x u n r => ⟨fun z => n ((av_lend x).mp z), r⟩)
    | shR _ => exact ShV.mono z (fun x u n r => ⟨fun z => n ((av_lend x).mp z), r⟩)
    | sh _ _ _ _ => exact z
  · match r, q with
    | (.inl x, s', n'), q =>
      intro O' v H' h rv
      obtain ⟨z1, z2, z3⟩ := fin s' n' O' H' h
      exact q _ v H' z2 z1 (Dv.mono (fun y u n r => ⟨fun z => n ((z3 y).mpr z), r⟩) rv)
    | (.inr c, s', n'), q =>
      intro O' H' h
      obtain ⟨z1, z2, z3⟩ := fin s' n' O' H' h
      exact q _ H' z2 z1
theorem ey_meth {Cl : Addr} {k j : Nat} {m : Str} {apos pos : Pos} {f : Addr} {fd : FuncData} {ps : List Str} {pl : Sem Bool} (kk : ShK X.K Cl) (he : PE X o (tVar i)) (hm : Meth X.K Cl m f) (G : FnOk X.prog X.w X.K X.mg X.base (L2.CX X.prog X.w) j f fd ps (spY X.K cls k F)) (hr : Room j X.A) (hb : Binds X.K fd ps []) (tk : Takes X Vx) (ha : EvA X (e :: es) fs)
    (hl : (e :: es).length = k := by rfl) (hn : ∀ (vn : V) (b l : Addr), (shF vn b l).lookup m = none := by intros; rfl) (hst : starEach (e :: es) X.env = (false, eval e X.env) :: starEach es X.env := by rfl) (hpl : (backTo pos (starEach es X.env)).any (·.1) = false := by rfl)
    (ht : eval (.Call (.Attribute o m apos) (e :: es) [] pos) X.env = (do
      let ov ← eval o X.env
      standAt apos.atName
      let (f, first) ← holding [ov] (getMethod ov m pl)
      callWith pos f first (backTo pos (starEach (e :: es) X.env)) (backToKw pos (keywordEach [] X.env))) := by rfl) : PE X (.Call (.Attribute o m apos) (e :: es) [] pos) (tVY X.K cls Vx (yCall F i fs)) := peI (pe_methS (pl := pl) he kk.cls hm G hr hb (fun σ => passAt tk σ) ha.pa hst hpl ht) (by
  rintro σ H Q ⟨C, O, ρ, n, r, hf, E, np, q⟩
  unfold yCall at hf
  obtain ⟨⟨ws, n1⟩, e1, hf⟩ := Option.bind_eq_some_iff.mp hf
  simp only at hf
  split at hf
  · rename_i sf now bef lat hx
    obtain ⟨rr, e2, e3⟩ := Option.map_eq_some_iff.mp hf
    subst e3
    obtain ⟨a, h1, h2, hs, C1, dx, b, l, vn, vb, vl, h0, g1, g2, g3, g4, g5, g6, g7, g8, g9, g10⟩ := E.sl _ _ hx
    have := h0.uniq kk.c
    subst this
    refine ⟨_, h2, a, dx, _, rfl, g4, hn _ _ _, C, O, ρ, n, ws, n1, e1, E, fun vs H1 s t r1 => ?_⟩
    have E1 := E.step s t
    refine yCall_run (s := (now, bef, lat)) E1 np hx h1 (by rw [ha.len _ _ _ _ e1, hl]) r1 e2 ?_
    revert q
    cases yPut i sf ρ rr with
    | inl z => exact fun q O' v H' s2 E2 rv => q O' v H' (s.stepS0.trans s2) E2 rv
    | inr z => exact fun q O' H' s2 E2 => q O' H' (s.stepS0.trans s2) E2
  · cases hf)
theorem ey_meth0 {Cl : Addr} {j : Nat} {m : Str} {apos pos : Pos} {f : Addr} {fd : FuncData} {ps : List Str} {pl : Sem Bool} (kk : ShK X.K Cl) (he : PE X o (tVar i)) (hm : Meth X.K Cl m f) (G : FnOk X.prog X.w X.K X.mg X.base (L2.CX X.prog X.w) j f fd ps (spY X.K cls 0 F)) (hr : Room j X.A) (hb : Binds X.K fd ps []) (tk : Takes X Vx)
    (hn : ∀ (vn : V) (b l : Addr), (shF vn b l).lookup m = none := by intros; rfl)
    (ht : eval (.Call (.Attribute o m apos) [] [] pos) X.env = (do
      let ov ← eval o X.env
      standAt apos.atName
      let (f, first) ← holding [ov] (getMethod ov m pl)
      callWith pos f first (backTo pos (starEach [] X.env)) (backToKw pos (keywordEach [] X.env))) := by rfl) : PE X (.Call (.Attribute o m apos) [] [] pos) (tVY X.K cls Vx (yCall F i aNil)) := peI (pe_methS0 (pl := pl) he kk.cls hm G hr hb (fun σ => passAt tk σ) ht) (by
  rintro σ H Q ⟨C, O, ρ, n, r, hf, E, np, q⟩
  unfold yCall at hf
  obtain ⟨⟨ws, n1⟩, e1, hf⟩ := Option.bind_eq_some_iff.mp hf
  cases e1
  simp only at hf
  split at hf
  · rename_i sf now bef lat hx
    obtain ⟨rr, e2, e3⟩ := Option.map_eq_some_iff.mp hf
    subst e3
    obtain ⟨a, h1, h2, hs, C1, dx, b, l, vn, vb, vl, h0, g1, g2, g3, g4, g5, g6, g7, g8, g9, g10⟩ := E.sl _ _ hx
    have := h0.uniq kk.c
    subst this
    refine ⟨_, h2, a, dx, _, rfl, g4, hn _ _ _, ?_⟩
    exact yCall_run (s := (now, bef, lat)) E np hx h1 rfl .nil e2 q
  · cases hf)
end
section
variable {X : Cx} {cls : Nat → Addr} {Vx : WX} {e e0 a b o : Expr} {es : List Expr} {f : Fe} {fs : Fa} {i : Nat} {F : Fny} {fy : Fyx} {pos : Pos}
/-- as it is -/
def yOf (f : Fe) : Fyx := fun ρ n => (f ρ n).bind fun p => p.1.frz.val.map fun x => .inl (x, ρ, p.2)
def yX (f : Fx) : Fyx := fun ρ n => (f ρ n).map .inl
/-- what may raise -/
def yR (f : Fex) : Fyx := fun ρ n => (f ρ n).bind fun r => match r with
  | .inl (w, n') => w.frz.val.map fun x => .inl (x, ρ, n')
  | .inr (c, n') => some (.inr (c, ρ, n'))
/-- a if t else b -/
def yIf (t : Ft) (fa fb : Fyx) : Fyx := fun ρ n => (t ρ n).bind fun p => if p.1 then fa ρ p.2 else fb ρ p.2
/-! statements -/
variable {st : Stmt} {sts sts' rest : List Stmt} {r r1 r2 : Fsx}
def sDropY (f : Fyx) : Fsx := fun ρ n => (f ρ n).map fun r => match r with
  | .inl (_, ρ', n') => .inl (.nx ρ' n')
  | .inr c => .inr c
theorem sx_exprY (ha : PE X e (tVY X.K cls Vx fy)) (hs : swapsWith e none pos.line X.env = pure false := by rfl) : PS X (.Expr e pos) (tSX X.K cls Vx (sDropY fy)) := psI (ps_expr ha hs) (by
  rintro D σ H ⟨C, O, ρ, n, r, hf, E, np, q⟩
  unfold sDropY at hf
  obtain ⟨o, e1, e2⟩ := Option.map_eq_some_iff.mp hf
  refine ⟨C, O, ρ, n, o, e1, E, np, ?_⟩
  match o, e2 with
  | .inl (x, ρ1, n1), e2 => cases e2; exact fun O' v H1 s E1 rv => q O' σ H1 s E1
  | .inr (c, ρ1, n1), e2 => cases e2; exact fun O' H1 s E1 => q O' σ H1 s E1)
def sSetY (i : Nat) (f : Fyx) : Fsx := fun ρ n => (f ρ n).map fun r => match r with
  | .inl (x, ρ', n') => .inl (.nx (ρ'.set i (.d x)) n')
  | .inr c => .inr c
theorem sx_setY {i : Nat} {x : Str} {pos' : Pos} (hN : X.N.Nodup) (hi : X.N[i]? = some x) (hx : Loc X.env.scope x) (ha : PE X e (tVY X.K cls Vx fy)) (hs : swapsWith e (some (.Name x pos')) pos.line X.env = pure false := by rfl) (hf : X.fn x = true ∨ X.env.scope.names.lookup x = some .local := by first | exact .inl rfl | exact .inr rfl) :
    PS X (.Assign [.Name x pos'] e pos) (tSX X.K cls Vx (sSetY i fy)) := psI (ps_set hN hi hx ha hs hf) (by
  rintro D σ H ⟨C, O, ρ, n, r, hf, E, np, q⟩
  unfold sSetY at hf
  obtain ⟨o, e1, e2⟩ := Option.map_eq_some_iff.mp hf
  refine ⟨C, O, ρ, n, o, e1, E, np, ?_⟩
  match o, e2 with
  | .inl (x, ρ1, n1), e2 =>
    cases e2
    intro O1 v H1 s E1 rv
    obtain ⟨O', E', s'⟩ := E1.assign (i := i) (w := .d x) (v := v) (n' := n1) (H1 := H1) Step.refl E1.town rv
    exact q O' _ H1 (s.trans s') E'
  | .inr (c, ρ1, n1), e2 => cases e2; exact fun O' H1 s E1 => q O' σ H1 s E1)
def sRetS (f : Fe) : Fs := fun ρ n => (f ρ n).bind fun p => p.1.frz.val.map fun x => .rs x ρ p.2
theorem ss_retS (ha : EvE X e f) : EvS X (.Return (some e) pos) (sRetS f) := psI (ps_ret ha) (by
  rintro D σ H ⟨C, O, ρ, n, r, hf, E, np, q⟩
  unfold sRetS at hf
  obtain ⟨⟨w, n1⟩, e1, hf⟩ := Option.bind_eq_some_iff.mp hf
  obtain ⟨x, e2, e3⟩ := Option.map_eq_some_iff.mp hf
  cases e3
  exact ⟨C, O, ρ, n, w, n1, e1, E, fun v H1 s t rv => q O σ v H1 s.stepS0 (E.step s t) ((rv.frz E.av).val e2)⟩)
/-- nothing is raised -/
def unX (r : Fsx) : Fs := fun ρ n => (r ρ n).bind fun o => match o with
  | .inl out => some out
  | .inr _ => none
theorem ss_un (h : PS X st (tSX X.K cls (fun _ _ _ _ => False) r)) : EvS X st (unX r) := psI h (by
  rintro D σ H ⟨C, O, ρ, n, out, hf, E, np, q⟩
  unfold unX at hf
  obtain ⟨o, e1, hf⟩ := Option.bind_eq_some_iff.mp hf
  refine ⟨C, O, ρ, n, o, e1, E, np, ?_⟩
  match o, hf with
  | .inl o, hf => cases hf; exact q
  | .inr c, hf => cases hf)
end
/-! tests that change the slots -/
abbrev Fyt := List W → Nat → Option ((Bool × List W × Nat) ⊕ (Nat × List W × Nat))
def tVYT (K : PySem.W.Frag) (cls : Nat → Addr) (Vx : WX) (f : Fyt) : TT := fun σ H Q => ∃ C O ρ n r, f ρ n = some r ∧ EnvOk C O K σ H ρ n ∧ OwnP C O ∧
  match r with
  | .inl (c, ρ', n') => ∀ O' H', StepS C O O' H H' → EnvOk C O' K σ H' ρ' n' → Q c H'
  | .inr (c, ρ', n') => ∀ O' H', StepS C O O' H H' → EnvOk C O' K σ H' ρ' n' → Vx (.ref (cls c)) none σ H'
abbrev Fya := List W → Nat → Option ((List W × List W × Nat) ⊕ (Nat × List W × Nat))
def tVYA (K : PySem.W.Frag) (cls : Nat → Addr) (Vx : WX) (f : Fya) : TA := fun σ H Q => ∃ C O ρ n r, f ρ n = some r ∧ EnvOk C O K σ H ρ n ∧ OwnP C O ∧
  match r with
  | .inl (ws, ρ', n') => ∀ O' vs H', StepS C O O' H H' → EnvOk C O' K σ H' ρ' n' → ArgsOk (Av C O') C.T K H' vs ws → Q vs H'
  | .inr (c, ρ', n') => ∀ O' H', StepS C O O' H H' → EnvOk C O' K σ H' ρ' n' → Vx (.ref (cls c)) none σ H'
structure EyA (X : Cx) (cls : Nat → Addr) (Vx : WX) (es : List Expr) (f : Fya) : Prop where
  pa : PA X es (tVYA X.K cls Vx f)
  len : ∀ ρ n ws ρ' n', f ρ n = some (.inl (ws, ρ', n')) → ws.length = es.length
section
variable {X : Cx} {cls : Nat → Addr} {Vx : WX} {e e0 a b o : Expr} {es : List Expr} {f : Fe} {fs : Fa} {i : Nat} {fy : Fyx} {pos : Pos} {t t' : Fyt} {ta : Ft} {rest : List Expr} {st : Stmt} {sts sts' : List Stmt} {r1 r2 : Fsx}
def ytOf (t : Ft) : Fyt := fun ρ n => (t ρ n).map fun p => .inl (p.1, ρ, p.2)
def ywOf (t : Ft) : Fyt := ytOf t
theorem yw_of (h : EvW X a ta) : PW X a (tVYT X.K cls Vx (ywOf ta)) := pwI h (by
  rintro σ H Q ⟨C, O, ρ, n, r, hf, E, np, q⟩
  obtain ⟨⟨c, n1⟩, e1, e2⟩ := Option.map_eq_some_iff.mp hf
  cases e2
  exact ⟨C, O, ρ, n, c, n1, e1, E, fun H1 s t => q O H1 s.stepS0 (E.step s t)⟩)
/-- a value's truth -/
def ytTru (f : Fyx) : Fyt := fun ρ n => (f ρ n).bind fun r => match r with
  | .inl (x, ρ', n') => (dTru x).map fun c => .inl (c, ρ', n')
  | .inr c => some (.inr c)
theorem yt_tru (ha : PE X a (tVY X.K cls Vx fy)) (he : ∀ whole, isTrue a X.env whole = (do let v ← whole; standAt a.pos; holding [v] (truthy v))) : PT X a (tVYT X.K cls Vx (ytTru fy)) := ptI (pt_truth ha he) (by
  rintro σ H Q ⟨C, O, ρ, n, r, hf, E, np, q⟩
  unfold ytTru at hf
  obtain ⟨o, e1, hf⟩ := Option.bind_eq_some_iff.mp hf
  refine ⟨C, O, ρ, n, o, e1, E, np, ?_⟩
  match o, hf with
  | .inl (x, ρ1, n1), hf =>
    obtain ⟨c, e2, e3⟩ := Option.map_eq_some_iff.mp hf
    cases e3
    exact fun O' v H' s E' rv => ⟨c, dTru_ok (T := none) (.inl rv) e2, q O' H' s E'⟩
  | .inr (c, ρ1, n1), hf => cases hf; exact q)
def ytNot (t : Fyt) : Fyt := fun ρ n => (t ρ n).map fun r => match r with
  | .inl (c, ρ', n') => .inl (!c, ρ', n')
  | .inr c => .inr c
theorem yt_not (ha : PT X a (tVYT X.K cls Vx t)) : PT X (.UnaryOp .Not a pos) (tVYT X.K cls Vx (ytNot t)) := ptI (pt_not ha) (by
  rintro σ H Q ⟨C, O, ρ, n, r, hf, E, np, q⟩
  unfold ytNot at hf
  obtain ⟨o, e1, e2⟩ := Option.map_eq_some_iff.mp hf
  refine ⟨C, O, ρ, n, o, e1, E, np, ?_⟩
  match o, e2 with
  | .inl (x, ρ1, n1), e2 => cases e2; exact fun O' H' s E' => q O' H' s E'
  | .inr (c, ρ1, n1), e2 => cases e2; exact q)
def ytSeq (b : Bool) (t t' : Fyt) : Fyt := fun ρ n => (t ρ n).bind fun r => match r with
  | .inl (c, ρ', n') => if c = b then t' ρ' n' else some (.inl (c, ρ', n'))
  | .inr c => some (.inr c)
theorem yw_go {b : Bool} {c : Bool} {C : Cn} {O O1 : Ow} {K : PySem.W.Frag} {σ : St} {H H1 : Hp} {ρ1 : List W} {n1 : Nat} {Q : Bool → Hp → Prop} {r : (Bool × List W × Nat) ⊕ (Nat × List W × Nat)}
    (q : match r with
      | .inl (c, ρ', n') => ∀ O' H', StepS C O O' H H' → EnvOk C O' K σ H' ρ' n' → Q c H'
      | .inr (c, ρ', n') => ∀ O' H', StepS C O O' H H' → EnvOk C O' K σ H' ρ' n' → Vx (.ref (cls c)) none σ H') (e : t' ρ1 n1 = some r) (s1 : StepS C O O1 H H1) (E1 : EnvOk C O1 K σ H1 ρ1 n1) (np1 : OwnP C O1) : tVYT K cls Vx t' σ H1 Q := by
  refine ⟨C, O1, ρ1, n1, r, e, E1, np1, ?_⟩
  match r, q with
  | .inl (c, ρ', n'), q => exact fun O' H' s E' => q O' H' (s1.trans s) E'
  | .inr (c, ρ', n'), q => exact fun O' H' s E' => q O' H' (s1.trans s) E'
theorem yw_or (ha : PT X a (tVYT X.K cls Vx t)) (hb : PW X (.BoolOp .Or (b :: rest) pos) (tVYT X.K cls Vx t')) : PW X (.BoolOp .Or (a :: b :: rest) pos) (tVYT X.K cls Vx (ytSeq false t t')) := pwI (pw_or ha hb) (by
  rintro σ H Q ⟨C, O, ρ, n, r, hf, E, np, q⟩
  unfold ytSeq at hf
  obtain ⟨o, e1, hf⟩ := Option.bind_eq_some_iff.mp hf
  refine ⟨C, O, ρ, n, o, e1, E, np, ?_⟩
  match o, hf with
  | .inl (true, ρ1, n1), hf =>
    cases hf
    exact fun O' H' s E' => Eq.mpr (if_pos rfl) (q O' H' s E')
  | .inl (false, ρ1, n1), hf =>
    exact fun O1 H1 s1 E1 => Eq.mpr (if_neg (by simp)) <| yw_go (b := true) (c := true) q (by simpa using hf) s1 E1 (np.step E s1)
  | .inr (c, ρ1, n1), hf => cases hf; exact q)
theorem yt_w (h : PW X a (tVYT X.K cls Vx t)) : PT X a (tVYT X.K cls Vx t) := h.pt
/-- compared with what stands -/
def ytCmp (g : PyData → PyData → Option W) (f : Fyx) (d : Fd) : Fyt := fun ρ n => (f ρ n).bind fun r => match r with
  | .inl (x, ρ', n') => (d ρ' n').bind fun p => match g x p.1 with
    | some (.d (.bool c)) => some (.inl (c, ρ', p.2))
    | _ => none
  | .inr c => some (.inr c)
/-! arguments -/
def yaOf (fs : Fa) : Fya := fun ρ n => (fs ρ n).map fun p => .inl (p.1, ρ, p.2)
theorem ya_of (h : EvA X es fs) : EyA X cls Vx es (yaOf fs) := ⟨paI h.pa (by
  rintro σ H Q ⟨C, O, ρ, n, r, hf, E, np, q⟩
  obtain ⟨⟨c, n1⟩, e1, e2⟩ := Option.map_eq_some_iff.mp hf
  cases e2
  exact ⟨C, O, ρ, n, c, n1, e1, E, fun vs H1 s t rv => q O vs H1 s.stepS0 (E.step s t) rv⟩), fun ρ n ws ρ' n' h' => by
  obtain ⟨⟨c, n1⟩, e1, e2⟩ := Option.map_eq_some_iff.mp h'
  cases e2
  exact h.len _ _ _ _ e1⟩
def yaCons (f : Fyx) (fs : Fya) : Fya := fun ρ n => (f ρ n).bind fun r => match r with
  | .inl (x, ρ', n') => (fs ρ' n').map fun r => match r with
    | .inl (ws, ρ2, n2) => .inl (.d x :: ws, ρ2, n2)
    | .inr c => .inr c
  | .inr c => some (.inr c)
theorem ArgOk.stepS {C : Cn} {O O' : Ow} {K : PySem.W.Frag} {H H' : Hp} {v : V} {w : W} (s : StepS C O O' H H') (z : ArgOk (Av C O) C.T K H v w) : ArgOk (Av C O') C.T K H' v w := by
  cases w with
  | d x => exact Dv.mono s.keep z
  | town => exact z
  | no => exact z
  | ol _ => exact z
  | od _ => exact z
  | oll _ => exact z
  | fn _ => exact FnV.mono z s.keep
  | shR _ => exact ShV.mono z s.keep
  | sh _ _ _ _ => exact z
theorem ya_cons {gs : Fya} (ha : PE X e (tVY X.K cls Vx fy)) (hr : EyA X cls Vx es gs) (hs : starEach (e :: es) X.env = (false, eval e X.env) :: starEach es X.env := by rfl) : EyA X cls Vx (e :: es) (yaCons fy gs) := by
  refine ⟨paI (pa_cons ha hr.pa hs) ?_, ?_⟩
  · rintro σ H Q ⟨C, O, ρ, n, r, hf, E, np, q⟩
    unfold yaCons at hf
    obtain ⟨o, e1, hf⟩ := Option.bind_eq_some_iff.mp hf
    refine ⟨C, O, ρ, n, o, e1, E, np, ?_⟩
    match o, hf with
    | .inl (x, ρ1, n1), hf =>
      obtain ⟨o2, e2, e3⟩ := Option.map_eq_some_iff.mp hf
      intro O1 v H1 s1 E1 rv
      refine ⟨C, O1, ρ1, n1, o2, e2, E1, np.step E s1, ?_⟩
      match o2, e3 with
      | .inl (ws, ρ2, n2), e3 =>
        cases e3
        exact fun O2 vs H2 s2 E2 r2 => q O2 (v :: vs) H2 (s1.trans s2) E2 (.cons (ArgOk.stepS (w := .d x) s2 rv) r2)
      | .inr (c, ρ2, n2), e3 =>
        cases e3
        exact fun O2 H2 s2 E2 => q O2 H2 (s1.trans s2) E2
    | .inr (c, ρ1, n1), hf => cases hf; exact q
  · intro ρ n ws ρ' n' h
    unfold yaCons at h
    obtain ⟨o, e1, h⟩ := Option.bind_eq_some_iff.mp h
    match o, h with
    | .inl (x, ρ1, n1), h =>
      obtain ⟨o2, e2, e3⟩ := Option.map_eq_some_iff.mp h
      match o2, e3 with
      | .inl (ws, ρ2, n2), e3 =>
        cases e3
        simp [hr.len _ _ _ _ _ e2]
      | .inr (c, ρ2, n2), e3 => cases e3
    | .inr (c, ρ1, n1), h => cases h
/-- a def, called with such -/
def yApp (F : Fn) (fs : Fya) : Fyx := fun ρ n => (fs ρ n).bind fun r => match r with
  | .inl (ws, ρ', n') => (F ws n').bind fun p => p.1.frz.val.map fun x => .inl (x, ρ', p.2)
  | .inr c => some (.inr c)
theorem ey_app {k j l : Nat} {F : Fn} {gs : Fya} {x : Str} {p : Pos} {ps : List Str} {dst : Stmt} (D : DF X.K X.mg x dst ps) (G : FnOk X.prog X.w X.K X.mg X.base CX0 j D.f D.fd ps (spOf X.K k F)) (hr : Room l X.A) (hj : j ≤ l) (hg : Gl X x) (ha : EyA X cls Vx (e :: es) gs)
    (hl : (e :: es).length = k := by rfl) (hdb : (x == ("__debug__" : Str)) = false := by decide) (he : starEach (e :: es) X.env = (false, eval e X.env) :: starEach es X.env := by rfl) (hpl : (backTo pos (starEach es X.env)).any (·.1) = false := by rfl) :
    PE X (.Call (.Name x p) (e :: es) [] pos) (tVY X.K cls Vx (yApp F gs)) := peI (pe_call G (hr.mono hj) hg D.g D.F.kp D.b .nil pass0 ha.pa hdb he hpl) (by
  rintro σ H Q ⟨C, O, ρ, n, r, hf, E, np, q⟩
  unfold yApp at hf
  obtain ⟨o, e1, hf⟩ := Option.bind_eq_some_iff.mp hf
  refine ⟨C, O, ρ, n, o, e1, E, np, ?_⟩
  match o, hf with
  | .inl (ws, ρ1, n1), hf =>
    obtain ⟨⟨w, n2⟩, e2, hf⟩ := Option.bind_eq_some_iff.mp hf
    obtain ⟨y, e3, e4⟩ := Option.map_eq_some_iff.mp hf
    cases e4
    intro O1 vs H1 s1 E1 r1
    have av1 : ∀ a, Av (callC C O1 H1) Ow0 a → Av C O1 a := by
      rintro a ((z | z) | z | ⟨i, z⟩)
      · exact .inl z
      · exact .inr (.inr z)
      · exact .inr (.inl z)
      · cases z
    have av2 : ∀ a, Av C O1 a → Av (callC C O1 H1) Ow0 a := by
      rintro a (z | z | z)
      · exact .inl (.inl z)
      · exact .inr (.inl z)
      · exact .inl (.inr z)
    show spOf X.K k F (vs ++ []) H1 Q E0
    rw [List.append_nil]
    refine ⟨callC C O1 H1, ws, n1, w, n2, rfl, fun a z => E1.av a (z.elim .inl fun z => .inr (.inr z)), E1.town, ?_, ?_, e2, E1.tk, E1.callT av1, fun v H2 s2 t2 r2 => ?_⟩
    · rw [ha.len _ _ _ _ _ e1, hl]
    · refine Paired.impl (fun v w z => ?_) r1
      cases w with
      | d x => exact Dv.mono (fun a u n r => ⟨fun z => n (av1 a z), r⟩) z
      | town => exact z
      | no => exact z
      | ol _ => exact z
      | od _ => exact z
      | oll _ => exact z
      | fn _ => exact FnV.mono z (fun a u n r => ⟨fun z => n (av1 a z), r⟩)
      | shR _ => exact ShV.mono z (fun a u n r => ⟨fun z => n (av1 a z), r⟩)
      | sh _ _ _ _ => exact z
    · have s2' : Step C H1 H2 := ⟨s2.st0, s2.fr, s2.tb⟩
      exact q O1 v H2 (s1.trans s2'.stepS0) (E1.step s2' t2) (((r2.av av2).frz E1.av).val e3)
  | .inr (c, ρ1, n1), hf => cases hf; exact q)
/-! if -/
def sIfY (t : Fyt) (r1 r2 : Fsx) : Fsx := fun ρ n => (t ρ n).bind fun r => match r with
  | .inl (c, ρ', n') => if c then r1 ρ' n' else r2 ρ' n'
  | .inr c => some (.inr c)
theorem sx_ifY {c : Expr} (hc : PT X c (tVYT X.K cls Vx t)) (ha : PSs X sts (tSX X.K cls Vx r1)) (hb : PSs X sts' (tSX X.K cls Vx r2)) : PS X (.If c sts sts' pos) (tSX X.K cls Vx (sIfY t r1 r2)) := psI (ps_if hc ha hb) (by
  rintro D σ H ⟨C, O, ρ, n, r, hf, E, np, q⟩
  unfold sIfY at hf
  obtain ⟨o, e1, hf⟩ := Option.bind_eq_some_iff.mp hf
  refine ⟨C, O, ρ, n, o, e1, E, np, ?_⟩
  match o, hf with
  | .inl (x, ρ1, n1), hf =>
    intro O1 H1 s1 E1
    have fin : ∀ rr : Fsx, rr ρ1 n1 = some r → tSX X.K cls Vx rr D σ H1 := fun rr e2 => by
      refine ⟨C, O1, ρ1, n1, r, e2, E1, np.step E s1, ?_⟩
      match r, q with
      | .inl out, q => exact EndOk.after s1 q
      | .inr (c, ρ2, n2), q => exact fun O2 σ2 H2 s2 E2 => q O2 σ2 H2 (s1.trans s2) E2
    cases x with
    | true => exact fin r1 (by simpa using hf)
    | false => exact fin r2 (by simpa using hf)
  | .inr (c, ρ1, n1), hf =>
    cases hf
    exact fun O' H' s E' => q O' σ H' s E')
end
/-! ### methods that look alone -/
section
variable {A A' : Addr → Prop} {K : PySem.W.Frag} {H : Hp} {a C dx : Addr} {fs : List (Str × V)}
theorem ins_rd {xs : List V} (h : H a = some (.ins C dx fs)) : ¬ Rd H a (.lst xs) := by
  rintro (z | ⟨o, z⟩) <;> (rw [h] at z; cases z)
theorem ins_tup {xs : List V} (h : H a = some (.ins C dx fs)) : ¬ TupAt H a xs := by
  rintro ⟨o, z, _⟩
  rw [h] at z; cases z
mutual
theorem Dv.wide (i : ∀ x, A' x → A x ∨ x = a) (h : H a = some (.ins C dx fs)) : ∀ (d : PyData) (v : V), Dv A K H v d → Dv A' K H v d
  | .none, _, z => by cases z; exact .non
  | .bool _, _, z => by cases z; exact .bl _
  | .int _, _, z => by cases z; exact .int _
  | .str _, _, z => by cases z; exact .str _
  | .list ds, _, z => by
    cases z with
    | lst hs ha => exact .lst (hs.imp (fun z => ⟨fun y => (i _ y).elim z.1 fun e => ins_rd h (by rw [← e]; exact z.2), z.2⟩) id) (DvAll.wide i h ds _ ha)
  | .tuple ds, _, z => by
    cases z with
    | tup hs ha => exact .tup (hs.imp (fun z => ⟨fun y => (i _ y).elim z.1 fun e => ins_tup h (by rw [← e]; exact z.2), z.2⟩) id) (DvAll.wide i h ds _ ha)
  | .dict _, _, z => by cases z
theorem DvAll.wide (i : ∀ x, A' x → A x ∨ x = a) (h : H a = some (.ins C dx fs)) : ∀ (ds : List PyData) (vs : List V), DvAll A K H vs ds → DvAll A' K H vs ds
  | [], _, z => by cases z; exact .nil
  | d :: ds, _, z => by
    cases z with
    | cons h1 h2 => exact .cons (Dv.wide i h d _ h1) (DvAll.wide i h ds _ h2)
end
end
/-- what the called one is told, that looks at the shelf at a -/
def lookC (C : Cn) (O : Ow) (H1 : Hp) (a : Addr) (h : ¬ TX C a) : Cn := ⟨C.T, fun x => (C.P x ∨ ∃ i, O i = some x) ∧ x ≠ a, H1, C.B, fun x q z => ⟨.inl (C.bp x q z), fun e => h (.inr ⟨q, by rw [← e]; exact z⟩)⟩, C.bf, none⟩
def shNow (ρ : List W) (i : Nat) : Option PyData := match (ρ[i]? : Option W) with
  | some (.sh _ now _ _) => some now
  | some (.shR now) => some now
  | _ => none
def eMethR (F : Fn) (i : Nat) (fs : Fa) : Fe := fun ρ n => (fs ρ n).bind fun p => (shNow ρ i).bind fun now => (F (.shR now :: p.1) p.2).bind fun r => r.1.frz.val.map fun x => (.d x, r.2)
theorem shNow_ok {C : Cn} {O : Ow} {K : PySem.W.Frag} {σ : St} {H : Hp} {ρ : List W} {n i : Nat} {now : PyData} {Cl : Addr} (E : EnvOk C O K σ H ρ n) (kk : ShK K Cl) (h : shNow ρ i = some now) :
    ∃ a dx b l vn, σ[i]? = some (some (.ref a)) ∧ H a = some (.ins Cl dx (shF vn b l)) ∧ Dv (Av C O) K H vn now ∧ ¬ TX C a := by
  unfold shNow at h
  split at h
  · rename_i hx
    cases h
    obtain ⟨a, h1, h2, hs, C1, dx, b, l, vn, vb, vl, h0, g1, g2, g3, g4, g5, g6, g7, g8, g9, g10⟩ := E.sl _ _ hx
    have := h0.uniq kk.c
    subst this
    exact ⟨a, dx, b, l, vn, h2, g4, g8, (E.own _ a h1).1⟩
  · rename_i hx
    cases h
    obtain ⟨u, h2, a, C1, dx, b, l, vn, rfl, h3, h0, h4, h5⟩ := E.sl _ _ hx
    have := h0.uniq kk.c
    subst this
    exact ⟨a, dx, b, l, vn, h2, h4, h5, fun z => h3 (Av.t a z)⟩
  · cases h
theorem methR_run {C : Cn} {O : Ow} {K : PySem.W.Frag} {σ : St} {H : Hp} {Q : VK} {ρ : List W} {n n1 k : Nat} {F : Fn} {now : PyData} {Cl : Addr} {a dx b l : Addr} {vn : V} {ws : List W} {vs : List V} {w : W} {x : PyData} {σ0 : St} (E : EnvOk C O K σ H ρ n) (kk : ShK K Cl) (h1 : H a = some (.ins Cl dx (shF vn b l))) (h2 : Dv (Av C O) K H vn now) (h3 : ¬ TX C a)
    (hl : ws.length = k) (ha : ArgsOk (Av C O) C.T K H vs ws) (hf : F (.shR now :: ws) n = some (w, n1)) (hw : w.frz.val = some x)
    (q : ∀ v H', Step C H H' → TownAt C H' n1 → Dv (Av C O) K H' v x → Q v H') : spOf K (k + 1) F (.ref a :: vs) H Q E0 := by
  have av1 : ∀ y, Av (lookC C O H a h3) Ow0 y → Av C O y := by
    rintro y (⟨z | z, _⟩ | z | ⟨i, z⟩)
    · exact .inl z
    · exact .inr (.inr z)
    · exact .inr (.inl z)
    · cases z
  have av2 : ∀ y, Av C O y → Av (lookC C O H a h3) Ow0 y ∨ y = a := by
    intro y z
    by_cases e : y = a
    · exact .inr e
    · refine .inl ?_
      rcases z with z | z | z
      · exact .inl ⟨.inl z, e⟩
      · exact .inr (.inl z)
      · exact .inl ⟨.inr z, e⟩
  have nav : ¬ Av (lookC C O H a h3) Ow0 a := by
    rintro (⟨_, z⟩ | z | ⟨i, z⟩)
    · exact z rfl
    · exact h3 (.inl z)
    · cases z
  refine ⟨lookC C O H a h3, .shR now :: ws, n, w, n1, rfl, fun y z => E.av y (av1 y (.inl z)), E.town, by simp [hl], .cons ⟨a, Cl, dx, b, l, vn, rfl, nav, kk.c, h1, h2.mono fun y u n r => ⟨fun z => n (av1 y z), r⟩⟩ ?_, hf, E.tk, ?_, fun v H2 s2 t2 r2 => ?_⟩
  · refine Paired.impl (fun v w z => ?_) ha
    cases w with
    | d x => exact Dv.mono (fun a u n r => ⟨fun z => n (av1 a z), r⟩) z
    | town => exact z
    | no => exact z
    | ol _ => exact z
    | od _ => exact z
    | oll _ => exact z
    | fn _ => exact FnV.mono z (fun a u n r => ⟨fun z => n (av1 a z), r⟩)
    | shR _ => exact ShV.mono z (fun a u n r => ⟨fun z => n (av1 a z), r⟩)
    | sh _ _ _ _ => exact z
  · exact fun P q h => ⟨(E.tb P q h).1.go (fun _ e => e) fun c n e => ⟨fun z => n (av1 c z), e⟩, fun G _ t => t⟩
  · have s2' : Step C H H2 := ⟨s2.st0, s2.fr, s2.tb⟩
    have r3 : Dv (Av (lookC C O H a h3) Ow0) K H2 v x := (r2.frz fun y z => E.av y (av1 y z)).val hw
    exact q v H2 s2' t2 (Dv.wide av2 (s2'.st _ _ h1 h3) x v r3)
section
variable {X : Cx} {e a b o : Expr} {es : List Expr} {fs : Fa} {i : Nat} {F : Fn} {Cl : Addr} {k j : Nat} {m : Str} {apos pos : Pos} {f : Addr} {fd : FuncData} {ps : List Str} {pl : Sem Bool}
theorem ev_methR (kk : ShK X.K Cl) (he : PE X o (tVar i)) (hm : Meth X.K Cl m f) (G : FnOk X.prog X.w X.K X.mg X.base CX0 j f fd ps (spOf X.K (k + 1) F)) (hr : Room j X.A) (hb : Binds X.K fd ps []) (ha : EvA X (e :: es) fs)
    (hl : (e :: es).length = k := by rfl) (hn : ∀ (vn : V) (b l : Addr), (shF vn b l).lookup m = none := by intros; rfl) (hst : starEach (e :: es) X.env = (false, eval e X.env) :: starEach es X.env := by rfl) (hpl : (backTo pos (starEach es X.env)).any (·.1) = false := by rfl)
    (ht : eval (.Call (.Attribute o m apos) (e :: es) [] pos) X.env = (do
      let ov ← eval o X.env
      standAt apos.atName
      let (f, first) ← holding [ov] (getMethod ov m pl)
      callWith pos f first (backTo pos (starEach (e :: es) X.env)) (backToKw pos (keywordEach [] X.env))) := by rfl) : EvE X (.Call (.Attribute o m apos) (e :: es) [] pos) (eMethR F i fs) := peI (pe_meth (pl := pl) he kk.cls hm G hr hb .nil pass0 ha.pa hst hpl ht) (by
  rintro σ H Q ⟨C, O, ρ, n, w, n', hf, E, q⟩
  unfold eMethR at hf
  obtain ⟨⟨ws, n1⟩, e1, hf⟩ := Option.bind_eq_some_iff.mp hf
  obtain ⟨now, e2, hf⟩ := Option.bind_eq_some_iff.mp hf
  obtain ⟨⟨w2, n2⟩, e3, hf⟩ := Option.bind_eq_some_iff.mp hf
  obtain ⟨x, e4, hf⟩ := Option.map_eq_some_iff.mp hf
  cases hf
  obtain ⟨a, dx, b, l, vn, h1, h2, h3, h4⟩ := shNow_ok E kk e2
  refine ⟨_, h1, a, dx, _, rfl, h2, hn _ _ _, C, O, ρ, n, ws, n1, e1, E, fun vs H1 s t r1 => ?_⟩
  show spOf X.K (k + 1) F (.ref a :: (vs ++ [])) H1 Q E0
  rw [List.append_nil]
  refine methR_run (σ0 := σ) (E.step s t) kk (s.st _ _ h2 h4) (h3.mono (s.keep Av.t)) h4 (by rw [ha.len _ _ _ _ e1, hl]) r1 e3 e4 fun v H2 s2 t2 r2 => ?_
  exact q v H2 (s.trans s2) t2 r2)
theorem ev_methR0 (kk : ShK X.K Cl) (he : PE X o (tVar i)) (hm : Meth X.K Cl m f) (G : FnOk X.prog X.w X.K X.mg X.base CX0 j f fd ps (spOf X.K 1 F)) (hr : Room j X.A) (hb : Binds X.K fd ps [])
    (hn : ∀ (vn : V) (b l : Addr), (shF vn b l).lookup m = none := by intros; rfl)
    (ht : eval (.Call (.Attribute o m apos) [] [] pos) X.env = (do
      let ov ← eval o X.env
      standAt apos.atName
      let (f, first) ← holding [ov] (getMethod ov m pl)
      callWith pos f first (backTo pos (starEach [] X.env)) (backToKw pos (keywordEach [] X.env))) := by rfl) : EvE X (.Call (.Attribute o m apos) [] [] pos) (eMethR F i aNil) := peI (pe_meth0 (pl := pl) he kk.cls hm G hr hb .nil pass0 ht) (by
  rintro σ H Q ⟨C, O, ρ, n, w, n', hf, E, q⟩
  unfold eMethR at hf
  obtain ⟨⟨ws, n1⟩, e1, hf⟩ := Option.bind_eq_some_iff.mp hf
  cases e1
  obtain ⟨now, e2, hf⟩ := Option.bind_eq_some_iff.mp hf
  obtain ⟨⟨w2, n2⟩, e3, hf⟩ := Option.bind_eq_some_iff.mp hf
  obtain ⟨x, e4, hf⟩ := Option.map_eq_some_iff.mp hf
  cases hf
  obtain ⟨a, dx, b, l, vn, h1, h2, h3, h4⟩ := shNow_ok E kk e2
  refine ⟨_, h1, a, dx, _, rfl, h2, hn _ _ _, ?_⟩
  exact methR_run (σ0 := σ) E kk h2 h3 h4 rfl .nil e3 e4 fun v H2 s2 t2 r2 => q v H2 s2 t2 r2)
end
/-! ### a new shelf -/
def spInit (K : PySem.W.Frag) (Cl : Addr) : Sp := fun vs H Q E => ∃ (x dx : Addr) (v : V), vs = [.ref x, v] ∧ H x = some (.ins Cl dx []) ∧
  ∀ p q b l op oq H', H p = none → H q = none → H b = none → H l = none → p ≠ q → b ≠ p → b ≠ q → l ≠ p → l ≠ q → l ≠ b → op.dict = none → oq.dict = none →
    H' x = some (.ins Cl dx (shF (.ref p) b l)) → H' p = some (.frz op (.tup [v, .ref q])) → H' q = some (.frz oq (.tup [])) → H' b = some (.lst []) → H' l = some (.lst []) →
    (∀ c o, H c = some o → c ≠ x → H' c = some o) → (∀ c, H' c = none → H c = none) → Q .non H'
theorem spInit.len {K : PySem.W.Frag} {Cl : Addr} : ∀ vs H Q E, spInit K Cl vs H Q E → vs.length = 2 := by
  rintro vs H Q E ⟨x, dx, v, rfl, _⟩
  rfl
theorem init_ok {P : Program} {w : World} {K : PySem.W.Frag} {mg : Str → Option Value} {base : Heap} {x qual : Str} {st : Stmt} {f Cl : Addr} {fd : FuncData} {o1 o2 o3 : Expr} {rp p1 p2 p3 q1 q2 q3 t1 t2 l1 l2 : Pos} {k1 k2 : Nat} {y1 y2 y3 : Str} (F : Fun K x qual st f fd) (S : FnScope [y1, y2] [y1, y2] (defScope st)) (kk : ShK K Cl)
    (hb : defBody st = [.Assign [.Attribute o1 "now" p1] (.Tuple [.Name y3 rp, .Tuple [] k1 t1] k2 t2) q1, .Assign [.Attribute o2 "before" p2] (.List [] l1) q2, .Assign [.Attribute o3 "later" p3] (.List [] l2) q3])
    (h : ∀ (cdv : Value) (A : Around) (outer : List Env) (s : Shared) (H : Hp) (E : XK), PE (cxOf CX0 P w K mg base [y1, y2] qual (defScope st) f cdv A outer s H E).nox o1 (tVar 0) ∧ PE (cxOf CX0 P w K mg base [y1, y2] qual (defScope st) f cdv A outer s H E).nox o2 (tVar 0) ∧ PE (cxOf CX0 P w K mg base [y1, y2] qual (defScope st) f cdv A outer s H E).nox o3 (tVar 0) ∧ PE (cxOf CX0 P w K mg base [y1, y2] qual (defScope st) f cdv A outer s H E).nox (.Name y3 rp) (tVar 1))
    (hs1 : ∀ env : Env, swapsWith (.Tuple [.Name y3 rp, .Tuple [] k1 t1] k2 t2) (some (.Attribute o1 "now" p1)) q1.line env = pure false := by intro _; rfl)
    (hs2 : ∀ env : Env, swapsWith (.List [] l1) (some (.Attribute o2 "before" p2)) q2.line env = pure false := by intro _; rfl)
    (hs3 : ∀ env : Env, swapsWith (.List [] l2) (some (.Attribute o3 "later" p3)) q3.line env = pure false := by intro _; rfl) : FnOk P w K mg base CX0 1 f fd [y1, y2] (spInit K Cl) := by
  refine F.ok S spInit.len fun cdv A outer s H vs Q E hr hsp => ?_
  rw [hb]
  obtain ⟨g1, g2, g3, g4⟩ := h cdv A outer s H E
  refine ⟨_, pss_cons (ps_fld g1 (pe_tupF (pa_cons g4 (pa_cons (pe_tupF pa_nil) pa_nil))) (hs1 _)) (pss_cons (ps_fld g2 (pe_lst pa_nil) (hs2 _)) (pss_one (ps_fld g3 (pe_lst pa_nil) (hs3 _)))), ?_⟩
  obtain ⟨x, dx, v, rfl, hx, q⟩ := hsp
  refine ⟨v, rfl, by decide, fun aq oq hoq hq => ⟨(by show 2 ≤ sizeLine; decide), fun ap op hop hp => ?_⟩⟩
  have nxq : x ≠ aq := ne_of_none hx hq
  have nqp : aq ≠ ap := fun z => by rw [z, upd_same] at hp; cases hp
  have hp0 : H ap = none := by rw [upd_ne (Ne.symm nqp)] at hp; exact hp
  have nxp : x ≠ ap := ne_of_none hx hp0
  refine ⟨_, rfl, x, Cl, dx, [], rfl, by rw [upd_ne nxp, upd_ne nxq]; exact hx, kk.cls, kk.now, by decide, ?_⟩
  refine ⟨by decide, fun b hbn => ?_⟩
  have nbx : b ≠ x := fun z => by rw [z, upd_same] at hbn; cases hbn
  rw [upd_ne nbx] at hbn
  have nbp : b ≠ ap := fun z => by rw [z, upd_same] at hbn; cases hbn
  rw [upd_ne nbp] at hbn
  have nbq : b ≠ aq := fun z => by rw [z, upd_same] at hbn; cases hbn
  rw [upd_ne nbq] at hbn
  refine ⟨_, rfl, x, Cl, dx, _, rfl, by rw [upd_ne (Ne.symm nbx)]; exact upd_same, kk.cls, kk.bef, (by show ([_] : List (Str × V)).length < 1000; simp), ?_⟩
  refine ⟨by decide, fun l hln => ?_⟩
  have nlx : l ≠ x := fun z => by rw [z, upd_same] at hln; cases hln
  rw [upd_ne nlx] at hln
  have nlb : l ≠ b := fun z => by rw [z, upd_same] at hln; cases hln
  rw [upd_ne nlb, upd_ne nlx] at hln
  have nlp : l ≠ ap := fun z => by rw [z, upd_same] at hln; cases hln
  rw [upd_ne nlp] at hln
  have nlq : l ≠ aq := fun z => by rw [z, upd_same] at hln; cases hln
  rw [upd_ne nlq] at hln
  refine ⟨_, rfl, x, Cl, dx, _, rfl, by rw [upd_ne (Ne.symm nlx)]; exact upd_same, kk.cls, kk.lat, (by show ([_, _] : List (Str × V)).length < 1000; simp), ?_⟩
  refine q ap aq b l op oq _ hp0 hq hbn hln (Ne.symm nqp) nbp nbq nlp nlq nlb hop hoq upd_same ?_ ?_ ?_ ?_ (fun c o e ne => ?_) fun c e => ?_
  · rw [upd_ne (Ne.symm nxp), upd_ne (Ne.symm nlp), upd_ne (Ne.symm nxp), upd_ne (Ne.symm nbp), upd_ne (Ne.symm nxp), upd_same]
  · rw [upd_ne (Ne.symm nxq), upd_ne (Ne.symm nlq), upd_ne (Ne.symm nxq), upd_ne (Ne.symm nbq), upd_ne (Ne.symm nxq), upd_ne nqp, upd_same]
  · rw [upd_ne nbx, upd_ne (Ne.symm nlb), upd_ne nbx, upd_same]
  · rw [upd_ne nlx, upd_same]
  · rw [upd_ne ne, upd_ne (ne_of_none e hln), upd_ne ne, upd_ne (ne_of_none e hbn), upd_ne ne, upd_ne (ne_of_none e hp0), upd_ne (ne_of_none e hq)]
    exact e
  · by_cases z1 : c = x
    · rw [z1, upd_same] at e; cases e
    by_cases z2 : c = l
    · rw [z2]; exact hln
    by_cases z3 : c = b
    · rw [z3]; exact hbn
    by_cases z4 : c = ap
    · rw [z4]; exact hp0
    by_cases z5 : c = aq
    · rw [z5]; exact hq
    rw [upd_ne z1, upd_ne z2, upd_ne z1, upd_ne z3, upd_ne z1, upd_ne z4, upd_ne z5] at e
    exact e
/-- a shelf was made -/
structure MadeSh (Cl : Addr) (H H2 : Hp) (x dx : Addr) (v : V) (p q b l : Addr) (op oq : Obj) : Prop where
  hx : H x = none
  hdx : H dx = none
  ndx : dx ≠ x
  hp : H p = none
  hq : H q = none
  hb : H b = none
  hl : H l = none
  npx : p ≠ x
  npd : p ≠ dx
  nqx : q ≠ x
  nqd : q ≠ dx
  nbx : b ≠ x
  nbd : b ≠ dx
  nlx : l ≠ x
  nld : l ≠ dx
  npb : b ≠ p
  nqb : b ≠ q
  npl : l ≠ p
  nql : l ≠ q
  nlb : l ≠ b
  dp : op.dict = none
  dq : oq.dict = none
  x2 : H2 x = some (.ins Cl dx (shF (.ref p) b l))
  dx2 : H2 dx = some (.own x)
  p2 : H2 p = some (.frz op (.tup [v, .ref q]))
  q2 : H2 q = some (.frz oq (.tup []))
  b2 : H2 b = some (.lst [])
  l2 : H2 l = some (.lst [])
  gr : Grow H H2
  fr : ∀ c, H2 c = none → H c = none
theorem spInit_of {K : PySem.W.Frag} {Cl x dx : Addr} {H : Hp} {v : V} {Q : VK} {E : XK} (hx : H x = none) (hdx : H dx = none) (nd : dx ≠ x) (h : ∀ p q b l op oq H2, MadeSh Cl H H2 x dx v p q b l op oq → Q .non H2) :
    spInit K Cl [.ref x, v] (upd (upd H dx (.own x)) x (.ins Cl dx [])) Q E := by
  have at_ : ∀ c, upd (upd H dx (.own x)) x (.ins Cl dx []) c = none → H c = none ∧ c ≠ x ∧ c ≠ dx := fun c e => by
    by_cases z1 : c = x
    · rw [z1, upd_same] at e; cases e
    by_cases z2 : c = dx
    · rw [z2, upd_ne nd, upd_same] at e; cases e
    rw [upd_ne z1, upd_ne z2] at e
    exact ⟨e, z1, z2⟩
  refine ⟨x, dx, v, rfl, upd_same, fun p q b l op oq H' hp hq hb hl npq nbp nbq nlp nlq nlb dp dq x2 p2 q2 b2 l2 st fr => ?_⟩
  obtain ⟨hp, npx, npd⟩ := at_ p hp
  obtain ⟨hq, nqx, nqd⟩ := at_ q hq
  obtain ⟨hb, nbx, nbd⟩ := at_ b hb
  obtain ⟨hl, nlx, nld⟩ := at_ l hl
  refine h p q b l op oq H' ⟨hx, hdx, nd, hp, hq, hb, hl, npx, npd, nqx, nqd, nbx, nbd, nlx, nld, nbp, nbq, nlp, nlq, nlb, dp, dq, x2, st _ _ (by rw [upd_ne nd, upd_same]) nd, p2, q2, b2, l2, fun c o e => ?_, fun c e => (at_ c (fr c e)).1⟩
  exact st c o (by rw [upd_ne (ne_of_none e hx), upd_ne (ne_of_none e hdx)]; exact e) (ne_of_none e hx)
def fourP (x dx b l : Addr) : Ow := fun j => if j = 0 then some x else if j = 1 then some dx else if j = 2 then some b else some l
abbrev newS (row : PyData) : W := .sh false (.tuple [row, .tuple []]) [] []
section
variable {C : Cn} {O : Ow} {K : PySem.W.Frag} {σ : St} {H H2 : Hp} {ρ : List W} {n i : Nat} {Cl x dx p q b l : Addr} {op oq : Obj} {v : V} {row : PyData}
theorem codeO_ins {c : Addr} {q : Str} {Cl dx : Addr} {fs : List (Str × V)} : HO.ins Cl dx fs ≠ LamX.CodeO c q := fun z => by unfold LamX.CodeO at z; cases z
theorem codeO_own {c : Addr} {q : Str} {x : Addr} : HO.own x ≠ LamX.CodeO c q := fun z => by unfold LamX.CodeO at z; cases z
theorem EnvOk.newShA (E : EnvOk C O K σ H ρ n) (kk : ShK K Cl) (hi : i < ρ.length) (m : MadeSh Cl H H2 x dx v p q b l op oq) (rv : Dv (Av C O) K H v row) :
    ∃ O', EnvOk C O' K σ H2 (ρ.set i .no) n ∧ StepS C O O' H H2 ∧ O' i = some x ∧ ShAt (Av C O') K H2 (hid O' ρ.length i) x (.tuple [row, .tuple []]) [] [] ∧ ∀ k, ¬ InSlot ρ.length i k → O' k = O k := by
  have hq : PlQ (slQ ρ.length i) := slQ_ok hi
  have Ed := E.dropS i
  have s : Step C H H2 := m.gr.step
  have cs : ∀ k y, owBack Ow0 (slQ ρ.length i) (fourP x dx b l) k = some y → ∃ j, j < 4 ∧ k = slQ ρ.length i j ∧ fourP x dx b l j = some y := fun k y h => by
    rcases owBack_cases (O := Ow0) (P := fourP x dx b l) hq k with ⟨j, h1, h2, h3⟩ | ⟨h1, h2⟩
    · rw [h3] at h; exact ⟨j, h1, h2, h⟩
    · rw [h2] at h; cases h
  have four : ∀ j y, j < 4 → fourP x dx b l j = some y → (j = 0 ∧ y = x) ∨ (j = 1 ∧ y = dx) ∨ (j = 2 ∧ y = b) ∨ (j = 3 ∧ y = l) := fun j y hj h => by
    match j, hj with
    | 0, _ => cases h; exact .inl ⟨rfl, rfl⟩
    | 1, _ => cases h; exact .inr (.inl ⟨rfl, rfl⟩)
    | 2, _ => cases h; exact .inr (.inr (.inl ⟨rfl, rfl⟩))
    | 3, _ => cases h; exact .inr (.inr (.inr ⟨rfl, rfl⟩))
  obtain ⟨E1, s1⟩ := Ed.adopt (i := i) (ps := owBack Ow0 (slQ ρ.length i) (fourP x dx b l)) s (m.gr.town E.town) (List.getElem?_set_self hi) (fun k y h => by
    obtain ⟨j, h1, h2, h3⟩ := cs k y h
    refine ⟨by rw [List.length_set, h2]; exact slQ_in j h1, ?_⟩
    rcases four j y h1 h3 with ⟨_, rfl⟩ | ⟨_, rfl⟩ | ⟨_, rfl⟩ | ⟨_, rfl⟩
    · exact ⟨m.hx, _, m.x2, fun _ => codeO_ins⟩
    · exact ⟨m.hdx, _, m.dx2, fun _ => codeO_own⟩
    · exact ⟨m.hb, _, m.b2, fun _ => codeO_lst⟩
    · exact ⟨m.hl, _, m.l2, fun _ => codeO_lst⟩) (fun j k y h1 h2 => by
    obtain ⟨j1, a1, b1, c1⟩ := cs j y h1
    obtain ⟨j2, a2, b2, c2⟩ := cs k y h2
    have : j1 = j2 := by
      have d1 := m.ndx
      have d2 := m.nbx
      have d3 := m.nbd
      have d4 := m.nlx
      have d5 := m.nld
      have d6 := m.nlb
      rcases four j1 y a1 c1 with ⟨e, z⟩ | ⟨e, z⟩ | ⟨e, z⟩ | ⟨e, z⟩ <;> rcases four j2 y a2 c2 with ⟨e', z'⟩ | ⟨e', z'⟩ | ⟨e', z'⟩ | ⟨e', z'⟩ <;> first
        | exact e.trans e'.symm
        | (exact absurd (z.symm.trans z') (by assumption))
        | (exact absurd (z'.symm.trans z) (by assumption))
    rw [b1, b2, this])
  have atq : ∀ j, j < 4 → owAdd O (owBack Ow0 (slQ ρ.length i) (fourP x dx b l)) (slQ ρ.length i j) = fourP x dx b l j := fun j hj => by
    have e := owBack_at (O := Ow0) (P := fourP x dx b l) hq hj
    cases z : fourP x dx b l j with
    | none => unfold fourP at z; split at z <;> (try split at z) <;> (try split at z) <;> cases z
    | some y => exact owAdd_some (e.trans z)
  refine ⟨_, E1, s1, atq 0 (by omega), ⟨Cl, dx, b, l, .ref p, [], [], kk.c, ?_, ?_, ?_, m.x2, m.dx2, m.b2, m.l2, ?_, .nil, .nil⟩, fun k hk => owAdd_none ?_⟩
  · exact (congrFun (slQ_hid (O := owAdd O (owBack Ow0 (slQ ρ.length i) (fourP x dx b l))) (l := ρ.length) (i := i)) 0).symm.trans (atq 1 (by omega))
  · exact (congrFun (slQ_hid (O := owAdd O (owBack Ow0 (slQ ρ.length i) (fourP x dx b l))) (l := ρ.length) (i := i)) 1).symm.trans (atq 2 (by omega))
  · exact (congrFun (slQ_hid (O := owAdd O (owBack Ow0 (slQ ρ.length i) (fourP x dx b l))) (l := ρ.length) (i := i)) 2).symm.trans (atq 3 (by omega))
  · have nav : ∀ y, H y = none → y ≠ x → y ≠ dx → y ≠ b → y ≠ l → ¬ Av C (owAdd O (owBack Ow0 (slQ ρ.length i) (fourP x dx b l))) y := by
      rintro y h n1 n2 n3 n4 (z | z | ⟨k, z⟩)
      · exact E.ptr y z h
      · exact E.tr y z h
      · rcases owAdd_cases z with z | ⟨_, z⟩
        · obtain ⟨j, h1, h2, h3⟩ := cs k y z
          rcases four j y h1 h3 with ⟨_, e⟩ | ⟨_, e⟩ | ⟨_, e⟩ | ⟨_, e⟩
          · exact n1 e
          · exact n2 e
          · exact n3 e
          · exact n4 e
        · exact (E.own k y z).2.2 h
    refine .tup (.inl ⟨nav p m.hp m.npx m.npd (Ne.symm m.npb) (Ne.symm m.npl), op, m.p2, m.dp⟩) (.cons (rv.mono s1.keep) (.cons ?_ .nil))
    exact .tup (.inl ⟨nav q m.hq m.nqx m.nqd (Ne.symm m.nqb) (Ne.symm m.nql), oq, m.q2, m.dq⟩) .nil
  · refine (owBack_of fun j hj e => hk (by rw [e]; exact slQ_in j hj)).trans rfl
theorem EnvOk.newSh (E : EnvOk C O K σ H ρ n) (kk : ShK K Cl) (hi : i < ρ.length) (m : MadeSh Cl H H2 x dx v p q b l op oq) (rv : Dv (Av C O) K H v row) :
    ∃ O', EnvOk C O' K (σ.set i (some (.ref x))) H2 (ρ.set i (newS row)) n ∧ StepS C O O' H H2 := by
  obtain ⟨O', E1, s1, h1, h2, _⟩ := E.newShA kk hi m rv
  have E2 := E1.setNo i (.ref x)
  rw [List.set_set] at E2
  have hσ : i < σ.length := by rw [← E.len]; exact hi
  have E3 := E2.reslot (w' := newS row) (List.getElem?_set_self hi) fun _ => ⟨x, h1, by rw [List.getElem?_set_self hσ], fun z => (nomatch z), by rw [List.length_set]; exact h2⟩
  rw [List.set_set] at E3
  exact ⟨O', E3, s1⟩
end
def sMakeSh (i : Nat) (f : Fe) : Fs := fun ρ n => (f ρ n).bind fun p => p.1.frz.val.bind fun row => if i < ρ.length then some (.nx (ρ.set i (newS row)) p.2) else none
section
variable {X : Cx} {e e2 : Expr} {f f2 : Fe} {i j : Nat} {Cl : Addr} {pos p2 p3 : Pos}
theorem ss_make {k l : Nat} {fi : Addr} {fd : FuncData} {ps : List Str} {x xs : Str} {pos' : Pos} (kk : ShK X.K Cl) (M : Mk X.K Cl fi) (G : FnOk X.prog X.w X.K X.mg X.base CX0 k fi fd ps (spInit X.K Cl)) (hr : Room l X.A) (hkl : k + 1 ≤ l) (hg : Gl X xs) (hm : X.mg xs = some (.ref Cl)) (hb : Binds X.K fd ps [])
    (hN : X.N.Nodup) (hi : X.N[i]? = some x) (hx : Loc X.env.scope x) (ha : EvE X e f) (hdb : (xs == ("__debug__" : Str)) = false := by decide) (he : starEach (e :: []) X.env = (false, eval e X.env) :: starEach [] X.env := by rfl)
    (hs : swapsWith (.Call (.Name xs p2) [e] [] p3) (some (.Name x pos')) pos.line X.env = pure false := by rfl) (hf : X.fn x = true ∨ X.env.scope.names.lookup x = some .local := by first | exact .inl rfl | exact .inr rfl) :
    EvS X (.Assign [.Name x pos'] (.Call (.Name xs p2) [e] [] p3) pos) (sMakeSh i f) := psI (ps_set hN hi hx (pe_make M G (hr.mono hkl) hg hm hb .nil pass0 (pa_cons ha pa_nil he) hdb he) hs hf) (by
  rintro D σ H ⟨C, O, ρ, n, out, hf, E, np, q⟩
  unfold sMakeSh at hf
  obtain ⟨⟨w, n1⟩, e1, hf⟩ := Option.bind_eq_some_iff.mp hf
  obtain ⟨row, e3, hf⟩ := Option.bind_eq_some_iff.mp hf
  simp only at hf
  split at hf
  · rename_i hil
    cases hf
    refine ⟨C, O, ρ, n, w, n1, e1, E, fun v H1 s t r => fun x dx hx hdx nd => ?_⟩
    show spInit X.K Cl [.ref x, v] _ _ _
    refine spInit_of hx hdx nd fun p q' b l op oq H2 m => ⟨rfl, ?_⟩
    obtain ⟨O', E', s'⟩ := (E.step s t).newSh kk hil m ((r.frz E.av).val e3)
    exact q O' _ H2 (s.stepS0.trans s') E'
  · cases hf)
end
/-- a method, as it stands in the class -/
structure DM (K : PySem.W.Frag) (C : Addr) (m qual : Str) (st : Stmt) (ps : List Str) where
  f : Addr
  fd : FuncData
  F : Fun K m qual st f fd
  b : Binds K fd ps []
  g : Meth K C m f
end L2.Lv
namespace L2.Lv
open PySem PySem.Spec PyProof.Rows
/-! ### try with several clauses, in a def that may raise -/
section
variable {X : Cx} {cls : Nat → Addr} {Vx : WX} {e e0 a b o : Expr} {es : List Expr} {fs : Fa} {i : Nat} {F : Fny} {fy : Fyx} {pos : Pos} {st : Stmt} {sts sts' rest : List Stmt} {r r1 r2 : Fsx} {g : Fs}
/-! ### while, its test changes a shelf -/
/-! ### two new shelves -/
end
end L2.Lv
namespace L2.Lv.Sh
open PySem PySem.Spec PyProof.Rows L2 L2.Lv
def b__law_same (m : Fn) : Fs :=
    (sSeq (sIf (bTest (eBin dIsN (dVar 1) (dOf (eC .none))))
    (sRet (eBin dIsN (dVar 0) (dOf (eC .none))))
    sNil')
    (sSeq (sIf (bTru (dOf (eIsa "bool" (dVar 1))))
    (sRet (eAnd (eIsa "bool" (dVar 0)) (eBin dEq (dVar 0) (dVar 1))))
    sNil')
    (sSeq (sIf (bTru (dOf (eIsa "tuple" (dVar 1))))
    (sSeq (sIf (bOr (bNot (bTru (dOf (eIsa "tuple" (dVar 0))))) (bTest (eBin dNe (dOf (eApp gLen (sCons (dVar 0) sNil))) (dOf (eApp gLen (sCons (dVar 1) sNil))))))
    (sRet (eC (.bool false)))
    sNil')
    (sRet (eApp gAll (sCons (dOf (eComp (iZipV (dVar 0) (dVar 1)) (gMany [2, 3]) [2, 3] bYes (eCall m (aCons (eVar 2) (aCons (eVar 3) aNil))))) sNil))))
    sNil')
    (sSeq (sIf (bTru (dOf (eIsa "str" (dVar 1))))
    (sRet (eAnd (eIsa "str" (dVar 0)) (eBin dEq (dVar 0) (dVar 1))))
    sNil')
    (sRet (eAnd (eIsa "int" (dVar 0)) (eAnd (eNotD (dOf (eIsa "bool" (dVar 0)))) (eBin dEq (dVar 0) (dVar 1)))))))))
def m__law_same_ : Nat → Fn
  | 0 => fun _ _ => none
  | k + 1 => runB 4 (b__law_same (m__law_same_ k))
def m__law_same : Fn := m__law_same_ 12
def b__law_draw : Fs :=
    (sSeq (sTown 1)
    (sSeq (sSet 3 (eTLen 1))
    (sSeq (sSet 4 (eC (.int 0)))
    (sSeq (sIf (bTru (dVar 0))
    (sSet 4 (eBin dIx (dVar 0) (dOf (eBin dMod (dVar 3) (dOf (eApp gLen (sCons (dVar 0) sNil)))))))
    sNil')
    (sSeq (sSet 5 (eBin dMod (dOf (eBin dAdd (dVar 4) (dOf (eBin dMul (dOf (eC (.int 104729))) (dVar 3))))) (dOf (eC (.int 4294967291)))))
    (sSeq (sSet 5 (eBin dMod (dOf (eBin dMul (dOf (eBin dMod (dOf (eBin dMul (dVar 5) (dVar 5))) (dOf (eC (.int 4294967279))))) (dOf (eC (.int 48271))))) (dOf (eC (.int 4294967291)))))
    (sRet (eBin dMod (dOf (eBin dDiv (dVar 5) (dOf (eC (.int 64))))) (dVar 2)))))))))
def m__law_draw : Fn := runB 6 b__law_draw
def b__law_pick : Fs :=
    (sRet (eBin dIx (dVar 2) (dOf (eCall m__law_draw (aCons (eVar 0) (aCons (eVar 1) (aCons (eApp gLen (sCons (dVar 2) sNil)) aNil)))))))
def m__law_pick : Fn := runB 3 b__law_pick
def l__law_plain_1 : Fs :=
    (sSeq (sSet 6 (eCall m__law_draw (aCons (eVar 0) (aCons (eVar 1) (aCons (eC (.int 6)) aNil)))))
    (sIf (bTest (eBin dNotIn (dVar 6) (dVar 4)))
    (sSet 4 (eFrz (eBin dAdd (dVar 4) (dOf (eTup (aCons (eVar 6) aNil))))))
    sNil'))
def b__law_plain : Fs :=
    (sSeq (sSet 2 (eCall m__law_draw (aCons (eVar 0) (aCons (eVar 1) (aCons (eC (.int 9)) aNil)))))
    (sSeq (sSet 3 (eCall m__law_draw (aCons (eVar 0) (aCons (eVar 1) (aCons (eC (.int 3)) aNil)))))
    (sSeq (sIf (bTest (eBin (dCmp rLt zLt) (dVar 2) (dOf (eC (.int 2)))))
    (sRet (eTup (aCons (eC (.str "up")) (aCons (eVar 3) aNil))))
    sNil')
    (sSeq (sIf (bTest (eBin (dCmp rLt zLt) (dVar 2) (dOf (eC (.int 4)))))
    (sRet (eTup (aCons (eBin dIx (dOf (eLst (aCons (eC (.str "part")) (aCons (eC (.str "rest")) aNil)))) (dOf (eBin dSub (dVar 2) (dOf (eC (.int 2)))))) (aCons (eVar 3) (aCons (eBin dAdd (dOf (eC (.int 2))) (dOf (eCall m__law_draw (aCons (eVar 0) (aCons (eVar 1) (aCons (eC (.int 2)) aNil)))))) aNil)))))
    sNil')
    (sSeq (sIf (bTest (eBin (dCmp rLt zLt) (dVar 2) (dOf (eC (.int 6)))))
    (sSeq (sSet 4 (eTup aNil))
    (sSeq (sFor (iRng1 (dOf (eBin dAdd (dOf (eC (.int 1))) (dOf (eCall m__law_draw (aCons (eVar 0) (aCons (eVar 1) (aCons (eC (.int 4)) aNil)))))))) (gOne 5)
    l__law_plain_1)
    (sRet (eIf (bTest (eBin dEq (dVar 2) (dOf (eC (.int 4))))) (eTup (aCons (eC (.str "table")) (aCons (eVar 3) (aCons (eVar 4) aNil)))) (eTup (aCons (eC (.str "among")) (aCons (eVar 3) (aCons (eApp gTup (sCons (dOf (eApp gSorted (sCons (dVar 4) sNil))) sNil)) aNil))))))))
    sNil')
    (sSeq (sSet 7 (eFrz (eCall m__law_pick (aCons (eVar 0) (aCons (eVar 1) (aCons (eLst (aCons (eTup (aCons (eC (.int 0)) (aCons (eC (.int 1)) aNil))) (aCons (eTup (aCons (eC (.int 0)) (aCons (eC (.int 2)) aNil))) (aCons (eTup (aCons (eC (.int 1)) (aCons (eC (.int 2)) aNil))) aNil)))) aNil))))))
    (sRet (eBin dAdd (dOf (eTup (aCons (eBin dIx (dOf (eLst (aCons (eC (.str "sum")) (aCons (eC (.str "gap")) (aCons (eC (.str "most")) aNil))))) (dOf (eBin dSub (dVar 2) (dOf (eC (.int 6)))))) aNil))) (dVar 7)))))))))
def m__law_plain : Fn := runB 8 b__law_plain
def b__law_key : Fs :=
    (sSeq (sSet 2 (eFrz (eCall m__law_plain (aCons (eVar 0) (aCons (eVar 1) aNil)))))
    (sRet (eIf (bTest (eBin dEq (dOf (eCall m__law_draw (aCons (eVar 0) (aCons (eVar 1) (aCons (eC (.int 3)) aNil))))) (dOf (eC (.int 0))))) (eTup (aCons (eC (.str "down")) (aCons (eVar 2) aNil))) (eVar 2))))
def m__law_key : Fn := runB 3 b__law_key
def b__law_keys : Fs :=
    (sRet (eApp gTup (sCons (dOf (eComp (iRng1 (dOf (eCall m__law_draw (aCons (eVar 0) (aCons (eVar 1) (aCons (eBin dAdd (dVar 2) (dOf (eC (.int 1)))) aNil)))))) (gOne 3) [3] bYes (eCall m__law_key (aCons (eVar 0) (aCons (eVar 1) aNil))))) sNil)))
def m__law_keys : Fn := runB 4 b__law_keys
def b__law_thing : Fs :=
    (sRet (eTup (aCons (eCall m__law_draw (aCons (eVar 0) (aCons (eVar 1) (aCons (eC (.int 6)) aNil)))) (aCons (eCall m__law_draw (aCons (eVar 0) (aCons (eVar 1) (aCons (eC (.int 6)) aNil)))) (aCons (eCall m__law_draw (aCons (eVar 0) (aCons (eVar 1) (aCons (eC (.int 6)) aNil)))) aNil)))))
def m__law_thing : Fn := runB 2 b__law_thing
def b__law_whole : Fs :=
    (sRet (eAnd (eIsa "int" (dVar 0)) (eAnd (eNotD (dOf (eIsa "bool" (dVar 0)))) (eChain (dCmp rLe zLe) (dCmp rLe zLe) (dVar 1) (dVar 0) (dVar 2)))))
def m__law_whole : Fn := runB 3 b__law_whole
-- l__law_is_plain_1: head 0:_law_thing_here 1:_law_seen of 3
def l__law_is_plain_1 : Fs :=
    (sSeq (sIf (bOr (bNot (bTru (dOf (eCall m__law_whole (aCons (eVar 2) (aCons (eC (.int 0)) (aCons (eC (.int 5)) aNil))))))) (bOr (bTest (eBin dIn (dVar 2) (dVar 1))) (bAnd (bTest (eBin dEq (dOf (eBin dIx (dVar 0) (dOf (eC (.int 0))))) (dOf (eC (.str "among"))))) (bAnd (bTru (dVar 1)) (bTest (eBin (dCmp rLt zLt) (dVar 2) (dOf (eBin dIx (dVar 1) (dOf (eUn dNeg (dOf (eC (.int 1)))))))))))))
    (sRet (eC (.bool false)))
    sNil')
    (sEnd [2] (sApp 1 (eVar 2))))
def b_worth (m : Fn) : Fs :=
    (sSeq (sSet 2 (eBin dIx (dVar 0) (dOf (eC (.int 0)))))
    (sSeq (sIf (bTest (eBin dEq (dVar 2) (dOf (eC (.str "down")))))
    (sRet (eBin dSub (dOf (eC (.int 0))) (dOf (eCall m (aCons (eBin dIx (dVar 0) (dOf (eC (.int 1)))) (aCons (eVar 1) aNil))))))
    sNil')
    (sSeq (sSet 3 (eBin dIx (dVar 1) (dOf (eBin dIx (dVar 0) (dOf (eC (.int 1)))))))
    (sSeq (sIf (bTest (eBin dEq (dVar 2) (dOf (eC (.str "up")))))
    (sRet (eVar 3))
    sNil')
    (sSeq (sIf (bTest (eBin dEq (dVar 2) (dOf (eC (.str "part")))))
    (sRet (eBin dDiv (dVar 3) (dOf (eBin dIx (dVar 0) (dOf (eC (.int 2)))))))
    sNil')
    (sSeq (sIf (bTest (eBin dEq (dVar 2) (dOf (eC (.str "rest")))))
    (sRet (eBin dMod (dVar 3) (dOf (eBin dIx (dVar 0) (dOf (eC (.int 2)))))))
    sNil')
    (sSeq (sIf (bTest (eBin dEq (dVar 2) (dOf (eC (.str "table")))))
    (sRet (eIf (bTest (eBin dIn (dVar 3) (dOf (eBin dIx (dVar 0) (dOf (eC (.int 2))))))) (eMt isTupD gIndexT (dOf (eBin dIx (dVar 0) (dOf (eC (.int 2))))) (sCons (dVar 3) sNil)) (eApp gLen (sCons (dOf (eBin dIx (dVar 0) (dOf (eC (.int 2))))) sNil))))
    sNil')
    (sSeq (sIf (bTest (eBin dEq (dVar 2) (dOf (eC (.str "among")))))
    (sRet (eApp gInt (sCons (dOf (eBin dNotIn (dVar 3) (dOf (eBin dIx (dVar 0) (dOf (eC (.int 2))))))) sNil)))
    sNil')
    (sSeq (sSet 4 (eBin dIx (dVar 1) (dOf (eBin dIx (dVar 0) (dOf (eC (.int 2)))))))
    (sSeq (sIf (bTest (eBin dEq (dVar 2) (dOf (eC (.str "sum")))))
    (sRet (eBin dAdd (dVar 3) (dVar 4)))
    sNil')
    (sSeq (sIf (bTest (eBin dEq (dVar 2) (dOf (eC (.str "gap")))))
    (sRet (eApp gAbs (sCons (dOf (eBin dSub (dVar 3) (dVar 4))) sNil)))
    sNil')
    (sRet (eApp gMax2 (sCons (dVar 3) (sCons (dVar 4) sNil)))))))))))))))
def m_worth_ : Nat → Fn
  | 0 => fun _ _ => none
  | k + 1 => runB 5 (b_worth (m_worth_ k))
def m_worth : Fn := m_worth_ 4
def b_worths : Fs :=
    (sRet (eApp gTup (sCons (dOf (eComp (iOf (dVar 0)) (gOne 2) [2] bYes (eCall m_worth (aCons (eVar 2) (aCons (eVar 1) aNil))))) sNil)))
def m_worths : Fn := runB 3 b_worths
def b_told : Fs :=
    (sSeq (sSet 3 (eFrz (eCall m_worths (aCons (eVar 0) (aCons (eVar 1) aNil)))))
    (sSeq (sSet 4 (eFrz (eCall m_worths (aCons (eVar 0) (aCons (eVar 2) aNil)))))
    (sRet (eBin dSub (dOf (eApp gInt (sCons (dOf (eBin (dCmp rGt zGt) (dVar 3) (dVar 4))) sNil))) (dOf (eApp gInt (sCons (dOf (eBin (dCmp rLt zLt) (dVar 3) (dVar 4))) sNil)))))))
def m_told : Fn := runB 5 b_told
def l_all_things_2 : Fs :=
    (sExt 1 (eComp (iOf (dVar 0)) (gOne 4) [4] bYes (eTup (aCons (eVar 2) (aCons (eVar 3) (aCons (eVar 4) aNil))))))
def l_all_things_1 : Fs :=
    (sFor (iVal (eVar 0)) (gOne 3)
    l_all_things_2)
def b_all_things : Fs :=
    (sSeq (sSet 0 (eFrz (eListRg1 (dOf (eBin dAdd (dOf (eC (.int 5))) (dOf (eC (.int 1))))))))
    (sSeq (sSet 1 (eLst aNil))
    (sSeq (sFor (iVal (eVar 0)) (gOne 2)
    l_all_things_1)
    (sRet (eApp gTup (sCons (dVar 1) sNil))))))
def m_all_things : Fn := runB 5 b_all_things
def b__law_worth (m : Fn) : Fs :=
    (sSeq (sIf (bTest (eBin dEq (dOf (eBin dIx (dVar 0) (dOf (eC (.int 0))))) (dOf (eC (.str "down")))))
    (sRet (eUn dNeg (dOf (eCall m (aCons (eBin dIx (dVar 0) (dOf (eC (.int 1)))) (aCons (eVar 1) aNil))))))
    sNil')
    (sSeq (sSet 2 (eBin dIx (dVar 1) (dOf (eBin dIx (dVar 0) (dOf (eC (.int 1)))))))
    (sSeq (sIf (bTest (eBin dEq (dOf (eBin dIx (dVar 0) (dOf (eC (.int 0))))) (dOf (eC (.str "up")))))
    (sRet (eVar 2))
    sNil')
    (sSeq (sIf (bTest (eBin dEq (dOf (eBin dIx (dVar 0) (dOf (eC (.int 0))))) (dOf (eC (.str "part")))))
    (sRet (eApp gLen (sCons (dOf (eComp (iRng2 (dOf (eC (.int 1))) (dOf (eC (.int 6)))) (gOne 3) [3] (bAnd (bTest (eBin (dCmp rLe zLe) (dVar 3) (dVar 2))) (bTest (eBin dEq (dOf (eBin dMod (dVar 3) (dOf (eBin dIx (dVar 0) (dOf (eC (.int 2))))))) (dOf (eC (.int 0)))))) (eVar 3))) sNil)))
    sNil')
    (sSeq (sIf (bTest (eBin dEq (dOf (eBin dIx (dVar 0) (dOf (eC (.int 0))))) (dOf (eC (.str "rest")))))
    (sRet (eBin dSub (dVar 2) (dOf (eBin dMul (dOf (eBin dDiv (dVar 2) (dOf (eBin dIx (dVar 0) (dOf (eC (.int 2))))))) (dOf (eBin dIx (dVar 0) (dOf (eC (.int 2)))))))))
    sNil')
    (sSeq (sIf (bTest (eBin dEq (dOf (eBin dIx (dVar 0) (dOf (eC (.int 0))))) (dOf (eC (.str "table")))))
    (sRet (eMt isLstD gIndexLX (dOf (eBin dAdd (dOf (eApp gList (sCons (dOf (eBin dIx (dVar 0) (dOf (eC (.int 2))))) sNil))) (dOf (eLst (aCons (eVar 2) aNil))))) (sCons (dVar 2) sNil)))
    sNil')
    (sSeq (sIf (bTest (eBin dEq (dOf (eBin dIx (dVar 0) (dOf (eC (.int 0))))) (dOf (eC (.str "among")))))
    (sRet (eIf (bTest (eBin dIn (dVar 2) (dOf (eBin dIx (dVar 0) (dOf (eC (.int 2))))))) (eC (.int 0)) (eC (.int 1))))
    sNil')
    (sSeq (sSet 4 (eBin dIx (dVar 1) (dOf (eBin dIx (dVar 0) (dOf (eC (.int 2)))))))
    (sSeq (sIf (bTest (eBin dEq (dOf (eBin dIx (dVar 0) (dOf (eC (.int 0))))) (dOf (eC (.str "sum")))))
    (sRet (eBin dAdd (dVar 2) (dVar 4)))
    sNil')
    (sSeq (sIf (bTest (eBin dEq (dOf (eBin dIx (dVar 0) (dOf (eC (.int 0))))) (dOf (eC (.str "gap")))))
    (sRet (eIf (bTest (eBin (dCmp rGt zGt) (dVar 2) (dVar 4))) (eBin dSub (dVar 2) (dVar 4)) (eBin dSub (dVar 4) (dVar 2))))
    sNil')
    (sRet (eIf (bTest (eBin (dCmp rGt zGt) (dVar 2) (dVar 4))) (eVar 2) (eVar 4)))))))))))))
def m__law_worth_ : Nat → Fn
  | 0 => fun _ _ => none
  | k + 1 => runB 5 (b__law_worth (m__law_worth_ k))
def m__law_worth : Fn := m__law_worth_ 4
def l__law_word_1 : Fs :=
    (sSeq (sPar 4 5 (aCons (eCall m__law_worth (aCons (eVar 3) (aCons (eVar 1) aNil))) (aCons (eCall m__law_worth (aCons (eVar 3) (aCons (eVar 2) aNil))) aNil)))
    (sIf (bTest (eBin dNe (dVar 4) (dVar 5)))
    (sRet (eIf (bTest (eBin (dCmp rLt zLt) (dVar 4) (dVar 5))) (eUn dNeg (dOf (eC (.int 1)))) (eC (.int 1))))
    sNil'))
def b__law_word : Fs :=
    (sSeq (sFor (iVal (eVar 0)) (gOne 3)
    l__law_word_1)
    (sRet (eC (.int 0))))
def m__law_word : Fn := runB 6 b__law_word
-- l_form_1: head 1:every 3:ranks of 6
def l_form_1 : Fs :=
    (sEnd [4, 5] (sPut 3 (dVar 5) (eVar 4)))
def b_form : Fs :=
    (sSeq (sEnd [0] (sSet 1 (eFrz (eComp (iOf (dOf (eCall m_all_things aNil))) (gOne 2) [2] bYes (eCall m_worths (aCons (eVar 0) (aCons (eVar 2) aNil)))))))
    (sSeq (sSet 3 eDicT)
    (sSeq (sFor (iEnumF (eApp gSortSetT (sCons (dVar 1) sNil))) (gMany [4, 5])
    l_form_1)
    (sRet (eApp gTup (sCons (dOf (eComp (iOf (dVar 1)) (gOne 5) [5] bYes (eBin dIxD (dVar 3) (dVar 5)))) sNil))))))
def m_form : Fn := runB 6 b_form
def b_sign : Fs :=
    (sRet (eBin dSub (dOf (eApp gInt (sCons (dOf (eBin (dCmp rGt zGt) (dVar 0) (dVar 1))) sNil))) (dOf (eApp gInt (sCons (dOf (eBin (dCmp rLt zLt) (dVar 0) (dVar 1))) sNil)))))
def m_sign : Fn := runB 2 b_sign
-- l_first_pair_2: head 2:test 3:things 4:mine 5:yours 6:at of 8
def l_first_pair_2 : Fs :=
    (sEnd [7] (sIf (bTru (dOf (eCallP 2 (aCons (eCall m_sign (aCons (eBin dIx (dVar 4) (dVar 6)) (aCons (eBin dIx (dVar 4) (dVar 7)) aNil))) (aCons (eCall m_sign (aCons (eBin dIx (dVar 5) (dVar 6)) (aCons (eBin dIx (dVar 5) (dVar 7)) aNil))) aNil)))))
    (sRet (eTup (aCons (eBin dIx (dVar 3) (dVar 6)) (aCons (eBin dIx (dVar 3) (dVar 7)) aNil))))
    sNil'))
-- l_first_pair_1: head 2:test 3:things 4:mine 5:yours of 8
def l_first_pair_1 : Fs :=
    (sEnd [6] (sFor (iRng2 (dOf (eBin dAdd (dVar 6) (dOf (eC (.int 1))))) (dOf (eApp gLen (sCons (dVar 3) sNil)))) (gOne 7)
    l_first_pair_2))
def b_pairs_of : Fs :=
    (sRet (eBin dDiv (dOf (eBin dMul (dVar 0) (dOf (eBin dSub (dVar 0) (dOf (eC (.int 1))))))) (dOf (eC (.int 2)))))
def m_pairs_of : Fn := runB 1 b_pairs_of
-- l_ties_of_1: head 1:counts of 3
def l_ties_of_1 : Fs :=
    (sEnd [2] (sPut 1 (dVar 2) (eBin dAdd (dOf (eGetD (dVar 1) (dVar 2) (dOf (eC (.int 0))))) (dOf (eC (.int 1))))))
def b_ties_of : Fs :=
    (sSeq (sSet 1 eDicK)
    (sSeq (sForK [0] (iVal (eCall m_form (aCons (eVar 0) aNil))) (gOne 2)
    l_ties_of_1)
    (sRet (eLockI 1 (eApp gSum (sCons (dOf (eComp (iKeyF 1) (gOne 2) [2] bYes (eCall m_pairs_of (aCons (eBin dIxD (dVar 1) (dVar 2)) aNil)))) sNil))))))
def m_ties_of : Fn := runB 3 b_ties_of
-- l__law_every_1: head 0:_law_got of 2
def l__law_every_1 : Fs :=
    (sEnd [1] (sApp 0 (eTup (aCons (eBin dDiv (dVar 1) (dOf (eC (.int 36)))) (aCons (eBin dMod (dOf (eBin dDiv (dVar 1) (dOf (eC (.int 6))))) (dOf (eC (.int 6)))) (aCons (eBin dMod (dVar 1) (dOf (eC (.int 6)))) aNil))))))
-- l__law_form_1: head 1:_law_every_here 3:_law_spots of 5
def l__law_form_1 : Fs :=
    (sEnd [4] (sPut 3 (dVar 4) (eGetD (dVar 3) (dVar 4) (dOf (eApp gLenD (sCons (dVar 3) sNil))))))
def b_alike : Fs :=
    (sRet (eBin dEq (dOf (eCall m_form (aCons (eVar 0) aNil))) (dOf (eCall m_form (aCons (eVar 1) aNil)))))
def m_alike : Fn := runB 2 b_alike
def b__law_turn : Fs :=
    (sRet (eIf (bTest (eBin dEq (dOf (eBin dIx (dVar 0) (dOf (eC (.int 0))))) (dOf (eC (.str "down"))))) (eBin dIx (dVar 0) (dOf (eC (.int 1)))) (eTup (aCons (eC (.str "down")) (aCons (eVar 0) aNil)))))
def m__law_turn : Fn := runB 1 b__law_turn
-- l__law_least_2: head 0:_law_one 1:_law_other_here 2:_law_kind 3:_law_at 4:_law_a 5:_law_b of 9
def l__law_least_2 : Fs :=
    (sSeq (sPar 7 8 (aCons (eBin dIx (dVar 0) (dVar 6)) (aCons (eBin dIx (dVar 1) (dVar 6)) aNil)))
    (sEnd [6, 7, 8] (sIf (bOr (bTest (eBin dNe (dOf (eBin (dCmp rLt zLt) (dVar 4) (dVar 7))) (dOf (eBin (dCmp rLt zLt) (dVar 5) (dVar 8))))) (bTest (eBin dNe (dOf (eBin (dCmp rGt zGt) (dVar 4) (dVar 7))) (dOf (eBin (dCmp rGt zGt) (dVar 5) (dVar 8))))))
    (sEnd [6, 7, 8] (sIf (bOr (bTest (eBin dEq (dVar 2) (dOf (eC (.int 0))))) (bTest (eBin dNe (dVar 5) (dVar 8))))
    (sRet (eTup (aCons (eVar 3) (aCons (eVar 6) aNil))))
    sNil'))
    sNil')))
-- l__law_least_1: head 0:_law_one 1:_law_other_here 2:_law_kind of 9
def l__law_least_1 : Fs :=
    (sSeq (sPar 4 5 (aCons (eBin dIx (dVar 0) (dVar 3)) (aCons (eBin dIx (dVar 1) (dVar 3)) aNil)))
    (sEnd [3, 4, 5] (sFor (iRng2 (dOf (eBin dAdd (dVar 3) (dOf (eC (.int 1))))) (dOf (eC (.int 216)))) (gOne 6)
    l__law_least_2)))
-- l_deciders_1: head 0:row 1:found of 3
def l_deciders_1 : Fs :=
    (sEnd [2] (sSet 1 (eFrz (eBin dAdd (dVar 1) (dOf (eTup (aCons (eBin dSub (dOf (eCall m_ties_of (aCons (eSl dSl (dVar 0) oNone (oSome (dVar 2))) aNil))) (dOf (eCall m_ties_of (aCons (eSl dSl (dVar 0) oNone (oSome (dOf (eBin dAdd (dVar 2) (dOf (eC (.int 1))))))) aNil)))) aNil)))))))
def b_without : Fs :=
    (sRet (eBin dAdd (dOf (eSl dSl (dVar 0) oNone (oSome (dVar 1)))) (dOf (eSl dSl (dVar 0) (oSome (dOf (eBin dAdd (dVar 1) (dOf (eC (.int 1)))))) oNone))))
def m_without : Fn := runB 2 b_without
-- l_short_1: head 0:row of 2
def l_short_1 : Fs :=
    (sEnd [1] (sIf (bTru (dOf (eCall m_alike (aCons (eCall m_without (aCons (eVar 0) (aCons (eVar 1) aNil))) (aCons (eVar 0) aNil)))))
    (sEnd [1] (sSet 0 (eFrz (eCall m_without (aCons (eVar 0) (aCons (eVar 1) aNil))))))
    sNil'))
-- l__law_row_1: head 0:_law_script 1:_law_town 2:_law_row_here of 7
def l__law_row_1 : Fs :=
    (sSeq (sEnd [3] (sSet 4 (eFrz (eCall m__law_key (aCons (eVar 0) (aCons (eVar 1) aNil))))))
    (sSeq (sIf (bAnd (bTru (dVar 2)) (bTest (eBin dEq (dOf (eCall m__law_draw (aCons (eVar 0) (aCons (eVar 1) (aCons (eC (.int 2)) aNil))))) (dOf (eC (.int 0))))))
    (sSeq (sSet 4 (eFrz (eCall m__law_pick (aCons (eVar 0) (aCons (eVar 1) (aCons (eVar 2) aNil))))))
    (sSeq (sSet 5 (eIf (bTest (eBin dEq (dOf (eBin dIx (dVar 4) (dOf (eC (.int 0))))) (dOf (eC (.str "down"))))) (eBin dIx (dOf (eBin dIx (dVar 4) (dOf (eC (.int 1))))) (dOf (eC (.int 1)))) (eBin dIx (dVar 4) (dOf (eC (.int 1))))))
    (sSeq (sEnd [5] (sSet 6 (eFrz (eLst (aCons (eTup (aCons (eC (.str "up")) (aCons (eVar 5) aNil))) (aCons (eTup (aCons (eC (.str "part")) (aCons (eVar 5) (aCons (eC (.int 2)) aNil)))) (aCons (eTup (aCons (eC (.str "rest")) (aCons (eVar 5) (aCons (eC (.int 3)) aNil)))) (aCons (eTup (aCons (eC (.str "among")) (aCons (eVar 5) (aCons (eTup (aCons (eC (.int 0)) (aCons (eC (.int 3)) aNil))) aNil)))) aNil))))))))
    (sEnd [6] (sSet 4 (eFrz (eCall m__law_pick (aCons (eVar 0) (aCons (eVar 1) (aCons (eBin dAdd (dVar 6) (dOf (eLst (aCons (eVar 4) (aCons (eVar 4) (aCons (eCall m__law_turn (aCons (eVar 4) aNil)) aNil)))))) aNil))))))))))
    sNil')
    (sEnd [4] (sSet 2 (eFrz (eBin dAdd (dVar 2) (dOf (eTup (aCons (eVar 4) aNil)))))))))
-- l__law_speaks_3: head 0:_law_row_here 1:_law_every_here 3:_law_got 5:_law_one 6:_law_other_here of 8
def l__law_speaks_3 : Fs :=
    (sEnd [7] (sIf (bAnd (bTest (eBin dEq (dOf (eSl dSl (dVar 5) oNone (oSome (dVar 7)))) (dOf (eSl dSl (dVar 6) oNone (oSome (dVar 7)))))) (bTest (eBin dNe (dOf (eBin dIx (dVar 5) (dVar 7))) (dOf (eBin dIx (dVar 6) (dVar 7))))))
    (sEnd [7] (sSetIx 3 (dVar 7) (eBin dAdd (dOf (eBin dIx (dVar 3) (dVar 7))) (dOf (eC (.int 1))))))
    sNil'))
-- l__law_speaks_2: head 0:_law_row_here 1:_law_every_here 3:_law_got 5:_law_one of 8
def l__law_speaks_2 : Fs :=
    (sEnd [6] (sFor (iRng1 (dOf (eApp gLen (sCons (dVar 0) sNil)))) (gOne 7)
    l__law_speaks_3))
-- l__law_speaks_1: head 0:_law_row_here 1:_law_every_here 3:_law_got of 8
def l__law_speaks_1 : Fs :=
    (sEnd [5] (sForK [4] (iVal (eSl dSl (dVar 1) (oSome (dOf (eBin dAdd (dVar 4) (dOf (eC (.int 1)))))) oNone)) (gOne 6)
    l__law_speaks_2))
def b_places : Fs :=
    (sSeq (sSet 2 (eFrz (eApp gSorted (sCons (dOf (eComp (iEnumV (dVar 1)) (gMany [3, 4]) [3, 4] bYes (eTup (aCons (eCall m_worths (aCons (eVar 0) (aCons (eVar 4) aNil))) (aCons (eVar 3) aNil))))) sNil))))
    (sRet (eApp gTup (sCons (dOf (eComp (iOf (dVar 2)) (gMany [5, 3]) [5, 3] bYes (eVar 3))) sNil))))
def m_places : Fn := runB 6 b_places
def b_ordered : Fs :=
    (sRet (eApp gTup (sCons (dOf (eComp (iOf (dOf (eCall m_places (aCons (eVar 0) (aCons (eVar 1) aNil))))) (gOne 2) [2] bYes (eBin dIx (dVar 1) (dVar 2)))) sNil)))
def m_ordered : Fn := runB 3 b_ordered
def b_is_ordered : Fs :=
    (sRet (eApp gAll (sCons (dOf (eComp (iZipV (dOf (eSl dSl (dVar 1) oNone (oSome (dOf (eUn dNeg (dOf (eC (.int 1)))))))) (dOf (eSl dSl (dVar 1) (oSome (dOf (eC (.int 1)))) oNone))) (gMany [2, 3]) [2, 3] bYes (eBin (dCmp rLt zLt) (dOf (eCall m_told (aCons (eVar 0) (aCons (eVar 2) (aCons (eVar 3) aNil))))) (dOf (eC (.int 1)))))) sNil)))
def m_is_ordered : Fn := runB 4 b_is_ordered
def l_runs_1 : Fs :=
    (sIf (bAnd (bTru (dVar 2)) (bTest (eBin (dCmp rLt zLt) (dOf (eCall m_told (aCons (eVar 0) (aCons (eBin dIx (dOf (eBin dIx (dVar 2) (dOf (eUn dNeg (dOf (eC (.int 1))))))) (dOf (eUn dNeg (dOf (eC (.int 1)))))) (aCons (eVar 3) aNil))))) (dOf (eC (.int 1))))))
    (sSetIx 2 (dOf (eUn dNeg (dOf (eC (.int 1))))) (eBin dAdd (dOf (eBin dIx (dVar 2) (dOf (eUn dNeg (dOf (eC (.int 1))))))) (dOf (eTup (aCons (eVar 3) aNil)))))
    (sApp 2 (eTup (aCons (eVar 3) aNil))))
def b_runs : Fs :=
    (sSeq (sSet 2 (eLst aNil))
    (sSeq (sFor (iVal (eVar 1)) (gOne 3)
    l_runs_1)
    (sRet (eApp gTup (sCons (dVar 2) sNil)))))
def m_runs : Fn := runB 4 b_runs
def l_crossings_1 : Fs :=
    (sSet 2 (eFrz (eBin dAdd (dVar 2) (dOf (eApp gLen (sCons (dOf (eComp (iOf (dOf (eSl dSl (dVar 1) (oSome (dOf (eBin dAdd (dVar 3) (dOf (eC (.int 1)))))) oNone))) (gOne 5) [5] (bTest (eBin dEq (dOf (eCall m_told (aCons (eVar 0) (aCons (eVar 4) (aCons (eVar 5) aNil))))) (dOf (eC (.int 1))))) (eVar 5))) sNil))))))
def b_crossings : Fs :=
    (sSeq (sSet 2 (eC (.int 0)))
    (sSeq (sFor (iEnumF (eVar 1)) (gMany [3, 4])
    l_crossings_1)
    (sRet (eVar 2))))
def m_crossings : Fn := runB 6 b_crossings
def l__law_list_1 : Fs :=
    (sSet 5 (eFrz (eBin dAdd (dVar 5) (dOf (eTup (aCons (eCall m__law_pick (aCons (eVar 0) (aCons (eVar 1) (aCons (eBin dAdd (dVar 3) (dOf (eLst (aCons (eCall m__law_thing (aCons (eVar 0) (aCons (eVar 1) aNil))) aNil)))) aNil)))) aNil))))))
def b__law_list : Fs :=
    (sSeq (sSet 3 (eFrz (eComp (iRng1 (dOf (eC (.int 4)))) (gOne 4) [4] bYes (eCall m__law_thing (aCons (eVar 0) (aCons (eVar 1) aNil))))))
    (sSeq (sSet 5 (eTup aNil))
    (sSeq (sFor (iRng1 (dOf (eCall m__law_draw (aCons (eVar 0) (aCons (eVar 1) (aCons (eBin dAdd (dVar 2) (dOf (eC (.int 1)))) aNil)))))) (gOne 4)
    l__law_list_1)
    (sRet (eVar 5)))))
def m__law_list : Fn := runB 6 b__law_list
def l__law_sorted_2 : Fs :=
    (sSet 5 (eFrz (eBin dAdd (dVar 5) (dOf (eC (.int 1))))))
def l__law_sorted_1 : Fs :=
    (sSeq (sSet 5 (eC (.int 0)))
    (sSeq (loopW (bAnd (bTest (eBin (dCmp rLt zLt) (dVar 5) (dOf (eApp gLen (sCons (dVar 2) sNil))))) (bTest (eBin (dCmp rLt zLt) (dOf (eCall m__law_word (aCons (eVar 0) (aCons (eBin dIx (dVar 1) (dOf (eBin dIx (dVar 2) (dVar 5)))) (aCons (eVar 4) aNil))))) (dOf (eC (.int 1)))))) l__law_sorted_2 100000)
    (sSet 2 (eFrz (eBin dAdd (dOf (eBin dAdd (dOf (eSl dSl (dVar 2) oNone (oSome (dVar 5)))) (dOf (eLst (aCons (eVar 3) aNil))))) (dOf (eSl dSl (dVar 2) (oSome (dVar 5)) oNone)))))))
def b__law_sorted : Fs :=
    (sSeq (sSet 2 (eFrz (eLst aNil)))
    (sSeq (sFor (iEnumF (eVar 1)) (gMany [3, 4])
    l__law_sorted_1)
    (sRet (eVar 2))))
def m__law_sorted : Fn := runB 6 b__law_sorted
-- l_merged_1: head 0:row 1:ones 2:others 3:found of 4
def l_merged_1 : Fs :=
    (sIf (bTest (eBin (dCmp rLt zLt) (dOf (eCall m_told (aCons (eVar 0) (aCons (eBin dIx (dVar 1) (dOf (eC (.int 0)))) (aCons (eBin dIx (dVar 2) (dOf (eC (.int 0)))) aNil))))) (dOf (eC (.int 1)))))
    (sSeq (sSet 3 (eFrz (eBin dAdd (dVar 3) (dOf (eSl dSl (dVar 1) oNone (oSome (dOf (eC (.int 1)))))))))
    (sSet 1 (eFrz (eSl dSl (dVar 1) (oSome (dOf (eC (.int 1)))) oNone))))
    (sSeq (sSet 3 (eFrz (eBin dAdd (dVar 3) (dOf (eSl dSl (dVar 2) oNone (oSome (dOf (eC (.int 1)))))))))
    (sSet 2 (eFrz (eSl dSl (dVar 2) (oSome (dOf (eC (.int 1)))) oNone)))))
def b_merged : Fs :=
    (sSeq (sSet 3 (eTup aNil))
    (sSeq (sEnd [0] (loopW (bAnd (bTru (dVar 1)) (bTru (dVar 2))) l_merged_1 100000))
    (sRet (eBin dAdd (dOf (eBin dAdd (dVar 3) (dVar 1))) (dVar 2)))))
def m_merged : Fn := runB 4 b_merged
-- l_turns_2: head 0:row 2:rows 3:found 4:after of 9
def l_turns_2 : Fs :=
    (sSeq (sEnd [5] (sSet 6 (eFrz (eSl dSl (dVar 2) (oSome (dVar 5)) (oSome (dOf (eBin dAdd (dVar 5) (dOf (eC (.int 2))))))))))
    (sEnd [6] (sApp 4 (eCall m_merged (aCons (eVar 0) (aCons (eBin dIx (dVar 6) (dOf (eC (.int 0)))) (aCons (eBin dIx (dOf (eBin dAdd (dVar 6) (dOf (eLst (aCons (eTup aNil) aNil))))) (dOf (eC (.int 1)))) aNil)))))))
-- l_turns_3: head 0:row 2:rows 3:found 7:whole of 9
def l_turns_3 : Fs :=
    (sEnd [8] (sSet 7 (eFrz (eBin dAdd (dVar 7) (dVar 8)))))
-- l_turns_1: head 0:row 2:rows 3:found of 9
def l_turns_1 : Fs :=
    (sSeq (sSet 4 (eLst aNil))
    (sSeq (sEnd [2] (sFor (iRng3D (dOf (eC (.int 0))) (dOf (eApp gLen (sCons (dVar 2) sNil))) (dOf (eC (.int 2)))) (gOne 5)
    l_turns_2))
    (sSeq (sEnd [4] (frzAt 4 (sSet 2 (eVar 4))))
    (sSeq (sSet 7 (eTup aNil))
    (sSeq (sFor (iVal (eVar 2)) (gOne 8)
    l_turns_3)
    (sEnd [7] (sApp 3 (eVar 7))))))))
def b__law_together : Fs :=
    (sSeq (sEnd [1, 2] (sSet 3 (eFrz (eBin dAdd (dVar 1) (dVar 2)))))
    (sRet (eApp gTup (sCons (dOf (eComp (iOf (dOf (eCall m__law_sorted (aCons (eVar 0) (aCons (eVar 3) aNil))))) (gOne 4) [4] bYes (eBin dIx (dVar 3) (dVar 4)))) sNil))))
def m__law_together : Fn := runB 5 b__law_together
-- l__law_turns_1: head 0:_law_row 2:_law_cut of 9
def l__law_turns_1 : Fs :=
    (sIf (bAnd (bTru (dVar 2)) (bTest (eBin (dCmp rLt zLt) (dOf (eCall m__law_word (aCons (eVar 0) (aCons (eBin dIx (dOf (eBin dIx (dVar 2) (dOf (eUn dNeg (dOf (eC (.int 1))))))) (dOf (eUn dNeg (dOf (eC (.int 1)))))) (aCons (eVar 3) aNil))))) (dOf (eC (.int 1))))))
    (sEnd [3] (sSetIx 2 (dOf (eUn dNeg (dOf (eC (.int 1))))) (eBin dAdd (dOf (eBin dIx (dVar 2) (dOf (eUn dNeg (dOf (eC (.int 1))))))) (dOf (eTup (aCons (eVar 3) aNil))))))
    (sEnd [3] (sApp 2 (eTup (aCons (eVar 3) aNil)))))
-- l__law_turns_3: head 0:_law_row 2:_law_cut 4:_law_got 5:_law_after of 9
def l__law_turns_3 : Fs :=
    (sIf (bTest (eBin (dCmp rLt zLt) (dOf (eBin dAdd (dVar 6) (dOf (eC (.int 1))))) (dOf (eApp gLen (sCons (dVar 2) sNil)))))
    (sEnd [6] (sApp 5 (eCall m__law_together (aCons (eVar 0) (aCons (eBin dIx (dVar 2) (dVar 6)) (aCons (eBin dIx (dVar 2) (dOf (eBin dAdd (dVar 6) (dOf (eC (.int 1)))))) aNil))))))
    (sEnd [6] (sApp 5 (eBin dIx (dVar 2) (dVar 6)))))
-- l__law_turns_4: head 0:_law_row 2:_law_cut 4:_law_got 7:_law_whole of 9
def l__law_turns_4 : Fs :=
    (sEnd [8] (sSet 7 (eFrz (eBin dAdd (dVar 7) (dVar 8)))))
-- l__law_turns_2: head 0:_law_row 2:_law_cut 4:_law_got of 9
def l__law_turns_2 : Fs :=
    (sSeq (sSet 5 (eLst aNil))
    (sSeq (sEnd [2] (sFor (iRng3D (dOf (eC (.int 0))) (dOf (eApp gLen (sCons (dVar 2) sNil))) (dOf (eC (.int 2)))) (gOne 6)
    l__law_turns_3))
    (sSeq (sEnd [5] (frzAt 5 (sSet 2 (eVar 5))))
    (sSeq (sSet 7 (eTup aNil))
    (sSeq (frzAt 2 (sFor (iVal (eVar 2)) (gOne 8)
    l__law_turns_4))
    (sEnd [7] (sApp 4 (eVar 7))))))))
def l_first_place_1 : Fs :=
    (sSeq (sSet 5 (eBin dDiv (dOf (eBin dAdd (dVar 3) (dVar 4))) (dOf (eC (.int 2)))))
    (sIf (bTest (eBin (dCmp rLt zLt) (dOf (eCall m_told (aCons (eVar 0) (aCons (eBin dIx (dVar 1) (dVar 5)) (aCons (eVar 2) aNil))))) (dOf (eC (.int 0)))))
    (sSet 3 (eFrz (eBin dAdd (dVar 5) (dOf (eC (.int 1))))))
    (sSet 4 (eVar 5))))
def b_first_place : Fs :=
    (sSeq (sSet 3 (eC (.int 0)))
    (sSeq (sSet 4 (eApp gLen (sCons (dVar 1) sNil)))
    (sSeq (loopW (bTest (eBin (dCmp rLt zLt) (dVar 3) (dVar 4))) l_first_place_1 100000)
    (sRet (eVar 3)))))
def m_first_place : Fn := runB 6 b_first_place
def l_last_place_1 : Fs :=
    (sSeq (sSet 5 (eBin dDiv (dOf (eBin dAdd (dVar 3) (dVar 4))) (dOf (eC (.int 2)))))
    (sIf (bTest (eBin (dCmp rLt zLt) (dOf (eCall m_told (aCons (eVar 0) (aCons (eBin dIx (dVar 1) (dVar 5)) (aCons (eVar 2) aNil))))) (dOf (eC (.int 1)))))
    (sSet 3 (eFrz (eBin dAdd (dVar 5) (dOf (eC (.int 1))))))
    (sSet 4 (eVar 5))))
def b_last_place : Fs :=
    (sSeq (sSet 3 (eC (.int 0)))
    (sSeq (sSet 4 (eApp gLen (sCons (dVar 1) sNil)))
    (sSeq (loopW (bTest (eBin (dCmp rLt zLt) (dVar 3) (dVar 4))) l_last_place_1 100000)
    (sRet (eVar 3)))))
def m_last_place : Fn := runB 6 b_last_place
def l_groups_1 : Fs :=
    (sIf (bAnd (bTru (dVar 2)) (bTest (eBin dEq (dOf (eCall m_told (aCons (eVar 0) (aCons (eBin dIx (dOf (eBin dIx (dVar 2) (dOf (eUn dNeg (dOf (eC (.int 1))))))) (dOf (eC (.int 0)))) (aCons (eVar 3) aNil))))) (dOf (eC (.int 0))))))
    (sSetIx 2 (dOf (eUn dNeg (dOf (eC (.int 1))))) (eBin dAdd (dOf (eBin dIx (dVar 2) (dOf (eUn dNeg (dOf (eC (.int 1))))))) (dOf (eTup (aCons (eVar 3) aNil)))))
    (sApp 2 (eTup (aCons (eVar 3) aNil))))
def b_groups : Fs :=
    (sSeq (sSet 2 (eLst aNil))
    (sSeq (sFor (iVal (eCall m_ordered (aCons (eVar 0) (aCons (eVar 1) aNil)))) (gOne 3)
    l_groups_1)
    (sRet (eApp gTup (sCons (dVar 2) sNil)))))
def m_groups : Fn := runB 4 b_groups
def l_best_1 : Fs :=
    (sIf (bTest (eBin (dCmp rLt zLt) (dOf (eApp gLen (sCons (dVar 3) sNil))) (dVar 2)))
    (sSet 3 (eFrz (eBin dAdd (dVar 3) (dVar 4))))
    sNil')
def b_best : Fs :=
    (sSeq (sSet 3 (eTup aNil))
    (sSeq (sFor (iVal (eCall m_groups (aCons (eVar 0) (aCons (eVar 1) aNil)))) (gOne 4)
    l_best_1)
    (sRet (eVar 3))))
def m_best : Fn := runB 5 b_best
def l_list_told_1 : Fs :=
    (sSeq (sSet 5 (eFrz (eCall m_told (aCons (eVar 0) (aCons (eVar 3) (aCons (eVar 4) aNil))))))
    (sIf (bTest (eBin dNe (dVar 5) (dOf (eC (.int 0)))))
    (sRet (eVar 5))
    sNil'))
def b_list_told : Fs :=
    (sSeq (sFor (iZipF (eVar 1) (eVar 2)) (gMany [3, 4])
    l_list_told_1)
    (sRet (eBin dSub (dOf (eApp gInt (sCons (dOf (eBin (dCmp rGt zGt) (dOf (eApp gLen (sCons (dVar 1) sNil))) (dOf (eApp gLen (sCons (dVar 2) sNil))))) sNil))) (dOf (eApp gInt (sCons (dOf (eBin (dCmp rLt zLt) (dOf (eApp gLen (sCons (dVar 1) sNil))) (dOf (eApp gLen (sCons (dVar 2) sNil))))) sNil))))))
def m_list_told : Fn := runB 6 b_list_told
def b_is_odd : Fs :=
    (sRet (eBin dNe (dOf (eBin dIx (dOf (eBin dIx (dVar 0) (dVar 1))) (dVar 2))) (dOf (eBin dSub (dOf (eC (.int 0))) (dOf (eBin dIx (dOf (eBin dIx (dVar 0) (dVar 2))) (dVar 1)))))))
def m_is_odd : Fn := runB 3 b_is_odd
def b_is_chain : Fs :=
    (sSeq (sSet 4 (eBin dIx (dOf (eBin dIx (dVar 0) (dVar 1))) (dVar 2)))
    (sSeq (sEnd [2] (sSet 5 (eBin dIx (dOf (eBin dIx (dVar 0) (dVar 2))) (dVar 3))))
    (sRet (eAnd (eBin (dCmp rLt zLt) (dVar 4) (dOf (eC (.int 1)))) (eAnd (eBin (dCmp rLt zLt) (dVar 5) (dOf (eC (.int 1)))) (eBin dNe (dOf (eBin dIx (dOf (eBin dIx (dVar 0) (dVar 1))) (dVar 3))) (dOf (eApp gMin2 (sCons (dVar 4) (sCons (dVar 5) sNil))))))))))
def m_is_chain : Fn := runB 6 b_is_chain
-- l_why_none_2: head 0:table 1:many 2:one of 5
def l_why_none_2 : Fs :=
    (sEnd [3] (sIf (bTru (dOf (eCall m_is_odd (aCons (eVar 0) (aCons (eVar 2) (aCons (eVar 3) aNil))))))
    (sRet (eTup (aCons (eC (.str "odd")) (aCons (eVar 2) (aCons (eVar 3) aNil)))))
    sNil'))
-- l_why_none_1: head 0:table 1:many of 5
def l_why_none_1 : Fs :=
    (sEnd [2] (sFor (iVal (eVar 1)) (gOne 3)
    l_why_none_2))
-- l_why_none_5: head 0:table 1:many 2:one 3:other of 5
def l_why_none_5 : Fs :=
    (sEnd [4] (sIf (bTru (dOf (eCall m_is_chain (aCons (eVar 0) (aCons (eVar 2) (aCons (eVar 3) (aCons (eVar 4) aNil)))))))
    (sRet (eTup (aCons (eC (.str "chain")) (aCons (eVar 2) (aCons (eVar 3) (aCons (eVar 4) aNil))))))
    sNil'))
-- l_why_none_4: head 0:table 1:many 2:one of 5
def l_why_none_4 : Fs :=
    (sEnd [3] (sFor (iVal (eVar 1)) (gOne 4)
    l_why_none_5))
-- l_why_none_3: head 0:table 1:many of 5
def l_why_none_3 : Fs :=
    (sEnd [2] (sFor (iVal (eVar 1)) (gOne 3)
    l_why_none_4))
-- l__law_table_1: head 0:_law_script 1:_law_town 2:_law_many 3:_law_marks 5:_law_rows of 10
def l__law_table_1 : Fs :=
    (sEnd [6] (sAppN 5 (eComp (iOf (dVar 3)) (gOne 7) [7] bYes (eIf (bTest (eBin (dCmp rLt zLt) (dVar 6) (dVar 7))) (eUn dNeg (dOf (eC (.int 1)))) (eIf (bTest (eBin (dCmp rGt zGt) (dVar 6) (dVar 7))) (eC (.int 1)) (eC (.int 0)))))))
-- l__law_table_2: head 0:_law_script 1:_law_town 2:_law_many 5:_law_rows of 10
def l__law_table_2 : Fs :=
    (sSeq (sEnd [4] (sAsg (gMany [6, 7]) (eTup (aCons (eCall m__law_draw (aCons (eVar 0) (aCons (eVar 1) (aCons (eVar 2) aNil)))) (aCons (eCall m__law_draw (aCons (eVar 0) (aCons (eVar 1) (aCons (eVar 2) aNil)))) aNil)))))
    (sSeq (sSet 8 (eBin dSub (dOf (eCall m__law_draw (aCons (eVar 0) (aCons (eVar 1) (aCons (eC (.int 3)) aNil))))) (dOf (eC (.int 1)))))
    (sSeq (sStN 5 (dVar 6) (dVar 7) (eVar 8))
    (sEnd [6, 7, 8] (sIf (bTest (eBin (dCmp rGt zGt) (dOf (eCall m__law_draw (aCons (eVar 0) (aCons (eVar 1) (aCons (eC (.int 3)) aNil))))) (dOf (eC (.int 0)))))
    (sEnd [6, 7, 8] (sStN 5 (dVar 7) (dVar 6) (eUn dNeg (dVar 8))))
    sNil')))))
def b__law_is_odd : Fs :=
    (sRet (eBin dNe (dOf (eBin dAdd (dOf (eBin dIx (dOf (eBin dIx (dVar 0) (dVar 1))) (dVar 2))) (dOf (eBin dIx (dOf (eBin dIx (dVar 0) (dVar 2))) (dVar 1))))) (dOf (eC (.int 0)))))
def m__law_is_odd : Fn := runB 3 b__law_is_odd
def b__law_is_chain : Fs :=
    (sSeq (sIf (bOr (bTest (eBin dEq (dOf (eBin dIx (dOf (eBin dIx (dVar 0) (dVar 1))) (dVar 2))) (dOf (eC (.int 1))))) (bTest (eBin dEq (dOf (eBin dIx (dOf (eBin dIx (dVar 0) (dVar 2))) (dVar 3))) (dOf (eC (.int 1))))))
    (sRet (eC (.bool false)))
    sNil')
    (sRet (eBin dNe (dOf (eBin dIx (dOf (eBin dIx (dVar 0) (dVar 1))) (dVar 3))) (dOf (eIf (bTest (eBin dIn (dOf (eUn dNeg (dOf (eC (.int 1))))) (dOf (eTup (aCons (eBin dIx (dOf (eBin dIx (dVar 0) (dVar 1))) (dVar 2)) (aCons (eBin dIx (dOf (eBin dIx (dVar 0) (dVar 2))) (dVar 3)) aNil)))))) (eUn dNeg (dOf (eC (.int 1)))) (eC (.int 0)))))))
def m__law_is_chain : Fn := runB 4 b__law_is_chain
-- l__law_papers_2: head 0:_law_table_here 1:_law_every 2:_law_got 3:_law_k of 6
def l__law_papers_2 : Fs :=
    (sSeq (sIf (bTru (dOf (eCall m__law_is_odd (aCons (eVar 0) (aCons (eVar 3) (aCons (eVar 4) aNil))))))
    (sApp 2 (eTup (aCons (eC (.str "odd")) (aCons (eVar 3) (aCons (eVar 4) aNil)))))
    sNil')
    (sEnd [4] (sSet 2 (eBin dAdd (dVar 2) (dOf (eComp (iOf (dVar 1)) (gOne 5) [5] (bTru (dOf (eCall m__law_is_chain (aCons (eVar 0) (aCons (eVar 3) (aCons (eVar 4) (aCons (eVar 5) aNil))))))) (eTup (aCons (eC (.str "chain")) (aCons (eVar 3) (aCons (eVar 4) (aCons (eVar 5) aNil)))))))))))
-- l__law_papers_1: head 0:_law_table_here 1:_law_every 2:_law_got of 6
def l__law_papers_1 : Fs :=
    (sEnd [3] (sFor (iVal (eVar 1)) (gOne 4)
    l__law_papers_2))
-- l__law_is_why_1: head 0:_law_table_here 1:_law_thing of 3
def l__law_is_why_1 : Fs :=
    (sEnd [2] (sIf (bOr (bNot (bTru (dOf (eIsa "int" (dVar 2))))) (bOr (bTru (dOf (eIsa "bool" (dVar 2)))) (bOr (bTest (eBin (dCmp rLt zLt) (dVar 2) (dOf (eC (.int 0))))) (bTest (eBin (dCmp rGe zGe) (dVar 2) (dOf (eApp gLen (sCons (dVar 0) sNil))))))))
    (sRet (eC (.bool false)))
    sNil'))
-- l__law_is_table_2: head 0:_law_thing of 3
def l__law_is_table_2 : Fs :=
    (sEnd [2] (sIf (bOr (bNot (bTru (dOf (eIsa "int" (dVar 2))))) (bOr (bTru (dOf (eIsa "bool" (dVar 2)))) (bTest (eBin dNotIn (dVar 2) (dOf (eTup (aCons (eUn dNeg (dOf (eC (.int 1)))) (aCons (eC (.int 0)) (aCons (eC (.int 1)) aNil)))))))))
    (sRet (eC (.bool false)))
    sNil'))
-- l__law_is_table_1: head 0:_law_thing of 3
def l__law_is_table_1 : Fs :=
    (sSeq (sIf (bOr (bNot (bTru (dOf (eIsa "tuple" (dVar 1))))) (bTest (eBin dNe (dOf (eApp gLen (sCons (dVar 1) sNil))) (dOf (eApp gLen (sCons (dVar 0) sNil))))))
    (sRet (eC (.bool false)))
    sNil')
    (sForK [1] (iVal (eVar 1)) (gOne 2)
    l__law_is_table_2))
def b_behind : Fs :=
    (sRet (eApp gSorted (sCons (dOf (eComp (iOf (dVar 0)) (gMany [2, 3]) [2, 3] (bTest (eBin dEq (dVar 2) (dVar 1))) (eVar 3))) sNil)))
def m_behind : Fn := runB 4 b_behind
-- l_closed_1: head 0:pairs 1:found of 7
def l_closed_1 : Fs :=
    (sEnd [2] (sPut 1 (dVar 2) (eC (.bool true))))
-- l_closed_4: head 0:pairs 1:found 3:many 4:one of 7
def l_closed_4 : Fs :=
    (sEnd [6] (sPut 1 (dOf (eTup (aCons (eVar 4) (aCons (eVar 6) aNil)))) (eC (.bool true))))
-- l_closed_3: head 0:pairs 1:found 3:many of 7
def l_closed_3 : Fs :=
    (sEnd [4] (sForK [5] (iVal (eCall m_behind (aCons (eVar 0) (aCons (eVar 5) aNil)))) (gOne 6)
    l_closed_4))
-- l_closed_2: head 0:pairs 1:found 3:many of 7
def l_closed_2 : Fs :=
    (sSeq (sSet 3 (eApp gLenD (sCons (dVar 1) sNil)))
    (sFor (iVal (eApp gListD (sCons (dVar 1) sNil))) (gMany [4, 5])
    l_closed_3))
def b_closed : Fs :=
    (sSeq (sSet 1 eDicT)
    (sSeq (sFor (iVal (eVar 0)) (gOne 2)
    l_closed_1)
    (sSeq (sSet 3 (eUn dNeg (dOf (eC (.int 1)))))
    (sSeq (sEnd [0, 3] (loopW (bTest (eBin dNe (dVar 3) (dOf (eApp gLenD (sCons (dVar 1) sNil))))) l_closed_2 100000))
    (sRet (eApp gTup (sCons (dOf (eApp gSortedD (sCons (dVar 1) sNil))) sNil)))))))
def m_closed : Fn := runB 7 b_closed
-- l_ring_from_1: head 0:pairs 1:way of 4
def l_ring_from_1 (m : Fn) : Fs :=
    (sSeq (sIf (bTest (eBin dEq (dVar 2) (dOf (eBin dIx (dVar 1) (dOf (eC (.int 0)))))))
    (sRet (eVar 1))
    sNil')
    (sEnd [2] (sIf (bAnd (bTest (eBin (dCmp rGt zGt) (dVar 2) (dOf (eBin dIx (dVar 1) (dOf (eC (.int 0))))))) (bTest (eBin dNotIn (dVar 2) (dVar 1))))
    (sSeq (sEnd [2] (sSet 3 (eFrz (eCall m (aCons (eVar 0) (aCons (eBin dAdd (dVar 1) (dOf (eTup (aCons (eVar 2) aNil)))) aNil))))))
    (sEnd [3] (sIf (bTest (eBin dNotN (dVar 3) (dOf (eC .none))))
    (sRet (eVar 3))
    sNil')))
    sNil')))
def b_ring_from (m : Fn) : Fs :=
    (sSeq (sEnd [0, 1] (sFor (iVal (eCall m_behind (aCons (eVar 0) (aCons (eBin dIx (dVar 1) (dOf (eUn dNeg (dOf (eC (.int 1)))))) aNil)))) (gOne 2)
    (l_ring_from_1 m)))
    (sRet (eC .none)))
def m_ring_from_ : Nat → Fn
  | 0 => fun _ _ => none
  | k + 1 => runB 4 (b_ring_from (m_ring_from_ k))
def m_ring_from : Fn := m_ring_from_ 10
-- l_ring_1: head 0:pairs of 5
def l_ring_1 : Fs :=
    (sSeq (sEnd [1] (sSet 4 (eFrz (eCall m_ring_from (aCons (eVar 0) (aCons (eTup (aCons (eVar 1) aNil)) aNil))))))
    (sEnd [4] (sIf (bTest (eBin dNotN (dVar 4) (dOf (eC .none))))
    (sRet (eVar 4))
    sNil')))
def b_ring : Fs :=
    (sSeq (sEnd [0] (sFor (iVal (eApp gSortSet (sCons (dOf (eComp (iOf (dVar 0)) (gMany [2, 3]) [2, 3] bYes (eVar 2))) sNil))) (gOne 1)
    l_ring_1))
    (sRet (eC .none)))
def m_ring : Fn := runB 5 b_ring
-- l__law_pairs_1: head 0:_law_script 1:_law_town 2:_law_many 3:_law_got 4:_law_is_free 5:_law_order of 10
def l__law_pairs_1 : Fs :=
    (sSeq (sSet 7 (eCall m__law_draw (aCons (eVar 0) (aCons (eVar 1) (aCons (eBin dAdd (dOf (eApp gLen (sCons (dVar 5) sNil))) (dOf (eC (.int 1)))) aNil)))))
    (sEnd [6, 7] (sSet 5 (eFrz (eBin dAdd (dOf (eBin dAdd (dOf (eSl dSl (dVar 5) oNone (oSome (dVar 7)))) (dOf (eLst (aCons (eVar 6) aNil))))) (dOf (eSl dSl (dVar 5) (oSome (dVar 7)) oNone)))))))
-- l__law_pairs_2: head 0:_law_script 1:_law_town 2:_law_many 3:_law_got 4:_law_is_free 5:_law_order of 10
def l__law_pairs_2 : Fs :=
    (sSeq (sEnd [8] (sPar 6 9 (aCons (eCall m__law_draw (aCons (eVar 0) (aCons (eVar 1) (aCons (eVar 2) aNil)))) (aCons (eCall m__law_draw (aCons (eVar 0) (aCons (eVar 1) (aCons (eVar 2) aNil)))) aNil))))
    (sSeq (sIf (bAnd (bTru (dVar 4)) (bTest (eBin (dCmp rGt zGt) (dOf (eMt isLstD gIndexLX (dVar 5) (sCons (dVar 6) sNil))) (dOf (eMt isLstD gIndexLX (dVar 5) (sCons (dVar 9) sNil))))))
    (sPar 6 9 (aCons (eVar 9) (aCons (eVar 6) aNil)))
    sNil')
    (sEnd [6, 9] (sIf (bTest (eBin dNe (dVar 6) (dVar 9)))
    (sEnd [6, 9] (sPut 3 (dOf (eTup (aCons (eVar 6) (aCons (eVar 9) aNil)))) (eC (.int 0))))
    sNil'))))
-- l__law_follows_1: head 0:_law_pairs_here 1:_law_got of 8
def l__law_follows_1 : Fs :=
    (sEnd [2] (sPut 1 (dVar 2) (eC (.int 0))))
-- l__law_follows_4: head 0:_law_pairs_here 1:_law_got 4:_law_one 5:_law_other of 8
def l__law_follows_4 : Fs :=
    (sEnd [6, 7] (sIf (bTest (eBin dEq (dVar 5) (dVar 6)))
    (sEnd [6, 7] (sPut 1 (dOf (eTup (aCons (eVar 4) (aCons (eVar 7) aNil)))) (eC (.int 0))))
    sNil'))
-- l__law_follows_3: head 0:_law_pairs_here 1:_law_got of 8
def l__law_follows_3 : Fs :=
    (sEnd [4, 5] (sFor (iVal (eVar 0)) (gMany [6, 7])
    l__law_follows_4))
-- l__law_follows_2: head 0:_law_pairs_here 1:_law_got of 8
def l__law_follows_2 : Fs :=
    (sForK [3] (iVal (eApp gListD (sCons (dVar 1) sNil))) (gMany [4, 5])
    l__law_follows_3)
-- l__law_rings_1: head 0:_law_pairs_here 1:_law_way 2:_law_got of 5
def l__law_rings_1 (m : Fn) : Fs :=
    (sSeq (sIf (bAnd (bTest (eBin dEq (dVar 3) (dOf (eBin dIx (dVar 1) (dOf (eUn dNeg (dOf (eC (.int 1))))))))) (bTest (eBin dEq (dVar 4) (dOf (eBin dIx (dVar 1) (dOf (eC (.int 0))))))))
    (sApp 2 (eVar 1))
    sNil')
    (sEnd [3, 4] (sIf (bAnd (bTest (eBin dEq (dVar 3) (dOf (eBin dIx (dVar 1) (dOf (eUn dNeg (dOf (eC (.int 1))))))))) (bAnd (bTest (eBin (dCmp rGt zGt) (dVar 4) (dOf (eBin dIx (dVar 1) (dOf (eC (.int 0))))))) (bTest (eBin dNotIn (dVar 4) (dVar 1)))))
    (sEnd [3, 4] (sSet 2 (eBin dAdd (dVar 2) (dOf (eCall m (aCons (eVar 0) (aCons (eBin dAdd (dVar 1) (dOf (eTup (aCons (eVar 4) aNil)))) aNil)))))))
    sNil')))
-- l_free_pairs_2: head 1:many 2:every 3:found 4:one of 6
def l_free_pairs_2 : Fs :=
    (sEnd [5] (sIf (bAnd (bTest (eBin dNotIn (dOf (eTup (aCons (eVar 4) (aCons (eVar 5) aNil)))) (dVar 2))) (bTest (eBin dNotIn (dOf (eTup (aCons (eVar 5) (aCons (eVar 4) aNil)))) (dVar 2))))
    (sEnd [5] (sApp 3 (eTup (aCons (eVar 4) (aCons (eVar 5) aNil)))))
    sNil'))
-- l_free_pairs_1: head 1:many 2:every 3:found of 6
def l_free_pairs_1 : Fs :=
    (sEnd [4] (sFor (iRng2 (dOf (eBin dAdd (dVar 4) (dOf (eC (.int 1))))) (dVar 1)) (gOne 5)
    l_free_pairs_2))
-- l__law_orders_1: head 0:_law_pairs_here 1:_law_left 2:_law_got of 9
def l__law_orders_1 (m : Fn) : Fs :=
    (sEnd [3] (sIf (bNot (bTru (dOf (eComp (iOf (dVar 0)) (gMany [4, 5]) [4, 5] (bAnd (bTest (eBin dEq (dVar 5) (dVar 3))) (bTest (eBin dIn (dVar 4) (dVar 1)))) (eC (.int 1))))))
    (sSeq (sSet 6 (eFrz (eComp (iOf (dVar 1)) (gOne 7) [7] (bTest (eBin dNe (dVar 7) (dVar 3))) (eVar 7))))
    (sEnd [3, 6] (sSet 2 (eFrz (eBin dAdd (dVar 2) (dOf (eComp (iOf (dOf (eCall m (aCons (eVar 0) (aCons (eVar 6) aNil))))) (gOne 8) [8] bYes (eBin dAdd (dOf (eTup (aCons (eVar 3) aNil))) (dVar 8)))))))))
    sNil'))
def b_need_none : Fs :=
    (sEnd [0] (sIf (bTest (eBin dNotN (dOf (eCall m_ring (aCons (eVar 0) aNil))) (dOf (eC .none))))
    (fun _ _ => none)
    sNil'))
def m_need_none : Fn := runB 1 b_need_none
def bx_need_none : Fsx :=
    (sEndX [0] (sIfX (bTest (eBin dNotN (dOf (eCall m_ring (aCons (eVar 0) aNil))) (dOf (eC .none))))
    (sRz 0)
    (lft sNil')))
def x_need_none : Fnx := runX 1 bx_need_none
-- l_bare_1: head 1:every 2:found of 6
def l_bare_1 : Fs :=
    (sEnd [3, 4] (sIf (bNot (bTru (dOf (eComp (iOf (dOf (eCall m_behind (aCons (eVar 1) (aCons (eVar 3) aNil))))) (gOne 5) [5] (bTest (eBin dIn (dOf (eTup (aCons (eVar 5) (aCons (eVar 4) aNil)))) (dVar 1))) (eVar 5)))))
    (sEnd [3, 4] (sApp 2 (eTup (aCons (eVar 3) (aCons (eVar 4) aNil)))))
    sNil'))
def bx_bare : Fsx :=
    (sSeqX (sDropX (xCall x_need_none (aCons (eVar 0) aNil)))
    (lft (sSeq (sEnd [0] (sSet 1 (eFrz (eCall m_closed (aCons (eVar 0) aNil)))))
    (sSeq (sSet 2 (eLst aNil))
    (sSeq (sEnd [1] (sFor (iVal (eVar 1)) (gMany [3, 4])
    l_bare_1))
    (sRet (eApp gTup (sCons (dVar 2) sNil))))))))
def x_bare : Fnx := runX 6 bx_bare
-- l_orders_from_1: head 0:pairs 1:left 2:found of 8
def l_orders_from_1 (m : Fn) : Fs :=
    (sEnd [3] (sIf (bNot (bTru (dOf (eComp (iOf (dVar 0)) (gMany [4, 5]) [4, 5] (bAnd (bTest (eBin dEq (dVar 5) (dVar 3))) (bTest (eBin dIn (dVar 4) (dVar 1)))) (eVar 4)))))
    (sEnd [3] (sExt 2 (eComp (iOf (dOf (eCall m (aCons (eVar 0) (aCons (eComp (iOf (dVar 1)) (gOne 7) [7] (bTest (eBin dNe (dVar 7) (dVar 3))) (eVar 7)) aNil))))) (gOne 6) [6] bYes (eBin dAdd (dOf (eTup (aCons (eVar 3) aNil))) (dVar 6)))))
    sNil'))
def b_orders_from (m : Fn) : Fs :=
    (sSeq (sIf (bNot (bTru (dVar 1)))
    (sRet (eLst (aCons (eTup aNil) aNil)))
    sNil')
    (sSeq (sSet 2 (eLst aNil))
    (sSeq (sEnd [0, 1] (sFor (iVal (eVar 1)) (gOne 3)
    (l_orders_from_1 m)))
    (sRetO 2))))
def m_orders_from_ : Nat → Fn
  | 0 => fun _ _ => none
  | k + 1 => runB 8 (b_orders_from (m_orders_from_ k))
def m_orders_from : Fn := m_orders_from_ 10
def bx_orders : Fsx :=
    (sSeqX (sDropX (xCall x_need_none (aCons (eVar 0) aNil)))
    (lft (sRet (eApp gTup (sCons (dOf (eCall m_orders_from (aCons (eVar 0) (aCons (eListRg1 (dVar 1)) aNil)))) sNil)))))
def x_orders : Fnx := runX 2 bx_orders
-- l_least_order_2: head 0:pairs 2:found 3:left of 8
def l_least_order_2 : Fs :=
    (sEnd [4] (sIf (bNot (bTru (dOf (eComp (iOf (dVar 0)) (gMany [5, 6]) [5, 6] (bAnd (bTest (eBin dEq (dVar 6) (dVar 4))) (bTest (eBin dIn (dVar 5) (dVar 3)))) (eVar 5)))))
    (sSeq (sSet 2 (eFrz (eBin dAdd (dVar 2) (dOf (eTup (aCons (eVar 4) aNil))))))
    (sSeq (sEnd [4] (sSet 3 (eFrz (eComp (iOf (dVar 3)) (gOne 7) [7] (bTest (eBin dNe (dVar 7) (dVar 4))) (eVar 7)))))
    sBrk))
    sNil'))
-- l_least_order_1: head 0:pairs 2:found 3:left of 8
def l_least_order_1 : Fs :=
    (sFor (iVal (eVar 3)) (gOne 4)
    l_least_order_2)
def b_least_order : Fs :=
    (sSeq (sDrop (eCall m_need_none (aCons (eVar 0) aNil)))
    (sSeq (sSet 2 (eTup aNil))
    (sSeq (sEnd [1] (sSet 3 (eFrz (eListRg1 (dVar 1)))))
    (sSeq (sEnd [0, 3] (loopW (bTru (dVar 3)) l_least_order_1 100000))
    (sRet (eVar 2))))))
def m_least_order : Fn := runB 8 b_least_order
def bx_least_order : Fsx :=
    (sSeqX (sDropX (xCall x_need_none (aCons (eVar 0) aNil)))
    (lft (sSeq (sSet 2 (eTup aNil))
    (sSeq (sEnd [1] (sSet 3 (eFrz (eListRg1 (dVar 1)))))
    (sSeq (sEnd [0, 3] (loopW (bTru (dVar 3)) l_least_order_1 100000))
    (sRet (eVar 2)))))))
def x_least_order : Fnx := runX 8 bx_least_order
-- l_levels_1: head 0:pairs 1:many 2:found of 6
def l_levels_1 : Fs :=
    (sEnd [3] (sPut 2 (dVar 3) (eApp gMax1 (sCons (dOf (eBin dAdd (dOf (eLst (aCons (eC (.int 0)) aNil))) (dOf (eComp (iOf (dVar 0)) (gMany [4, 5]) [4, 5] (bTest (eBin dEq (dVar 5) (dVar 3))) (eBin dAdd (dOf (eBin dIxD (dVar 2) (dVar 4))) (dOf (eC (.int 1)))))))) sNil))))
def bx_levels : Fsx :=
    (sSeqX (sDropX (xCall x_need_none (aCons (eVar 0) aNil)))
    (lft (sSeq (sSet 2 eDicK)
    (sSeq (sEnd [0] (sFor (iVal (eCall m_least_order (aCons (eVar 0) (aCons (eVar 1) aNil)))) (gOne 3)
    l_levels_1))
    (sRet (eApp gTup (sCons (dOf (eComp (iRng1 (dVar 1)) (gOne 3) [3] bYes (eBin dIxD (dVar 2) (dVar 3)))) sNil)))))))
def x_levels : Fnx := runX 6 bx_levels
-- l_plain_keys_1: head 0:found of 4
def l_plain_keys_1 : Fs :=
    (sEnd [1] (sExt 0 (eComp (iRng2 (dOf (eBin dAdd (dVar 1) (dOf (eC (.int 1))))) (dOf (eC (.int 3)))) (gOne 3) [3] bYes (eTup (aCons (eC (.str "sum")) (aCons (eVar 1) (aCons (eVar 3) aNil)))))))
-- l_agreeing_1: head 0:things 1:keys 2:found of 5
def l_agreeing_1 : Fs :=
    (sEnd [3] (sIf (bTru (dOf (eCall m_is_ordered (aCons (eTup (aCons (eVar 3) aNil)) (aCons (eVar 0) aNil)))))
    (sEnd [3] (sExt 2 (eComp (iOf (dVar 1)) (gOne 4) [4] (bAnd (bTest (eBin dNe (dVar 4) (dVar 3))) (bTru (dOf (eCall m_is_ordered (aCons (eTup (aCons (eVar 3) (aCons (eVar 4) aNil))) (aCons (eVar 0) aNil)))))) (eTup (aCons (eVar 3) (aCons (eVar 4) aNil))))))
    sNil'))
-- l_unlike_rows_1: head 1:seen 2:found of 5
def l_unlike_rows_1 : Fs :=
    (sSeq (sSet 4 (eFrz (eCall m_form (aCons (eVar 3) aNil))))
    (sEnd [3, 4] (sIf (bTest (eBin dNotInD (dVar 4) (dVar 1)))
    (sSeq (sEnd [4] (sPut 1 (dVar 4) (eC (.bool true))))
    (sEnd [3] (sApp 2 (eVar 3))))
    sNil')))
-- l__law_rows_1: head 0:_law_every_here 1:_law_got of 4
def l__law_rows_1 : Fs :=
    (sEnd [2] (sSet 1 (eFrz (eBin dAdd (dVar 1) (dOf (eComp (iOf (dVar 0)) (gOne 3) [3] (bTest (eBin dNe (dVar 3) (dVar 2))) (eTup (aCons (eVar 2) (aCons (eVar 3) aNil)))))))))
def by_sh_keep : Fsx :=
    (lft (sSeq (sShApp true 0 (eNow 0))
    (sSeq (sShClr 0)
    (sEnd [1] (sShNow 0 (eVar 1))))))
def y_sh_keep : Fny := runY 2 by_sh_keep
def by_sh_put : Fsx :=
    (sSeqX (lft (sAsg (gMany [2, 3]) (eNow 0)))
    (sSeqX (lft (sSet 4 (eFrz (eCall m_last_place (aCons (eVar 2) (aCons (eVar 3) (aCons (eVar 1) aNil)))))))
    (sSeqX (sEndX [1, 2, 3] (sDropY (yCall y_sh_keep 0 (aCons (eTup (aCons (eVar 2) (aCons (eBin dAdd (dOf (eBin dAdd (dOf (eSl dSl (dVar 3) oNone (oSome (dVar 4)))) (dOf (eTup (aCons (eVar 1) aNil))))) (dOf (eSl dSl (dVar 3) (oSome (dVar 4)) oNone))) aNil))) aNil))))
    (lft (sRetS (eVar 4))))))
def y_sh_put : Fny := runY 5 by_sh_put
def by_sh_take : Fsx :=
    (sSeqX (lft (sAsg (gMany [2, 3]) (eNow 0)))
    (sSeqX (sIfX (bNot (bTest (eChain (dCmp rLe zLe) (dCmp rLt zLt) (dOf (eC (.int 0))) (dVar 1) (dOf (eApp gLen (sCons (dVar 3) sNil))))))
    (sRz 0)
    (lft sNil'))
    (sSeqX (sEndX [2] (sDropY (yCall y_sh_keep 0 (aCons (eTup (aCons (eVar 2) (aCons (eBin dAdd (dOf (eSl dSl (dVar 3) oNone (oSome (dVar 1)))) (dOf (eSl dSl (dVar 3) (oSome (dOf (eBin dAdd (dVar 1) (dOf (eC (.int 1)))))) oNone))) aNil))) aNil))))
    (lft (sRetS (eBin dIx (dVar 3) (dVar 1)))))))
def y_sh_take : Fny := runY 4 by_sh_take
def by_sh_order : Fsx :=
    (sEndX [1] (sDropY (yCall y_sh_keep 0 (aCons (eTup (aCons (eVar 1) (aCons (eCall m_ordered (aCons (eVar 1) (aCons (eBin dIx (dOf (eNow 0)) (dOf (eC (.int 1)))) aNil))) aNil))) aNil))))
def y_sh_order : Fny := runY 2 by_sh_order
def by_sh_back : Fsx :=
    (sSeqX (sIfX (bNot (bTru (dBef true 0)))
    (sRz 1)
    (lft sNil'))
    (lft (sSeq (sShApp false 0 (eNow 0))
    (sShNowX 0 (xShPop true 0)))))
def y_sh_back : Fny := runY 1 by_sh_back
def b_sh_around : Fs :=
    (sSeq (sEnd [0] (sAsg (gMany [2, 3]) (eNow 0)))
    (sRet (eTup (aCons (eCall m_first_place (aCons (eVar 2) (aCons (eVar 3) (aCons (eVar 1) aNil)))) (aCons (eCall m_last_place (aCons (eVar 2) (aCons (eVar 3) (aCons (eVar 1) aNil)))) aNil)))))
def m_sh_around : Fn := runB 4 b_sh_around
def b_sh_between : Fs :=
    (sSeq (sEnd [0] (sAsg (gMany [3, 4]) (eNow 0)))
    (sRet (eApp gTup (sCons (dOf (eComp (iOf (dVar 4)) (gOne 5) [5] (bAnd (bTest (eBin (dCmp rLt zLt) (dOf (eCall m_told (aCons (eVar 3) (aCons (eVar 1) (aCons (eVar 5) aNil))))) (dOf (eC (.int 1))))) (bTest (eBin (dCmp rLt zLt) (dOf (eCall m_told (aCons (eVar 3) (aCons (eVar 5) (aCons (eVar 2) aNil))))) (dOf (eC (.int 1)))))) (eVar 5))) sNil))))
def m_sh_between : Fn := runB 6 b_sh_between
-- l__law_goes_on_3: head 0:_law_row 1:_law_lists 2:_law_some 3:_law_other of 5
def l__law_goes_on_3 : Fs :=
    (sEnd [4] (sIf (bAnd (bTest (eBin (dCmp rLt zLt) (dOf (eCall m_list_told (aCons (eVar 0) (aCons (eVar 2) (aCons (eVar 3) aNil))))) (dOf (eC (.int 1))))) (bTest (eBin (dCmp rLt zLt) (dOf (eCall m_list_told (aCons (eVar 0) (aCons (eVar 3) (aCons (eVar 4) aNil))))) (dOf (eC (.int 1))))))
    (sEnd [4] (sIf (bTest (eBin (dCmp rGt zGt) (dOf (eCall m_list_told (aCons (eVar 0) (aCons (eVar 2) (aCons (eVar 4) aNil))))) (dOf (eC (.int 0)))))
    (sRet (eC (.bool false)))
    sNil'))
    sNil'))
-- l__law_goes_on_2: head 0:_law_row 1:_law_lists 2:_law_some of 5
def l__law_goes_on_2 : Fs :=
    (sEnd [3] (sFor (iVal (eVar 1)) (gOne 4)
    l__law_goes_on_3))
-- l__law_goes_on_1: head 0:_law_row 1:_law_lists of 5
def l__law_goes_on_1 : Fs :=
    (sEnd [2] (sFor (iVal (eVar 1)) (gOne 3)
    l__law_goes_on_2))
-- l__law_ways_1: head 1:_law_got of 3
def l__law_ways_1 : Fs :=
    (sEnd [2] (sSet 1 (eBin dMul (dVar 1) (dVar 2))))
def b_sh_things : Fs :=
    (sRet (eBin dIx (dOf (eNow 0)) (dOf (eC (.int 1)))))
def m_sh_things : Fn := runB 1 b_sh_things
-- l__law_is_paper_1: head 2:_law_forms 3:_law_thing_here of 8
def l__law_is_paper_1 : Fs :=
    (sEnd [4] (sIf (bOr (bNot (bTru (dOf (eIsa "int" (dVar 4))))) (bTru (dOf (eIsa "bool" (dVar 4)))))
    (sRet (eC (.bool false)))
    sNil'))
-- l__law_is_paper_2: head 0:_law_one 1:_law_other_here 3:_law_thing_here of 8
def l__law_is_paper_2 : Fs :=
    (sEnd [5] (sIf (bTest (eBin dIn (dOf (eC (.bool true))) (dOf (eComp (iOf (dVar 5)) (gOne 4) [4] bYes (eIsa "bool" (dVar 4))))))
    (sRet (eC (.bool false)))
    sNil'))
-- l__law_least_v2_2: head 0:_law_forms 1:_law_things 2:_law_one 3:_law_other_here 4:_law_at 5:_law_a 6:_law_b of 8
def l__law_least_v2_2 : Fs :=
    (sEnd [7] (sIf (bOr (bTest (eBin dNe (dOf (eBin (dCmp rLt zLt) (dVar 5) (dOf (eBin dIx (dVar 2) (dVar 7))))) (dOf (eBin (dCmp rLt zLt) (dVar 6) (dOf (eBin dIx (dVar 3) (dVar 7))))))) (bTest (eBin dNe (dOf (eBin (dCmp rGt zGt) (dVar 5) (dOf (eBin dIx (dVar 2) (dVar 7))))) (dOf (eBin (dCmp rGt zGt) (dVar 6) (dOf (eBin dIx (dVar 3) (dVar 7))))))))
    (sRet (eTup (aCons (eC (.str "parts")) (aCons (eBin dIx (dVar 1) (dVar 4)) (aCons (eBin dIx (dVar 1) (dVar 7)) aNil)))))
    sNil'))
-- l__law_least_v2_1: head 0:_law_forms 1:_law_things 2:_law_one 3:_law_other_here of 8
def l__law_least_v2_1 : Fs :=
    (sSeq (sPar 5 6 (aCons (eBin dIx (dVar 2) (dVar 4)) (aCons (eBin dIx (dVar 3) (dVar 4)) aNil)))
    (sEnd [4, 5, 6] (sFor (iRng2 (dOf (eBin dAdd (dVar 4) (dOf (eC (.int 1))))) (dOf (eC (.int 216)))) (gOne 7)
    l__law_least_v2_2)))
def b_chosen : Fs :=
    (sRet (eApp gTup (sCons (dOf (eComp (iOf (dVar 1)) (gOne 2) [2] bYes (eBin dIx (dVar 0) (dVar 2)))) sNil)))
def m_chosen : Fn := runB 3 b_chosen
-- l_choices_2: head 0:many 4:longer of 7
def l_choices_2 : Fs :=
    (sEnd [5] (sExt 4 (eComp (iRng2 (dOf (eBin dAdd (dOf (eApp gMax1 (sCons (dOf (eBin dAdd (dOf (eTup (aCons (eUn dNeg (dOf (eC (.int 1)))) aNil))) (dVar 5))) sNil))) (dOf (eC (.int 1))))) (dVar 0)) (gOne 6) [6] bYes (eBin dAdd (dVar 5) (dOf (eTup (aCons (eVar 6) aNil)))))))
-- l_choices_1: head 0:many 2:found of 7
def l_choices_1 : Fs :=
    (sSeq (sEnd [3] (sSet 4 (eLst aNil)))
    (sSeq (sForK [2] (iVal (eVar 2)) (gOne 5)
    l_choices_2)
    (sEnd [4] (frzAt 4 (sSet 2 (eVar 4))))))
def b_choices : Fs :=
    (sSeq (sSet 2 (eFrz (eLst (aCons (eTup aNil) aNil))))
    (sSeq (sEnd [0] (sForK [1] (iRng1 (dVar 1)) (gOne 3)
    l_choices_1))
    (sRet (eVar 2))))
def m_choices : Fn := runB 7 b_choices
-- l_fewest_1: head 0:row of 4
def l_fewest_1 : Fs :=
    (sSeq (sEnd [1] (sSet 2 (eApp gTup (sCons (dOf (eComp (iOf (dOf (eCall m_choices (aCons (eApp gLen (sCons (dVar 0) sNil)) (aCons (eVar 1) aNil))))) (gOne 3) [3] (bTru (dOf (eCall m_alike (aCons (eCall m_chosen (aCons (eVar 0) (aCons (eVar 3) aNil))) (aCons (eVar 0) aNil))))) (eVar 3))) sNil))))
    (sEnd [2] (sIf (bTru (dVar 2))
    (sRet (eVar 2))
    sNil')))
-- l__law_choices_1: head 1:_law_got of 4
def l__law_choices_1 : Fs :=
    (sEnd [2] (sSet 1 (eFrz (eBin dAdd (dVar 1) (dOf (eComp (iOf (dVar 1)) (gOne 3) [3] bYes (eBin dAdd (dVar 3) (dOf (eTup (aCons (eVar 2) aNil))))))))))
def b_comes_later : Fs :=
    (sSeq (sIf (bTest (eBin dEq (dVar 1) (dOf (eC (.str "many")))))
    (sRet (eBin (dCmp rGt zGt) (dOf (eApp gLen (sCons (dVar 2) sNil))) (dOf (eApp gLen (sCons (dVar 3) sNil)))))
    sNil')
    (sSeq (sIf (bTest (eBin dEq (dVar 1) (dOf (eC (.str "first")))))
    (sRet (eBin (dCmp rGt zGt) (dOf (eCall m_told (aCons (eVar 0) (aCons (eBin dIx (dVar 2) (dOf (eC (.int 0)))) (aCons (eBin dIx (dVar 3) (dOf (eC (.int 0)))) aNil))))) (dOf (eC (.int 0)))))
    sNil')
    (sSeq (sEnd [0, 1, 2, 3] (sIf (bTest (eBin dEq (dVar 1) (dOf (eC (.str "last")))))
    (sRet (eBin (dCmp rGt zGt) (dOf (eCall m_told (aCons (eVar 0) (aCons (eBin dIx (dVar 2) (dOf (eUn dNeg (dOf (eC (.int 1)))))) (aCons (eBin dIx (dVar 3) (dOf (eUn dNeg (dOf (eC (.int 1)))))) aNil))))) (dOf (eC (.int 0)))))
    sNil'))
    (sRet (eC (.bool false))))))
def m_comes_later : Fn := runB 4 b_comes_later
-- l_nested_2: head 1:inner 2:kind 4:found 6:one 7:at of 8
def l_nested_2 : Fs :=
    (sSet 7 (eBin dSub (dVar 7) (dOf (eC (.int 1)))))
-- l_nested_1: head 1:inner 2:kind 4:found of 8
def l_nested_1 : Fs :=
    (sSeq (sEnd [5] (sSet 6 (eFrz (eCall m_ordered (aCons (eVar 1) (aCons (eVar 5) aNil))))))
    (sSeq (sSet 7 (eApp gLen (sCons (dVar 4) sNil)))
    (sSeq (loopW (bAnd (bTest (eBin (dCmp rGt zGt) (dVar 7) (dOf (eC (.int 0))))) (bTru (dOf (eCall m_comes_later (aCons (eVar 1) (aCons (eVar 2) (aCons (eBin dIx (dVar 4) (dOf (eBin dSub (dVar 7) (dOf (eC (.int 1)))))) (aCons (eVar 6) aNil)))))))) l_nested_2 100000)
    (sEnd [6, 7] (sIns 4 (dVar 7) (eVar 6))))))
def b_nested : Fs :=
    (sSeq (sSet 4 (eLst aNil))
    (sSeq (sEnd [1, 2] (sForK [0, 3] (iVal (eCall m_groups (aCons (eVar 0) (aCons (eVar 3) aNil)))) (gOne 5)
    l_nested_1))
    (sRet (eApp gTup (sCons (dVar 4) sNil)))))
def m_nested : Fn := runB 8 b_nested
-- l__law_groups_1: head 0:_law_row 1:_law_inner 2:_law_things 3:_law_got of 6
def l__law_groups_1 : Fs :=
    (sIf (bAnd (bTru (dVar 3)) (bTest (eBin dEq (dOf (eCall m__law_word (aCons (eVar 0) (aCons (eBin dIx (dOf (eBin dIx (dVar 3) (dOf (eUn dNeg (dOf (eC (.int 1))))))) (dOf (eC (.int 0)))) (aCons (eBin dIx (dVar 2) (dVar 4)) aNil))))) (dOf (eC (.int 0))))))
    (sEnd [4] (sSetIx 3 (dOf (eUn dNeg (dOf (eC (.int 1))))) (eBin dAdd (dOf (eBin dIx (dVar 3) (dOf (eUn dNeg (dOf (eC (.int 1))))))) (dOf (eTup (aCons (eBin dIx (dVar 2) (dVar 4)) aNil))))))
    (sEnd [4] (sApp 3 (eTup (aCons (eBin dIx (dVar 2) (dVar 4)) aNil)))))
-- l_merged_all_1: head 0:row 2:left 3:found of 7
def l_merged_all_1 : Fs :=
    (sSeq (sSet 5 (eC .none))
    (sSeq (sEnd [6, 4] (sForEI 2 6 4 (bAnd (bTru (dVar 4)) (bOr (bTest (eBin dIsN (dVar 5) (dOf (eC .none)))) (bTest (eBin (dCmp rLt zLt) (dOf (eCall m_told (aCons (eVar 0) (aCons (eBin dIx (dVar 4) (dOf (eC (.int 0)))) (aCons (eBin dIx (dOf (eBin dIx (dVar 2) (dVar 5))) (dOf (eC (.int 0)))) aNil))))) (dOf (eC (.int 0))))))) 5 (eVar 6)))
    (sSeq (sSet 3 (eFrz (eBin dAdd (dVar 3) (dOf (eSl dSl (dOf (eBin dIx (dVar 2) (dVar 5))) oNone (oSome (dOf (eC (.int 1)))))))))
    (sEnd [5] (sSetIx 2 (dVar 5) (eSl dSl (dOf (eBin dIx (dVar 2) (dVar 5))) (oSome (dOf (eC (.int 1)))) oNone))))))
def b_beats : Fs :=
    (sSeq (sEnd [0, 1, 2] (sSet 3 (eFrz (eComp (iOf (dVar 0)) (gOne 4) [4] bYes (eCall m_told (aCons (eVar 4) (aCons (eVar 1) (aCons (eVar 2) aNil))))))))
    (sRet (eAnd (eBin dIn (dOf (eUn dNeg (dOf (eC (.int 1))))) (dVar 3)) (eBin dNotIn (dOf (eC (.int 1))) (dVar 3)))))
def m_beats : Fn := runB 5 b_beats
-- l_front_1: head 0:rows 1:things 2:found of 6
def l_front_1 : Fs :=
    (sEnd [3, 4] (sIf (bNot (bTru (dOf (eApp gAnyX (sCons (dOf (eComp (iOf (dVar 1)) (gOne 5) [5] bYes (eCall m_beats (aCons (eVar 0) (aCons (eVar 5) (aCons (eVar 4) aNil)))))) sNil)))))
    (sEnd [3, 4] (sApp 2 (eVar 3)))
    sNil'))
def b_front : Fs :=
    (sSeq (sSet 2 (eLst aNil))
    (sSeq (sEnd [0, 1] (sFor (iEnumF (eVar 1)) (gMany [3, 4])
    l_front_1))
    (sRet (eApp gTup (sCons (dVar 2) sNil)))))
def m_front : Fn := runB 6 b_front
-- l_layers_1: head 0:rows 1:things 2:left 3:found of 7
def l_layers_1 : Fs :=
    (sSeq (sSet 4 (eFrz (eCall m_front (aCons (eVar 0) (aCons (eApp gTup (sCons (dOf (eComp (iOf (dVar 2)) (gOne 5) [5] bYes (eBin dIx (dVar 1) (dVar 5)))) sNil)) aNil)))))
    (sSeq (sEnd [4] (sSet 6 (eApp gTup (sCons (dOf (eComp (iOf (dVar 4)) (gOne 5) [5] bYes (eBin dIx (dVar 2) (dVar 5)))) sNil))))
    (sSeq (sSet 3 (eFrz (eBin dAdd (dVar 3) (dOf (eTup (aCons (eVar 6) aNil))))))
    (sEnd [6] (sSet 2 (eFrz (eComp (iOf (dVar 2)) (gOne 5) [5] (bTest (eBin dNotIn (dVar 5) (dVar 6))) (eVar 5))))))))
-- l_agreed_1: head 0:rows 1:things 2:found of 7
def l_agreed_1 : Fs :=
    (sEnd [3, 4] (sExt 2 (eComp (iEnumV (dVar 1)) (gMany [5, 6]) [5, 6] (bTru (dOf (eCall m_beats (aCons (eVar 0) (aCons (eVar 4) (aCons (eVar 6) aNil)))))) (eTup (aCons (eVar 3) (aCons (eVar 5) aNil))))))
-- l__law_rows_v2_1: head 0:_law_script 1:_law_town 2:_law_rows_here of 6
def l__law_rows_v2_1 : Fs :=
    (sSeq (sEnd [3] (sSet 4 (eFrz (eCall m__law_keys (aCons (eVar 0) (aCons (eVar 1) (aCons (eC (.int 2)) aNil)))))))
    (sSeq (sIf (bAnd (bTru (dVar 2)) (bTest (eBin dEq (dOf (eCall m__law_draw (aCons (eVar 0) (aCons (eVar 1) (aCons (eC (.int 4)) aNil))))) (dOf (eC (.int 0))))))
    (sSet 4 (eApp gTup (sCons (dOf (eComp (iOf (dOf (eBin dIx (dVar 2) (dOf (eC (.int 0)))))) (gOne 5) [5] bYes (eCall m__law_turn (aCons (eVar 5) aNil)))) sNil)))
    sNil')
    (sEnd [4] (sSet 2 (eFrz (eBin dAdd (dVar 2) (dOf (eTup (aCons (eVar 4) aNil)))))))))
def b_sh_row : Fs :=
    (sRet (eBin dIx (dOf (eNow 0)) (dOf (eC (.int 0)))))
def m_sh_row : Fn := runB 1 b_sh_row
def b__law_draw_v2 : Fs :=
    (sSeq (sTown 1)
    (sSeq (sEnd [1] (sSet 3 (eTLen 1)))
    (sSeq (sSet 4 (eC (.int 0)))
    (sSeq (sEnd [0] (sIf (bTru (dVar 0))
    (sEnd [0] (sSet 4 (eBin dIx (dVar 0) (dOf (eBin dMod (dVar 3) (dOf (eApp gLen (sCons (dVar 0) sNil))))))))
    sNil'))
    (sSeq (sEnd [3, 4] (sSet 5 (eBin dMod (dOf (eBin dAdd (dVar 4) (dOf (eBin dMul (dOf (eC (.int 104729))) (dVar 3))))) (dOf (eC (.int 4294967291))))))
    (sSeq (sSet 5 (eBin dMod (dOf (eBin dMul (dOf (eBin dMod (dOf (eBin dMul (dVar 5) (dVar 5))) (dOf (eC (.int 4294967279))))) (dOf (eC (.int 48271))))) (dOf (eC (.int 4294967291)))))
    (sSeq (sSet 6 (eBin dMod (dOf (eBin dMul (dOf (eBin dMod (dOf (eBin dMul (dVar 5) (dVar 5))) (dOf (eC (.int 4294967279))))) (dOf (eC (.int 69621))))) (dOf (eC (.int 4294967291)))))
    (sRet (eBin dMod (dOf (eBin dAdd (dOf (eBin dMul (dOf (eBin dDiv (dVar 5) (dOf (eC (.int 64))))) (dOf (eC (.int 67108864))))) (dOf (eBin dDiv (dVar 6) (dOf (eC (.int 64))))))) (dVar 2))))))))))
def m__law_draw_v2 : Fn := runB 7 b__law_draw_v2
def b__law_pick_v2 : Fs :=
    (sRet (eBin dIx (dVar 2) (dOf (eCall m__law_draw_v2 (aCons (eVar 0) (aCons (eVar 1) (aCons (eApp gLen (sCons (dVar 2) sNil)) aNil)))))))
def m__law_pick_v2 : Fn := runB 3 b__law_pick_v2
-- l__law_plain_v2_1: head 0:_law_script 1:_law_town 2:_law_field 3:_law_word 6:_law_left 7:_law_got of 9
def l__law_plain_v2_1 : Fs :=
    (sEnd [8] (sSetX 7 (xCat (eVar 7) (xTup1 (xPop 6 (dOf (eCall m__law_draw_v2 (aCons (eVar 0) (aCons (eVar 1) (aCons (eApp gLen (sCons (dVar 6) sNil)) aNil))))))))))
def b__law_plain_v2 : Fs :=
    (sSeq (sPar 2 3 (aCons (eCall m__law_draw_v2 (aCons (eVar 0) (aCons (eVar 1) (aCons (eC (.int 3)) aNil)))) (aCons (eCall m__law_draw_v2 (aCons (eVar 0) (aCons (eVar 1) (aCons (eC (.int 6)) aNil)))) aNil)))
    (sSeq (sIf (bTest (eBin (dCmp rLt zLt) (dVar 3) (dOf (eC (.int 2)))))
    (sRet (eTup (aCons (eC (.str "up")) (aCons (eVar 2) aNil))))
    sNil')
    (sSeq (sIf (bTest (eBin dEq (dVar 3) (dOf (eC (.int 2)))))
    (sRet (eTup (aCons (eCall m__law_pick_v2 (aCons (eVar 0) (aCons (eVar 1) (aCons (eLst (aCons (eC (.str "part")) (aCons (eC (.str "rest")) aNil))) aNil)))) (aCons (eVar 2) (aCons (eBin dAdd (dOf (eC (.int 2))) (dOf (eCall m__law_draw_v2 (aCons (eVar 0) (aCons (eVar 1) (aCons (eC (.int 2)) aNil)))))) aNil)))))
    sNil')
    (sSeq (sIf (bTest (eBin dEq (dVar 3) (dOf (eC (.int 5)))))
    (sSeq (sEnd [2, 3] (sAsg (gMany [4, 5]) (eCall m__law_pick_v2 (aCons (eVar 0) (aCons (eVar 1) (aCons (eLst (aCons (eTup (aCons (eC (.int 0)) (aCons (eC (.int 1)) aNil))) (aCons (eTup (aCons (eC (.int 0)) (aCons (eC (.int 2)) aNil))) (aCons (eTup (aCons (eC (.int 1)) (aCons (eC (.int 2)) aNil))) aNil)))) aNil))))))
    (sRet (eTup (aCons (eCall m__law_pick_v2 (aCons (eVar 0) (aCons (eVar 1) (aCons (eLst (aCons (eC (.str "sum")) (aCons (eC (.str "gap")) (aCons (eC (.str "most")) aNil)))) aNil)))) (aCons (eVar 4) (aCons (eVar 5) aNil))))))
    sNil')
    (sSeq (sParO 6 7 (eLst (aCons (eC (.int 0)) (aCons (eC (.int 1)) (aCons (eC (.int 2)) (aCons (eC (.int 3)) (aCons (eC (.int 4)) (aCons (eC (.int 5)) aNil))))))) (eTup aNil))
    (sSeq (sEnd [0, 1, 6] (sFor (iRng1 (dOf (eBin dAdd (dOf (eC (.int 1))) (dOf (eCall m__law_draw_v2 (aCons (eVar 0) (aCons (eVar 1) (aCons (eC (.int 4)) aNil)))))))) (gOne 8)
    l__law_plain_v2_1))
    (sRet (eIf (bTest (eBin dEq (dVar 3) (dOf (eC (.int 3))))) (eTup (aCons (eC (.str "table")) (aCons (eVar 2) (aCons (eVar 7) aNil)))) (eTup (aCons (eC (.str "among")) (aCons (eVar 2) (aCons (eApp gTup (sCons (dOf (eApp gSorted (sCons (dVar 7) sNil))) sNil)) aNil))))))))))))
def m__law_plain_v2 : Fn := runB 9 b__law_plain_v2
-- l__law_row_v2_1: head 0:_law_script 1:_law_town 3:_law_got of 6
def l__law_row_v2_1 : Fs :=
    (sSeq (sEnd [4] (sSet 5 (eFrz (eCall m__law_plain_v2 (aCons (eVar 0) (aCons (eVar 1) aNil))))))
    (sEnd [5] (sSet 3 (eFrz (eBin dAdd (dVar 3) (dOf (eTup (aCons (eIf (bTest (eBin dEq (dOf (eCall m__law_draw_v2 (aCons (eVar 0) (aCons (eVar 1) (aCons (eC (.int 3)) aNil))))) (dOf (eC (.int 0))))) (eTup (aCons (eC (.str "down")) (aCons (eVar 5) aNil))) (eVar 5)) aNil))))))))
def b__law_thing_v2 : Fs :=
    (sRet (eApp gTup (sCons (dOf (eComp (iRng1 (dOf (eC (.int 3)))) (gOne 2) [2] bYes (eCall m__law_draw_v2 (aCons (eVar 0) (aCons (eVar 1) (aCons (eC (.int 6)) aNil)))))) sNil)))
def m__law_thing_v2 : Fn := runB 3 b__law_thing_v2
-- l__law_form_holds_1: head 0:_law_script 1:_law_town 2:_law_row_here 3:_law_every 4:_law_some 5:_law_many of 16
def l__law_form_holds_1 : Fs :=
    (sSeq (sEnd [7] (sPar 6 8 (aCons (eCall m__law_draw_v2 (aCons (eVar 0) (aCons (eVar 1) (aCons (eC (.int 216)) aNil)))) (aCons (eCall m__law_draw_v2 (aCons (eVar 0) (aCons (eVar 1) (aCons (eC (.int 216)) aNil)))) aNil))))
    (sSeq (sPar 9 10 (aCons (eBin dIx (dVar 4) (dVar 6)) (aCons (eBin dIx (dVar 4) (dVar 8)) aNil)))
    (sEnd [6, 8, 9, 10] (sIf (bTest (eBin dNe (dOf (eCall m_told (aCons (eVar 2) (aCons (eBin dIx (dVar 3) (dVar 6)) (aCons (eBin dIx (dVar 3) (dVar 8)) aNil))))) (dOf (eBin dSub (dOf (eApp gInt (sCons (dOf (eBin (dCmp rGt zGt) (dVar 9) (dVar 10))) sNil))) (dOf (eApp gInt (sCons (dOf (eBin (dCmp rLt zLt) (dVar 9) (dVar 10))) sNil)))))))
    (sRet (eC (.bool false)))
    sNil'))))
-- l__law_pair_holds_1: head 0:_law_script 1:_law_town 2:_law_one 3:_law_other 4:_law_pair 5:_law_is_kept 6:_law_every of 13
def l__law_pair_holds_1 : Fs :=
    (sSeq (sEnd [9] (sAsg (gMany [10, 11]) (eApp gSorted (sCons (dOf (eLst (aCons (eCall m__law_draw_v2 (aCons (eVar 0) (aCons (eVar 1) (aCons (eC (.int 216)) aNil)))) (aCons (eCall m__law_draw_v2 (aCons (eVar 0) (aCons (eVar 1) (aCons (eC (.int 216)) aNil)))) aNil)))) sNil))))
    (sSeq (sSet 12 (eTup (aCons (eBin dIx (dVar 6) (dVar 10)) (aCons (eBin dIx (dVar 6) (dVar 11)) aNil))))
    (sEnd [10, 11, 12] (sIf (bAnd (bTest (eBin (dCmp rLt zLt) (dVar 10) (dVar 11))) (bOr (bTest (eBin dIsN (dVar 4) (dOf (eC .none)))) (bTest (eBin (dCmp rLt zLt) (dVar 12) (dVar 4)))))
    (sSeq (sEnd [10, 11, 12] (sPar 7 8 (aCons (eCall m_told (aCons (eVar 2) (aCons (eBin dIx (dVar 12) (dOf (eC (.int 0)))) (aCons (eBin dIx (dVar 12) (dOf (eC (.int 1)))) aNil)))) (aCons (eCall m_told (aCons (eVar 3) (aCons (eBin dIx (dVar 12) (dOf (eC (.int 0)))) (aCons (eBin dIx (dVar 12) (dOf (eC (.int 1)))) aNil)))) aNil))))
    (sEnd [7, 8] (sIf (bAnd (bTest (eBin dNe (dVar 7) (dVar 8))) (bOr (bNot (bTru (dVar 5))) (bTest (eBin dNe (dVar 8) (dOf (eC (.int 0)))))))
    (sRet (eC (.bool false)))
    sNil')))
    sNil'))))
-- l__law_choices_v2_2: head 0:_law_many 1:_law_some 2:_law_got 3:_law_first of 6
def l__law_choices_v2_2 (m : Fn) : Fs :=
    (sEnd [4] (sApp 2 (eBin dAdd (dOf (eTup (aCons (eVar 3) aNil))) (dOf (eApp gTup (sCons (dOf (eComp (iOf (dVar 4)) (gOne 5) [5] bYes (eBin dAdd (dOf (eBin dAdd (dVar 5) (dVar 3))) (dOf (eC (.int 1)))))) sNil))))))
-- l__law_choices_v2_1: head 0:_law_many 1:_law_some 2:_law_got of 6
def l__law_choices_v2_1 (m : Fn) : Fs :=
    (sEnd [3] (sFor (iVal (eCall m (aCons (eBin dSub (dOf (eBin dSub (dVar 0) (dVar 3))) (dOf (eC (.int 1)))) (aCons (eBin dSub (dVar 1) (dOf (eC (.int 1)))) aNil)))) (gOne 4)
    (l__law_choices_v2_2 m)))
-- l__law_few_hold_1: head 0:_law_row_here 2:_law_every of 7
def l__law_few_hold_1 : Fs :=
    (sEnd [4] (sIf (bTest (eBin dNe (dOf (eCall m_alike (aCons (eApp gTup (sCons (dOf (eComp (iOf (dVar 4)) (gOne 5) [5] bYes (eBin dIx (dVar 0) (dVar 5)))) sNil)) (aCons (eVar 0) aNil)))) (dOf (eBin dIn (dVar 4) (dVar 2)))))
    (sRet (eC (.bool false)))
    sNil'))
-- l__law_few_hold_3: head 0:_law_row_here 4:_law_some of 7
def l__law_few_hold_3 : Fs :=
    (sEnd [6] (sIf (bTru (dOf (eCall m_alike (aCons (eApp gTup (sCons (dOf (eComp (iOf (dOf (eBin dAdd (dOf (eSl dSl (dVar 4) oNone (oSome (dVar 6)))) (dOf (eSl dSl (dVar 4) (oSome (dOf (eBin dAdd (dVar 6) (dOf (eC (.int 1)))))) oNone))))) (gOne 5) [5] bYes (eBin dIx (dVar 0) (dVar 5)))) sNil)) (aCons (eVar 0) aNil)))))
    (sRet (eC (.bool false)))
    sNil'))
-- l__law_few_hold_2: head 0:_law_row_here of 7
def l__law_few_hold_2 : Fs :=
    (sSeq (sIf (bOr (bTest (eBin dNe (dOf (eApp gList (sCons (dVar 4) sNil))) (dOf (eApp gSortDict (sCons (dOf (eComp (iOf (dVar 4)) (gOne 5) [5] bYes (eTup (aCons (eVar 5) (aCons (eC (.int 0)) aNil))))) sNil))))) (bNot (bTru (dOf (eApp gAll (sCons (dOf (eComp (iOf (dVar 4)) (gOne 5) [5] bYes (eChain (dCmp rLe zLe) (dCmp rLt zLt) (dOf (eC (.int 0))) (dVar 5) (dOf (eApp gLen (sCons (dVar 0) sNil)))))) sNil))))))
    (sRet (eC (.bool false)))
    sNil')
    (sSeq (sIf (bNot (bTru (dOf (eCall m_alike (aCons (eApp gTup (sCons (dOf (eComp (iOf (dVar 4)) (gOne 5) [5] bYes (eBin dIx (dVar 0) (dVar 5)))) sNil)) (aCons (eVar 0) aNil))))))
    (sRet (eC (.bool false)))
    sNil')
    (sEnd [4] (sFor (iRng1 (dOf (eApp gLen (sCons (dVar 4) sNil)))) (gOne 6)
    l__law_few_hold_3))))
-- l__law_things_1: head 0:_law_script 1:_law_town 3:_law_got of 5
def l__law_things_1 : Fs :=
    (sEnd [4] (sSet 3 (eFrz (eBin dAdd (dVar 3) (dOf (eTup (aCons (eCall m__law_pick_v2 (aCons (eVar 0) (aCons (eVar 1) (aCons (eBin dAdd (dOf (eTup (aCons (eCall m__law_thing_v2 (aCons (eVar 0) (aCons (eVar 1) aNil))) aNil))) (dOf (eSl dSl (dVar 3) oNone (oSome (dOf (eC (.int 1))))))) aNil)))) aNil)))))))
-- l__law_order_holds_1: head 0:_law_row_here 1:_law_things_here of 7
def l__law_order_holds_1 : Fs :=
    (sSeq (sSet 5 (eFrz (eCall m_told (aCons (eVar 0) (aCons (eBin dIx (dVar 1) (dVar 3)) (aCons (eBin dIx (dVar 1) (dVar 4)) aNil))))))
    (sEnd [3, 4, 5] (sIf (bOr (bTest (eBin (dCmp rGt zGt) (dVar 5) (dOf (eC (.int 0))))) (bAnd (bTest (eBin dEq (dVar 5) (dOf (eC (.int 0))))) (bTest (eBin (dCmp rGt zGt) (dVar 3) (dVar 4)))))
    (sRet (eC (.bool false)))
    sNil')))
-- l__law_runs_hold_1: head 0:_law_row_here 1:_law_things_here 2:_law_some 3:_law_whole of 6
def l__law_runs_hold_1 : Fs :=
    (sSeq (sEnd [4] (sIf (bOr (bTest (eBin dEq (dVar 5) (dOf (eTup aNil)))) (bOr (bNot (bTru (dOf (eCall m_is_ordered (aCons (eVar 0) (aCons (eVar 5) aNil)))))) (bAnd (bTru (dVar 4)) (bTest (eBin dNe (dOf (eCall m_told (aCons (eVar 0) (aCons (eBin dIx (dOf (eBin dIx (dVar 2) (dOf (eBin dSub (dVar 4) (dOf (eC (.int 1))))))) (dOf (eUn dNeg (dOf (eC (.int 1)))))) (aCons (eBin dIx (dVar 5) (dOf (eC (.int 0)))) aNil))))) (dOf (eC (.int 1))))))))
    (sRet (eC (.bool false)))
    sNil'))
    (sEnd [5] (sSet 3 (eFrz (eBin dAdd (dVar 3) (dVar 5))))))
-- l__law_turns_hold_1: head 0:_law_row_here 1:_law_things_here 2:_law_some 3:_law_many 4:_law_due of 7
def l__law_turns_hold_1 : Fs :=
    (sPar 3 4 (aCons (eBin dDiv (dOf (eBin dAdd (dVar 3) (dOf (eC (.int 1))))) (dOf (eC (.int 2)))) (aCons (eBin dAdd (dVar 4) (dOf (eC (.int 1)))) aNil)))
-- l__law_turns_hold_2: head 0:_law_row_here 1:_law_things_here 5:_law_before of 7
def l__law_turns_hold_2 : Fs :=
    (sSeq (sIf (bOr (bTest (eBin dNe (dOf (eApp gSorted (sCons (dVar 6) sNil))) (dOf (eApp gSorted (sCons (dVar 1) sNil))))) (bTest (eBin (dCmp rGe zGe) (dOf (eApp gLen (sCons (dOf (eCall m_runs (aCons (eVar 0) (aCons (eVar 6) aNil)))) sNil))) (dOf (eApp gLen (sCons (dOf (eCall m_runs (aCons (eVar 0) (aCons (eVar 5) aNil)))) sNil))))))
    (sRet (eC (.bool false)))
    sNil')
    (sSeq (sEnd [5] (sIf (bOr (bTest (eBin (dCmp rGt zGt) (dOf (eCall m_crossings (aCons (eVar 0) (aCons (eVar 6) aNil)))) (dOf (eCall m_crossings (aCons (eVar 0) (aCons (eVar 5) aNil)))))) (bTest (eBin dNe (dOf (eCall m_ordered (aCons (eVar 0) (aCons (eVar 6) aNil)))) (dOf (eCall m_ordered (aCons (eVar 0) (aCons (eVar 1) aNil)))))))
    (sRet (eC (.bool false)))
    sNil'))
    (sEnd [6] (sSet 5 (eVar 6)))))
-- l__law_place_holds_1: head 0:_law_row_here 1:_law_things_here 2:_law_thing_here of 8
def l__law_place_holds_1 : Fs :=
    (sEnd [7] (sIf (bNot (bTru (dOf (eCall m_is_ordered (aCons (eVar 0) (aCons (eBin dAdd (dOf (eBin dAdd (dOf (eSl dSl (dVar 1) oNone (oSome (dVar 7)))) (dOf (eTup (aCons (eVar 2) aNil))))) (dOf (eSl dSl (dVar 1) (oSome (dVar 7)) oNone))) aNil))))))
    (sRet (eC (.bool false)))
    sNil'))
-- l__law_groups_hold_1: head 0:_law_row_here 1:_law_things_here 2:_law_some 3:_law_whole of 10
def l__law_groups_hold_1 : Fs :=
    (sSeq (sEnd [4] (sIf (bOr (bTru (dOf (eApp gAnyX (sCons (dOf (eComp (iOf (dVar 5)) (gOne 6) [6] bYes (eCall m_told (aCons (eVar 0) (aCons (eBin dIx (dVar 5) (dOf (eC (.int 0)))) (aCons (eVar 6) aNil)))))) sNil)))) (bAnd (bTru (dVar 4)) (bTest (eBin dNe (dOf (eCall m_told (aCons (eVar 0) (aCons (eBin dIx (dOf (eBin dIx (dVar 2) (dOf (eBin dSub (dVar 4) (dOf (eC (.int 1))))))) (dOf (eC (.int 0)))) (aCons (eBin dIx (dVar 5) (dOf (eC (.int 0)))) aNil))))) (dOf (eUn dNeg (dOf (eC (.int 1)))))))))
    (sRet (eC (.bool false)))
    sNil'))
    (sEnd [5] (sSet 3 (eFrz (eBin dAdd (dVar 3) (dVar 5))))))
-- l__law_groups_hold_3: head 0:_law_row_here 1:_law_things_here 2:_law_some 3:_law_whole 7:_law_many 8:_law_top 9:_law_size of 10
def l__law_groups_hold_3 : Fs :=
    (sEnd [5] (sSet 9 (eFrz (eBin dAdd (dVar 9) (dOf (eIf (bTest (eBin (dCmp rLt zLt) (dVar 9) (dVar 7))) (eApp gLen (sCons (dVar 5) sNil)) (eC (.int 0))))))))
-- l__law_groups_hold_2: head 0:_law_row_here 1:_law_things_here 2:_law_some 3:_law_whole of 10
def l__law_groups_hold_2 : Fs :=
    (sSeq (sSet 8 (eFrz (eCall m_best (aCons (eVar 0) (aCons (eVar 1) (aCons (eVar 7) aNil))))))
    (sSeq (sSet 9 (eC (.int 0)))
    (sSeq (sFor (iVal (eVar 2)) (gOne 5)
    l__law_groups_hold_3)
    (sEnd [7, 8, 9] (sIf (bOr (bTest (eBin dNe (dVar 8) (dOf (eSl dSl (dVar 3) oNone (oSome (dVar 9)))))) (bTest (eBin (dCmp rLt zLt) (dOf (eApp gLen (sCons (dVar 8) sNil))) (dVar 7))))
    (sRet (eC (.bool false)))
    sNil')))))
-- l__law_mixed_1: head 0:_law_script 1:_law_town 3:_law_left 4:_law_got of 5
def l__law_mixed_1 : Fs :=
    (sAppX 4 (xPop 3 (dOf (eCall m__law_draw_v2 (aCons (eVar 0) (aCons (eVar 1) (aCons (eApp gLen (sCons (dVar 3) sNil)) aNil)))))))
-- l__law_ranks_hold_2: head 0:_law_table 1:_law_some 2:_law_one 3:_law_at of 6
def l__law_ranks_hold_2 : Fs :=
    (sEnd [4, 5] (sIf (bTest (eBin dNe (dOf (eBin dIx (dOf (eBin dIx (dVar 0) (dVar 3))) (dVar 4))) (dOf (eBin dSub (dOf (eApp gInt (sCons (dOf (eBin (dCmp rGt zGt) (dVar 2) (dVar 5))) sNil))) (dOf (eApp gInt (sCons (dOf (eBin (dCmp rLt zLt) (dVar 2) (dVar 5))) sNil)))))))
    (sRet (eC (.bool false)))
    sNil'))
-- l__law_ranks_hold_1: head 0:_law_table 1:_law_some of 6
def l__law_ranks_hold_1 : Fs :=
    (sEnd [2, 3] (sFor (iEnumF (eVar 1)) (gMany [4, 5])
    l__law_ranks_hold_2))
-- l__law_pairs_v2_1: head 0:_law_script 1:_law_town 2:_law_many 3:_law_got of 8
def l__law_pairs_v2_1 : Fs :=
    (sSeq (sEnd [4] (sPar 5 6 (aCons (eCall m__law_draw_v2 (aCons (eVar 0) (aCons (eVar 1) (aCons (eVar 2) aNil)))) (aCons (eCall m__law_draw_v2 (aCons (eVar 0) (aCons (eVar 1) (aCons (eVar 2) aNil)))) aNil))))
    (sEnd [5, 6] (sIf (bTest (eBin dNe (dVar 5) (dVar 6)))
    (sSeq (sSet 7 (eTup (aCons (eApp gMin2 (sCons (dVar 5) (sCons (dVar 6) sNil))) (aCons (eApp gMax2 (sCons (dVar 5) (sCons (dVar 6) sNil))) aNil))))
    (sEnd [5, 6, 7] (sPut 3 (dOf (eIf (bTru (dOf (eCall m__law_draw_v2 (aCons (eVar 0) (aCons (eVar 1) (aCons (eC (.int 8)) aNil)))))) (eVar 7) (eTup (aCons (eApp gMax2 (sCons (dVar 5) (sCons (dVar 6) sNil))) (aCons (eApp gMin2 (sCons (dVar 5) (sCons (dVar 6) sNil))) aNil))))) (eC (.int 0)))))
    sNil')))
-- l__law_closed_holds_2: head 0:_law_pairs_here 1:_law_every 3:_law_one 4:_law_other of 8
def l__law_closed_holds_2 : Fs :=
    (sEnd [6, 7] (sIf (bAnd (bTest (eBin dEq (dVar 6) (dVar 4))) (bTest (eBin dNotIn (dOf (eTup (aCons (eVar 3) (aCons (eVar 7) aNil)))) (dVar 1))))
    (sRet (eC (.bool false)))
    sNil'))
-- l__law_closed_holds_1: head 0:_law_pairs_here 1:_law_every of 8
def l__law_closed_holds_1 : Fs :=
    (sSeq (sSet 5 (eFrz (eComp (iOf (dVar 1)) (gMany [6, 7]) [6, 7] (bTest (eBin dEq (dVar 6) (dVar 3))) (eVar 7))))
    (sSeq (sEnd [5] (sIf (bAnd (bTest (eBin dNotIn (dOf (eTup (aCons (eVar 3) (aCons (eVar 4) aNil)))) (dVar 0))) (bNot (bTru (dOf (eApp gAnyX (sCons (dOf (eComp (iOf (dVar 5)) (gOne 7) [7] bYes (eBin dIn (dOf (eTup (aCons (eVar 7) (aCons (eVar 4) aNil)))) (dVar 0)))) sNil))))))
    (sRet (eC (.bool false)))
    sNil'))
    (sEnd [3, 4] (sFor (iVal (eVar 1)) (gMany [6, 7])
    l__law_closed_holds_2))))
-- l__law_refused_1: head 0:_law_pairs_here 1:_law_many 2:_law_got of 4
def l__law_refused_1 : Fs :=
    (sTry (sIfX (bTest (eBin dEq (dVar 3) (dOf (eC (.str "bare")))))
    (sEndX [3] (sDropX (xCall x_bare (aCons (eVar 0) aNil))))
    (sIfX (bTest (eBin dEq (dVar 3) (dOf (eC (.str "orders")))))
    (sEndX [3] (sDropX (xCall x_orders (aCons (eVar 0) (aCons (eVar 1) aNil)))))
    (sIfX (bTest (eBin dEq (dVar 3) (dOf (eC (.str "least")))))
    (sEndX [3] (sDropX (xCall x_least_order (aCons (eVar 0) (aCons (eVar 1) aNil)))))
    (sEndX [3] (sDropX (xCall x_levels (aCons (eVar 0) (aCons (eVar 1) aNil))))))))
    (sEnd [3] (sSet 2 (eFrz (eBin dAdd (dVar 2) (dOf (eC (.int 1))))))))
-- l__law_orders_hold_1: head 0:_law_pairs_here 1:_law_many 2:_law_some 3:_law_few 4:_law_high of 14
def l__law_orders_hold_1 : Fs :=
    (sSeq (sSet 6 (eFrz (eComp (iOf (dVar 0)) (gMany [7, 8]) [7, 8] (bTest (eBin (dCmp rGt zGt) (dOf (eMt isTupD gIndexT (dVar 5) (sCons (dVar 7) sNil))) (dOf (eMt isTupD gIndexT (dVar 5) (sCons (dVar 8) sNil))))) (eVar 7))))
    (sEnd [5, 6] (sIf (bOr (bTest (eBin dNe (dOf (eApp gSorted (sCons (dVar 5) sNil))) (dOf (eListRg1 (dVar 1))))) (bTest (eBin dNe (dVar 6) (dOf (eLst aNil)))))
    (sRet (eC (.bool false)))
    sNil')))
-- l__law_orders_hold_2: head 0:_law_pairs_here 1:_law_many 2:_law_some 3:_law_few 4:_law_high of 14
def l__law_orders_hold_2 : Fs :=
    (sEnd [9, 10] (sIf (bTest (eBin dIn (dVar 9) (dOf (eCall m_closed (aCons (eBin dAdd (dOf (eSl dSl (dVar 3) oNone (oSome (dVar 10)))) (dOf (eSl dSl (dVar 3) (oSome (dOf (eBin dAdd (dVar 10) (dOf (eC (.int 1)))))) oNone))) aNil)))))
    (sRet (eC (.bool false)))
    sNil'))
-- l__law_orders_hold_3: head 0:_law_pairs_here 1:_law_many 2:_law_some 4:_law_high of 14
def l__law_orders_hold_3 : Fs :=
    (sEnd [11] (sIf (bTest (eBin dNe (dOf (eBin dIx (dVar 4) (dVar 11))) (dOf (eApp gMax1 (sCons (dOf (eBin dAdd (dOf (eLst (aCons (eC (.int 0)) aNil))) (dOf (eComp (iOf (dVar 0)) (gMany [7, 8]) [7, 8] (bTest (eBin dEq (dVar 8) (dVar 11))) (eBin dAdd (dOf (eBin dIx (dVar 4) (dVar 7))) (dOf (eC (.int 1)))))))) sNil)))))
    (sRet (eC (.bool false)))
    sNil'))
-- l__law_orders_hold_4: head 0:_law_pairs_here 1:_law_many 2:_law_some of 14
def l__law_orders_hold_4 : Fs :=
    (sEnd [5, 12] (sIf (bTest (eBin dNe (dOf (eApp gLenDictB (sCons (dOf (eComp (iOf (dVar 2)) (gOne 13) [13] bYes (eTup (aCons (eBin (dCmp rLt zLt) (dOf (eMt isTupD gIndexT (dVar 13) (sCons (dVar 5) sNil))) (dOf (eMt isTupD gIndexT (dVar 13) (sCons (dVar 12) sNil)))) (aCons (eC (.int 0)) aNil))))) sNil))) (dOf (eC (.int 2)))))
    (sRet (eC (.bool false)))
    sNil'))
-- l__law_all_rows_1: head 0:_law_keys 1:_law_got of 4
def l__law_all_rows_1 : Fs :=
    (sEnd [2] (sExt 1 (eComp (iOf (dVar 0)) (gOne 3) [3] (bTest (eBin dNe (dVar 3) (dVar 2))) (eTup (aCons (eVar 2) (aCons (eVar 3) aNil))))))
-- l__law_unlike_holds_1: head 1:_law_few 2:_law_at of 5
def l__law_unlike_holds_1 : Fs :=
    (sEnd [3] (sIf (bNot (bTru (dOf (eApp gAnyX (sCons (dOf (eComp (iOf (dOf (eSl dSl (dVar 1) oNone (oSome (dVar 2))))) (gOne 4) [4] bYes (eCall m_alike (aCons (eVar 3) (aCons (eVar 4) aNil))))) sNil)))))
    (sSeq (sEnd [3] (sIf (bOr (bTest (eBin dEq (dVar 2) (dOf (eApp gLen (sCons (dVar 1) sNil))))) (bTest (eBin dNe (dOf (eBin dIx (dVar 1) (dVar 2))) (dVar 3))))
    (sRet (eC (.bool false)))
    sNil'))
    (sSet 2 (eFrz (eBin dAdd (dVar 2) (dOf (eC (.int 1)))))))
    sNil'))
-- l__law_layers_hold_2: head 0:_law_rows 1:_law_things_here 2:_law_some 3:_law_left 4:_law_at 5:_law_layer of 11
def l__law_layers_hold_2 : Fs :=
    (sSeq (sSet 9 (eFrz (eComp (iOf (dOf (eBin dIx (dVar 2) (dOf (eBin dSub (dVar 4) (dOf (eC (.int 1)))))))) (gOne 8) [8] bYes (eBin dIx (dVar 1) (dVar 8)))))
    (sEnd [7, 9] (sIf (bNot (bTru (dOf (eApp gAnyX (sCons (dOf (eComp (iOf (dVar 9)) (gOne 8) [8] bYes (eCall m_beats (aCons (eVar 0) (aCons (eVar 8) (aCons (eBin dIx (dVar 1) (dVar 7)) aNil)))))) sNil)))))
    (sRet (eC (.bool false)))
    sNil')))
-- l__law_layers_hold_1: head 0:_law_rows 1:_law_things_here 2:_law_some 3:_law_left of 11
def l__law_layers_hold_1 : Fs :=
    (sSeq (sSet 6 (eComp (iOf (dVar 3)) (gOne 7) [7] (bNot (bTru (dOf (eApp gAnyX (sCons (dOf (eComp (iOf (dVar 3)) (gOne 8) [8] bYes (eCall m_beats (aCons (eVar 0) (aCons (eBin dIx (dVar 1) (dVar 8)) (aCons (eBin dIx (dVar 1) (dVar 7)) aNil)))))) sNil))))) (eVar 7)))
    (sSeq (sEnd [6] (sIf (bOr (bTest (eBin dNe (dOf (eApp gList (sCons (dVar 5) sNil))) (dVar 6))) (bTest (eBin dEq (dVar 5) (dOf (eTup aNil)))))
    (sRet (eC (.bool false)))
    sNil'))
    (sSeq (sEnd [4] (sFor (iVal (eIf (bTru (dVar 4)) (eVar 5) (eTup aNil))) (gOne 7)
    l__law_layers_hold_2))
    (sEnd [5] (sSet 3 (eFrz (eComp (iOf (dVar 3)) (gOne 7) [7] (bTest (eBin dNotIn (dVar 7) (dVar 5))) (eVar 7))))))))
-- l__law_layers_hold_3: head 0:_law_rows 1:_law_things_here 6:_law_due of 11
def l__law_layers_hold_3 : Fs :=
    (sEnd [4, 8] (sExt 6 (eComp (iEnumV (dVar 1)) (gMany [7, 10]) [7, 10] (bTru (dOf (eCall m_beats (aCons (eVar 0) (aCons (eVar 8) (aCons (eVar 10) aNil)))))) (eTup (aCons (eVar 4) (aCons (eVar 7) aNil))))))
-- l__law_nest_holds_2: head 0:_law_row_here 1:_law_inner 2:_law_things_here 3:_law_base 5:_law_kind 6:_law_some 7:_law_places_of of 13
def l__law_nest_holds_2 : Fs :=
    (sSeq (sIf (bTest (eBin dNotIn (dVar 4) (dVar 3)))
    (sRet (eC (.bool false)))
    sNil')
    (sEnd [4] (sApp 7 (eMt isLstD gIndexLX (dVar 3) (sCons (dVar 4) sNil)))))
-- l__law_nest_holds_3: head 0:_law_row_here 1:_law_inner 2:_law_things_here 3:_law_base 5:_law_kind 6:_law_some 7:_law_places_of of 13
def l__law_nest_holds_3 : Fs :=
    (sSeq (sPar 9 10 (aCons (eBin dIx (dVar 6) (dOf (eBin dSub (dVar 8) (dOf (eC (.int 1)))))) (aCons (eBin dIx (dVar 6) (dVar 8)) aNil)))
    (sSeq (sSet 11 (eBin dSub (dOf (eApp gInt (sCons (dOf (eBin (dCmp rGt zGt) (dOf (eApp gLen (sCons (dVar 9) sNil))) (dOf (eApp gLen (sCons (dVar 10) sNil))))) sNil))) (dOf (eApp gInt (sCons (dOf (eBin (dCmp rLt zLt) (dOf (eApp gLen (sCons (dVar 9) sNil))) (dOf (eApp gLen (sCons (dVar 10) sNil))))) sNil)))))
    (sSeq (sEnd [9, 10] (sIf (bTest (eBin dNe (dVar 5) (dOf (eC (.str "many")))))
    (sSeq (sEnd [11] (sSet 12 (eIf (bTest (eBin dEq (dVar 5) (dOf (eC (.str "first"))))) (eC (.int 0)) (eUn dNeg (dOf (eC (.int 1)))))))
    (sEnd [9, 10, 12] (sSet 11 (eFrz (eCall m_told (aCons (eVar 1) (aCons (eBin dIx (dVar 9) (dVar 12)) (aCons (eBin dIx (dVar 10) (dVar 12)) aNil))))))))
    sNil'))
    (sEnd [8, 11] (sIf (bOr (bTest (eBin (dCmp rGt zGt) (dVar 11) (dOf (eC (.int 0))))) (bAnd (bTest (eBin dEq (dVar 11) (dOf (eC (.int 0))))) (bTest (eBin (dCmp rGt zGt) (dOf (eBin dIx (dVar 7) (dOf (eBin dSub (dVar 8) (dOf (eC (.int 1))))))) (dOf (eBin dIx (dVar 7) (dVar 8)))))))
    (sRet (eC (.bool false)))
    sNil')))))
-- l__law_nest_holds_1: head 0:_law_row_here 1:_law_inner 2:_law_things_here 3:_law_base of 13
def l__law_nest_holds_1 : Fs :=
    (sSeq (sParO 6 7 (eFrz (eCall m_nested (aCons (eVar 0) (aCons (eVar 1) (aCons (eVar 5) (aCons (eVar 2) aNil)))))) (eLst aNil))
    (sSeq (sFor (iVal (eVar 6)) (gOne 4)
    l__law_nest_holds_2)
    (sSeq (sIf (bTest (eBin dNe (dOf (eApp gSorted (sCons (dVar 7) sNil))) (dOf (eListRg1 (dOf (eApp gLen (sCons (dVar 3) sNil)))))))
    (sRet (eC (.bool false)))
    sNil')
    (sEnd [5, 6, 7] (sFor (iRng2 (dOf (eC (.int 1))) (dOf (eApp gLen (sCons (dVar 6) sNil)))) (gOne 8)
    l__law_nest_holds_3)))))
end L2.Lv.Sh
namespace L2.Lv
open PySem PySem.Spec PyProof.Rows
theorem eVar_ap (i : Nat) (ρ : List W) (n : Nat) : eVar i ρ n = match ρ[i]? with
  | some (.d x) => some (.d x, n)
  | some .town => some (.town, n)
  | some (.fn g) => some (.fn g, n)
  | some (.shR now) => some (.shR now, n)
  | _ => none := rfl
theorem dVar_ap (i : Nat) (ρ : List W) (n : Nat) : dVar i ρ n = (ρ[i]?.bind W.dat).map (·, n) := rfl
theorem eC_ap (x : PyData) (ρ : List W) (n : Nat) : eC x ρ n = some (.d x, n) := rfl
theorem dOf_ap (f : Fe) (ρ : List W) (n : Nat) : dOf f ρ n = (f ρ n).bind fun p => p.1.dat.map (·, p.2) := rfl
theorem eFrz_ap (f : Fe) (ρ : List W) (n : Nat) : eFrz f ρ n = (f ρ n).map fun p => (p.1.frz, p.2) := rfl
theorem eBin_ap (g : PyData → PyData → Option W) (fa fb : Fd) (ρ : List W) (n : Nat) : eBin g fa fb ρ n = (fa ρ n).bind fun p => (fb ρ p.2).bind fun q => (g p.1 q.1).map (·, q.2) := rfl
theorem bTest_ap (f : Fe) (ρ : List W) (n : Nat) : bTest f ρ n = (f ρ n).bind fun p => match p.1 with
  | .d (.bool c) => some (c, p.2)
  | _ => none := rfl
theorem bTru_ap (f : Fd) (ρ : List W) (n : Nat) : bTru f ρ n = (f ρ n).bind fun p => (dTru p.1).map (·, p.2) := rfl
theorem bAnd_ap (ta tb : Ft) (ρ : List W) (n : Nat) : bAnd ta tb ρ n = (ta ρ n).bind fun p => if p.1 then tb ρ p.2 else some (false, p.2) := rfl
theorem bOr_ap (ta tb : Ft) (ρ : List W) (n : Nat) : bOr ta tb ρ n = (ta ρ n).bind fun p => if p.1 then some (true, p.2) else tb ρ p.2 := rfl
theorem bNot_ap (ta : Ft) (ρ : List W) (n : Nat) : bNot ta ρ n = (ta ρ n).map fun p => (!p.1, p.2) := rfl
theorem eIf_ap (tc : Ft) (fa fb : Fe) (ρ : List W) (n : Nat) : eIf tc fa fb ρ n = (tc ρ n).bind fun p => if p.1 then fa ρ p.2 else fb ρ p.2 := rfl
theorem eB_ap (t : Ft) (ρ : List W) (n : Nat) : eB t ρ n = (t ρ n).map fun p => (.d (.bool p.1), p.2) := rfl
theorem eAnd_ap (fa fb : Fe) (ρ : List W) (n : Nat) : eAnd fa fb ρ n = (fa ρ n).bind fun p => match p.1 with
  | .d (.bool true) => fb ρ p.2
  | .d (.bool false) => some (.d (.bool false), p.2)
  | _ => none := rfl
theorem eOr_ap (fa fb : Fe) (ρ : List W) (n : Nat) : eOr fa fb ρ n = (fa ρ n).bind fun p => match p.1 with
  | .d (.bool false) => fb ρ p.2
  | .d (.bool true) => some (.d (.bool true), p.2)
  | _ => none := rfl
theorem aNil_ap (ρ : List W) (n : Nat) : aNil  ρ n = some ([], n) := rfl
theorem aCons_ap (f : Fe) (fs : Fa) (ρ : List W) (n : Nat) : aCons f fs ρ n = (f ρ n).bind fun p => p.1.arg.bind fun w => (fs ρ p.2).map fun q => (w :: q.1, q.2) := rfl
theorem sNil_ap (ρ : List W) (n : Nat) : sNil  ρ n = some ([], n) := rfl
theorem sCons_ap (f : Fd) (fs : Fds) (ρ : List W) (n : Nat) : sCons f fs ρ n = (f ρ n).bind fun p => (fs ρ p.2).map fun q => (p.1 :: q.1, q.2) := rfl
theorem eTup_ap (fs : Fa) (ρ : List W) (n : Nat) : eTup fs ρ n = (fs ρ n).bind fun p => (vals p.1).map fun xs => (.d (.tuple xs), p.2) := rfl
theorem eLst_ap (fs : Fa) (ρ : List W) (n : Nat) : eLst fs ρ n = (fs ρ n).bind fun p => (vals p.1).map fun xs => (.ol xs, p.2) := rfl
theorem eCall_ap (F : Fn) (fs : Fa) (ρ : List W) (n : Nat) : eCall F fs ρ n = (fs ρ n).bind fun p => F p.1 p.2 := rfl
theorem eApp_ap (g : List PyData → Option W) (ds : Fds) (ρ : List W) (n : Nat) : eApp g ds ρ n = (ds ρ n).bind fun p => (g p.1).map (·, p.2) := rfl
theorem oNone_ap (ρ : List W) (n : Nat) : oNone  ρ n = some (none, n) := rfl
theorem oSome_ap (d : Fd) (ρ : List W) (n : Nat) : oSome d ρ n = (d ρ n).bind fun p => match p.1 with
  | .int i => some (some i, p.2)
  | _ => none := rfl
theorem eSl_ap (g : PyData → Option Int → Option Int → Option W) (d : Fd) (o o' : Fo) (ρ : List W) (n : Nat) : eSl g d o o' ρ n = (d ρ n).bind fun p => (o ρ p.2).bind fun q => (o' ρ q.2).bind fun r => (g p.1 q.1 r.1).map (·, r.2) := rfl
theorem sNil'_ap (ρ : List W) (n : Nat) : sNil'  ρ n = some (.nx ρ n) := rfl
theorem sSeq_ap (g h : Fs) (ρ : List W) (n : Nat) : sSeq g h ρ n = (g ρ n).bind fun o => match o with
  | .nx ρ' n' => h ρ' n'
  | o => some o := rfl
theorem sBrk_ap (ρ : List W) (n : Nat) : sBrk  ρ n = some (.bk ρ n) := rfl
theorem sRet_ap (f : Fe) (ρ : List W) (n : Nat) : sRet f ρ n = (f ρ n).map fun p => .rt p.1 p.2 := rfl
theorem sRetN_ap (ρ : List W) (n : Nat) : sRetN  ρ n = some (.rt (.d .none) n) := rfl
theorem sRetO_ap (i : Nat) (ρ : List W) (n : Nat) : sRetO i ρ n = match ρ[i]? with
  | some (.ol xs) => some (.rt (.ol xs) n)
  | some (.od xs) => some (.rt (.od xs) n)
  | _ => none := rfl
theorem sDrop_ap (f : Fe) (ρ : List W) (n : Nat) : sDrop f ρ n = (f ρ n).map fun p => .nx ρ p.2 := rfl
theorem sIf_ap (c : Ft) (g h : Fs) (ρ : List W) (n : Nat) : sIf c g h ρ n = (c ρ n).bind fun p => if p.1 then g ρ p.2 else h ρ p.2 := rfl
theorem sSet_ap (i : Nat) (f : Fe) (ρ : List W) (n : Nat) : sSet i f ρ n = (f ρ n).map fun p => .nx (ρ.set i p.1) p.2 := rfl
theorem sApp_ap (i : Nat) (f : Fe) (ρ : List W) (n : Nat) : sApp i f ρ n = (f ρ n).bind fun p => p.1.frz.val.bind fun x => match ρ[i]? with
  | some (.ol xs) => if xs.length < big then some (.nx (ρ.set i (.ol (xs ++ [x]))) p.2) else none
  | _ => none := rfl
theorem sTown_ap (i : Nat) (ρ : List W) (n : Nat) : sTown i ρ n = match ρ[i]? with
  | some .town => if n < big then some (.nx ρ (n + 1)) else none
  | _ => none := rfl
theorem sExt_ap (i : Nat) (f : Fe) (ρ : List W) (n : Nat) : sExt i f ρ n = (f ρ n).bind fun p => match p.1, ρ[i]? with
  | .ol ys, some (.ol xs) => if xs.length + ys.length ≤ big then some (.nx (ρ.set i (.ol (xs ++ ys))) p.2) else none
  | _, _ => none := rfl
theorem sIns_ap (i : Nat) (d : Fd) (f : Fe) (ρ : List W) (n : Nat) : sIns i d f ρ n = (d ρ n).bind fun k => (f ρ k.2).bind fun p => p.1.frz.val.bind fun x => match k.1, ρ[i]? with
  | .int z, some (.ol xs) => if xs.length < big ∧ 0 ≤ z ∧ z ≤ xs.length then some (.nx (ρ.set i (.ol (xs.take z.toNat ++ x :: xs.drop z.toNat))) p.2) else none
  | _, _ => none := rfl
theorem sSetIx_ap (i : Nat) (d : Fd) (f : Fe) (ρ : List W) (n : Nat) : sSetIx i d f ρ n = (f ρ n).bind fun p => p.1.frz.val.bind fun x => (d ρ p.2).bind fun k => match k.1, ρ[i]? with
  | .int z, some (.ol xs) => (ixN xs.length z).map fun j => .nx (ρ.set i (.ol (xs.set j x))) k.2
  | _, _ => none := rfl
theorem sAsg_ap (g : Fg) (f : Fe) (ρ : List W) (n : Nat) : sAsg g f ρ n = (f ρ n).bind fun p => p.1.frz.val.bind fun x => (g x ρ).map fun ρ' => .nx ρ' p.2 := rfl
theorem sPar_ap (i j : Nat) (fs : Fa) (ρ : List W) (n : Nat) : sPar i j fs ρ n = (fs ρ n).bind fun p => match p.1 with
  | [w, w'] => some (.nx ((ρ.set i w).set j w') p.2)
  | _ => none := rfl
theorem iOf_ap (d : Fd) (ρ : List W) (n : Nat) : iOf d ρ n = (d ρ n).bind fun p => (iSeq p.1).map (·, p.2) := rfl
theorem iVal_ap (f : Fe) (ρ : List W) (n : Nat) : iVal f ρ n = (f ρ n).bind fun p => p.1.frz.val.bind fun x => (iSeq x).map (·, p.2) := rfl
theorem iRng1_ap (d : Fd) (ρ : List W) (n : Nat) : iRng1 d ρ n = (d ρ n).bind fun p => (rng1 p.1).map (·, p.2) := rfl
theorem iRng2_ap (da db : Fd) (ρ : List W) (n : Nat) : iRng2 da db ρ n = (da ρ n).bind fun p => (db ρ p.2).bind fun q => (rng2 p.1 q.1).map (·, q.2) := rfl
theorem sFor_ap (fi : Fi) (g : Fg) (body : Fs) (ρ : List W) (n : Nat) : sFor fi g body ρ n = (fi ρ n).bind fun p => loopF g body p.1 ρ p.2 := rfl
theorem eComp_ap (fi : Fi) (g : Fg) (own : List Nat) (tst : Ft) (elt : Fe) (ρ : List W) (n : Nat) : eComp fi g own tst elt ρ n = (fi ρ n).bind fun p => if p.1.length ≤ big then (loopC g own tst elt ρ p.1 p.2).map fun q => (.ol q.1, q.2) else none := rfl
theorem bYes_ap (ρ : List W) (n : Nat) : bYes  ρ n = some (true, n) := rfl
theorem frzAt_ap (i : Nat) (g : Fs) (ρ : List W) (n : Nat) : frzAt i g ρ n = match ρ[i]? with
  | some w => g (ρ.set i w.frz) n
  | none => none := rfl
theorem eUn_ap (g : PyData → Option W) (d : Fd) (ρ : List W) (n : Nat) : eUn g d ρ n = (d ρ n).bind fun p => (g p.1).map (·, p.2) := rfl
theorem eNotD_ap (d : Fd) (ρ : List W) (n : Nat) : eNotD d ρ n = (d ρ n).bind fun p => (dTru p.1).map fun c => (.d (.bool (!c)), p.2) := rfl
theorem eOrD_ap (fa fb : Fe) (ρ : List W) (n : Nat) : eOrD fa fb ρ n = (fa ρ n).bind fun p => p.1.val.bind fun x => (dTru x).bind fun c => if c then some (.d x, p.2) else fb ρ p.2 := rfl
theorem eChain_ap (g g' : PyData → PyData → Option W) (da db dc : Fd) (ρ : List W) (n : Nat) : eChain g g' da db dc ρ n = (da ρ n).bind fun p => (db ρ p.2).bind fun q => (g p.1 q.1).bind fun w => match w with
  | .d (.bool true) => (dc ρ q.2).bind fun r => (g' q.1 r.1).map (·, r.2)
  | .d (.bool false) => some (.d (.bool false), q.2)
  | _ => none := rfl
theorem eListRg1_ap (d : Fd) (ρ : List W) (n : Nat) : eListRg1 d ρ n = (d ρ n).bind fun p => match p.1 with
  | .int j => if 0 ≤ j ∧ j ≤ big then some (.ol (rangeD 0 j.toNat), p.2) else none
  | _ => none := rfl
theorem eIsa_ap (T : String) (d : Fd) (ρ : List W) (n : Nat) : eIsa T d ρ n = (d ρ n).bind fun p => match p.1 with
  | .dict _ => none
  | x => some (.d (.bool (isa T x)), p.2) := rfl
theorem eMt_ap (p : PyData → Bool) (g : PyData → List PyData → Option W) (d : Fd) (ds : Fds) (ρ : List W) (n : Nat) : eMt p g d ds ρ n = (d ρ n).bind fun x => if p x.1 then (ds ρ x.2).bind fun q => (g x.1 q.1).map (·, q.2) else none := rfl
theorem iEnumV_ap (d : Fd) (ρ : List W) (n : Nat) : iEnumV d ρ n = (d ρ n).bind fun p => (seqOf p.1).map fun xs => (enumD xs, p.2) := rfl
theorem iEnumF_ap (f : Fe) (ρ : List W) (n : Nat) : iEnumF f ρ n = (f ρ n).bind fun p => p.1.frz.val.bind fun x => (seqOf x).map fun xs => (enumD xs, p.2) := rfl
theorem iZipV_ap (da db : Fd) (ρ : List W) (n : Nat) : iZipV da db ρ n = (da ρ n).bind fun p => (db ρ p.2).bind fun q => (zipOk p.1 q.1).map (·, q.2) := rfl
theorem iZipF_ap (fa fb : Fe) (ρ : List W) (n : Nat) : iZipF fa fb ρ n = (fa ρ n).bind fun p => p.1.frz.val.bind fun x => (fb ρ p.2).bind fun q => q.1.frz.val.bind fun y => (zipOk x y).map (·, q.2) := rfl
theorem eTLen_ap (i : Nat) (ρ : List W) (n : Nat) : eTLen i ρ n = match ρ[i]? with
  | some .town => some (.d (.int n), n)
  | _ => none := rfl
theorem iRng3D_ap (da db dc : Fd) (ρ : List W) (n : Nat) : iRng3D da db dc ρ n = (da ρ n).bind fun p => (db ρ p.2).bind fun q => (dc ρ q.2).bind fun r => (rng3 p.1 q.1 r.1).map (·, r.2) := rfl
theorem sEnd_ap (is : List Nat) (g : Fs) (ρ : List W) (n : Nat) : sEnd is g ρ n = (g ρ n).map (Out.kill is) := rfl
theorem eSs_ap (g : PyData → Option Int → Option Int → Int → Option W) (d : Fd) (o o' o'' : Fo) (ρ : List W) (n : Nat) : eSs g d o o' o'' ρ n = (d ρ n).bind fun p => (o ρ p.2).bind fun q => (o' ρ q.2).bind fun r => (o'' ρ r.2).bind fun s => s.1.bind fun c => (g p.1 q.1 r.1 c).map (·, s.2) := rfl
theorem sPar3_ap (i j l : Nat) (fs : Fa) (ρ : List W) (n : Nat) : sPar3 i j l fs ρ n = (fs ρ n).bind fun p => match p.1 with
  | [w, w', w''] => some (.nx (((ρ.set i w).set j w').set l w'') p.2)
  | _ => none := rfl
theorem xPop_ap (i : Nat) (d : Fd) (ρ : List W) (n : Nat) : xPop i d ρ n = (d ρ n).bind fun k => match k.1, ρ[i]? with
  | .int z, some (.ol xs) => if xs.length ≤ big then (ixN xs.length z).bind fun j => (xs[j]?).map fun x => (x, ρ.set i (.ol (xs.eraseIdx j)), k.2) else none
  | _, _ => none := rfl
theorem xTup1_ap (f : Fx) (ρ : List W) (n : Nat) : xTup1 f ρ n = (f ρ n).map fun p => (.tuple [p.1], p.2.1, p.2.2) := rfl
theorem xCat_ap (fa : Fe) (f : Fx) (ρ : List W) (n : Nat) : xCat fa f ρ n = (fa ρ n).bind fun p => p.1.val.bind fun x => (f ρ p.2).bind fun q => match dAdd x q.1 with
  | some (.d z) => some (z, q.2.1, q.2.2)
  | _ => none := rfl
theorem sSetX_ap (i : Nat) (f : Fx) (ρ : List W) (n : Nat) : sSetX i f ρ n = (f ρ n).map fun p => .nx (p.2.1.set i (.d p.1)) p.2.2 := rfl
theorem sAppX_ap (i : Nat) (f : Fx) (ρ : List W) (n : Nat) : sAppX i f ρ n = match ρ[i]? with
  | some (.ol _) => (f ρ n).bind fun p => match p.2.1[i]? with
    | some (.ol xs) => if xs.length < big then some (.nx (p.2.1.set i (.ol (xs ++ [p.1]))) p.2.2) else none
    | _ => none
  | _ => none := rfl
theorem sParO_ap (i j : Nat) (fa fb : Fe) (ρ : List W) (n : Nat) : sParO i j fa fb ρ n = (fa ρ n).bind fun p => (fb ρ p.2).bind fun q => some (.nx ((ρ.set i p.1).set j q.1) q.2) := rfl
theorem sForEI_ap (i p q : Nat) (tst : Ft) (y : Nat) (fe : Fe) (ρ : List W) (n : Nat) : sForEI i p q tst y fe ρ n = match ρ[i]? with
  | some (.ol xs) => (loopI p q tst y fe (enumN xs) ρ n).map fun r => .nx r.1 r.2
  | _ => none := rfl
theorem sForK_ap (ks : List Nat) (fi : Fi) (g : Fg) (body : Fs) (ρ : List W) (n : Nat) : sForK ks fi g body ρ n = (fi ρ n).bind fun p => loopF g body p.1 (wipeW ρ ks) p.2 := rfl
theorem eRep_ap (fa : Fe) (db : Fd) (ρ : List W) (n : Nat) : eRep fa db ρ n = (fa ρ n).bind fun p => match p.1 with
  | .ol xs => (db ρ p.2).bind fun q => match q.1 with
    | .int k => if -1000000 ≤ k ∧ k ≤ 1000000 ∧ xs.length * k.toNat ≤ big then some (.ol (List.replicate k.toNat xs).flatten, q.2) else none
    | _ => none
  | _ => none := rfl
theorem eDicK_ap (ρ : List W) (n : Nat) : eDicK  ρ n = some (.od [], n) := rfl
theorem eDicT_ap (ρ : List W) (n : Nat) : eDicT  ρ n = some (.od [markT], n) := rfl
theorem sPut_ap (i : Nat) (d : Fd) (f : Fe) (ρ : List W) (n : Nat) : sPut i d f ρ n = (f ρ n).bind fun p => p.1.frz.val.bind fun x => (d ρ p.2).bind fun k => match ρ[i]? with
  | some (.od kvs) => (putD kvs k.1 x).map fun m => .nx (ρ.set i (.od m)) k.2
  | _ => none := rfl
theorem eAlt_ap (f g : Fe) (ρ : List W) (n : Nat) : eAlt f g ρ n = (f ρ n).or (g ρ n) := rfl
theorem sTry_ap (r : Fsx) (g : Fs) (ρ : List W) (n : Nat) : sTry r g ρ n = (r ρ n).bind fun o => match o with
  | .inl out => some out
  | .inr (_, ρ', n') => g ρ' n' := rfl
theorem eGetD_ap (da db dc : Fd) (ρ : List W) (n : Nat) : eGetD da db dc ρ n = (da ρ n).bind fun p => (db ρ p.2).bind fun q => (dc ρ q.2).bind fun r => (dGet3 p.1 q.1 r.1).map (·, r.2) := rfl
theorem eLockI_ap (i : Nat) (f : Fe) (ρ : List W) (n : Nat) : eLockI i f ρ n = match ρ[i]? with
  | some (.od kvs) => if hdM kvs = true then none else (f (ρ.set i (.od (markF :: kvs))) n).bind fun p => match p.1 with
    | .d (.int z) => some (.d (.int z), p.2)
    | _ => none
  | _ => none := rfl
theorem iKeyF_ap (i : Nat) (ρ : List W) (n : Nat) : iKeyF i ρ n = match ρ[i]? with
  | some (.od (kv :: rest)) => if isFz kv = true then some (rest.map (·.1), n) else none
  | _ => none := rfl
theorem sSetDef_ap (i : Nat) (d : Fd) (f : Fe) (ρ : List W) (n : Nat) : sSetDef i d f ρ n = (d ρ n).bind fun k => (f ρ k.2).bind fun p => p.1.frz.val.bind fun x => match k.1, ρ[i]? with
  | .tuple ks, some (.od (kv :: rest)) => if isMk kv = true then (intsOf ks).bind fun ns => if rest.length < big then some (.nx (ρ.set i (.od (markT :: (if (lookT rest ns).isSome = true then rest else putT rest ns x)))) p.2) else none else none
  | _, _ => none := rfl
theorem eTupVals_ap (da : Fd) (ρ : List W) (n : Nat) : eTupVals da ρ n = (da ρ n).bind fun p => match p.1 with
  | .dict (kv :: rest) => if isMk kv = true then some (.d (.tuple (rest.map (·.2))), p.2) else none
  | _ => none := rfl
theorem sNst_ap (i : Nat) (g : Fs) (ρ : List W) (n : Nat) : sNst i g ρ n = (g ρ n).bind (nstO i) := rfl
theorem frzNAt_ap (i : Nat) (g : Fs) (ρ : List W) (n : Nat) : frzNAt i g ρ n = match ρ[i]? with
  | some (.oll xss) => g (ρ.set i (.d (.list (xss.map .list)))) n
  | _ => none := rfl
theorem sAppN_ap (i : Nat) (f : Fe) (ρ : List W) (n : Nat) : sAppN i f ρ n = (f ρ n).bind fun p => match p.1, ρ[i]? with
  | .ol xs, some (.oll xss) => if xss.length < 1000 then some (.nx (ρ.set i (.oll (xss ++ [xs]))) p.2) else none
  | _, _ => none := rfl
theorem sStN_ap (i : Nat) (d1 d2 : Fd) (f : Fe) (ρ : List W) (n : Nat) : sStN i d1 d2 f ρ n = (f ρ n).bind fun p => p.1.frz.val.bind fun x => (d1 ρ p.2).bind fun k => (d2 ρ k.2).bind fun m => match k.1, m.1, ρ[i]? with
  | .int z1, .int z2, some (.oll xss) => (ixN xss.length z1).bind fun j1 => xss[j1]?.bind fun xs => (ixN xs.length z2).map fun j2 => .nx (ρ.set i (.oll (xss.set j1 (xs.set j2 x)))) m.2
  | _, _, _ => none := rfl
theorem eListRg2_ap (da db : Fd) (ρ : List W) (n : Nat) : eListRg2 da db ρ n = (da ρ n).bind fun p => (db ρ p.2).bind fun q => match p.1, q.1 with
  | .int i, .int j => if -1000000 ≤ i ∧ i ≤ 1000000 ∧ -1000000 ≤ j ∧ j ≤ 1000000 then some (.ol (rangeD i (j - i).toNat), q.2) else none
  | _, _ => none := rfl
theorem eLam_ap (g : Int → Int → Bool) (ρ : List W) (n : Nat) : eLam g ρ n = some (.fn g, n) := rfl
theorem eCallP_ap (i : Nat) (fs : Fa) (ρ : List W) (n : Nat) : eCallP i fs ρ n = match ρ[i]? with
  | some (.fn g) => (fs ρ n).bind fun p => match p.1 with
    | [.d (.int a), .d (.int b)] => some (.d (.bool (g a b)), p.2)
    | _ => none
  | _ => none := rfl
theorem eNow_ap (i : Nat) (ρ : List W) (n : Nat) : eNow i ρ n = match ρ[i]? with
  | some (.sh _ now _ _) => some (.d now, n)
  | some (.shR now) => some (.d now, n)
  | _ => none := rfl
theorem dBef_ap (c : Bool) (i : Nat) (ρ : List W) (n : Nat) : dBef c i ρ n = match ρ[i]? with
  | some (.sh _ _ bef lat) => some (.list (pick2 c bef lat), n)
  | _ => none := rfl
theorem sShApp_ap (c : Bool) (i : Nat) (f : Fe) (ρ : List W) (n : Nat) : sShApp c i f ρ n = (f ρ n).bind fun p => p.1.frz.val.bind fun x => match ρ[i]? with
  | some (.sh sf now bef lat) => if (pick2 c bef lat).length < big then some (.nx (ρ.set i (shSet c sf now bef lat (pick2 c bef lat ++ [x]))) p.2) else none
  | _ => none := rfl
theorem xShPop_ap (c : Bool) (i : Nat) (ρ : List W) (n : Nat) : xShPop c i ρ n = match ρ[i]? with
  | some (.sh sf now bef lat) => ((pick2 c bef lat)[(pick2 c bef lat).length - 1]?).map fun x => (x, ρ.set i (shSet c sf now bef lat (pick2 c bef lat).dropLast), n)
  | _ => none := rfl
theorem sShNow_ap (i : Nat) (f : Fe) (ρ : List W) (n : Nat) : sShNow i f ρ n = (f ρ n).bind fun p => p.1.frz.val.bind fun x => match ρ[i]? with
  | some (.sh sf _ bef lat) => some (.nx (ρ.set i (.sh sf x bef lat)) p.2)
  | _ => none := rfl
theorem sShNowX_ap (i : Nat) (f : Fx) (ρ : List W) (n : Nat) : sShNowX i f ρ n = (f ρ n).bind fun p => match p.2.1[i]? with
  | some (.sh sf _ bef lat) => some (.nx (p.2.1.set i (.sh sf p.1 bef lat)) p.2.2)
  | _ => none := rfl
theorem sShClr_ap (i : Nat) (ρ : List W) (n : Nat) : sShClr i ρ n = match ρ[i]? with
  | some (.sh sf now bef _) => some (.nx (ρ.set i (.sh sf now bef [])) n)
  | _ => none := rfl
theorem yCall_ap (F : Fny) (i : Nat) (fs : Fa) (ρ : List W) (n : Nat) : yCall F i fs ρ n = (fs ρ n).bind fun p => match ρ[i]? with
  | some (.sh sf now bef lat) => (F (now, bef, lat) p.1 p.2).map (yPut i sf ρ)
  | _ => none := rfl
theorem yOf_ap (f : Fe) (ρ : List W) (n : Nat) : yOf f ρ n = (f ρ n).bind fun p => p.1.frz.val.map fun x => .inl (x, ρ, p.2) := rfl
theorem yX_ap (f : Fx) (ρ : List W) (n : Nat) : yX f ρ n = (f ρ n).map .inl := rfl
theorem yR_ap (f : Fex) (ρ : List W) (n : Nat) : yR f ρ n = (f ρ n).bind fun r => match r with
  | .inl (w, n') => w.frz.val.map fun x => .inl (x, ρ, n')
  | .inr (c, n') => some (.inr (c, ρ, n')) := rfl
theorem yIf_ap (t : Ft) (fa fb : Fyx) (ρ : List W) (n : Nat) : yIf t fa fb ρ n = (t ρ n).bind fun p => if p.1 then fa ρ p.2 else fb ρ p.2 := rfl
theorem sRetS_ap (f : Fe) (ρ : List W) (n : Nat) : sRetS f ρ n = (f ρ n).bind fun p => p.1.frz.val.map fun x => .rs x ρ p.2 := rfl
theorem unX_ap (r : Fsx) (ρ : List W) (n : Nat) : unX r ρ n = (r ρ n).bind fun o => match o with
  | .inl out => some out
  | .inr _ => none := rfl
theorem ytOf_ap (t : Ft) (ρ : List W) (n : Nat) : ytOf t ρ n = (t ρ n).map fun p => .inl (p.1, ρ, p.2) := rfl
theorem ytTru_ap (f : Fyx) (ρ : List W) (n : Nat) : ytTru f ρ n = (f ρ n).bind fun r => match r with
  | .inl (x, ρ', n') => (dTru x).map fun c => .inl (c, ρ', n')
  | .inr c => some (.inr c) := rfl
theorem ytNot_ap (t : Fyt) (ρ : List W) (n : Nat) : ytNot t ρ n = (t ρ n).map fun r => match r with
  | .inl (c, ρ', n') => .inl (!c, ρ', n')
  | .inr c => .inr c := rfl
theorem ytSeq_ap (b : Bool) (t t' : Fyt) (ρ : List W) (n : Nat) : ytSeq b t t' ρ n = (t ρ n).bind fun r => match r with
  | .inl (c, ρ', n') => if c = b then t' ρ' n' else some (.inl (c, ρ', n'))
  | .inr c => some (.inr c) := rfl
theorem ytCmp_ap (g : PyData → PyData → Option W) (f : Fyx) (d : Fd) (ρ : List W) (n : Nat) : ytCmp g f d ρ n = (f ρ n).bind fun r => match r with
  | .inl (x, ρ', n') => (d ρ' n').bind fun p => match g x p.1 with
    | some (.d (.bool c)) => some (.inl (c, ρ', p.2))
    | _ => none
  | .inr c => some (.inr c) := rfl
theorem yaOf_ap (fs : Fa) (ρ : List W) (n : Nat) : yaOf fs ρ n = (fs ρ n).map fun p => .inl (p.1, ρ, p.2) := rfl
theorem yaCons_ap (f : Fyx) (fs : Fya) (ρ : List W) (n : Nat) : yaCons f fs ρ n = (f ρ n).bind fun r => match r with
  | .inl (x, ρ', n') => (fs ρ' n').map fun r => match r with
    | .inl (ws, ρ2, n2) => .inl (.d x :: ws, ρ2, n2)
    | .inr c => .inr c
  | .inr c => some (.inr c) := rfl
theorem yApp_ap (F : Fn) (fs : Fya) (ρ : List W) (n : Nat) : yApp F fs ρ n = (fs ρ n).bind fun r => match r with
  | .inl (ws, ρ', n') => (F ws n').bind fun p => p.1.frz.val.map fun x => .inl (x, ρ', p.2)
  | .inr c => some (.inr c) := rfl
theorem eMethR_ap (F : Fn) (i : Nat) (fs : Fa) (ρ : List W) (n : Nat) : eMethR F i fs ρ n = (fs ρ n).bind fun p => (shNow ρ i).bind fun now => (F (.shR now :: p.1) p.2).bind fun r => r.1.frz.val.map fun x => (.d x, r.2) := rfl
theorem sMakeSh_ap (i : Nat) (f : Fe) (ρ : List W) (n : Nat) : sMakeSh i f ρ n = (f ρ n).bind fun p => p.1.frz.val.bind fun row => if i < ρ.length then some (.nx (ρ.set i (newS row)) p.2) else none := rfl
theorem runB_ap (m : Nat) (g : Fs) (ws : List W) (n : Nat) : runB m g ws n = (g (ws ++ List.replicate (m - ws.length) .no) n).bind fun o => match o with
  | .rt w n' => some (w, n')
  | .nx _ n' => some (.d .none, n')
  | .bk _ _ => none
  | .rs _ _ _ => none := rfl
theorem gOne_ap (i : Nat) (x : PyData) (ρ : List W) : gOne i x ρ = some (ρ.set i (.d x)) := rfl
theorem gMany_ap (is : List Nat) (xs : List PyData) (ρ : List W) : gMany is (.tuple xs) ρ = setD is xs ρ := rfl
theorem dI_ap (C : Int → Int → Bool) (g : Int → Int → Int) (i j : Int) : dI C g (.int i) (.int j) = if C i j then some (.d (.int (g i j))) else none := rfl
theorem yesC_ap (i j : Int) : yesC i j = true := rfl
theorem dCmp_int (r : Int → Int → Bool) (z : Nat → Nat → Bool) (i j : Int) : dCmp r z (.int i) (.int j) = some (.d (.bool (r i j))) := rfl
theorem dCmp_tup (r : Int → Int → Bool) (z : Nat → Nat → Bool) (i j : List Int) : dCmp r z (.tuple (i.map .int)) (.tuple (j.map .int)) = some (.d (.bool (lexB r z i j))) := by
  simp [dCmp]
theorem loopF_cons (g : Fg) (body : Fs) (x : PyData) (xs : List PyData) (ρ : List W) (n : Nat) : loopF g body (x :: xs) ρ n = (g x ρ).bind fun ρ1 => (body ρ1 n).bind fun o => match o with
    | .nx ρ' n' => loopF g body xs ρ' n'
    | .bk ρ' n' => some (.nx ρ' n')
    | .rt w n' => some (.rt w n')
    | .rs x ρ' n' => some (.rs x ρ' n') := rfl
theorem loopC_cons (g : Fg) (own : List Nat) (tst : Ft) (elt : Fe) (ρ : List W) (x : PyData) (xs : List PyData) (n : Nat) : loopC g own tst elt ρ (x :: xs) n = (g x (wipeW ρ own)).bind fun ρ1 => (tst ρ1 n).bind fun b => if b.1 then
      (elt ρ1 b.2).bind fun w => w.1.frz.val.bind fun y => (loopC g own tst elt ρ xs w.2).map fun r => (y :: r.1, r.2)
    else loopC g own tst elt ρ xs b.2 := rfl
theorem loopW_succ (c : Ft) (body : Fs) (k : Nat) (ρ : List W) (n : Nat) : loopW c body (k + 1) ρ n = (c ρ n).bind fun p => if p.1 then (body ρ p.2).bind fun o => match o with
    | .nx ρ' n' => loopW c body k ρ' n'
    | .bk ρ' n' => some (.nx ρ' n')
    | .rt w n' => some (.rt w n')
    | .rs x ρ' n' => some (.rs x ρ' n')
    else some (.nx ρ p.2) := rfl
theorem wdat_no : W.dat (.no) = none := rfl
theorem wdat_d (x : PyData) : W.dat (.d x) = some x := rfl
theorem wdat_town : W.dat (.town) = none := rfl
theorem wdat_ol (xs : List PyData) : W.dat (.ol xs) = some (.list xs) := rfl
theorem wdat_od (xs : List (PyData × PyData)) : W.dat (.od xs) = some (.dict xs) := rfl
theorem wfrz_no : W.frz (.no) = .no := rfl
theorem wfrz_d (x : PyData) : W.frz (.d x) = .d x := rfl
theorem wfrz_town : W.frz (.town) = .town := rfl
theorem wfrz_ol (xs : List PyData) : W.frz (.ol xs) = .d (.list xs) := rfl
theorem wfrz_od (xs : List (PyData × PyData)) : W.frz (.od xs) = .od xs := rfl
theorem wval_no : W.val (.no) = none := rfl
theorem wval_d (x : PyData) : W.val (.d x) = some x := rfl
theorem wval_town : W.val (.town) = none := rfl
theorem wval_ol (xs : List PyData) : W.val (.ol xs) = none := rfl
theorem wval_od (xs : List (PyData × PyData)) : W.val (.od xs) = none := rfl
theorem warg_no : W.arg (.no) = none := rfl
theorem warg_d (x : PyData) : W.arg (.d x) = some (.d x) := rfl
theorem warg_town : W.arg (.town) = some .town := rfl
theorem warg_ol (xs : List PyData) : W.arg (.ol xs) = some (.d (.list xs)) := rfl
theorem warg_od (xs : List (PyData × PyData)) : W.arg (.od xs) = none := rfl
theorem kill_nx (is : List Nat) (ρ : List W) (n : Nat) : Out.kill is (.nx ρ n) = .nx (wipeW ρ is) n := rfl
theorem kill_rt (is : List Nat) (w : W) (n : Nat) : Out.kill is (.rt w n) = .rt w n := rfl
theorem kill_rs (is : List Nat) (x : PyData) (ρ : List W) (n : Nat) : Out.kill is (.rs x ρ n) = .rs x ρ n := rfl
theorem kill_bk (is : List Nat) (ρ : List W) (n : Nat) : Out.kill is (.bk ρ n) = .bk ρ n := rfl

end L2.Lv
namespace L2.Lv.Sh
open PySem PySem.Spec PyProof.Rows L2 L2.Lv
abbrev Sc (ns : List Int) : W := .d (.list (ns.map .int))
abbrev I' (i : Int) : W := .d (.int i)
theorem mulC_l {i j : Int} (h : -(2 ^ 64) < i) (h2 : i < 2 ^ 64) : mulC i j = true := decide_eq_true (.inl ⟨h, h2⟩)
theorem divC_ok {i j : Int} (h : 0 < j) (h2 : j < 1073741824) : divC i j = true := decide_eq_true ⟨h, h2⟩
theorem modC_ok {i j : Int} (h : 0 < j) : modC i j = true := decide_eq_true h
theorem atI_ok {α : Type} {xs : List α} {i : Int} (h : 0 ≤ i) (h2 : i.toNat < xs.length) : atI xs i = some xs[i.toNat] := by
  obtain ⟨k, rfl⟩ := Int.eq_ofNat_of_zero_le h
  simp only [Int.ofNat_eq_natCast, Int.toNat_natCast] at h2 ⊢
  exact atI_nat (List.getElem?_eq_getElem h2)
def drawG (c1 c2 c3 c4 c5 : Int) : Fs :=
    (sSeq (sTown 1)
    (sSeq (sSet 3 (eTLen 1))
    (sSeq (sSet 4 (eC (.int 0)))
    (sSeq (sIf (bTru (dVar 0))
    (sSet 4 (eBin dIx (dVar 0) (dOf (eBin dMod (dVar 3) (dOf (eApp gLen (sCons (dVar 0) sNil)))))))
    sNil')
    (sSeq (sSet 5 (eBin dMod (dOf (eBin dAdd (dVar 4) (dOf (eBin dMul (dOf (eC (.int c1))) (dVar 3))))) (dOf (eC (.int c2)))))
    (sSeq (sSet 5 (eBin dMod (dOf (eBin dMul (dOf (eBin dMod (dOf (eBin dMul (dVar 5) (dVar 5))) (dOf (eC (.int c3))))) (dOf (eC (.int c4))))) (dOf (eC (.int c2)))))
    (sRet (eBin dMod (dOf (eBin dDiv (dVar 5) (dOf (eC (.int c5))))) (dVar 2)))))))))
theorem drawG_ok (c1 c2 c3 c4 c5 : Int) (h1 : ∀ k : Int, mulC c1 k = true) (h2 : ∀ k : Int, mulC (k % c2) (k % c2) = true) (h3 : ∀ k : Int, mulC (k % c3) c4 = true) (h4 : ∀ k : Int, modC k c2 = true) (h5 : ∀ k : Int, modC k c3 = true) (h6 : ∀ k : Int, divC k c5 = true)
    (ns : List Int) (n : Nat) (hn : n < big) (many : Int) (hm : 0 < many) : ∃ r : Int, 0 ≤ r ∧ r < many ∧ runB 6 (drawG c1 c2 c3 c4 c5) [Sc ns, .town, I' many] n = some (I' r, n + 1) := by
  have h7 : ∀ k : Int, modC k many = true := fun k => modC_ok hm
  unfold drawG
  cases ns with
  | nil =>
    simp -implicitDefEqProofs only [eVar_ap, dVar_ap, eC_ap, dOf_ap, eFrz_ap, eBin_ap, bTest_ap, bTru_ap, bAnd_ap, bOr_ap, bNot_ap, eIf_ap, eB_ap, eAnd_ap, eOr_ap, aNil_ap, aCons_ap, sNil_ap, sCons_ap, eTup_ap, eLst_ap, eCall_ap, eApp_ap, oNone_ap, oSome_ap, eSl_ap, sNil'_ap, sSeq_ap, sBrk_ap, sRet_ap, sRetN_ap, sRetO_ap, sDrop_ap, sIf_ap, sSet_ap, sApp_ap, sTown_ap, sExt_ap, sIns_ap, sSetIx_ap, sAsg_ap, sPar_ap, iOf_ap, iVal_ap, iRng1_ap, iRng2_ap, sFor_ap, eComp_ap, bYes_ap, frzAt_ap, eUn_ap, eNotD_ap, eOrD_ap, eChain_ap, eListRg1_ap, eIsa_ap, eMt_ap, iEnumV_ap, iEnumF_ap, iZipV_ap, iZipF_ap, eTLen_ap, iRng3D_ap, sEnd_ap, eSs_ap, sPar3_ap, xPop_ap, xTup1_ap, xCat_ap, sSetX_ap, sAppX_ap, sParO_ap, sForEI_ap, sForK_ap, eRep_ap, eDicK_ap, eDicT_ap, sPut_ap, eAlt_ap, sTry_ap, eGetD_ap, eLockI_ap, iKeyF_ap, sSetDef_ap, eTupVals_ap, sNst_ap, frzNAt_ap, sAppN_ap, sStN_ap, eListRg2_ap, eLam_ap, eCallP_ap, eNow_ap, dBef_ap, sShApp_ap, xShPop_ap, sShNow_ap, sShNowX_ap, sShClr_ap, yCall_ap, yOf_ap, yX_ap, yR_ap, yIf_ap, sRetS_ap, unX_ap, ytOf_ap, ytTru_ap, ytNot_ap, ytSeq_ap, ytCmp_ap, yaOf_ap, yaCons_ap, yApp_ap, eMethR_ap, sMakeSh_ap, runB_ap, gOne_ap, gMany_ap, dI_ap, yesC_ap, dCmp_int, setD, kill_nx, kill_rt, kill_rs, kill_bk, Option.bind_some, Option.map_some, Option.bind_none, Option.map_none, List.getElem?_cons_zero, List.getElem?_cons_succ, List.set_cons_zero, List.set_cons_succ, List.cons_append, List.nil_append, List.append_nil, List.replicate, List.length_cons, List.length_nil, Nat.reduceAdd, Nat.reduceSub, Nat.zero_add, wdat_no, wdat_d, wdat_town, wdat_ol, wdat_od, wfrz_no, wfrz_d, wfrz_town, wfrz_ol, wfrz_od, wval_no, wval_d, wval_town, wval_ol, wval_od, warg_no, warg_d, warg_town, warg_ol, warg_od, vals, gLen, gAbs, gMax2, gMin2, gInt, gTup, gList, wipeW, if_true, if_false, Bool.false_eq_true, Bool.not_true, Bool.not_false, reduceCtorEq, Sc, I', List.map_nil]
    rw [if_pos hn]
    simp -implicitDefEqProofs only [eVar_ap, dVar_ap, eC_ap, dOf_ap, eFrz_ap, eBin_ap, bTest_ap, bTru_ap, bAnd_ap, bOr_ap, bNot_ap, eIf_ap, eB_ap, eAnd_ap, eOr_ap, aNil_ap, aCons_ap, sNil_ap, sCons_ap, eTup_ap, eLst_ap, eCall_ap, eApp_ap, oNone_ap, oSome_ap, eSl_ap, sNil'_ap, sSeq_ap, sBrk_ap, sRet_ap, sRetN_ap, sRetO_ap, sDrop_ap, sIf_ap, sSet_ap, sApp_ap, sTown_ap, sExt_ap, sIns_ap, sSetIx_ap, sAsg_ap, sPar_ap, iOf_ap, iVal_ap, iRng1_ap, iRng2_ap, sFor_ap, eComp_ap, bYes_ap, frzAt_ap, eUn_ap, eNotD_ap, eOrD_ap, eChain_ap, eListRg1_ap, eIsa_ap, eMt_ap, iEnumV_ap, iEnumF_ap, iZipV_ap, iZipF_ap, eTLen_ap, iRng3D_ap, sEnd_ap, eSs_ap, sPar3_ap, xPop_ap, xTup1_ap, xCat_ap, sSetX_ap, sAppX_ap, sParO_ap, sForEI_ap, sForK_ap, eRep_ap, eDicK_ap, eDicT_ap, sPut_ap, eAlt_ap, sTry_ap, eGetD_ap, eLockI_ap, iKeyF_ap, sSetDef_ap, eTupVals_ap, sNst_ap, frzNAt_ap, sAppN_ap, sStN_ap, eListRg2_ap, eLam_ap, eCallP_ap, eNow_ap, dBef_ap, sShApp_ap, xShPop_ap, sShNow_ap, sShNowX_ap, sShClr_ap, yCall_ap, yOf_ap, yX_ap, yR_ap, yIf_ap, sRetS_ap, unX_ap, ytOf_ap, ytTru_ap, ytNot_ap, ytSeq_ap, ytCmp_ap, yaOf_ap, yaCons_ap, yApp_ap, eMethR_ap, sMakeSh_ap, runB_ap, gOne_ap, gMany_ap, dI_ap, yesC_ap, dCmp_int, setD, kill_nx, kill_rt, kill_rs, kill_bk, Option.bind_some, Option.map_some, Option.bind_none, Option.map_none, List.getElem?_cons_zero, List.getElem?_cons_succ, List.set_cons_zero, List.set_cons_succ, List.cons_append, List.nil_append, List.append_nil, List.replicate, List.length_cons, List.length_nil, Nat.reduceAdd, Nat.reduceSub, Nat.zero_add, wdat_no, wdat_d, wdat_town, wdat_ol, wdat_od, wfrz_no, wfrz_d, wfrz_town, wfrz_ol, wfrz_od, wval_no, wval_d, wval_town, wval_ol, wval_od, warg_no, warg_d, warg_town, warg_ol, warg_od, vals, gLen, gAbs, gMax2, gMin2, gInt, gTup, gList, wipeW, if_true, if_false, Bool.false_eq_true, Bool.not_true, Bool.not_false, reduceCtorEq, dTru, List.isEmpty_nil]
    simp -implicitDefEqProofs only [eVar_ap, dVar_ap, eC_ap, dOf_ap, eFrz_ap, eBin_ap, bTest_ap, bTru_ap, bAnd_ap, bOr_ap, bNot_ap, eIf_ap, eB_ap, eAnd_ap, eOr_ap, aNil_ap, aCons_ap, sNil_ap, sCons_ap, eTup_ap, eLst_ap, eCall_ap, eApp_ap, oNone_ap, oSome_ap, eSl_ap, sNil'_ap, sSeq_ap, sBrk_ap, sRet_ap, sRetN_ap, sRetO_ap, sDrop_ap, sIf_ap, sSet_ap, sApp_ap, sTown_ap, sExt_ap, sIns_ap, sSetIx_ap, sAsg_ap, sPar_ap, iOf_ap, iVal_ap, iRng1_ap, iRng2_ap, sFor_ap, eComp_ap, bYes_ap, frzAt_ap, eUn_ap, eNotD_ap, eOrD_ap, eChain_ap, eListRg1_ap, eIsa_ap, eMt_ap, iEnumV_ap, iEnumF_ap, iZipV_ap, iZipF_ap, eTLen_ap, iRng3D_ap, sEnd_ap, eSs_ap, sPar3_ap, xPop_ap, xTup1_ap, xCat_ap, sSetX_ap, sAppX_ap, sParO_ap, sForEI_ap, sForK_ap, eRep_ap, eDicK_ap, eDicT_ap, sPut_ap, eAlt_ap, sTry_ap, eGetD_ap, eLockI_ap, iKeyF_ap, sSetDef_ap, eTupVals_ap, sNst_ap, frzNAt_ap, sAppN_ap, sStN_ap, eListRg2_ap, eLam_ap, eCallP_ap, eNow_ap, dBef_ap, sShApp_ap, xShPop_ap, sShNow_ap, sShNowX_ap, sShClr_ap, yCall_ap, yOf_ap, yX_ap, yR_ap, yIf_ap, sRetS_ap, unX_ap, ytOf_ap, ytTru_ap, ytNot_ap, ytSeq_ap, ytCmp_ap, yaOf_ap, yaCons_ap, yApp_ap, eMethR_ap, sMakeSh_ap, runB_ap, gOne_ap, gMany_ap, dI_ap, yesC_ap, dCmp_int, setD, kill_nx, kill_rt, kill_rs, kill_bk, Option.bind_some, Option.map_some, Option.bind_none, Option.map_none, List.getElem?_cons_zero, List.getElem?_cons_succ, List.set_cons_zero, List.set_cons_succ, List.cons_append, List.nil_append, List.append_nil, List.replicate, List.length_cons, List.length_nil, Nat.reduceAdd, Nat.reduceSub, Nat.zero_add, wdat_no, wdat_d, wdat_town, wdat_ol, wdat_od, wfrz_no, wfrz_d, wfrz_town, wfrz_ol, wfrz_od, wval_no, wval_d, wval_town, wval_ol, wval_od, warg_no, warg_d, warg_town, warg_ol, warg_od, vals, gLen, gAbs, gMax2, gMin2, gInt, gTup, gList, wipeW, if_true, if_false, Bool.false_eq_true, Bool.not_true, Bool.not_false, reduceCtorEq, dAdd, dMul, dMod, dDiv, h1, h2, h3, h4, h5, h6, h7]
    exact ⟨_, Int.emod_nonneg _ (by omega), Int.emod_lt_of_pos _ hm, rfl⟩
  | cons a ns =>
    simp -implicitDefEqProofs only [eVar_ap, dVar_ap, eC_ap, dOf_ap, eFrz_ap, eBin_ap, bTest_ap, bTru_ap, bAnd_ap, bOr_ap, bNot_ap, eIf_ap, eB_ap, eAnd_ap, eOr_ap, aNil_ap, aCons_ap, sNil_ap, sCons_ap, eTup_ap, eLst_ap, eCall_ap, eApp_ap, oNone_ap, oSome_ap, eSl_ap, sNil'_ap, sSeq_ap, sBrk_ap, sRet_ap, sRetN_ap, sRetO_ap, sDrop_ap, sIf_ap, sSet_ap, sApp_ap, sTown_ap, sExt_ap, sIns_ap, sSetIx_ap, sAsg_ap, sPar_ap, iOf_ap, iVal_ap, iRng1_ap, iRng2_ap, sFor_ap, eComp_ap, bYes_ap, frzAt_ap, eUn_ap, eNotD_ap, eOrD_ap, eChain_ap, eListRg1_ap, eIsa_ap, eMt_ap, iEnumV_ap, iEnumF_ap, iZipV_ap, iZipF_ap, eTLen_ap, iRng3D_ap, sEnd_ap, eSs_ap, sPar3_ap, xPop_ap, xTup1_ap, xCat_ap, sSetX_ap, sAppX_ap, sParO_ap, sForEI_ap, sForK_ap, eRep_ap, eDicK_ap, eDicT_ap, sPut_ap, eAlt_ap, sTry_ap, eGetD_ap, eLockI_ap, iKeyF_ap, sSetDef_ap, eTupVals_ap, sNst_ap, frzNAt_ap, sAppN_ap, sStN_ap, eListRg2_ap, eLam_ap, eCallP_ap, eNow_ap, dBef_ap, sShApp_ap, xShPop_ap, sShNow_ap, sShNowX_ap, sShClr_ap, yCall_ap, yOf_ap, yX_ap, yR_ap, yIf_ap, sRetS_ap, unX_ap, ytOf_ap, ytTru_ap, ytNot_ap, ytSeq_ap, ytCmp_ap, yaOf_ap, yaCons_ap, yApp_ap, eMethR_ap, sMakeSh_ap, runB_ap, gOne_ap, gMany_ap, dI_ap, yesC_ap, dCmp_int, setD, kill_nx, kill_rt, kill_rs, kill_bk, Option.bind_some, Option.map_some, Option.bind_none, Option.map_none, List.getElem?_cons_zero, List.getElem?_cons_succ, List.set_cons_zero, List.set_cons_succ, List.cons_append, List.nil_append, List.append_nil, List.replicate, List.length_cons, List.length_nil, Nat.reduceAdd, Nat.reduceSub, Nat.zero_add, wdat_no, wdat_d, wdat_town, wdat_ol, wdat_od, wfrz_no, wfrz_d, wfrz_town, wfrz_ol, wfrz_od, wval_no, wval_d, wval_town, wval_ol, wval_od, warg_no, warg_d, warg_town, warg_ol, warg_od, vals, gLen, gAbs, gMax2, gMin2, gInt, gTup, gList, wipeW, if_true, if_false, Bool.false_eq_true, Bool.not_true, Bool.not_false, reduceCtorEq, Sc, I', List.map_cons]
    rw [if_pos hn]
    simp -implicitDefEqProofs only [eVar_ap, dVar_ap, eC_ap, dOf_ap, eFrz_ap, eBin_ap, bTest_ap, bTru_ap, bAnd_ap, bOr_ap, bNot_ap, eIf_ap, eB_ap, eAnd_ap, eOr_ap, aNil_ap, aCons_ap, sNil_ap, sCons_ap, eTup_ap, eLst_ap, eCall_ap, eApp_ap, oNone_ap, oSome_ap, eSl_ap, sNil'_ap, sSeq_ap, sBrk_ap, sRet_ap, sRetN_ap, sRetO_ap, sDrop_ap, sIf_ap, sSet_ap, sApp_ap, sTown_ap, sExt_ap, sIns_ap, sSetIx_ap, sAsg_ap, sPar_ap, iOf_ap, iVal_ap, iRng1_ap, iRng2_ap, sFor_ap, eComp_ap, bYes_ap, frzAt_ap, eUn_ap, eNotD_ap, eOrD_ap, eChain_ap, eListRg1_ap, eIsa_ap, eMt_ap, iEnumV_ap, iEnumF_ap, iZipV_ap, iZipF_ap, eTLen_ap, iRng3D_ap, sEnd_ap, eSs_ap, sPar3_ap, xPop_ap, xTup1_ap, xCat_ap, sSetX_ap, sAppX_ap, sParO_ap, sForEI_ap, sForK_ap, eRep_ap, eDicK_ap, eDicT_ap, sPut_ap, eAlt_ap, sTry_ap, eGetD_ap, eLockI_ap, iKeyF_ap, sSetDef_ap, eTupVals_ap, sNst_ap, frzNAt_ap, sAppN_ap, sStN_ap, eListRg2_ap, eLam_ap, eCallP_ap, eNow_ap, dBef_ap, sShApp_ap, xShPop_ap, sShNow_ap, sShNowX_ap, sShClr_ap, yCall_ap, yOf_ap, yX_ap, yR_ap, yIf_ap, sRetS_ap, unX_ap, ytOf_ap, ytTru_ap, ytNot_ap, ytSeq_ap, ytCmp_ap, yaOf_ap, yaCons_ap, yApp_ap, eMethR_ap, sMakeSh_ap, runB_ap, gOne_ap, gMany_ap, dI_ap, yesC_ap, dCmp_int, setD, kill_nx, kill_rt, kill_rs, kill_bk, Option.bind_some, Option.map_some, Option.bind_none, Option.map_none, List.getElem?_cons_zero, List.getElem?_cons_succ, List.set_cons_zero, List.set_cons_succ, List.cons_append, List.nil_append, List.append_nil, List.replicate, List.length_cons, List.length_nil, Nat.reduceAdd, Nat.reduceSub, Nat.zero_add, wdat_no, wdat_d, wdat_town, wdat_ol, wdat_od, wfrz_no, wfrz_d, wfrz_town, wfrz_ol, wfrz_od, wval_no, wval_d, wval_town, wval_ol, wval_od, warg_no, warg_d, warg_town, warg_ol, warg_od, vals, gLen, gAbs, gMax2, gMin2, gInt, gTup, gList, wipeW, if_true, if_false, Bool.false_eq_true, Bool.not_true, Bool.not_false, reduceCtorEq, dTru, List.isEmpty_cons]
    have h8 : modC ((n + 1 : Nat) : Int) ((List.map PyData.int ns).length + 1 : Nat) = true := modC_ok (by omega)
    have h9 : ∃ c : Int, dIx (.list (PyData.int a :: List.map PyData.int ns)) (.int (((n + 1 : Nat) : Int) % ((List.map PyData.int ns).length + 1 : Nat))) = some (.d (.int c)) := by
      have e : PyData.int a :: List.map PyData.int ns = (a :: ns).map .int := rfl
      rw [e]
      have l0 := Int.emod_nonneg ((n + 1 : Nat) : Int) (show (((List.map PyData.int ns).length + 1 : Nat) : Int) ≠ 0 by omega)
      have l1 := Int.emod_lt_of_pos ((n + 1 : Nat) : Int) (show 0 < (((List.map PyData.int ns).length + 1 : Nat) : Int) by omega)
      have l2 : (((n + 1 : Nat) : Int) % ((List.map PyData.int ns).length + 1 : Nat)).toNat < ((a :: ns).map PyData.int).length := by
        simp only [List.length_map, List.length_cons] at l0 l1 ⊢
        omega
      refine ⟨(a :: ns)[(((n + 1 : Nat) : Int) % ((List.map PyData.int ns).length + 1 : Nat)).toNat]'(by simpa using l2), ?_⟩
      show (atI _ _).map W.d = _
      rw [atI_ok l0 l2, Option.map_some, List.getElem_map]
    obtain ⟨c, h9⟩ := h9
    simp -implicitDefEqProofs only [eVar_ap, dVar_ap, eC_ap, dOf_ap, eFrz_ap, eBin_ap, bTest_ap, bTru_ap, bAnd_ap, bOr_ap, bNot_ap, eIf_ap, eB_ap, eAnd_ap, eOr_ap, aNil_ap, aCons_ap, sNil_ap, sCons_ap, eTup_ap, eLst_ap, eCall_ap, eApp_ap, oNone_ap, oSome_ap, eSl_ap, sNil'_ap, sSeq_ap, sBrk_ap, sRet_ap, sRetN_ap, sRetO_ap, sDrop_ap, sIf_ap, sSet_ap, sApp_ap, sTown_ap, sExt_ap, sIns_ap, sSetIx_ap, sAsg_ap, sPar_ap, iOf_ap, iVal_ap, iRng1_ap, iRng2_ap, sFor_ap, eComp_ap, bYes_ap, frzAt_ap, eUn_ap, eNotD_ap, eOrD_ap, eChain_ap, eListRg1_ap, eIsa_ap, eMt_ap, iEnumV_ap, iEnumF_ap, iZipV_ap, iZipF_ap, eTLen_ap, iRng3D_ap, sEnd_ap, eSs_ap, sPar3_ap, xPop_ap, xTup1_ap, xCat_ap, sSetX_ap, sAppX_ap, sParO_ap, sForEI_ap, sForK_ap, eRep_ap, eDicK_ap, eDicT_ap, sPut_ap, eAlt_ap, sTry_ap, eGetD_ap, eLockI_ap, iKeyF_ap, sSetDef_ap, eTupVals_ap, sNst_ap, frzNAt_ap, sAppN_ap, sStN_ap, eListRg2_ap, eLam_ap, eCallP_ap, eNow_ap, dBef_ap, sShApp_ap, xShPop_ap, sShNow_ap, sShNowX_ap, sShClr_ap, yCall_ap, yOf_ap, yX_ap, yR_ap, yIf_ap, sRetS_ap, unX_ap, ytOf_ap, ytTru_ap, ytNot_ap, ytSeq_ap, ytCmp_ap, yaOf_ap, yaCons_ap, yApp_ap, eMethR_ap, sMakeSh_ap, runB_ap, gOne_ap, gMany_ap, dI_ap, yesC_ap, dCmp_int, setD, kill_nx, kill_rt, kill_rs, kill_bk, Option.bind_some, Option.map_some, Option.bind_none, Option.map_none, List.getElem?_cons_zero, List.getElem?_cons_succ, List.set_cons_zero, List.set_cons_succ, List.cons_append, List.nil_append, List.append_nil, List.replicate, List.length_cons, List.length_nil, Nat.reduceAdd, Nat.reduceSub, Nat.zero_add, wdat_no, wdat_d, wdat_town, wdat_ol, wdat_od, wfrz_no, wfrz_d, wfrz_town, wfrz_ol, wfrz_od, wval_no, wval_d, wval_town, wval_ol, wval_od, warg_no, warg_d, warg_town, warg_ol, warg_od, vals, gLen, gAbs, gMax2, gMin2, gInt, gTup, gList, wipeW, if_true, if_false, Bool.false_eq_true, Bool.not_true, Bool.not_false, reduceCtorEq, dAdd, dMul, dMod, dDiv, h1, h2, h3, h4, h5, h6, h7, h8, h9]
    exact ⟨_, Int.emod_nonneg _ (by omega), Int.emod_lt_of_pos _ hm, rfl⟩
theorem draw_ok (ns : List Int) (n : Nat) (hn : n < big) (many : Int) (hm : 0 < many) : ∃ r : Int, 0 ≤ r ∧ r < many ∧ m__law_draw [Sc ns, .town, I' many] n = some (I' r, n + 1) :=
  drawG_ok 104729 4294967291 4294967279 48271 64 (fun k => mulC_l (by decide) (by decide)) (fun k => mulC_l (by omega) (by omega)) (fun k => mulC_l (by omega) (by omega)) (fun k => modC_ok (by decide)) (fun k => modC_ok (by decide)) (fun k => divC_ok (by decide) (by decide)) ns n hn many hm
end L2.Lv.Sh
namespace L2.Lv.Sh
open PySem PySem.Spec PyProof.Rows L2 L2.Lv
/-! isinstance -/
theorem isa_b_i (i : Int) : isa "bool" (.int i) = false := by simp [isa, tyN]
theorem isa_b_b (i : Bool) : isa "bool" (.bool i) = true := by simp [isa, tyN]
theorem isa_b_s (i : Str) : isa "bool" (.str i) = false := by simp [isa, tyN]
theorem isa_b_t (i : List PyData) : isa "bool" (.tuple i) = false := by simp [isa, tyN]
theorem isa_b_l (i : List PyData) : isa "bool" (.list i) = false := by simp [isa, tyN]
theorem isa_b_n : isa "bool" .none = false := by simp [isa, tyN]
theorem isa_t_i (i : Int) : isa "tuple" (.int i) = false := by simp [isa, tyN]
theorem isa_t_b (i : Bool) : isa "tuple" (.bool i) = false := by simp [isa, tyN]
theorem isa_t_s (i : Str) : isa "tuple" (.str i) = false := by simp [isa, tyN]
theorem isa_t_t (i : List PyData) : isa "tuple" (.tuple i) = true := by simp [isa, tyN]
theorem isa_t_l (i : List PyData) : isa "tuple" (.list i) = false := by simp [isa, tyN]
theorem isa_t_n : isa "tuple" .none = false := by simp [isa, tyN]
theorem isa_s_i (i : Int) : isa "str" (.int i) = false := by simp [isa, tyN]
theorem isa_s_b (i : Bool) : isa "str" (.bool i) = false := by simp [isa, tyN]
theorem isa_s_s (i : Str) : isa "str" (.str i) = true := by simp [isa, tyN]
theorem isa_s_t (i : List PyData) : isa "str" (.tuple i) = false := by simp [isa, tyN]
theorem isa_s_n : isa "str" .none = false := by simp [isa, tyN]
theorem isa_i_i (i : Int) : isa "int" (.int i) = true := by simp [isa, tyN]
theorem isa_i_b (i : Bool) : isa "int" (.bool i) = true := by simp [isa, tyN]
theorem isa_i_s (i : Str) : isa "int" (.str i) = false := by simp [isa, tyN]
theorem isa_i_t (i : List PyData) : isa "int" (.tuple i) = false := by simp [isa, tyN]
theorem isa_i_n : isa "int" .none = false := by simp [isa, tyN]

theorem shp_int (i : Int) : shp (.int i) = true := by simp [shp, SeqAt.shaped, PyData.canLay0, PyData.depth]
theorem shp_bool (i : Bool) : shp (.bool i) = true := by simp [shp, SeqAt.shaped, PyData.canLay0, PyData.depth]
theorem dEq_int (i j : Int) : dEq (.int i) (.int j) = some (.d (.bool (i == j))) := by simp [dEq, shp_int, PyData.eqv]
theorem dNe_int (i j : Int) : dNe (.int i) (.int j) = some (.d (.bool (!(i == j)))) := by simp [dNe, shp_int, PyData.eqv]
theorem dEq_bool (i j : Bool) : dEq (.bool i) (.bool j) = some (.d (.bool (i == j))) := by simp [dEq, shp_bool, PyData.eqv]
theorem dEq_str {i j : Str} (h : shp (.str i) = true) (h2 : shp (.str j) = true) : dEq (.str i) (.str j) = some (.d (.bool (i == j))) := by simp [dEq, h, h2, PyData.eqv]
/-- plain data: no list, no dict; depth at most k -/
def sm : Nat → PyData → Bool
  | 0, _ => false
  | _ + 1, .none => true
  | _ + 1, .bool _ => true
  | _ + 1, .int _ => true
  | _ + 1, .str s => shp (.str s)
  | k + 1, .tuple xs => xs.all (sm k)
  | _ + 1, _ => false
theorem boolsOf_rep (k : Nat) : boolsOf (List.replicate k (.bool true)) = some (List.replicate k true) := by
  induction k with
  | zero => rfl
  | succ k ih => rw [List.replicate_succ]; show (boolsOf (List.replicate k (PyData.bool true))).map _ = _; rw [ih]; rfl
theorem all_rep (k : Nat) : (List.replicate k true).all id = true := by
  induction k with
  | zero => rfl
  | succ k ih => rw [List.replicate_succ]; simpa using ih
theorem zipD_length : ∀ (xs ys : List PyData), (zipD xs ys).length ≤ xs.length
  | [], [] => Nat.le_refl _
  | [], _ :: _ => Nat.le_refl _
  | _ :: _, [] => Nat.zero_le _
  | _ :: xs, _ :: ys => Nat.succ_le_succ (zipD_length xs ys)
theorem same_refl_ : ∀ (k : Nat) (x : PyData) (n : Nat), sm k x = true → (∀ xs, x = .tuple xs → True) → (hb : ∀ xs, x = .tuple xs → xs.length ≤ 1000000) → m__law_same_ k [.d x, .d x] n = some (.d (.bool true), n) ∨ ∃ xs, x = .tuple xs ∧ ∃ y ∈ xs, m__law_same_ (k - 1) [.d y, .d y] n ≠ some (.d (.bool true), n)
  | 0, _, _, h, _, _ => by simp [sm] at h
  | k + 1, .none, n, h, _, _ => by left; unfold m__law_same_ b__law_same; simp -implicitDefEqProofs only [eVar_ap, dVar_ap, eC_ap, dOf_ap, eFrz_ap, eBin_ap, bTest_ap, bTru_ap, bAnd_ap, bOr_ap, bNot_ap, eIf_ap, eB_ap, eAnd_ap, eOr_ap, aNil_ap, aCons_ap, sNil_ap, sCons_ap, eTup_ap, eLst_ap, eCall_ap, eApp_ap, oNone_ap, oSome_ap, eSl_ap, sNil'_ap, sSeq_ap, sBrk_ap, sRet_ap, sRetN_ap, sRetO_ap, sDrop_ap, sIf_ap, sSet_ap, sApp_ap, sTown_ap, sExt_ap, sIns_ap, sSetIx_ap, sAsg_ap, sPar_ap, iOf_ap, iVal_ap, iRng1_ap, iRng2_ap, sFor_ap, eComp_ap, bYes_ap, frzAt_ap, eUn_ap, eNotD_ap, eOrD_ap, eChain_ap, eListRg1_ap, eIsa_ap, eMt_ap, iEnumV_ap, iEnumF_ap, iZipV_ap, iZipF_ap, eTLen_ap, iRng3D_ap, sEnd_ap, eSs_ap, sPar3_ap, xPop_ap, xTup1_ap, xCat_ap, sSetX_ap, sAppX_ap, sParO_ap, sForEI_ap, sForK_ap, eRep_ap, eDicK_ap, eDicT_ap, sPut_ap, eAlt_ap, sTry_ap, eGetD_ap, eLockI_ap, iKeyF_ap, sSetDef_ap, eTupVals_ap, sNst_ap, frzNAt_ap, sAppN_ap, sStN_ap, eListRg2_ap, eLam_ap, eCallP_ap, eNow_ap, dBef_ap, sShApp_ap, xShPop_ap, sShNow_ap, sShNowX_ap, sShClr_ap, yCall_ap, yOf_ap, yX_ap, yR_ap, yIf_ap, sRetS_ap, unX_ap, ytOf_ap, ytTru_ap, ytNot_ap, ytSeq_ap, ytCmp_ap, yaOf_ap, yaCons_ap, yApp_ap, eMethR_ap, sMakeSh_ap, runB_ap, gOne_ap, gMany_ap, dI_ap, yesC_ap, dCmp_int, setD, kill_nx, kill_rt, kill_rs, kill_bk, Option.bind_some, Option.map_some, Option.bind_none, Option.map_none, List.getElem?_cons_zero, List.getElem?_cons_succ, List.set_cons_zero, List.set_cons_succ, List.cons_append, List.nil_append, List.append_nil, List.replicate, List.length_cons, List.length_nil, Nat.reduceAdd, Nat.reduceSub, Nat.zero_add, wdat_no, wdat_d, wdat_town, wdat_ol, wdat_od, wfrz_no, wfrz_d, wfrz_town, wfrz_ol, wfrz_od, wval_no, wval_d, wval_town, wval_ol, wval_od, warg_no, warg_d, warg_town, warg_ol, warg_od, vals, gLen, gAbs, gMax2, gMin2, gInt, gTup, gList, wipeW, if_true, if_false, Bool.false_eq_true, Bool.not_true, Bool.not_false, reduceCtorEq, dTru, isNo, dIsN, dNotN, isa_b_i, isa_b_b, isa_b_s, isa_b_t, isa_b_l, isa_b_n, isa_t_i, isa_t_b, isa_t_s, isa_t_t, isa_t_l, isa_t_n, isa_s_i, isa_s_b, isa_s_s, isa_s_t, isa_s_n, isa_i_i, isa_i_b, isa_i_s, isa_i_t, isa_i_n]
  | k + 1, .bool b, n, h, _, _ => by left; unfold m__law_same_ b__law_same; simp -implicitDefEqProofs only [eVar_ap, dVar_ap, eC_ap, dOf_ap, eFrz_ap, eBin_ap, bTest_ap, bTru_ap, bAnd_ap, bOr_ap, bNot_ap, eIf_ap, eB_ap, eAnd_ap, eOr_ap, aNil_ap, aCons_ap, sNil_ap, sCons_ap, eTup_ap, eLst_ap, eCall_ap, eApp_ap, oNone_ap, oSome_ap, eSl_ap, sNil'_ap, sSeq_ap, sBrk_ap, sRet_ap, sRetN_ap, sRetO_ap, sDrop_ap, sIf_ap, sSet_ap, sApp_ap, sTown_ap, sExt_ap, sIns_ap, sSetIx_ap, sAsg_ap, sPar_ap, iOf_ap, iVal_ap, iRng1_ap, iRng2_ap, sFor_ap, eComp_ap, bYes_ap, frzAt_ap, eUn_ap, eNotD_ap, eOrD_ap, eChain_ap, eListRg1_ap, eIsa_ap, eMt_ap, iEnumV_ap, iEnumF_ap, iZipV_ap, iZipF_ap, eTLen_ap, iRng3D_ap, sEnd_ap, eSs_ap, sPar3_ap, xPop_ap, xTup1_ap, xCat_ap, sSetX_ap, sAppX_ap, sParO_ap, sForEI_ap, sForK_ap, eRep_ap, eDicK_ap, eDicT_ap, sPut_ap, eAlt_ap, sTry_ap, eGetD_ap, eLockI_ap, iKeyF_ap, sSetDef_ap, eTupVals_ap, sNst_ap, frzNAt_ap, sAppN_ap, sStN_ap, eListRg2_ap, eLam_ap, eCallP_ap, eNow_ap, dBef_ap, sShApp_ap, xShPop_ap, sShNow_ap, sShNowX_ap, sShClr_ap, yCall_ap, yOf_ap, yX_ap, yR_ap, yIf_ap, sRetS_ap, unX_ap, ytOf_ap, ytTru_ap, ytNot_ap, ytSeq_ap, ytCmp_ap, yaOf_ap, yaCons_ap, yApp_ap, eMethR_ap, sMakeSh_ap, runB_ap, gOne_ap, gMany_ap, dI_ap, yesC_ap, dCmp_int, setD, kill_nx, kill_rt, kill_rs, kill_bk, Option.bind_some, Option.map_some, Option.bind_none, Option.map_none, List.getElem?_cons_zero, List.getElem?_cons_succ, List.set_cons_zero, List.set_cons_succ, List.cons_append, List.nil_append, List.append_nil, List.replicate, List.length_cons, List.length_nil, Nat.reduceAdd, Nat.reduceSub, Nat.zero_add, wdat_no, wdat_d, wdat_town, wdat_ol, wdat_od, wfrz_no, wfrz_d, wfrz_town, wfrz_ol, wfrz_od, wval_no, wval_d, wval_town, wval_ol, wval_od, warg_no, warg_d, warg_town, warg_ol, warg_od, vals, gLen, gAbs, gMax2, gMin2, gInt, gTup, gList, wipeW, if_true, if_false, Bool.false_eq_true, Bool.not_true, Bool.not_false, reduceCtorEq, dTru, isNo, dIsN, dNotN, isa_b_i, isa_b_b, isa_b_s, isa_b_t, isa_b_l, isa_b_n, isa_t_i, isa_t_b, isa_t_s, isa_t_t, isa_t_l, isa_t_n, isa_s_i, isa_s_b, isa_s_s, isa_s_t, isa_s_n, isa_i_i, isa_i_b, isa_i_s, isa_i_t, isa_i_n, dEq_bool, beq_self_eq_true]
  | k + 1, .int b, n, h, _, _ => by left; unfold m__law_same_ b__law_same; simp -implicitDefEqProofs only [eVar_ap, dVar_ap, eC_ap, dOf_ap, eFrz_ap, eBin_ap, bTest_ap, bTru_ap, bAnd_ap, bOr_ap, bNot_ap, eIf_ap, eB_ap, eAnd_ap, eOr_ap, aNil_ap, aCons_ap, sNil_ap, sCons_ap, eTup_ap, eLst_ap, eCall_ap, eApp_ap, oNone_ap, oSome_ap, eSl_ap, sNil'_ap, sSeq_ap, sBrk_ap, sRet_ap, sRetN_ap, sRetO_ap, sDrop_ap, sIf_ap, sSet_ap, sApp_ap, sTown_ap, sExt_ap, sIns_ap, sSetIx_ap, sAsg_ap, sPar_ap, iOf_ap, iVal_ap, iRng1_ap, iRng2_ap, sFor_ap, eComp_ap, bYes_ap, frzAt_ap, eUn_ap, eNotD_ap, eOrD_ap, eChain_ap, eListRg1_ap, eIsa_ap, eMt_ap, iEnumV_ap, iEnumF_ap, iZipV_ap, iZipF_ap, eTLen_ap, iRng3D_ap, sEnd_ap, eSs_ap, sPar3_ap, xPop_ap, xTup1_ap, xCat_ap, sSetX_ap, sAppX_ap, sParO_ap, sForEI_ap, sForK_ap, eRep_ap, eDicK_ap, eDicT_ap, sPut_ap, eAlt_ap, sTry_ap, eGetD_ap, eLockI_ap, iKeyF_ap, sSetDef_ap, eTupVals_ap, sNst_ap, frzNAt_ap, sAppN_ap, sStN_ap, eListRg2_ap, eLam_ap, eCallP_ap, eNow_ap, dBef_ap, sShApp_ap, xShPop_ap, sShNow_ap, sShNowX_ap, sShClr_ap, yCall_ap, yOf_ap, yX_ap, yR_ap, yIf_ap, sRetS_ap, unX_ap, ytOf_ap, ytTru_ap, ytNot_ap, ytSeq_ap, ytCmp_ap, yaOf_ap, yaCons_ap, yApp_ap, eMethR_ap, sMakeSh_ap, runB_ap, gOne_ap, gMany_ap, dI_ap, yesC_ap, dCmp_int, setD, kill_nx, kill_rt, kill_rs, kill_bk, Option.bind_some, Option.map_some, Option.bind_none, Option.map_none, List.getElem?_cons_zero, List.getElem?_cons_succ, List.set_cons_zero, List.set_cons_succ, List.cons_append, List.nil_append, List.append_nil, List.replicate, List.length_cons, List.length_nil, Nat.reduceAdd, Nat.reduceSub, Nat.zero_add, wdat_no, wdat_d, wdat_town, wdat_ol, wdat_od, wfrz_no, wfrz_d, wfrz_town, wfrz_ol, wfrz_od, wval_no, wval_d, wval_town, wval_ol, wval_od, warg_no, warg_d, warg_town, warg_ol, warg_od, vals, gLen, gAbs, gMax2, gMin2, gInt, gTup, gList, wipeW, if_true, if_false, Bool.false_eq_true, Bool.not_true, Bool.not_false, reduceCtorEq, dTru, isNo, dIsN, dNotN, isa_b_i, isa_b_b, isa_b_s, isa_b_t, isa_b_l, isa_b_n, isa_t_i, isa_t_b, isa_t_s, isa_t_t, isa_t_l, isa_t_n, isa_s_i, isa_s_b, isa_s_s, isa_s_t, isa_s_n, isa_i_i, isa_i_b, isa_i_s, isa_i_t, isa_i_n, dEq_int, beq_self_eq_true]
  | k + 1, .str b, n, h, _, _ => by
    left
    have h : shp (.str b) = true := h
    unfold m__law_same_ b__law_same
    simp -implicitDefEqProofs only [eVar_ap, dVar_ap, eC_ap, dOf_ap, eFrz_ap, eBin_ap, bTest_ap, bTru_ap, bAnd_ap, bOr_ap, bNot_ap, eIf_ap, eB_ap, eAnd_ap, eOr_ap, aNil_ap, aCons_ap, sNil_ap, sCons_ap, eTup_ap, eLst_ap, eCall_ap, eApp_ap, oNone_ap, oSome_ap, eSl_ap, sNil'_ap, sSeq_ap, sBrk_ap, sRet_ap, sRetN_ap, sRetO_ap, sDrop_ap, sIf_ap, sSet_ap, sApp_ap, sTown_ap, sExt_ap, sIns_ap, sSetIx_ap, sAsg_ap, sPar_ap, iOf_ap, iVal_ap, iRng1_ap, iRng2_ap, sFor_ap, eComp_ap, bYes_ap, frzAt_ap, eUn_ap, eNotD_ap, eOrD_ap, eChain_ap, eListRg1_ap, eIsa_ap, eMt_ap, iEnumV_ap, iEnumF_ap, iZipV_ap, iZipF_ap, eTLen_ap, iRng3D_ap, sEnd_ap, eSs_ap, sPar3_ap, xPop_ap, xTup1_ap, xCat_ap, sSetX_ap, sAppX_ap, sParO_ap, sForEI_ap, sForK_ap, eRep_ap, eDicK_ap, eDicT_ap, sPut_ap, eAlt_ap, sTry_ap, eGetD_ap, eLockI_ap, iKeyF_ap, sSetDef_ap, eTupVals_ap, sNst_ap, frzNAt_ap, sAppN_ap, sStN_ap, eListRg2_ap, eLam_ap, eCallP_ap, eNow_ap, dBef_ap, sShApp_ap, xShPop_ap, sShNow_ap, sShNowX_ap, sShClr_ap, yCall_ap, yOf_ap, yX_ap, yR_ap, yIf_ap, sRetS_ap, unX_ap, ytOf_ap, ytTru_ap, ytNot_ap, ytSeq_ap, ytCmp_ap, yaOf_ap, yaCons_ap, yApp_ap, eMethR_ap, sMakeSh_ap, runB_ap, gOne_ap, gMany_ap, dI_ap, yesC_ap, dCmp_int, setD, kill_nx, kill_rt, kill_rs, kill_bk, Option.bind_some, Option.map_some, Option.bind_none, Option.map_none, List.getElem?_cons_zero, List.getElem?_cons_succ, List.set_cons_zero, List.set_cons_succ, List.cons_append, List.nil_append, List.append_nil, List.replicate, List.length_cons, List.length_nil, Nat.reduceAdd, Nat.reduceSub, Nat.zero_add, wdat_no, wdat_d, wdat_town, wdat_ol, wdat_od, wfrz_no, wfrz_d, wfrz_town, wfrz_ol, wfrz_od, wval_no, wval_d, wval_town, wval_ol, wval_od, warg_no, warg_d, warg_town, warg_ol, warg_od, vals, gLen, gAbs, gMax2, gMin2, gInt, gTup, gList, wipeW, if_true, if_false, Bool.false_eq_true, Bool.not_true, Bool.not_false, reduceCtorEq, dTru, isNo, dIsN, dNotN, isa_b_i, isa_b_b, isa_b_s, isa_b_t, isa_b_l, isa_b_n, isa_t_i, isa_t_b, isa_t_s, isa_t_t, isa_t_l, isa_t_n, isa_s_i, isa_s_b, isa_s_s, isa_s_t, isa_s_n, isa_i_i, isa_i_b, isa_i_s, isa_i_t, isa_i_n, dEq_str h h, beq_self_eq_true]
  | k + 1, .tuple xs, n, h, _, hb => by
    by_cases hy : ∃ y ∈ xs, m__law_same_ k [.d y, .d y] n ≠ some (.d (.bool true), n)
    · exact .inr ⟨xs, rfl, hy⟩
    · left
      have key : ∀ ys : List PyData, (∀ y ∈ ys, m__law_same_ k [.d y, .d y] n = some (.d (.bool true), n)) → loopC (gMany [2, 3]) [2, 3] bYes (eCall (m__law_same_ k) (aCons (eVar 2) (aCons (eVar 3) aNil))) [W.d (.tuple xs), .d (.tuple xs), .no, .no] (zipD ys ys) n = some (List.replicate ys.length (.bool true), n) := by
        intro ys hys
        induction ys with
        | nil => rfl
        | cons y ys ih =>
          show loopC _ _ _ _ _ (.tuple [y, y] :: zipD ys ys) n = _
          rw [loopC_cons]
          simp -implicitDefEqProofs only [eVar_ap, dVar_ap, eC_ap, dOf_ap, eFrz_ap, eBin_ap, bTest_ap, bTru_ap, bAnd_ap, bOr_ap, bNot_ap, eIf_ap, eB_ap, eAnd_ap, eOr_ap, aNil_ap, aCons_ap, sNil_ap, sCons_ap, eTup_ap, eLst_ap, eCall_ap, eApp_ap, oNone_ap, oSome_ap, eSl_ap, sNil'_ap, sSeq_ap, sBrk_ap, sRet_ap, sRetN_ap, sRetO_ap, sDrop_ap, sIf_ap, sSet_ap, sApp_ap, sTown_ap, sExt_ap, sIns_ap, sSetIx_ap, sAsg_ap, sPar_ap, iOf_ap, iVal_ap, iRng1_ap, iRng2_ap, sFor_ap, eComp_ap, bYes_ap, frzAt_ap, eUn_ap, eNotD_ap, eOrD_ap, eChain_ap, eListRg1_ap, eIsa_ap, eMt_ap, iEnumV_ap, iEnumF_ap, iZipV_ap, iZipF_ap, eTLen_ap, iRng3D_ap, sEnd_ap, eSs_ap, sPar3_ap, xPop_ap, xTup1_ap, xCat_ap, sSetX_ap, sAppX_ap, sParO_ap, sForEI_ap, sForK_ap, eRep_ap, eDicK_ap, eDicT_ap, sPut_ap, eAlt_ap, sTry_ap, eGetD_ap, eLockI_ap, iKeyF_ap, sSetDef_ap, eTupVals_ap, sNst_ap, frzNAt_ap, sAppN_ap, sStN_ap, eListRg2_ap, eLam_ap, eCallP_ap, eNow_ap, dBef_ap, sShApp_ap, xShPop_ap, sShNow_ap, sShNowX_ap, sShClr_ap, yCall_ap, yOf_ap, yX_ap, yR_ap, yIf_ap, sRetS_ap, unX_ap, ytOf_ap, ytTru_ap, ytNot_ap, ytSeq_ap, ytCmp_ap, yaOf_ap, yaCons_ap, yApp_ap, eMethR_ap, sMakeSh_ap, runB_ap, gOne_ap, gMany_ap, dI_ap, yesC_ap, dCmp_int, setD, kill_nx, kill_rt, kill_rs, kill_bk, Option.bind_some, Option.map_some, Option.bind_none, Option.map_none, List.getElem?_cons_zero, List.getElem?_cons_succ, List.set_cons_zero, List.set_cons_succ, List.cons_append, List.nil_append, List.append_nil, List.replicate, List.length_cons, List.length_nil, Nat.reduceAdd, Nat.reduceSub, Nat.zero_add, wdat_no, wdat_d, wdat_town, wdat_ol, wdat_od, wfrz_no, wfrz_d, wfrz_town, wfrz_ol, wfrz_od, wval_no, wval_d, wval_town, wval_ol, wval_od, warg_no, warg_d, warg_town, warg_ol, warg_od, vals, gLen, gAbs, gMax2, gMin2, gInt, gTup, gList, wipeW, if_true, if_false, Bool.false_eq_true, Bool.not_true, Bool.not_false, reduceCtorEq, dTru, isNo, dIsN, dNotN, isa_b_i, isa_b_b, isa_b_s, isa_b_t, isa_b_l, isa_b_n, isa_t_i, isa_t_b, isa_t_s, isa_t_t, isa_t_l, isa_t_n, isa_s_i, isa_s_b, isa_s_s, isa_s_t, isa_s_n, isa_i_i, isa_i_b, isa_i_s, isa_i_t, isa_i_n, hys y (List.mem_cons_self ..), ih fun z hz => hys z (List.mem_cons_of_mem _ hz), List.replicate_succ]
      have hk := key xs fun y hm => Classical.byContradiction fun hn => hy ⟨y, hm, hn⟩
      have hl : (zipD xs xs).length ≤ big := Nat.le_trans (zipD_length xs xs) (Nat.le_trans (hb xs rfl) (by decide))
      unfold m__law_same_ b__law_same
      simp -implicitDefEqProofs only [eVar_ap, dVar_ap, eC_ap, dOf_ap, eFrz_ap, eBin_ap, bTest_ap, bTru_ap, bAnd_ap, bOr_ap, bNot_ap, eIf_ap, eB_ap, eAnd_ap, eOr_ap, aNil_ap, aCons_ap, sNil_ap, sCons_ap, eTup_ap, eLst_ap, eCall_ap, eApp_ap, oNone_ap, oSome_ap, eSl_ap, sNil'_ap, sSeq_ap, sBrk_ap, sRet_ap, sRetN_ap, sRetO_ap, sDrop_ap, sIf_ap, sSet_ap, sApp_ap, sTown_ap, sExt_ap, sIns_ap, sSetIx_ap, sAsg_ap, sPar_ap, iOf_ap, iVal_ap, iRng1_ap, iRng2_ap, sFor_ap, eComp_ap, bYes_ap, frzAt_ap, eUn_ap, eNotD_ap, eOrD_ap, eChain_ap, eListRg1_ap, eIsa_ap, eMt_ap, iEnumV_ap, iEnumF_ap, iZipV_ap, iZipF_ap, eTLen_ap, iRng3D_ap, sEnd_ap, eSs_ap, sPar3_ap, xPop_ap, xTup1_ap, xCat_ap, sSetX_ap, sAppX_ap, sParO_ap, sForEI_ap, sForK_ap, eRep_ap, eDicK_ap, eDicT_ap, sPut_ap, eAlt_ap, sTry_ap, eGetD_ap, eLockI_ap, iKeyF_ap, sSetDef_ap, eTupVals_ap, sNst_ap, frzNAt_ap, sAppN_ap, sStN_ap, eListRg2_ap, eLam_ap, eCallP_ap, eNow_ap, dBef_ap, sShApp_ap, xShPop_ap, sShNow_ap, sShNowX_ap, sShClr_ap, yCall_ap, yOf_ap, yX_ap, yR_ap, yIf_ap, sRetS_ap, unX_ap, ytOf_ap, ytTru_ap, ytNot_ap, ytSeq_ap, ytCmp_ap, yaOf_ap, yaCons_ap, yApp_ap, eMethR_ap, sMakeSh_ap, runB_ap, gOne_ap, gMany_ap, dI_ap, yesC_ap, dCmp_int, setD, kill_nx, kill_rt, kill_rs, kill_bk, Option.bind_some, Option.map_some, Option.bind_none, Option.map_none, List.getElem?_cons_zero, List.getElem?_cons_succ, List.set_cons_zero, List.set_cons_succ, List.cons_append, List.nil_append, List.append_nil, List.replicate, List.length_cons, List.length_nil, Nat.reduceAdd, Nat.reduceSub, Nat.zero_add, wdat_no, wdat_d, wdat_town, wdat_ol, wdat_od, wfrz_no, wfrz_d, wfrz_town, wfrz_ol, wfrz_od, wval_no, wval_d, wval_town, wval_ol, wval_od, warg_no, warg_d, warg_town, warg_ol, warg_od, vals, gLen, gAbs, gMax2, gMin2, gInt, gTup, gList, wipeW, if_true, if_false, Bool.false_eq_true, Bool.not_true, Bool.not_false, reduceCtorEq, dTru, isNo, dIsN, dNotN, isa_b_i, isa_b_b, isa_b_s, isa_b_t, isa_b_l, isa_b_n, isa_t_i, isa_t_b, isa_t_s, isa_t_t, isa_t_l, isa_t_n, isa_s_i, isa_s_b, isa_s_s, isa_s_t, isa_s_n, isa_i_i, isa_i_b, isa_i_s, isa_i_t, isa_i_n, dNe_int, beq_self_eq_true, zipOk, hl, hk, gAll, boolsOf_rep, all_rep]
  | k + 1, .list _, n, h, _, _ => by simp [sm] at h
  | k + 1, .dict _, n, h, _, _ => by simp [sm] at h
/-- tuples in it are not too long -/
def short : Nat → PyData → Bool
  | 0, _ => true
  | k + 1, .tuple xs => decide (xs.length ≤ 1000000) && xs.all (short k)
  | _ + 1, _ => true
theorem same_refl : ∀ (k : Nat) (x : PyData) (n : Nat), sm k x = true → short k x = true → m__law_same_ k [.d x, .d x] n = some (.d (.bool true), n)
  | 0, _, _, h, _ => by simp [sm] at h
  | k + 1, x, n, h, h2 => by
    rcases same_refl_ (k + 1) x n h (fun _ _ => trivial) (fun xs e => by subst e; simp [short] at h2; exact h2.1) with q | ⟨xs, rfl, y, hy, q⟩
    · exact q
    · refine absurd (same_refl k y n ?_ ?_) q
      · simp [sm] at h; exact h y hy
      · simp [short] at h2; exact h2.2 y hy
end L2.Lv.Sh
namespace L2.Lv.Sh
open PySem PySem.Spec PyProof.Rows L2 L2.Lv
abbrev sUp : Str := "up"
abbrev sDown : Str := "down"
abbrev sPart : Str := "part"
abbrev sRest : Str := "rest"
abbrev sTable : Str := "table"
abbrev sAmong : Str := "among"
abbrev sSum : Str := "sum"
abbrev sGap : Str := "gap"
abbrev sMost : Str := "most"
/-- plain keys -/
inductive PK where
  | up (a : Int)
  | part (a d : Int)
  | rest (a d : Int)
  | table (a : Int) (t : List Int)
  | among (a : Int) (t : List Int)
  | sum (a b : Int)
  | gap (a b : Int)
  | most (a b : Int)
abbrev ti (t : List Int) : PyData := .tuple (t.map .int)
def PK.d : PK → PyData
  | up a => .tuple [.str sUp, .int a]
  | part a d => .tuple [.str sPart, .int a, .int d]
  | rest a d => .tuple [.str sRest, .int a, .int d]
  | table a t => .tuple [.str sTable, .int a, ti t]
  | among a t => .tuple [.str sAmong, .int a, ti t]
  | sum a b => .tuple [.str sSum, .int a, .int b]
  | gap a b => .tuple [.str sGap, .int a, .int b]
  | most a b => .tuple [.str sMost, .int a, .int b]
inductive Ky where
  | pl (p : PK)
  | dn (p : PK)
def Ky.d : Ky → PyData
  | pl p => p.d
  | dn p => .tuple [.str sDown, p.d]
def pl3 (a : Int) : Prop := 0 ≤ a ∧ a < 3
def tOk (t : List Int) : Prop := t ≠ [] ∧ t.length ≤ 6 ∧ t.Nodup ∧ ∀ x ∈ t, 0 ≤ x ∧ x < 6
def prOk (a b : Int) : Prop := (a = 0 ∧ b = 1) ∨ (a = 0 ∧ b = 2) ∨ (a = 1 ∧ b = 2)
def PK.ok : PK → Prop
  | up a => pl3 a
  | part a d => pl3 a ∧ (d = 2 ∨ d = 3)
  | rest a d => pl3 a ∧ (d = 2 ∨ d = 3)
  | table a t => pl3 a ∧ tOk t
  | among a t => pl3 a ∧ tOk t ∧ t.Pairwise (· < ·)
  | sum a b => prOk a b
  | gap a b => prOk a b
  | most a b => prOk a b
def Ky.pk : Ky → PK
  | pl p => p
  | dn p => p
def Ky.ok (k : Ky) : Prop := k.pk.ok
/-- what a thing is -/
abbrev Th := Int × Int × Int
def Th.d (t : Th) : PyData := ti [t.1, t.2.1, t.2.2]
def Th.ok (t : Th) : Prop := (0 ≤ t.1 ∧ t.1 < 6) ∧ (0 ≤ t.2.1 ∧ t.2.1 < 6) ∧ (0 ≤ t.2.2 ∧ t.2.2 < 6)
def Th.at (t : Th) (i : Int) : Int := if i = 0 then t.1 else if i = 1 then t.2.1 else t.2.2
theorem memD_ints (x : Int) : ∀ t : List Int, memD (.int x) (t.map .int) = decide (x ∈ t)
  | [] => by simp [memD]
  | y :: t => by
    have ih := memD_ints x t
    unfold memD at ih ⊢
    rw [List.map_cons, List.any_cons, ih]
    by_cases h : x = y
    · subst h; simp [PyData.eqv]
    · simp [PyData.eqv, h, Ne.symm h]
theorem canLay_ints : ∀ t : List Int, PyData.canLayAll0 (t.map .int) = true
  | [] => by simp [PyData.canLayAll0]
  | y :: t => by simp [PyData.canLayAll0, PyData.canLay0, canLay_ints t]
theorem depthAll_ints : ∀ t : List Int, PyData.depthAll (t.map .int) ≤ 1
  | [] => by simp [PyData.depthAll]
  | y :: t => by
    have := depthAll_ints t
    simp [PyData.depthAll, PyData.depth]
    omega
theorem shp_ti (t : List Int) : shp (ti t) = true := by
  have := depthAll_ints t
  simp [shp, SeqAt.shaped, PyData.canLay0, PyData.depth, canLay_ints]
  omega
theorem dIn_ints (x : Int) (t : List Int) : dIn (.int x) (ti t) = some (.d (.bool (decide (x ∈ t)))) := by
  show (some (t.map PyData.int)).bind _ = _
  rw [Option.bind_some, shp_int, shp_ti, memD_ints]
  rfl
theorem dNotIn_ints (x : Int) (t : List Int) : dNotIn (.int x) (ti t) = some (.d (.bool (!decide (x ∈ t)))) := by
  show (some (t.map PyData.int)).bind _ = _
  rw [Option.bind_some, shp_int, shp_ti, memD_ints]
  rfl
theorem dAdd_int (i j : Int) : dAdd (.int i) (.int j) = some (.d (.int (i + j))) := rfl
theorem dSub_int (i j : Int) : dSub (.int i) (.int j) = some (.d (.int (i - j))) := rfl
theorem dAdd_tup (xs ys : List PyData) (h : xs.length + ys.length ≤ big) : dAdd (.tuple xs) (.tuple ys) = some (.d (.tuple (xs ++ ys))) := if_pos h
theorem dAdd_lst (xs ys : List PyData) (h : xs.length + ys.length ≤ big) : dAdd (.list xs) (.list ys) = some (.ol (xs ++ ys)) := if_pos h
theorem le_big {k : Nat} (h : k ≤ 1000000) : k ≤ big := Nat.le_trans h (by decide)
/-! sorted ints -/
theorem dataLe_int (a b : Int) : PySem.W.dataLe false (fun x => x) (.int a) (.int b) = decide (a ≤ b) := by
  simp [PySem.W.dataLe, PySem.W.sortLe, PySem.W.keyToks, PyProof.Rows.lexLt, PyProof.Rows.itemLt]
  by_cases h : a ≤ b
  · have : ¬ b < a := by omega
    simp [h, this]
  · have : b < a := by omega
    simp [h, this]
def srtI (t : List Int) : List Int := t.mergeSort fun a b => decide (a ≤ b)
theorem srt_ints (t : List Int) : srt (t.map .int) = (srtI t).map .int := by
  unfold srt srtI
  exact (List.map_mergeSort fun a _ b _ => (dataLe_int a b).symm).symm
theorem srtOk_ints (t : List Int) : srtOk (t.map .int) = true := by
  have h1 : ∀ a b : Int, PySem.W.alike (.int a) (.int b) = true := fun a b => by simp [PySem.W.alike]
  simp [srtOk, h1, PyData.depth]
theorem gSorted_ints (t : List Int) : gSorted [ti t] = some (.ol ((srtI t).map .int)) := by
  simp only [gSorted, ti, seqOf, Option.bind_some, srtOk_ints, srt_ints, if_true]
theorem srtI_perm (t : List Int) : (srtI t).Perm t := List.mergeSort_perm t _
theorem srtI_pw (t : List Int) : (srtI t).Pairwise (· ≤ ·) := by
  have h := List.pairwise_mergeSort (le := fun a b : Int => decide (a ≤ b)) (fun a b c h1 h2 => by simp at h1 h2 ⊢; omega) (fun a b => by simp; omega) t
  exact h.imp fun h => by simpa using h
theorem tOk.srt {t : List Int} (h : tOk t) : tOk (srtI t) ∧ (srtI t).Pairwise (· < ·) := by
  obtain ⟨h1, h2, h3, h4⟩ := h
  have p := srtI_perm t
  have nd : (srtI t).Nodup := p.nodup_iff.mpr h3
  refine ⟨⟨fun e => h1 ?_, by rw [p.length_eq]; exact h2, nd, fun x hx => h4 x (p.mem_iff.mp hx)⟩, ?_⟩
  · have := p.length_eq
    rw [e] at this
    exact List.length_eq_zero_iff.mp this.symm
  · exact (srtI_pw t).imp₂ (fun a b h1 h2 => by have : a ≠ b := h2; omega) nd
/-! draws of keys -/
/-- the value of a draw -/
def Ran (o : Option (W × Nat)) (n c : Nat) (P : W → Prop) : Prop := ∃ w n', o = some (w, n') ∧ n' ≤ n + c ∧ n ≤ n' ∧ P w
theorem pick_ok (ns : List Int) (n : Nat) (hn : n < big) (xs : List PyData) (hx : xs ≠ []) : ∃ x ∈ xs, m__law_pick [Sc ns, .town, .d (.list xs)] n = some (.d x, n + 1) := by
  have hl : 0 < xs.length := List.length_pos_iff.mpr hx
  obtain ⟨r, h0, h1, h2⟩ := draw_ok ns n hn xs.length (by omega)
  have hr : r.toNat < xs.length := by omega
  refine ⟨xs[r.toNat], List.getElem_mem _, ?_⟩
  unfold m__law_pick b__law_pick
  simp -implicitDefEqProofs only [eVar_ap, dVar_ap, eC_ap, dOf_ap, eFrz_ap, eBin_ap, bTest_ap, bTru_ap, bAnd_ap, bOr_ap, bNot_ap, eIf_ap, eB_ap, eAnd_ap, eOr_ap, aNil_ap, aCons_ap, sNil_ap, sCons_ap, eTup_ap, eLst_ap, eCall_ap, eApp_ap, oNone_ap, oSome_ap, eSl_ap, sNil'_ap, sSeq_ap, sBrk_ap, sRet_ap, sRetN_ap, sRetO_ap, sDrop_ap, sIf_ap, sSet_ap, sApp_ap, sTown_ap, sExt_ap, sIns_ap, sSetIx_ap, sAsg_ap, sPar_ap, iOf_ap, iVal_ap, iRng1_ap, iRng2_ap, sFor_ap, eComp_ap, bYes_ap, frzAt_ap, eUn_ap, eNotD_ap, eOrD_ap, eChain_ap, eListRg1_ap, eIsa_ap, eMt_ap, iEnumV_ap, iEnumF_ap, iZipV_ap, iZipF_ap, eTLen_ap, iRng3D_ap, sEnd_ap, eSs_ap, sPar3_ap, xPop_ap, xTup1_ap, xCat_ap, sSetX_ap, sAppX_ap, sParO_ap, sForEI_ap, sForK_ap, eRep_ap, eDicK_ap, eDicT_ap, sPut_ap, eAlt_ap, sTry_ap, eGetD_ap, eLockI_ap, iKeyF_ap, sSetDef_ap, eTupVals_ap, sNst_ap, frzNAt_ap, sAppN_ap, sStN_ap, eListRg2_ap, eLam_ap, eCallP_ap, eNow_ap, dBef_ap, sShApp_ap, xShPop_ap, sShNow_ap, sShNowX_ap, sShClr_ap, yCall_ap, yOf_ap, yX_ap, yR_ap, yIf_ap, sRetS_ap, unX_ap, ytOf_ap, ytTru_ap, ytNot_ap, ytSeq_ap, ytCmp_ap, yaOf_ap, yaCons_ap, yApp_ap, eMethR_ap, sMakeSh_ap, runB_ap, gOne_ap, gMany_ap, dI_ap, yesC_ap, dCmp_int, setD, kill_nx, kill_rt, kill_rs, kill_bk, Option.bind_some, Option.map_some, Option.bind_none, Option.map_none, List.getElem?_cons_zero, List.getElem?_cons_succ, List.set_cons_zero, List.set_cons_succ, List.cons_append, List.nil_append, List.append_nil, List.replicate, List.length_cons, List.length_nil, Nat.reduceAdd, Nat.reduceSub, Nat.zero_add, wdat_no, wdat_d, wdat_town, wdat_ol, wdat_od, wfrz_no, wfrz_d, wfrz_town, wfrz_ol, wfrz_od, wval_no, wval_d, wval_town, wval_ol, wval_od, warg_no, warg_d, warg_town, warg_ol, warg_od, vals, gLen, gAbs, gMax2, gMin2, gInt, gTup, gList, wipeW, if_true, if_false, Bool.false_eq_true, Bool.not_true, Bool.not_false, reduceCtorEq, h2, dIx, atI_ok h0 hr]
end L2.Lv.Sh
namespace L2.Lv.Sh
open PySem PySem.Spec PyProof.Rows L2 L2.Lv
theorem rLt_t {i j : Int} (h : i < j) : rLt i j = true := decide_eq_true h
theorem rLt_f {i j : Int} (h : ¬ i < j) : rLt i j = false := decide_eq_false h
theorem ixT (xs : List PyData) (i : Int) (h : 0 ≤ i) (h2 : i.toNat < xs.length) : dIx (.tuple xs) (.int i) = some (.d xs[i.toNat]) := by
  show (atI _ _).map W.d = _
  rw [atI_ok h h2]; rfl
/-- the first branch: nothing but the two draws -/
theorem plain_tab (ns : List Int) (k : Int) (a : Int) : ∀ (m : Nat) (is : List PyData) (hl : is.length = m) (n : Nat) (t : List Int) (w5 w6 : W), n + m ≤ big → t.length ≤ 6 → t.Nodup → (∀ x ∈ t, 0 ≤ x ∧ x < 6) → (t = [] → m ≠ 0) → (∀ i ∈ is, ∃ z : Int, i = .int z) →
    ∃ (t' : List Int) (w5' w6' : W), t' ≠ [] ∧ t'.length ≤ 6 ∧ t'.Nodup ∧ (∀ x ∈ t', 0 ≤ x ∧ x < 6) ∧
      loopF (gOne 5) (sSeq (sSet 6 (eCall m__law_draw (aCons (eVar 0) (aCons (eVar 1) (aCons (eC (.int 6)) aNil)))))
        (sIf (bTest (eBin dNotIn (dVar 6) (dVar 4)))
        (sSet 4 (eFrz (eBin dAdd (dVar 4) (dOf (eTup (aCons (eVar 6) aNil))))))
        sNil')) is [Sc ns, .town, I' k, I' a, .d (ti t), w5, w6, .no] n = some (.nx [Sc ns, .town, I' k, I' a, .d (ti t'), w5', w6', .no] (n + m)) := by
  intro m is hl
  induction is generalizing m with
  | nil =>
    intro n t w5 w6 _ h1 h2 h3 h4 _
    simp at hl
    subst hl
    exact ⟨t, w5, w6, fun e => h4 e rfl, h1, h2, h3, rfl⟩
  | cons i is ih =>
    intro n t w5 w6 hn h1 h2 h3 h4 hi
    obtain ⟨z, rfl⟩ := hi i (List.mem_cons_self ..)
    simp at hl
    obtain ⟨m, rfl⟩ : ∃ m', m = m' + 1 := ⟨is.length, hl.symm⟩
    obtain ⟨r, r0, r1, e1⟩ := draw_ok ns n (by omega) 6 (by decide)
    have hi' : ∀ i ∈ is, ∃ z : Int, i = .int z := fun i hi2 => hi i (List.mem_cons_of_mem _ hi2)
    by_cases hr : r ∈ t
    · obtain ⟨t', w5', w6', q1, q2, q3, q4, q5⟩ := ih m (by omega) (n + 1) t (I' z) (I' r) (by omega) h1 h2 h3 (fun e => by rw [e] at hr; simp at hr) hi'
      refine ⟨t', w5', w6', q1, q2, q3, q4, ?_⟩
      rw [loopF_cons]
      simp -implicitDefEqProofs only [eVar_ap, dVar_ap, eC_ap, dOf_ap, eFrz_ap, eBin_ap, bTest_ap, bTru_ap, bAnd_ap, bOr_ap, bNot_ap, eIf_ap, eB_ap, eAnd_ap, eOr_ap, aNil_ap, aCons_ap, sNil_ap, sCons_ap, eTup_ap, eLst_ap, eCall_ap, eApp_ap, oNone_ap, oSome_ap, eSl_ap, sNil'_ap, sSeq_ap, sBrk_ap, sRet_ap, sRetN_ap, sRetO_ap, sDrop_ap, sIf_ap, sSet_ap, sApp_ap, sTown_ap, sExt_ap, sIns_ap, sSetIx_ap, sAsg_ap, sPar_ap, iOf_ap, iVal_ap, iRng1_ap, iRng2_ap, sFor_ap, eComp_ap, bYes_ap, frzAt_ap, eUn_ap, eNotD_ap, eOrD_ap, eChain_ap, eListRg1_ap, eIsa_ap, eMt_ap, iEnumV_ap, iEnumF_ap, iZipV_ap, iZipF_ap, eTLen_ap, iRng3D_ap, sEnd_ap, eSs_ap, sPar3_ap, xPop_ap, xTup1_ap, xCat_ap, sSetX_ap, sAppX_ap, sParO_ap, sForEI_ap, sForK_ap, eRep_ap, eDicK_ap, eDicT_ap, sPut_ap, eAlt_ap, sTry_ap, eGetD_ap, eLockI_ap, iKeyF_ap, sSetDef_ap, eTupVals_ap, sNst_ap, frzNAt_ap, sAppN_ap, sStN_ap, eListRg2_ap, eLam_ap, eCallP_ap, eNow_ap, dBef_ap, sShApp_ap, xShPop_ap, sShNow_ap, sShNowX_ap, sShClr_ap, yCall_ap, yOf_ap, yX_ap, yR_ap, yIf_ap, sRetS_ap, unX_ap, ytOf_ap, ytTru_ap, ytNot_ap, ytSeq_ap, ytCmp_ap, yaOf_ap, yaCons_ap, yApp_ap, eMethR_ap, sMakeSh_ap, runB_ap, gOne_ap, gMany_ap, dI_ap, yesC_ap, dCmp_int, setD, kill_nx, kill_rt, kill_rs, kill_bk, Option.bind_some, Option.map_some, Option.bind_none, Option.map_none, List.getElem?_cons_zero, List.getElem?_cons_succ, List.set_cons_zero, List.set_cons_succ, List.cons_append, List.nil_append, List.append_nil, List.replicate, List.length_cons, List.length_nil, Nat.reduceAdd, Nat.reduceSub, Nat.zero_add, wdat_no, wdat_d, wdat_town, wdat_ol, wdat_od, wfrz_no, wfrz_d, wfrz_town, wfrz_ol, wfrz_od, wval_no, wval_d, wval_town, wval_ol, wval_od, warg_no, warg_d, warg_town, warg_ol, warg_od, vals, gLen, gAbs, gMax2, gMin2, gInt, gTup, gList, wipeW, if_true, if_false, Bool.false_eq_true, Bool.not_true, Bool.not_false, reduceCtorEq, e1, dNotIn_ints, hr, decide_true, q5]
      rw [show n + 1 + m = n + (m + 1) by omega]
    · have hc : t.length + 1 ≤ 6 := by
        have hnd : (r :: t).Nodup := List.nodup_cons.mpr ⟨hr, h2⟩
        have hs : ∀ x ∈ r :: t, x ∈ [0, 1, 2, 3, 4, (5 : Int)] := fun x hx => by
          rcases List.mem_cons.mp hx with rfl | hx
          · simp; omega
          · have := h3 x hx; simp; omega
        have := hnd.length_le_of_subset hs
        simpa using this
      obtain ⟨t', w5', w6', q1, q2, q3, q4, q5⟩ := ih m (by omega) (n + 1) (t ++ [r]) (I' z) (I' r) (by omega) (by simpa using hc) (by
        rw [List.nodup_append]
        refine ⟨h2, by simp, fun a ha b hb => ?_⟩
        simp at hb
        subst hb
        exact fun e => hr (by rw [← e]; exact ha)) (fun x hx => by
          rcases List.mem_append.mp hx with hx | hx
          · exact h3 x hx
          · simp at hx; subst hx; exact ⟨r0, r1⟩) (fun e => by simp at e) hi'
      refine ⟨t', w5', w6', q1, q2, q3, q4, ?_⟩
      rw [loopF_cons]
      have ea : dAdd (ti t) (.tuple [.int r]) = some (.d (ti (t ++ [r]))) := by
        rw [dAdd_tup _ _ (le_big (by simp; omega))]
        simp [ti]
      simp -implicitDefEqProofs only [eVar_ap, dVar_ap, eC_ap, dOf_ap, eFrz_ap, eBin_ap, bTest_ap, bTru_ap, bAnd_ap, bOr_ap, bNot_ap, eIf_ap, eB_ap, eAnd_ap, eOr_ap, aNil_ap, aCons_ap, sNil_ap, sCons_ap, eTup_ap, eLst_ap, eCall_ap, eApp_ap, oNone_ap, oSome_ap, eSl_ap, sNil'_ap, sSeq_ap, sBrk_ap, sRet_ap, sRetN_ap, sRetO_ap, sDrop_ap, sIf_ap, sSet_ap, sApp_ap, sTown_ap, sExt_ap, sIns_ap, sSetIx_ap, sAsg_ap, sPar_ap, iOf_ap, iVal_ap, iRng1_ap, iRng2_ap, sFor_ap, eComp_ap, bYes_ap, frzAt_ap, eUn_ap, eNotD_ap, eOrD_ap, eChain_ap, eListRg1_ap, eIsa_ap, eMt_ap, iEnumV_ap, iEnumF_ap, iZipV_ap, iZipF_ap, eTLen_ap, iRng3D_ap, sEnd_ap, eSs_ap, sPar3_ap, xPop_ap, xTup1_ap, xCat_ap, sSetX_ap, sAppX_ap, sParO_ap, sForEI_ap, sForK_ap, eRep_ap, eDicK_ap, eDicT_ap, sPut_ap, eAlt_ap, sTry_ap, eGetD_ap, eLockI_ap, iKeyF_ap, sSetDef_ap, eTupVals_ap, sNst_ap, frzNAt_ap, sAppN_ap, sStN_ap, eListRg2_ap, eLam_ap, eCallP_ap, eNow_ap, dBef_ap, sShApp_ap, xShPop_ap, sShNow_ap, sShNowX_ap, sShClr_ap, yCall_ap, yOf_ap, yX_ap, yR_ap, yIf_ap, sRetS_ap, unX_ap, ytOf_ap, ytTru_ap, ytNot_ap, ytSeq_ap, ytCmp_ap, yaOf_ap, yaCons_ap, yApp_ap, eMethR_ap, sMakeSh_ap, runB_ap, gOne_ap, gMany_ap, dI_ap, yesC_ap, dCmp_int, setD, kill_nx, kill_rt, kill_rs, kill_bk, Option.bind_some, Option.map_some, Option.bind_none, Option.map_none, List.getElem?_cons_zero, List.getElem?_cons_succ, List.set_cons_zero, List.set_cons_succ, List.cons_append, List.nil_append, List.append_nil, List.replicate, List.length_cons, List.length_nil, Nat.reduceAdd, Nat.reduceSub, Nat.zero_add, wdat_no, wdat_d, wdat_town, wdat_ol, wdat_od, wfrz_no, wfrz_d, wfrz_town, wfrz_ol, wfrz_od, wval_no, wval_d, wval_town, wval_ol, wval_od, warg_no, warg_d, warg_town, warg_ol, warg_od, vals, gLen, gAbs, gMax2, gMin2, gInt, gTup, gList, wipeW, if_true, if_false, Bool.false_eq_true, Bool.not_true, Bool.not_false, reduceCtorEq, e1, dNotIn_ints, hr, decide_false, ea, q5]
      rw [show n + 1 + m = n + (m + 1) by omega]
theorem rangeD_int (lo : Int) (n : Nat) : ∀ i ∈ rangeD lo n, ∃ z : Int, i = .int z := by
  intro i hi
  simp only [rangeD, List.mem_map] at hi
  obtain ⟨k, _, rfl⟩ := hi
  exact ⟨_, rfl⟩
theorem rangeD_len (lo : Int) (n : Nat) : (rangeD lo n).length = n := by simp [rangeD]
theorem rng1_ok {j : Int} (h : 0 ≤ j) (h2 : j < 1000000) : rng1 (.int j) = some (rangeD 0 j.toNat) := by
  show (if _ then _ else _) = _
  rw [if_pos (by omega)]
theorem plain_ok (ns : List Int) (n : Nat) (hn : n + 8 ≤ big) : Ran (m__law_plain [Sc ns, .town] n) n 8 fun w => ∃ p : PK, p.ok ∧ w = .d p.d := by
  obtain ⟨k, k0, k1, e1⟩ := draw_ok ns n (by omega) 9 (by decide)
  obtain ⟨a, a0, a1, e2⟩ := draw_ok ns (n + 1) (by omega) 3 (by decide)
  unfold m__law_plain b__law_plain l__law_plain_1
  by_cases c1 : k < 2
  · refine ⟨_, n + 2, ?_, by omega, by omega, .up a, ⟨a0, a1⟩, rfl⟩
    simp -implicitDefEqProofs only [eVar_ap, dVar_ap, eC_ap, dOf_ap, eFrz_ap, eBin_ap, bTest_ap, bTru_ap, bAnd_ap, bOr_ap, bNot_ap, eIf_ap, eB_ap, eAnd_ap, eOr_ap, aNil_ap, aCons_ap, sNil_ap, sCons_ap, eTup_ap, eLst_ap, eCall_ap, eApp_ap, oNone_ap, oSome_ap, eSl_ap, sNil'_ap, sSeq_ap, sBrk_ap, sRet_ap, sRetN_ap, sRetO_ap, sDrop_ap, sIf_ap, sSet_ap, sApp_ap, sTown_ap, sExt_ap, sIns_ap, sSetIx_ap, sAsg_ap, sPar_ap, iOf_ap, iVal_ap, iRng1_ap, iRng2_ap, sFor_ap, eComp_ap, bYes_ap, frzAt_ap, eUn_ap, eNotD_ap, eOrD_ap, eChain_ap, eListRg1_ap, eIsa_ap, eMt_ap, iEnumV_ap, iEnumF_ap, iZipV_ap, iZipF_ap, eTLen_ap, iRng3D_ap, sEnd_ap, eSs_ap, sPar3_ap, xPop_ap, xTup1_ap, xCat_ap, sSetX_ap, sAppX_ap, sParO_ap, sForEI_ap, sForK_ap, eRep_ap, eDicK_ap, eDicT_ap, sPut_ap, eAlt_ap, sTry_ap, eGetD_ap, eLockI_ap, iKeyF_ap, sSetDef_ap, eTupVals_ap, sNst_ap, frzNAt_ap, sAppN_ap, sStN_ap, eListRg2_ap, eLam_ap, eCallP_ap, eNow_ap, dBef_ap, sShApp_ap, xShPop_ap, sShNow_ap, sShNowX_ap, sShClr_ap, yCall_ap, yOf_ap, yX_ap, yR_ap, yIf_ap, sRetS_ap, unX_ap, ytOf_ap, ytTru_ap, ytNot_ap, ytSeq_ap, ytCmp_ap, yaOf_ap, yaCons_ap, yApp_ap, eMethR_ap, sMakeSh_ap, runB_ap, gOne_ap, gMany_ap, dI_ap, yesC_ap, dCmp_int, setD, kill_nx, kill_rt, kill_rs, kill_bk, Option.bind_some, Option.map_some, Option.bind_none, Option.map_none, List.getElem?_cons_zero, List.getElem?_cons_succ, List.set_cons_zero, List.set_cons_succ, List.cons_append, List.nil_append, List.append_nil, List.replicate, List.length_cons, List.length_nil, Nat.reduceAdd, Nat.reduceSub, Nat.zero_add, wdat_no, wdat_d, wdat_town, wdat_ol, wdat_od, wfrz_no, wfrz_d, wfrz_town, wfrz_ol, wfrz_od, wval_no, wval_d, wval_town, wval_ol, wval_od, warg_no, warg_d, warg_town, warg_ol, warg_od, vals, gLen, gAbs, gMax2, gMin2, gInt, gTup, gList, wipeW, if_true, if_false, Bool.false_eq_true, Bool.not_true, Bool.not_false, reduceCtorEq, e1, e2, dCmp_int, rLt_t c1]
    rfl
  by_cases c2 : k < 4
  · obtain ⟨d, d0, d1, e3⟩ := draw_ok ns (n + 2) (by omega) 2 (by decide)
    have hx : dIx (.list [.str sPart, .str sRest]) (.int (k - 2)) = some (.d (if k = 2 then .str sPart else .str sRest)) := by
      have : k = 2 ∨ k = 3 := by omega
      rcases this with rfl | rfl <;> rfl
    have hd : 2 + d = 2 ∨ 2 + d = 3 := by omega
    refine ⟨_, n + 3, ?_, by omega, by omega, if k = 2 then .part a (2 + d) else .rest a (2 + d), ?_, rfl⟩
    · simp -implicitDefEqProofs only [eVar_ap, dVar_ap, eC_ap, dOf_ap, eFrz_ap, eBin_ap, bTest_ap, bTru_ap, bAnd_ap, bOr_ap, bNot_ap, eIf_ap, eB_ap, eAnd_ap, eOr_ap, aNil_ap, aCons_ap, sNil_ap, sCons_ap, eTup_ap, eLst_ap, eCall_ap, eApp_ap, oNone_ap, oSome_ap, eSl_ap, sNil'_ap, sSeq_ap, sBrk_ap, sRet_ap, sRetN_ap, sRetO_ap, sDrop_ap, sIf_ap, sSet_ap, sApp_ap, sTown_ap, sExt_ap, sIns_ap, sSetIx_ap, sAsg_ap, sPar_ap, iOf_ap, iVal_ap, iRng1_ap, iRng2_ap, sFor_ap, eComp_ap, bYes_ap, frzAt_ap, eUn_ap, eNotD_ap, eOrD_ap, eChain_ap, eListRg1_ap, eIsa_ap, eMt_ap, iEnumV_ap, iEnumF_ap, iZipV_ap, iZipF_ap, eTLen_ap, iRng3D_ap, sEnd_ap, eSs_ap, sPar3_ap, xPop_ap, xTup1_ap, xCat_ap, sSetX_ap, sAppX_ap, sParO_ap, sForEI_ap, sForK_ap, eRep_ap, eDicK_ap, eDicT_ap, sPut_ap, eAlt_ap, sTry_ap, eGetD_ap, eLockI_ap, iKeyF_ap, sSetDef_ap, eTupVals_ap, sNst_ap, frzNAt_ap, sAppN_ap, sStN_ap, eListRg2_ap, eLam_ap, eCallP_ap, eNow_ap, dBef_ap, sShApp_ap, xShPop_ap, sShNow_ap, sShNowX_ap, sShClr_ap, yCall_ap, yOf_ap, yX_ap, yR_ap, yIf_ap, sRetS_ap, unX_ap, ytOf_ap, ytTru_ap, ytNot_ap, ytSeq_ap, ytCmp_ap, yaOf_ap, yaCons_ap, yApp_ap, eMethR_ap, sMakeSh_ap, runB_ap, gOne_ap, gMany_ap, dI_ap, yesC_ap, dCmp_int, setD, kill_nx, kill_rt, kill_rs, kill_bk, Option.bind_some, Option.map_some, Option.bind_none, Option.map_none, List.getElem?_cons_zero, List.getElem?_cons_succ, List.set_cons_zero, List.set_cons_succ, List.cons_append, List.nil_append, List.append_nil, List.replicate, List.length_cons, List.length_nil, Nat.reduceAdd, Nat.reduceSub, Nat.zero_add, wdat_no, wdat_d, wdat_town, wdat_ol, wdat_od, wfrz_no, wfrz_d, wfrz_town, wfrz_ol, wfrz_od, wval_no, wval_d, wval_town, wval_ol, wval_od, warg_no, warg_d, warg_town, warg_ol, warg_od, vals, gLen, gAbs, gMax2, gMin2, gInt, gTup, gList, wipeW, if_true, if_false, Bool.false_eq_true, Bool.not_true, Bool.not_false, reduceCtorEq, e1, e2, dCmp_int, rLt_f c1, rLt_t c2, dSub_int, dAdd_int, hx, e3]
      split <;> rfl
    · split
      · exact ⟨⟨a0, a1⟩, hd⟩
      · exact ⟨⟨a0, a1⟩, hd⟩
  by_cases c3 : k < 6
  · obtain ⟨m, m0, m1, e3⟩ := draw_ok ns (n + 2) (by omega) 4 (by decide)
    obtain ⟨t, w5, w6, q1, q2, q3, q4, q5⟩ := plain_tab ns k a (1 + m).toNat (rangeD 0 (1 + m).toNat) (rangeD_len _ _) (n + 3) [] .no .no (by omega) (by simp) (by simp) (by simp) (fun _ => by omega) (rangeD_int _ _)
    have hr := rng1_ok (j := 1 + m) (by omega) (by omega)
    have tk : tOk t := ⟨q1, q2, q3, q4⟩
    have q5 := q5
    rw [show (ti ([] : List Int)) = .tuple [] from rfl] at q5
    refine ⟨_, n + 3 + (1 + m).toNat, ?_, by omega, by omega, if k = 4 then .table a t else .among a (srtI t), ?_, rfl⟩
    · simp -implicitDefEqProofs only [eVar_ap, dVar_ap, eC_ap, dOf_ap, eFrz_ap, eBin_ap, bTest_ap, bTru_ap, bAnd_ap, bOr_ap, bNot_ap, eIf_ap, eB_ap, eAnd_ap, eOr_ap, aNil_ap, aCons_ap, sNil_ap, sCons_ap, eTup_ap, eLst_ap, eCall_ap, eApp_ap, oNone_ap, oSome_ap, eSl_ap, sNil'_ap, sSeq_ap, sBrk_ap, sRet_ap, sRetN_ap, sRetO_ap, sDrop_ap, sIf_ap, sSet_ap, sApp_ap, sTown_ap, sExt_ap, sIns_ap, sSetIx_ap, sAsg_ap, sPar_ap, iOf_ap, iVal_ap, iRng1_ap, iRng2_ap, sFor_ap, eComp_ap, bYes_ap, frzAt_ap, eUn_ap, eNotD_ap, eOrD_ap, eChain_ap, eListRg1_ap, eIsa_ap, eMt_ap, iEnumV_ap, iEnumF_ap, iZipV_ap, iZipF_ap, eTLen_ap, iRng3D_ap, sEnd_ap, eSs_ap, sPar3_ap, xPop_ap, xTup1_ap, xCat_ap, sSetX_ap, sAppX_ap, sParO_ap, sForEI_ap, sForK_ap, eRep_ap, eDicK_ap, eDicT_ap, sPut_ap, eAlt_ap, sTry_ap, eGetD_ap, eLockI_ap, iKeyF_ap, sSetDef_ap, eTupVals_ap, sNst_ap, frzNAt_ap, sAppN_ap, sStN_ap, eListRg2_ap, eLam_ap, eCallP_ap, eNow_ap, dBef_ap, sShApp_ap, xShPop_ap, sShNow_ap, sShNowX_ap, sShClr_ap, yCall_ap, yOf_ap, yX_ap, yR_ap, yIf_ap, sRetS_ap, unX_ap, ytOf_ap, ytTru_ap, ytNot_ap, ytSeq_ap, ytCmp_ap, yaOf_ap, yaCons_ap, yApp_ap, eMethR_ap, sMakeSh_ap, runB_ap, gOne_ap, gMany_ap, dI_ap, yesC_ap, dCmp_int, setD, kill_nx, kill_rt, kill_rs, kill_bk, Option.bind_some, Option.map_some, Option.bind_none, Option.map_none, List.getElem?_cons_zero, List.getElem?_cons_succ, List.set_cons_zero, List.set_cons_succ, List.cons_append, List.nil_append, List.append_nil, List.replicate, List.length_cons, List.length_nil, Nat.reduceAdd, Nat.reduceSub, Nat.zero_add, wdat_no, wdat_d, wdat_town, wdat_ol, wdat_od, wfrz_no, wfrz_d, wfrz_town, wfrz_ol, wfrz_od, wval_no, wval_d, wval_town, wval_ol, wval_od, warg_no, warg_d, warg_town, warg_ol, warg_od, vals, gLen, gAbs, gMax2, gMin2, gInt, gTup, gList, wipeW, if_true, if_false, Bool.false_eq_true, Bool.not_true, Bool.not_false, reduceCtorEq, e1, e2, dCmp_int, rLt_f c1, rLt_f c2, rLt_t c3, dAdd_int, e3, hr, q5, dEq_int]
      by_cases h4 : k = 4
      · subst h4
        simp -implicitDefEqProofs only [eVar_ap, dVar_ap, eC_ap, dOf_ap, eFrz_ap, eBin_ap, bTest_ap, bTru_ap, bAnd_ap, bOr_ap, bNot_ap, eIf_ap, eB_ap, eAnd_ap, eOr_ap, aNil_ap, aCons_ap, sNil_ap, sCons_ap, eTup_ap, eLst_ap, eCall_ap, eApp_ap, oNone_ap, oSome_ap, eSl_ap, sNil'_ap, sSeq_ap, sBrk_ap, sRet_ap, sRetN_ap, sRetO_ap, sDrop_ap, sIf_ap, sSet_ap, sApp_ap, sTown_ap, sExt_ap, sIns_ap, sSetIx_ap, sAsg_ap, sPar_ap, iOf_ap, iVal_ap, iRng1_ap, iRng2_ap, sFor_ap, eComp_ap, bYes_ap, frzAt_ap, eUn_ap, eNotD_ap, eOrD_ap, eChain_ap, eListRg1_ap, eIsa_ap, eMt_ap, iEnumV_ap, iEnumF_ap, iZipV_ap, iZipF_ap, eTLen_ap, iRng3D_ap, sEnd_ap, eSs_ap, sPar3_ap, xPop_ap, xTup1_ap, xCat_ap, sSetX_ap, sAppX_ap, sParO_ap, sForEI_ap, sForK_ap, eRep_ap, eDicK_ap, eDicT_ap, sPut_ap, eAlt_ap, sTry_ap, eGetD_ap, eLockI_ap, iKeyF_ap, sSetDef_ap, eTupVals_ap, sNst_ap, frzNAt_ap, sAppN_ap, sStN_ap, eListRg2_ap, eLam_ap, eCallP_ap, eNow_ap, dBef_ap, sShApp_ap, xShPop_ap, sShNow_ap, sShNowX_ap, sShClr_ap, yCall_ap, yOf_ap, yX_ap, yR_ap, yIf_ap, sRetS_ap, unX_ap, ytOf_ap, ytTru_ap, ytNot_ap, ytSeq_ap, ytCmp_ap, yaOf_ap, yaCons_ap, yApp_ap, eMethR_ap, sMakeSh_ap, runB_ap, gOne_ap, gMany_ap, dI_ap, yesC_ap, dCmp_int, setD, kill_nx, kill_rt, kill_rs, kill_bk, Option.bind_some, Option.map_some, Option.bind_none, Option.map_none, List.getElem?_cons_zero, List.getElem?_cons_succ, List.set_cons_zero, List.set_cons_succ, List.cons_append, List.nil_append, List.append_nil, List.replicate, List.length_cons, List.length_nil, Nat.reduceAdd, Nat.reduceSub, Nat.zero_add, wdat_no, wdat_d, wdat_town, wdat_ol, wdat_od, wfrz_no, wfrz_d, wfrz_town, wfrz_ol, wfrz_od, wval_no, wval_d, wval_town, wval_ol, wval_od, warg_no, warg_d, warg_town, warg_ol, warg_od, vals, gLen, gAbs, gMax2, gMin2, gInt, gTup, gList, wipeW, if_true, if_false, Bool.false_eq_true, Bool.not_true, Bool.not_false, reduceCtorEq, beq_self_eq_true]
        rfl
      · have : (k == 4) = false := by simpa using h4
        simp -implicitDefEqProofs only [eVar_ap, dVar_ap, eC_ap, dOf_ap, eFrz_ap, eBin_ap, bTest_ap, bTru_ap, bAnd_ap, bOr_ap, bNot_ap, eIf_ap, eB_ap, eAnd_ap, eOr_ap, aNil_ap, aCons_ap, sNil_ap, sCons_ap, eTup_ap, eLst_ap, eCall_ap, eApp_ap, oNone_ap, oSome_ap, eSl_ap, sNil'_ap, sSeq_ap, sBrk_ap, sRet_ap, sRetN_ap, sRetO_ap, sDrop_ap, sIf_ap, sSet_ap, sApp_ap, sTown_ap, sExt_ap, sIns_ap, sSetIx_ap, sAsg_ap, sPar_ap, iOf_ap, iVal_ap, iRng1_ap, iRng2_ap, sFor_ap, eComp_ap, bYes_ap, frzAt_ap, eUn_ap, eNotD_ap, eOrD_ap, eChain_ap, eListRg1_ap, eIsa_ap, eMt_ap, iEnumV_ap, iEnumF_ap, iZipV_ap, iZipF_ap, eTLen_ap, iRng3D_ap, sEnd_ap, eSs_ap, sPar3_ap, xPop_ap, xTup1_ap, xCat_ap, sSetX_ap, sAppX_ap, sParO_ap, sForEI_ap, sForK_ap, eRep_ap, eDicK_ap, eDicT_ap, sPut_ap, eAlt_ap, sTry_ap, eGetD_ap, eLockI_ap, iKeyF_ap, sSetDef_ap, eTupVals_ap, sNst_ap, frzNAt_ap, sAppN_ap, sStN_ap, eListRg2_ap, eLam_ap, eCallP_ap, eNow_ap, dBef_ap, sShApp_ap, xShPop_ap, sShNow_ap, sShNowX_ap, sShClr_ap, yCall_ap, yOf_ap, yX_ap, yR_ap, yIf_ap, sRetS_ap, unX_ap, ytOf_ap, ytTru_ap, ytNot_ap, ytSeq_ap, ytCmp_ap, yaOf_ap, yaCons_ap, yApp_ap, eMethR_ap, sMakeSh_ap, runB_ap, gOne_ap, gMany_ap, dI_ap, yesC_ap, dCmp_int, setD, kill_nx, kill_rt, kill_rs, kill_bk, Option.bind_some, Option.map_some, Option.bind_none, Option.map_none, List.getElem?_cons_zero, List.getElem?_cons_succ, List.set_cons_zero, List.set_cons_succ, List.cons_append, List.nil_append, List.append_nil, List.replicate, List.length_cons, List.length_nil, Nat.reduceAdd, Nat.reduceSub, Nat.zero_add, wdat_no, wdat_d, wdat_town, wdat_ol, wdat_od, wfrz_no, wfrz_d, wfrz_town, wfrz_ol, wfrz_od, wval_no, wval_d, wval_town, wval_ol, wval_od, warg_no, warg_d, warg_town, warg_ol, warg_od, vals, gLen, gAbs, gMax2, gMin2, gInt, gTup, gList, wipeW, if_true, if_false, Bool.false_eq_true, Bool.not_true, Bool.not_false, reduceCtorEq, this, h4, gSorted_ints]
        rfl
    · split
      · exact ⟨⟨a0, a1⟩, tk⟩
      · exact ⟨⟨a0, a1⟩, tk.srt.1, tk.srt.2⟩
  · obtain ⟨x, hx, e3⟩ := pick_ok ns (n + 2) (by omega) [.tuple [.int 0, .int 1], .tuple [.int 0, .int 2], .tuple [.int 1, .int 2]] (by simp)
    have hx' : ∃ i j : Int, prOk i j ∧ x = .tuple [.int i, .int j] := by
      simp at hx
      rcases hx with rfl | rfl | rfl
      · exact ⟨_, _, .inl ⟨rfl, rfl⟩, rfl⟩
      · exact ⟨_, _, .inr (.inl ⟨rfl, rfl⟩), rfl⟩
      · exact ⟨_, _, .inr (.inr ⟨rfl, rfl⟩), rfl⟩
    obtain ⟨i, j, pr, rfl⟩ := hx'
    have hk : k = 6 ∨ k = 7 ∨ k = 8 := by omega
    have hx : dIx (.list [.str sSum, .str sGap, .str sMost]) (.int (k - 6)) = some (.d (.str (if k = 6 then sSum else if k = 7 then sGap else sMost))) := by
      rcases hk with rfl | rfl | rfl <;> rfl
    refine ⟨_, n + 3, ?_, by omega, by omega, if k = 6 then .sum i j else if k = 7 then .gap i j else .most i j, ?_, rfl⟩
    · have ea : ∀ s : Str, dAdd (.tuple [.str s]) (.tuple [.int i, .int j]) = some (.d (.tuple [.str s, .int i, .int j])) := fun s => rfl
      simp -implicitDefEqProofs only [eVar_ap, dVar_ap, eC_ap, dOf_ap, eFrz_ap, eBin_ap, bTest_ap, bTru_ap, bAnd_ap, bOr_ap, bNot_ap, eIf_ap, eB_ap, eAnd_ap, eOr_ap, aNil_ap, aCons_ap, sNil_ap, sCons_ap, eTup_ap, eLst_ap, eCall_ap, eApp_ap, oNone_ap, oSome_ap, eSl_ap, sNil'_ap, sSeq_ap, sBrk_ap, sRet_ap, sRetN_ap, sRetO_ap, sDrop_ap, sIf_ap, sSet_ap, sApp_ap, sTown_ap, sExt_ap, sIns_ap, sSetIx_ap, sAsg_ap, sPar_ap, iOf_ap, iVal_ap, iRng1_ap, iRng2_ap, sFor_ap, eComp_ap, bYes_ap, frzAt_ap, eUn_ap, eNotD_ap, eOrD_ap, eChain_ap, eListRg1_ap, eIsa_ap, eMt_ap, iEnumV_ap, iEnumF_ap, iZipV_ap, iZipF_ap, eTLen_ap, iRng3D_ap, sEnd_ap, eSs_ap, sPar3_ap, xPop_ap, xTup1_ap, xCat_ap, sSetX_ap, sAppX_ap, sParO_ap, sForEI_ap, sForK_ap, eRep_ap, eDicK_ap, eDicT_ap, sPut_ap, eAlt_ap, sTry_ap, eGetD_ap, eLockI_ap, iKeyF_ap, sSetDef_ap, eTupVals_ap, sNst_ap, frzNAt_ap, sAppN_ap, sStN_ap, eListRg2_ap, eLam_ap, eCallP_ap, eNow_ap, dBef_ap, sShApp_ap, xShPop_ap, sShNow_ap, sShNowX_ap, sShClr_ap, yCall_ap, yOf_ap, yX_ap, yR_ap, yIf_ap, sRetS_ap, unX_ap, ytOf_ap, ytTru_ap, ytNot_ap, ytSeq_ap, ytCmp_ap, yaOf_ap, yaCons_ap, yApp_ap, eMethR_ap, sMakeSh_ap, runB_ap, gOne_ap, gMany_ap, dI_ap, yesC_ap, dCmp_int, setD, kill_nx, kill_rt, kill_rs, kill_bk, Option.bind_some, Option.map_some, Option.bind_none, Option.map_none, List.getElem?_cons_zero, List.getElem?_cons_succ, List.set_cons_zero, List.set_cons_succ, List.cons_append, List.nil_append, List.append_nil, List.replicate, List.length_cons, List.length_nil, Nat.reduceAdd, Nat.reduceSub, Nat.zero_add, wdat_no, wdat_d, wdat_town, wdat_ol, wdat_od, wfrz_no, wfrz_d, wfrz_town, wfrz_ol, wfrz_od, wval_no, wval_d, wval_town, wval_ol, wval_od, warg_no, warg_d, warg_town, warg_ol, warg_od, vals, gLen, gAbs, gMax2, gMin2, gInt, gTup, gList, wipeW, if_true, if_false, Bool.false_eq_true, Bool.not_true, Bool.not_false, reduceCtorEq, e1, e2, dCmp_int, rLt_f c1, rLt_f c2, rLt_f c3, dSub_int, e3, hx, ea]
      rcases hk with rfl | rfl | rfl <;> rfl
    · rcases hk with rfl | rfl | rfl <;> exact pr
end L2.Lv.Sh
namespace L2.Lv.Sh
open PySem PySem.Spec PyProof.Rows L2 L2.Lv
theorem shp_Up : shp (.str sUp) = true := by decide +kernel
theorem shp_Down : shp (.str sDown) = true := by decide +kernel
theorem shp_Part : shp (.str sPart) = true := by decide +kernel
theorem shp_Rest : shp (.str sRest) = true := by decide +kernel
theorem shp_Table : shp (.str sTable) = true := by decide +kernel
theorem shp_Among : shp (.str sAmong) = true := by decide +kernel
theorem shp_Sum : shp (.str sSum) = true := by decide +kernel
theorem shp_Gap : shp (.str sGap) = true := by decide +kernel
theorem shp_Most : shp (.str sMost) = true := by decide +kernel
theorem q_Up_Up : dEq (.str sUp) (.str sUp) = some (.d (.bool true)) := by rw [dEq_str shp_Up shp_Up]; rfl
theorem q_Up_Down : dEq (.str sUp) (.str sDown) = some (.d (.bool false)) := by rw [dEq_str shp_Up shp_Down]; rfl
theorem q_Up_Part : dEq (.str sUp) (.str sPart) = some (.d (.bool false)) := by rw [dEq_str shp_Up shp_Part]; rfl
theorem q_Up_Rest : dEq (.str sUp) (.str sRest) = some (.d (.bool false)) := by rw [dEq_str shp_Up shp_Rest]; rfl
theorem q_Up_Table : dEq (.str sUp) (.str sTable) = some (.d (.bool false)) := by rw [dEq_str shp_Up shp_Table]; rfl
theorem q_Up_Among : dEq (.str sUp) (.str sAmong) = some (.d (.bool false)) := by rw [dEq_str shp_Up shp_Among]; rfl
theorem q_Up_Sum : dEq (.str sUp) (.str sSum) = some (.d (.bool false)) := by rw [dEq_str shp_Up shp_Sum]; rfl
theorem q_Up_Gap : dEq (.str sUp) (.str sGap) = some (.d (.bool false)) := by rw [dEq_str shp_Up shp_Gap]; rfl
theorem q_Down_Up : dEq (.str sDown) (.str sUp) = some (.d (.bool false)) := by rw [dEq_str shp_Down shp_Up]; rfl
theorem q_Down_Down : dEq (.str sDown) (.str sDown) = some (.d (.bool true)) := by rw [dEq_str shp_Down shp_Down]; rfl
theorem q_Down_Part : dEq (.str sDown) (.str sPart) = some (.d (.bool false)) := by rw [dEq_str shp_Down shp_Part]; rfl
theorem q_Down_Rest : dEq (.str sDown) (.str sRest) = some (.d (.bool false)) := by rw [dEq_str shp_Down shp_Rest]; rfl
theorem q_Down_Table : dEq (.str sDown) (.str sTable) = some (.d (.bool false)) := by rw [dEq_str shp_Down shp_Table]; rfl
theorem q_Down_Among : dEq (.str sDown) (.str sAmong) = some (.d (.bool false)) := by rw [dEq_str shp_Down shp_Among]; rfl
theorem q_Down_Sum : dEq (.str sDown) (.str sSum) = some (.d (.bool false)) := by rw [dEq_str shp_Down shp_Sum]; rfl
theorem q_Down_Gap : dEq (.str sDown) (.str sGap) = some (.d (.bool false)) := by rw [dEq_str shp_Down shp_Gap]; rfl
theorem q_Part_Up : dEq (.str sPart) (.str sUp) = some (.d (.bool false)) := by rw [dEq_str shp_Part shp_Up]; rfl
theorem q_Part_Down : dEq (.str sPart) (.str sDown) = some (.d (.bool false)) := by rw [dEq_str shp_Part shp_Down]; rfl
theorem q_Part_Part : dEq (.str sPart) (.str sPart) = some (.d (.bool true)) := by rw [dEq_str shp_Part shp_Part]; rfl
theorem q_Part_Rest : dEq (.str sPart) (.str sRest) = some (.d (.bool false)) := by rw [dEq_str shp_Part shp_Rest]; rfl
theorem q_Part_Table : dEq (.str sPart) (.str sTable) = some (.d (.bool false)) := by rw [dEq_str shp_Part shp_Table]; rfl
theorem q_Part_Among : dEq (.str sPart) (.str sAmong) = some (.d (.bool false)) := by rw [dEq_str shp_Part shp_Among]; rfl
theorem q_Part_Sum : dEq (.str sPart) (.str sSum) = some (.d (.bool false)) := by rw [dEq_str shp_Part shp_Sum]; rfl
theorem q_Part_Gap : dEq (.str sPart) (.str sGap) = some (.d (.bool false)) := by rw [dEq_str shp_Part shp_Gap]; rfl
theorem q_Rest_Up : dEq (.str sRest) (.str sUp) = some (.d (.bool false)) := by rw [dEq_str shp_Rest shp_Up]; rfl
theorem q_Rest_Down : dEq (.str sRest) (.str sDown) = some (.d (.bool false)) := by rw [dEq_str shp_Rest shp_Down]; rfl
theorem q_Rest_Part : dEq (.str sRest) (.str sPart) = some (.d (.bool false)) := by rw [dEq_str shp_Rest shp_Part]; rfl
theorem q_Rest_Rest : dEq (.str sRest) (.str sRest) = some (.d (.bool true)) := by rw [dEq_str shp_Rest shp_Rest]; rfl
theorem q_Rest_Table : dEq (.str sRest) (.str sTable) = some (.d (.bool false)) := by rw [dEq_str shp_Rest shp_Table]; rfl
theorem q_Rest_Among : dEq (.str sRest) (.str sAmong) = some (.d (.bool false)) := by rw [dEq_str shp_Rest shp_Among]; rfl
theorem q_Rest_Sum : dEq (.str sRest) (.str sSum) = some (.d (.bool false)) := by rw [dEq_str shp_Rest shp_Sum]; rfl
theorem q_Rest_Gap : dEq (.str sRest) (.str sGap) = some (.d (.bool false)) := by rw [dEq_str shp_Rest shp_Gap]; rfl
theorem q_Table_Up : dEq (.str sTable) (.str sUp) = some (.d (.bool false)) := by rw [dEq_str shp_Table shp_Up]; rfl
theorem q_Table_Down : dEq (.str sTable) (.str sDown) = some (.d (.bool false)) := by rw [dEq_str shp_Table shp_Down]; rfl
theorem q_Table_Part : dEq (.str sTable) (.str sPart) = some (.d (.bool false)) := by rw [dEq_str shp_Table shp_Part]; rfl
theorem q_Table_Rest : dEq (.str sTable) (.str sRest) = some (.d (.bool false)) := by rw [dEq_str shp_Table shp_Rest]; rfl
theorem q_Table_Table : dEq (.str sTable) (.str sTable) = some (.d (.bool true)) := by rw [dEq_str shp_Table shp_Table]; rfl
theorem q_Table_Among : dEq (.str sTable) (.str sAmong) = some (.d (.bool false)) := by rw [dEq_str shp_Table shp_Among]; rfl
theorem q_Table_Sum : dEq (.str sTable) (.str sSum) = some (.d (.bool false)) := by rw [dEq_str shp_Table shp_Sum]; rfl
theorem q_Table_Gap : dEq (.str sTable) (.str sGap) = some (.d (.bool false)) := by rw [dEq_str shp_Table shp_Gap]; rfl
theorem q_Among_Up : dEq (.str sAmong) (.str sUp) = some (.d (.bool false)) := by rw [dEq_str shp_Among shp_Up]; rfl
theorem q_Among_Down : dEq (.str sAmong) (.str sDown) = some (.d (.bool false)) := by rw [dEq_str shp_Among shp_Down]; rfl
theorem q_Among_Part : dEq (.str sAmong) (.str sPart) = some (.d (.bool false)) := by rw [dEq_str shp_Among shp_Part]; rfl
theorem q_Among_Rest : dEq (.str sAmong) (.str sRest) = some (.d (.bool false)) := by rw [dEq_str shp_Among shp_Rest]; rfl
theorem q_Among_Table : dEq (.str sAmong) (.str sTable) = some (.d (.bool false)) := by rw [dEq_str shp_Among shp_Table]; rfl
theorem q_Among_Among : dEq (.str sAmong) (.str sAmong) = some (.d (.bool true)) := by rw [dEq_str shp_Among shp_Among]; rfl
theorem q_Among_Sum : dEq (.str sAmong) (.str sSum) = some (.d (.bool false)) := by rw [dEq_str shp_Among shp_Sum]; rfl
theorem q_Among_Gap : dEq (.str sAmong) (.str sGap) = some (.d (.bool false)) := by rw [dEq_str shp_Among shp_Gap]; rfl
theorem q_Sum_Up : dEq (.str sSum) (.str sUp) = some (.d (.bool false)) := by rw [dEq_str shp_Sum shp_Up]; rfl
theorem q_Sum_Down : dEq (.str sSum) (.str sDown) = some (.d (.bool false)) := by rw [dEq_str shp_Sum shp_Down]; rfl
theorem q_Sum_Part : dEq (.str sSum) (.str sPart) = some (.d (.bool false)) := by rw [dEq_str shp_Sum shp_Part]; rfl
theorem q_Sum_Rest : dEq (.str sSum) (.str sRest) = some (.d (.bool false)) := by rw [dEq_str shp_Sum shp_Rest]; rfl
theorem q_Sum_Table : dEq (.str sSum) (.str sTable) = some (.d (.bool false)) := by rw [dEq_str shp_Sum shp_Table]; rfl
theorem q_Sum_Among : dEq (.str sSum) (.str sAmong) = some (.d (.bool false)) := by rw [dEq_str shp_Sum shp_Among]; rfl
theorem q_Sum_Sum : dEq (.str sSum) (.str sSum) = some (.d (.bool true)) := by rw [dEq_str shp_Sum shp_Sum]; rfl
theorem q_Sum_Gap : dEq (.str sSum) (.str sGap) = some (.d (.bool false)) := by rw [dEq_str shp_Sum shp_Gap]; rfl
theorem q_Gap_Up : dEq (.str sGap) (.str sUp) = some (.d (.bool false)) := by rw [dEq_str shp_Gap shp_Up]; rfl
theorem q_Gap_Down : dEq (.str sGap) (.str sDown) = some (.d (.bool false)) := by rw [dEq_str shp_Gap shp_Down]; rfl
theorem q_Gap_Part : dEq (.str sGap) (.str sPart) = some (.d (.bool false)) := by rw [dEq_str shp_Gap shp_Part]; rfl
theorem q_Gap_Rest : dEq (.str sGap) (.str sRest) = some (.d (.bool false)) := by rw [dEq_str shp_Gap shp_Rest]; rfl
theorem q_Gap_Table : dEq (.str sGap) (.str sTable) = some (.d (.bool false)) := by rw [dEq_str shp_Gap shp_Table]; rfl
theorem q_Gap_Among : dEq (.str sGap) (.str sAmong) = some (.d (.bool false)) := by rw [dEq_str shp_Gap shp_Among]; rfl
theorem q_Gap_Sum : dEq (.str sGap) (.str sSum) = some (.d (.bool false)) := by rw [dEq_str shp_Gap shp_Sum]; rfl
theorem q_Gap_Gap : dEq (.str sGap) (.str sGap) = some (.d (.bool true)) := by rw [dEq_str shp_Gap shp_Gap]; rfl
theorem q_Most_Up : dEq (.str sMost) (.str sUp) = some (.d (.bool false)) := by rw [dEq_str shp_Most shp_Up]; rfl
theorem q_Most_Down : dEq (.str sMost) (.str sDown) = some (.d (.bool false)) := by rw [dEq_str shp_Most shp_Down]; rfl
theorem q_Most_Part : dEq (.str sMost) (.str sPart) = some (.d (.bool false)) := by rw [dEq_str shp_Most shp_Part]; rfl
theorem q_Most_Rest : dEq (.str sMost) (.str sRest) = some (.d (.bool false)) := by rw [dEq_str shp_Most shp_Rest]; rfl
theorem q_Most_Table : dEq (.str sMost) (.str sTable) = some (.d (.bool false)) := by rw [dEq_str shp_Most shp_Table]; rfl
theorem q_Most_Among : dEq (.str sMost) (.str sAmong) = some (.d (.bool false)) := by rw [dEq_str shp_Most shp_Among]; rfl
theorem q_Most_Sum : dEq (.str sMost) (.str sSum) = some (.d (.bool false)) := by rw [dEq_str shp_Most shp_Sum]; rfl
theorem q_Most_Gap : dEq (.str sMost) (.str sGap) = some (.d (.bool false)) := by rw [dEq_str shp_Most shp_Gap]; rfl

/-! comprehensions -/
theorem comp_ran {i : Nat} {own : List Nat} {elt : Fe} {ρ : List W} {c : Nat} {P : PyData → Prop} : ∀ (xs : List PyData) (n : Nat), n + c * xs.length ≤ big →
    (∀ x ∈ xs, ∀ m, m + c ≤ big → ∃ y m', elt ((wipeW ρ own).set i (.d x)) m = some (.d y, m') ∧ m ≤ m' ∧ m' ≤ m + c ∧ P y) →
    ∃ ys m, loopC (gOne i) own bYes elt ρ xs n = some (ys, m) ∧ ys.length = xs.length ∧ (∀ y ∈ ys, P y) ∧ n ≤ m ∧ m ≤ n + c * xs.length
  | [], n, _, _ => ⟨[], n, rfl, rfl, by simp, Nat.le_refl _, Nat.le_add_right _ _⟩
  | x :: xs, n, hn, h => by
    rw [List.length_cons, Nat.mul_succ] at hn
    obtain ⟨y, m, e1, l1, l2, hp⟩ := h x (List.mem_cons_self ..) n (by omega)
    obtain ⟨ys, m', e2, l3, hq, l4, l5⟩ := comp_ran xs m (by omega) fun z hz => h z (List.mem_cons_of_mem _ hz)
    refine ⟨y :: ys, m', ?_, by simp [l3], fun z hz => ?_, by omega, ?_⟩
    · rw [loopC_cons]
      simp -implicitDefEqProofs only [eVar_ap, dVar_ap, eC_ap, dOf_ap, eFrz_ap, eBin_ap, bTest_ap, bTru_ap, bAnd_ap, bOr_ap, bNot_ap, eIf_ap, eB_ap, eAnd_ap, eOr_ap, aNil_ap, aCons_ap, sNil_ap, sCons_ap, eTup_ap, eLst_ap, eCall_ap, eApp_ap, oNone_ap, oSome_ap, eSl_ap, sNil'_ap, sSeq_ap, sBrk_ap, sRet_ap, sRetN_ap, sRetO_ap, sDrop_ap, sIf_ap, sSet_ap, sApp_ap, sTown_ap, sExt_ap, sIns_ap, sSetIx_ap, sAsg_ap, sPar_ap, iOf_ap, iVal_ap, iRng1_ap, iRng2_ap, sFor_ap, eComp_ap, bYes_ap, frzAt_ap, eUn_ap, eNotD_ap, eOrD_ap, eChain_ap, eListRg1_ap, eIsa_ap, eMt_ap, iEnumV_ap, iEnumF_ap, iZipV_ap, iZipF_ap, eTLen_ap, iRng3D_ap, sEnd_ap, eSs_ap, sPar3_ap, xPop_ap, xTup1_ap, xCat_ap, sSetX_ap, sAppX_ap, sParO_ap, sForEI_ap, sForK_ap, eRep_ap, eDicK_ap, eDicT_ap, sPut_ap, eAlt_ap, sTry_ap, eGetD_ap, eLockI_ap, iKeyF_ap, sSetDef_ap, eTupVals_ap, sNst_ap, frzNAt_ap, sAppN_ap, sStN_ap, eListRg2_ap, eLam_ap, eCallP_ap, eNow_ap, dBef_ap, sShApp_ap, xShPop_ap, sShNow_ap, sShNowX_ap, sShClr_ap, yCall_ap, yOf_ap, yX_ap, yR_ap, yIf_ap, sRetS_ap, unX_ap, ytOf_ap, ytTru_ap, ytNot_ap, ytSeq_ap, ytCmp_ap, yaOf_ap, yaCons_ap, yApp_ap, eMethR_ap, sMakeSh_ap, runB_ap, gOne_ap, gMany_ap, dI_ap, yesC_ap, dCmp_int, setD, kill_nx, kill_rt, kill_rs, kill_bk, Option.bind_some, Option.map_some, Option.bind_none, Option.map_none, List.getElem?_cons_zero, List.getElem?_cons_succ, List.set_cons_zero, List.set_cons_succ, List.cons_append, List.nil_append, List.append_nil, List.replicate, List.length_cons, List.length_nil, Nat.reduceAdd, Nat.reduceSub, Nat.zero_add, wdat_no, wdat_d, wdat_town, wdat_ol, wdat_od, wfrz_no, wfrz_d, wfrz_town, wfrz_ol, wfrz_od, wval_no, wval_d, wval_town, wval_ol, wval_od, warg_no, warg_d, warg_town, warg_ol, warg_od, vals, gLen, gAbs, gMax2, gMin2, gInt, gTup, gList, wipeW, if_true, if_false, Bool.false_eq_true, Bool.not_true, Bool.not_false, reduceCtorEq, e1, e2]
    · rcases List.mem_cons.mp hz with rfl | hz
      · exact hp
      · exact hq z hz
    · rw [List.length_cons, Nat.mul_succ]; omega
/-- a list of data as a list of what it stands for -/
theorem ex_map {α : Type} {f : α → PyData} {Q : α → Prop} : ∀ (ys : List PyData), (∀ y ∈ ys, ∃ a, Q a ∧ y = f a) → ∃ as : List α, ys = as.map f ∧ ∀ a ∈ as, Q a
  | [], _ => ⟨[], rfl, by simp⟩
  | y :: ys, h => by
    obtain ⟨a, ha, rfl⟩ := h y (List.mem_cons_self ..)
    obtain ⟨as, rfl, hq⟩ := ex_map ys fun z hz => h z (List.mem_cons_of_mem _ hz)
    exact ⟨a :: as, rfl, fun b hb => (List.mem_cons.mp hb).elim (fun e => e ▸ ha) (hq b)⟩
theorem key_ok (ns : List Int) (n : Nat) (hn : n + 9 ≤ big) : Ran (m__law_key [Sc ns, .town] n) n 9 fun w => ∃ k : Ky, k.ok ∧ w = .d k.d := by
  obtain ⟨w, n1, e1, l1, l2, p, hp, rfl⟩ := plain_ok ns n (by omega)
  obtain ⟨r, r0, r1, e2⟩ := draw_ok ns n1 (by omega) 3 (by decide)
  refine ⟨_, n1 + 1, ?_, by omega, by omega, if r = 0 then .dn p else .pl p, ?_, rfl⟩
  · unfold m__law_key b__law_key
    by_cases h : r = 0
    · subst h
      simp -implicitDefEqProofs only [eVar_ap, dVar_ap, eC_ap, dOf_ap, eFrz_ap, eBin_ap, bTest_ap, bTru_ap, bAnd_ap, bOr_ap, bNot_ap, eIf_ap, eB_ap, eAnd_ap, eOr_ap, aNil_ap, aCons_ap, sNil_ap, sCons_ap, eTup_ap, eLst_ap, eCall_ap, eApp_ap, oNone_ap, oSome_ap, eSl_ap, sNil'_ap, sSeq_ap, sBrk_ap, sRet_ap, sRetN_ap, sRetO_ap, sDrop_ap, sIf_ap, sSet_ap, sApp_ap, sTown_ap, sExt_ap, sIns_ap, sSetIx_ap, sAsg_ap, sPar_ap, iOf_ap, iVal_ap, iRng1_ap, iRng2_ap, sFor_ap, eComp_ap, bYes_ap, frzAt_ap, eUn_ap, eNotD_ap, eOrD_ap, eChain_ap, eListRg1_ap, eIsa_ap, eMt_ap, iEnumV_ap, iEnumF_ap, iZipV_ap, iZipF_ap, eTLen_ap, iRng3D_ap, sEnd_ap, eSs_ap, sPar3_ap, xPop_ap, xTup1_ap, xCat_ap, sSetX_ap, sAppX_ap, sParO_ap, sForEI_ap, sForK_ap, eRep_ap, eDicK_ap, eDicT_ap, sPut_ap, eAlt_ap, sTry_ap, eGetD_ap, eLockI_ap, iKeyF_ap, sSetDef_ap, eTupVals_ap, sNst_ap, frzNAt_ap, sAppN_ap, sStN_ap, eListRg2_ap, eLam_ap, eCallP_ap, eNow_ap, dBef_ap, sShApp_ap, xShPop_ap, sShNow_ap, sShNowX_ap, sShClr_ap, yCall_ap, yOf_ap, yX_ap, yR_ap, yIf_ap, sRetS_ap, unX_ap, ytOf_ap, ytTru_ap, ytNot_ap, ytSeq_ap, ytCmp_ap, yaOf_ap, yaCons_ap, yApp_ap, eMethR_ap, sMakeSh_ap, runB_ap, gOne_ap, gMany_ap, dI_ap, yesC_ap, dCmp_int, setD, kill_nx, kill_rt, kill_rs, kill_bk, Option.bind_some, Option.map_some, Option.bind_none, Option.map_none, List.getElem?_cons_zero, List.getElem?_cons_succ, List.set_cons_zero, List.set_cons_succ, List.cons_append, List.nil_append, List.append_nil, List.replicate, List.length_cons, List.length_nil, Nat.reduceAdd, Nat.reduceSub, Nat.zero_add, wdat_no, wdat_d, wdat_town, wdat_ol, wdat_od, wfrz_no, wfrz_d, wfrz_town, wfrz_ol, wfrz_od, wval_no, wval_d, wval_town, wval_ol, wval_od, warg_no, warg_d, warg_town, warg_ol, warg_od, vals, gLen, gAbs, gMax2, gMin2, gInt, gTup, gList, wipeW, if_true, if_false, Bool.false_eq_true, Bool.not_true, Bool.not_false, reduceCtorEq, q_Up_Up, q_Up_Down, q_Up_Part, q_Up_Rest, q_Up_Table, q_Up_Among, q_Up_Sum, q_Up_Gap, q_Down_Up, q_Down_Down, q_Down_Part, q_Down_Rest, q_Down_Table, q_Down_Among, q_Down_Sum, q_Down_Gap, q_Part_Up, q_Part_Down, q_Part_Part, q_Part_Rest, q_Part_Table, q_Part_Among, q_Part_Sum, q_Part_Gap, q_Rest_Up, q_Rest_Down, q_Rest_Part, q_Rest_Rest, q_Rest_Table, q_Rest_Among, q_Rest_Sum, q_Rest_Gap, q_Table_Up, q_Table_Down, q_Table_Part, q_Table_Rest, q_Table_Table, q_Table_Among, q_Table_Sum, q_Table_Gap, q_Among_Up, q_Among_Down, q_Among_Part, q_Among_Rest, q_Among_Table, q_Among_Among, q_Among_Sum, q_Among_Gap, q_Sum_Up, q_Sum_Down, q_Sum_Part, q_Sum_Rest, q_Sum_Table, q_Sum_Among, q_Sum_Sum, q_Sum_Gap, q_Gap_Up, q_Gap_Down, q_Gap_Part, q_Gap_Rest, q_Gap_Table, q_Gap_Among, q_Gap_Sum, q_Gap_Gap, q_Most_Up, q_Most_Down, q_Most_Part, q_Most_Rest, q_Most_Table, q_Most_Among, q_Most_Sum, q_Most_Gap, dIx, dAdd_int, dSub_int, rLt, rLe, rGt, rGe, dEq_int, dNe_int, dIn_ints, dNotIn_ints, e1, e2, beq_self_eq_true]
      rfl
    · have : (r == 0) = false := by simpa using h
      simp -implicitDefEqProofs only [eVar_ap, dVar_ap, eC_ap, dOf_ap, eFrz_ap, eBin_ap, bTest_ap, bTru_ap, bAnd_ap, bOr_ap, bNot_ap, eIf_ap, eB_ap, eAnd_ap, eOr_ap, aNil_ap, aCons_ap, sNil_ap, sCons_ap, eTup_ap, eLst_ap, eCall_ap, eApp_ap, oNone_ap, oSome_ap, eSl_ap, sNil'_ap, sSeq_ap, sBrk_ap, sRet_ap, sRetN_ap, sRetO_ap, sDrop_ap, sIf_ap, sSet_ap, sApp_ap, sTown_ap, sExt_ap, sIns_ap, sSetIx_ap, sAsg_ap, sPar_ap, iOf_ap, iVal_ap, iRng1_ap, iRng2_ap, sFor_ap, eComp_ap, bYes_ap, frzAt_ap, eUn_ap, eNotD_ap, eOrD_ap, eChain_ap, eListRg1_ap, eIsa_ap, eMt_ap, iEnumV_ap, iEnumF_ap, iZipV_ap, iZipF_ap, eTLen_ap, iRng3D_ap, sEnd_ap, eSs_ap, sPar3_ap, xPop_ap, xTup1_ap, xCat_ap, sSetX_ap, sAppX_ap, sParO_ap, sForEI_ap, sForK_ap, eRep_ap, eDicK_ap, eDicT_ap, sPut_ap, eAlt_ap, sTry_ap, eGetD_ap, eLockI_ap, iKeyF_ap, sSetDef_ap, eTupVals_ap, sNst_ap, frzNAt_ap, sAppN_ap, sStN_ap, eListRg2_ap, eLam_ap, eCallP_ap, eNow_ap, dBef_ap, sShApp_ap, xShPop_ap, sShNow_ap, sShNowX_ap, sShClr_ap, yCall_ap, yOf_ap, yX_ap, yR_ap, yIf_ap, sRetS_ap, unX_ap, ytOf_ap, ytTru_ap, ytNot_ap, ytSeq_ap, ytCmp_ap, yaOf_ap, yaCons_ap, yApp_ap, eMethR_ap, sMakeSh_ap, runB_ap, gOne_ap, gMany_ap, dI_ap, yesC_ap, dCmp_int, setD, kill_nx, kill_rt, kill_rs, kill_bk, Option.bind_some, Option.map_some, Option.bind_none, Option.map_none, List.getElem?_cons_zero, List.getElem?_cons_succ, List.set_cons_zero, List.set_cons_succ, List.cons_append, List.nil_append, List.append_nil, List.replicate, List.length_cons, List.length_nil, Nat.reduceAdd, Nat.reduceSub, Nat.zero_add, wdat_no, wdat_d, wdat_town, wdat_ol, wdat_od, wfrz_no, wfrz_d, wfrz_town, wfrz_ol, wfrz_od, wval_no, wval_d, wval_town, wval_ol, wval_od, warg_no, warg_d, warg_town, warg_ol, warg_od, vals, gLen, gAbs, gMax2, gMin2, gInt, gTup, gList, wipeW, if_true, if_false, Bool.false_eq_true, Bool.not_true, Bool.not_false, reduceCtorEq, q_Up_Up, q_Up_Down, q_Up_Part, q_Up_Rest, q_Up_Table, q_Up_Among, q_Up_Sum, q_Up_Gap, q_Down_Up, q_Down_Down, q_Down_Part, q_Down_Rest, q_Down_Table, q_Down_Among, q_Down_Sum, q_Down_Gap, q_Part_Up, q_Part_Down, q_Part_Part, q_Part_Rest, q_Part_Table, q_Part_Among, q_Part_Sum, q_Part_Gap, q_Rest_Up, q_Rest_Down, q_Rest_Part, q_Rest_Rest, q_Rest_Table, q_Rest_Among, q_Rest_Sum, q_Rest_Gap, q_Table_Up, q_Table_Down, q_Table_Part, q_Table_Rest, q_Table_Table, q_Table_Among, q_Table_Sum, q_Table_Gap, q_Among_Up, q_Among_Down, q_Among_Part, q_Among_Rest, q_Among_Table, q_Among_Among, q_Among_Sum, q_Among_Gap, q_Sum_Up, q_Sum_Down, q_Sum_Part, q_Sum_Rest, q_Sum_Table, q_Sum_Among, q_Sum_Sum, q_Sum_Gap, q_Gap_Up, q_Gap_Down, q_Gap_Part, q_Gap_Rest, q_Gap_Table, q_Gap_Among, q_Gap_Sum, q_Gap_Gap, q_Most_Up, q_Most_Down, q_Most_Part, q_Most_Rest, q_Most_Table, q_Most_Among, q_Most_Sum, q_Most_Gap, dIx, dAdd_int, dSub_int, rLt, rLe, rGt, rGe, dEq_int, dNe_int, dIn_ints, dNotIn_ints, e1, e2, this, h]
      rfl
  · split <;> exact hp
abbrev rowD (r : List Ky) : PyData := .tuple (r.map Ky.d)
theorem keys_ok (ns : List Int) (n : Nat) (k : Nat) (hk : k ≤ 1000) (hn : n + 1 + 9 * k ≤ big) : Ran (m__law_keys [Sc ns, .town, I' k] n) n (1 + 9 * k) fun w => ∃ r : List Ky, (∀ x ∈ r, x.ok) ∧ r.length ≤ k ∧ w = .d (rowD r) := by
  obtain ⟨m, m0, m1, e1⟩ := draw_ok ns n (by omega) (k + 1 : Int) (by omega)
  have hm : m.toNat ≤ k := by omega
  have hm9 : 9 * m.toNat ≤ 9 * k := Nat.mul_le_mul_left _ hm
  obtain ⟨ys, n2, e2, l1, hq, l2, l3⟩ := comp_ran (i := 3) (own := [3]) (elt := eCall m__law_key (aCons (eVar 0) (aCons (eVar 1) aNil))) (ρ := [Sc ns, .town, I' k, .no]) (c := 9) (P := fun y => ∃ k : Ky, k.ok ∧ y = k.d) (rangeD 0 m.toNat) (n + 1)
    (by rw [rangeD_len]; omega) (fun x _ q hq => by
      obtain ⟨w, q', h1, h2, h3, kk, h4, rfl⟩ := key_ok ns q hq
      exact ⟨_, q', by simp -implicitDefEqProofs only [eVar_ap, dVar_ap, eC_ap, dOf_ap, eFrz_ap, eBin_ap, bTest_ap, bTru_ap, bAnd_ap, bOr_ap, bNot_ap, eIf_ap, eB_ap, eAnd_ap, eOr_ap, aNil_ap, aCons_ap, sNil_ap, sCons_ap, eTup_ap, eLst_ap, eCall_ap, eApp_ap, oNone_ap, oSome_ap, eSl_ap, sNil'_ap, sSeq_ap, sBrk_ap, sRet_ap, sRetN_ap, sRetO_ap, sDrop_ap, sIf_ap, sSet_ap, sApp_ap, sTown_ap, sExt_ap, sIns_ap, sSetIx_ap, sAsg_ap, sPar_ap, iOf_ap, iVal_ap, iRng1_ap, iRng2_ap, sFor_ap, eComp_ap, bYes_ap, frzAt_ap, eUn_ap, eNotD_ap, eOrD_ap, eChain_ap, eListRg1_ap, eIsa_ap, eMt_ap, iEnumV_ap, iEnumF_ap, iZipV_ap, iZipF_ap, eTLen_ap, iRng3D_ap, sEnd_ap, eSs_ap, sPar3_ap, xPop_ap, xTup1_ap, xCat_ap, sSetX_ap, sAppX_ap, sParO_ap, sForEI_ap, sForK_ap, eRep_ap, eDicK_ap, eDicT_ap, sPut_ap, eAlt_ap, sTry_ap, eGetD_ap, eLockI_ap, iKeyF_ap, sSetDef_ap, eTupVals_ap, sNst_ap, frzNAt_ap, sAppN_ap, sStN_ap, eListRg2_ap, eLam_ap, eCallP_ap, eNow_ap, dBef_ap, sShApp_ap, xShPop_ap, sShNow_ap, sShNowX_ap, sShClr_ap, yCall_ap, yOf_ap, yX_ap, yR_ap, yIf_ap, sRetS_ap, unX_ap, ytOf_ap, ytTru_ap, ytNot_ap, ytSeq_ap, ytCmp_ap, yaOf_ap, yaCons_ap, yApp_ap, eMethR_ap, sMakeSh_ap, runB_ap, gOne_ap, gMany_ap, dI_ap, yesC_ap, dCmp_int, setD, kill_nx, kill_rt, kill_rs, kill_bk, Option.bind_some, Option.map_some, Option.bind_none, Option.map_none, List.getElem?_cons_zero, List.getElem?_cons_succ, List.set_cons_zero, List.set_cons_succ, List.cons_append, List.nil_append, List.append_nil, List.replicate, List.length_cons, List.length_nil, Nat.reduceAdd, Nat.reduceSub, Nat.zero_add, wdat_no, wdat_d, wdat_town, wdat_ol, wdat_od, wfrz_no, wfrz_d, wfrz_town, wfrz_ol, wfrz_od, wval_no, wval_d, wval_town, wval_ol, wval_od, warg_no, warg_d, warg_town, warg_ol, warg_od, vals, gLen, gAbs, gMax2, gMin2, gInt, gTup, gList, wipeW, if_true, if_false, Bool.false_eq_true, Bool.not_true, Bool.not_false, reduceCtorEq, h1], h3, h2, kk, h4, rfl⟩)
  obtain ⟨r, rfl, hr⟩ := ex_map ys hq
  rw [rangeD_len] at l1 l3
  rw [List.length_map] at l1
  refine ⟨_, n2, ?_, by omega, by omega, r, hr, by omega, rfl⟩
  have hb : m.toNat ≤ big := le_big (by omega)
  unfold m__law_keys b__law_keys
  simp -implicitDefEqProofs only [eVar_ap, dVar_ap, eC_ap, dOf_ap, eFrz_ap, eBin_ap, bTest_ap, bTru_ap, bAnd_ap, bOr_ap, bNot_ap, eIf_ap, eB_ap, eAnd_ap, eOr_ap, aNil_ap, aCons_ap, sNil_ap, sCons_ap, eTup_ap, eLst_ap, eCall_ap, eApp_ap, oNone_ap, oSome_ap, eSl_ap, sNil'_ap, sSeq_ap, sBrk_ap, sRet_ap, sRetN_ap, sRetO_ap, sDrop_ap, sIf_ap, sSet_ap, sApp_ap, sTown_ap, sExt_ap, sIns_ap, sSetIx_ap, sAsg_ap, sPar_ap, iOf_ap, iVal_ap, iRng1_ap, iRng2_ap, sFor_ap, eComp_ap, bYes_ap, frzAt_ap, eUn_ap, eNotD_ap, eOrD_ap, eChain_ap, eListRg1_ap, eIsa_ap, eMt_ap, iEnumV_ap, iEnumF_ap, iZipV_ap, iZipF_ap, eTLen_ap, iRng3D_ap, sEnd_ap, eSs_ap, sPar3_ap, xPop_ap, xTup1_ap, xCat_ap, sSetX_ap, sAppX_ap, sParO_ap, sForEI_ap, sForK_ap, eRep_ap, eDicK_ap, eDicT_ap, sPut_ap, eAlt_ap, sTry_ap, eGetD_ap, eLockI_ap, iKeyF_ap, sSetDef_ap, eTupVals_ap, sNst_ap, frzNAt_ap, sAppN_ap, sStN_ap, eListRg2_ap, eLam_ap, eCallP_ap, eNow_ap, dBef_ap, sShApp_ap, xShPop_ap, sShNow_ap, sShNowX_ap, sShClr_ap, yCall_ap, yOf_ap, yX_ap, yR_ap, yIf_ap, sRetS_ap, unX_ap, ytOf_ap, ytTru_ap, ytNot_ap, ytSeq_ap, ytCmp_ap, yaOf_ap, yaCons_ap, yApp_ap, eMethR_ap, sMakeSh_ap, runB_ap, gOne_ap, gMany_ap, dI_ap, yesC_ap, dCmp_int, setD, kill_nx, kill_rt, kill_rs, kill_bk, Option.bind_some, Option.map_some, Option.bind_none, Option.map_none, List.getElem?_cons_zero, List.getElem?_cons_succ, List.set_cons_zero, List.set_cons_succ, List.cons_append, List.nil_append, List.append_nil, List.replicate, List.length_cons, List.length_nil, Nat.reduceAdd, Nat.reduceSub, Nat.zero_add, wdat_no, wdat_d, wdat_town, wdat_ol, wdat_od, wfrz_no, wfrz_d, wfrz_town, wfrz_ol, wfrz_od, wval_no, wval_d, wval_town, wval_ol, wval_od, warg_no, warg_d, warg_town, warg_ol, warg_od, vals, gLen, gAbs, gMax2, gMin2, gInt, gTup, gList, wipeW, if_true, if_false, Bool.false_eq_true, Bool.not_true, Bool.not_false, reduceCtorEq, q_Up_Up, q_Up_Down, q_Up_Part, q_Up_Rest, q_Up_Table, q_Up_Among, q_Up_Sum, q_Up_Gap, q_Down_Up, q_Down_Down, q_Down_Part, q_Down_Rest, q_Down_Table, q_Down_Among, q_Down_Sum, q_Down_Gap, q_Part_Up, q_Part_Down, q_Part_Part, q_Part_Rest, q_Part_Table, q_Part_Among, q_Part_Sum, q_Part_Gap, q_Rest_Up, q_Rest_Down, q_Rest_Part, q_Rest_Rest, q_Rest_Table, q_Rest_Among, q_Rest_Sum, q_Rest_Gap, q_Table_Up, q_Table_Down, q_Table_Part, q_Table_Rest, q_Table_Table, q_Table_Among, q_Table_Sum, q_Table_Gap, q_Among_Up, q_Among_Down, q_Among_Part, q_Among_Rest, q_Among_Table, q_Among_Among, q_Among_Sum, q_Among_Gap, q_Sum_Up, q_Sum_Down, q_Sum_Part, q_Sum_Rest, q_Sum_Table, q_Sum_Among, q_Sum_Sum, q_Sum_Gap, q_Gap_Up, q_Gap_Down, q_Gap_Part, q_Gap_Rest, q_Gap_Table, q_Gap_Among, q_Gap_Sum, q_Gap_Gap, q_Most_Up, q_Most_Down, q_Most_Part, q_Most_Rest, q_Most_Table, q_Most_Among, q_Most_Sum, q_Most_Gap, dIx, dAdd_int, dSub_int, rLt, rLe, rGt, rGe, dEq_int, dNe_int, dIn_ints, dNotIn_ints, e1, rng1_ok m0 (by omega), rangeD_len, hb, e2]
theorem thing_ok (ns : List Int) (n : Nat) (hn : n + 3 ≤ big) : Ran (m__law_thing [Sc ns, .town] n) n 3 fun w => ∃ t : Th, t.ok ∧ w = .d t.d := by
  obtain ⟨a, a0, a1, e1⟩ := draw_ok ns n (by omega) 6 (by decide)
  obtain ⟨b, b0, b1, e2⟩ := draw_ok ns (n + 1) (by omega) 6 (by decide)
  obtain ⟨c, c0, c1, e3⟩ := draw_ok ns (n + 2) (by omega) 6 (by decide)
  refine ⟨_, n + 3, ?_, by omega, by omega, (a, b, c), ⟨⟨a0, a1⟩, ⟨b0, b1⟩, c0, c1⟩, rfl⟩
  unfold m__law_thing b__law_thing
  simp -implicitDefEqProofs only [eVar_ap, dVar_ap, eC_ap, dOf_ap, eFrz_ap, eBin_ap, bTest_ap, bTru_ap, bAnd_ap, bOr_ap, bNot_ap, eIf_ap, eB_ap, eAnd_ap, eOr_ap, aNil_ap, aCons_ap, sNil_ap, sCons_ap, eTup_ap, eLst_ap, eCall_ap, eApp_ap, oNone_ap, oSome_ap, eSl_ap, sNil'_ap, sSeq_ap, sBrk_ap, sRet_ap, sRetN_ap, sRetO_ap, sDrop_ap, sIf_ap, sSet_ap, sApp_ap, sTown_ap, sExt_ap, sIns_ap, sSetIx_ap, sAsg_ap, sPar_ap, iOf_ap, iVal_ap, iRng1_ap, iRng2_ap, sFor_ap, eComp_ap, bYes_ap, frzAt_ap, eUn_ap, eNotD_ap, eOrD_ap, eChain_ap, eListRg1_ap, eIsa_ap, eMt_ap, iEnumV_ap, iEnumF_ap, iZipV_ap, iZipF_ap, eTLen_ap, iRng3D_ap, sEnd_ap, eSs_ap, sPar3_ap, xPop_ap, xTup1_ap, xCat_ap, sSetX_ap, sAppX_ap, sParO_ap, sForEI_ap, sForK_ap, eRep_ap, eDicK_ap, eDicT_ap, sPut_ap, eAlt_ap, sTry_ap, eGetD_ap, eLockI_ap, iKeyF_ap, sSetDef_ap, eTupVals_ap, sNst_ap, frzNAt_ap, sAppN_ap, sStN_ap, eListRg2_ap, eLam_ap, eCallP_ap, eNow_ap, dBef_ap, sShApp_ap, xShPop_ap, sShNow_ap, sShNowX_ap, sShClr_ap, yCall_ap, yOf_ap, yX_ap, yR_ap, yIf_ap, sRetS_ap, unX_ap, ytOf_ap, ytTru_ap, ytNot_ap, ytSeq_ap, ytCmp_ap, yaOf_ap, yaCons_ap, yApp_ap, eMethR_ap, sMakeSh_ap, runB_ap, gOne_ap, gMany_ap, dI_ap, yesC_ap, dCmp_int, setD, kill_nx, kill_rt, kill_rs, kill_bk, Option.bind_some, Option.map_some, Option.bind_none, Option.map_none, List.getElem?_cons_zero, List.getElem?_cons_succ, List.set_cons_zero, List.set_cons_succ, List.cons_append, List.nil_append, List.append_nil, List.replicate, List.length_cons, List.length_nil, Nat.reduceAdd, Nat.reduceSub, Nat.zero_add, wdat_no, wdat_d, wdat_town, wdat_ol, wdat_od, wfrz_no, wfrz_d, wfrz_town, wfrz_ol, wfrz_od, wval_no, wval_d, wval_town, wval_ol, wval_od, warg_no, warg_d, warg_town, warg_ol, warg_od, vals, gLen, gAbs, gMax2, gMin2, gInt, gTup, gList, wipeW, if_true, if_false, Bool.false_eq_true, Bool.not_true, Bool.not_false, reduceCtorEq, e1, e2, e3]
  rfl
end L2.Lv.Sh
namespace L2.Lv.Sh
open PySem PySem.Spec PyProof.Rows L2 L2.Lv
/-! what a key tells of a thing -/
def PK.worth (p : PK) (t : Th) : Int := match p with
  | up a => t.at a
  | part a d => t.at a / d
  | rest a d => t.at a % d
  | table a l => if t.at a ∈ l then (l.idxOf (t.at a) : Nat) else (l.length : Nat)
  | among a l => if t.at a ∈ l then 0 else 1
  | sum a b => t.at a + t.at b
  | gap a b => if t.at a - t.at b < 0 then -(t.at a - t.at b) else t.at a - t.at b
  | most a b => if t.at b > t.at a then t.at b else t.at a
def Ky.worth (k : Ky) (t : Th) : Int := match k with
  | pl p => p.worth t
  | dn p => 0 - p.worth t
theorem prOk.l {a b : Int} (h : prOk a b) : pl3 a ∧ pl3 b := by
  rcases h with ⟨rfl, rfl⟩ | ⟨rfl, rfl⟩ | ⟨rfl, rfl⟩ <;> simp [pl3]
theorem atTh {t : Th} {a : Int} (h : pl3 a) : atI [PyData.int t.1, .int t.2.1, .int t.2.2] a = some (.int (t.at a)) := by
  have : a = 0 ∨ a = 1 ∨ a = 2 := by unfold pl3 at h; omega
  rcases this with rfl | rfl | rfl <;> rfl
theorem ixTh {t : Th} {a : Int} (h : pl3 a) : dIx t.d (.int a) = some (.d (.int (t.at a))) := by
  show (atI _ _).map W.d = _
  rw [show ([t.1, t.2.1, t.2.2].map PyData.int) = [PyData.int t.1, .int t.2.1, .int t.2.2] from rfl, atTh h]; rfl
theorem gIndexT_ints {t : List Int} {x : Int} (h : x ∈ t) : gIndexT (ti t) [.int x] = some (.d (.int (t.idxOf x : Nat))) := by
  simp [gIndexT, ti, h]
theorem i0 (x : PyData) (xs : List PyData) : dIx (.tuple (x :: xs)) (.int 0) = some (.d x) := ixT (x :: xs) 0 (by decide) (by simp)
theorem i1 (x y : PyData) (xs : List PyData) : dIx (.tuple (x :: y :: xs)) (.int 1) = some (.d y) := ixT (x :: y :: xs) 1 (by decide) (by simp)
theorem i2 (x y z : PyData) : dIx (.tuple [x, y, z]) (.int 2) = some (.d z) := rfl

theorem worth_pl (k : Nat) (p : PK) (h : p.ok) (t : Th) (n : Nat) : m_worth_ (k + 1) [.d p.d, .d t.d] n = some (I' (p.worth t), n) := by
  unfold m_worth_ b_worth
  cases p with
  | up a => simp -implicitDefEqProofs only [eVar_ap, dVar_ap, eC_ap, dOf_ap, eFrz_ap, eBin_ap, bTest_ap, bTru_ap, bAnd_ap, bOr_ap, bNot_ap, eIf_ap, eB_ap, eAnd_ap, eOr_ap, aNil_ap, aCons_ap, sNil_ap, sCons_ap, eTup_ap, eLst_ap, eCall_ap, eApp_ap, oNone_ap, oSome_ap, eSl_ap, sNil'_ap, sSeq_ap, sBrk_ap, sRet_ap, sRetN_ap, sRetO_ap, sDrop_ap, sIf_ap, sSet_ap, sApp_ap, sTown_ap, sExt_ap, sIns_ap, sSetIx_ap, sAsg_ap, sPar_ap, iOf_ap, iVal_ap, iRng1_ap, iRng2_ap, sFor_ap, eComp_ap, bYes_ap, frzAt_ap, eUn_ap, eNotD_ap, eOrD_ap, eChain_ap, eListRg1_ap, eIsa_ap, eMt_ap, iEnumV_ap, iEnumF_ap, iZipV_ap, iZipF_ap, eTLen_ap, iRng3D_ap, sEnd_ap, eSs_ap, sPar3_ap, xPop_ap, xTup1_ap, xCat_ap, sSetX_ap, sAppX_ap, sParO_ap, sForEI_ap, sForK_ap, eRep_ap, eDicK_ap, eDicT_ap, sPut_ap, eAlt_ap, sTry_ap, eGetD_ap, eLockI_ap, iKeyF_ap, sSetDef_ap, eTupVals_ap, sNst_ap, frzNAt_ap, sAppN_ap, sStN_ap, eListRg2_ap, eLam_ap, eCallP_ap, eNow_ap, dBef_ap, sShApp_ap, xShPop_ap, sShNow_ap, sShNowX_ap, sShClr_ap, yCall_ap, yOf_ap, yX_ap, yR_ap, yIf_ap, sRetS_ap, unX_ap, ytOf_ap, ytTru_ap, ytNot_ap, ytSeq_ap, ytCmp_ap, yaOf_ap, yaCons_ap, yApp_ap, eMethR_ap, sMakeSh_ap, runB_ap, gOne_ap, gMany_ap, dI_ap, yesC_ap, dCmp_int, setD, kill_nx, kill_rt, kill_rs, kill_bk, Option.bind_some, Option.map_some, Option.bind_none, Option.map_none, List.getElem?_cons_zero, List.getElem?_cons_succ, List.set_cons_zero, List.set_cons_succ, List.cons_append, List.nil_append, List.append_nil, List.replicate, List.length_cons, List.length_nil, Nat.reduceAdd, Nat.reduceSub, Nat.zero_add, wdat_no, wdat_d, wdat_town, wdat_ol, wdat_od, wfrz_no, wfrz_d, wfrz_town, wfrz_ol, wfrz_od, wval_no, wval_d, wval_town, wval_ol, wval_od, warg_no, warg_d, warg_town, warg_ol, warg_od, vals, gLen, gAbs, gMax2, gMin2, gInt, gTup, gList, wipeW, if_true, if_false, Bool.false_eq_true, Bool.not_true, Bool.not_false, reduceCtorEq, q_Up_Up, q_Up_Down, q_Up_Part, q_Up_Rest, q_Up_Table, q_Up_Among, q_Up_Sum, q_Up_Gap, q_Down_Up, q_Down_Down, q_Down_Part, q_Down_Rest, q_Down_Table, q_Down_Among, q_Down_Sum, q_Down_Gap, q_Part_Up, q_Part_Down, q_Part_Part, q_Part_Rest, q_Part_Table, q_Part_Among, q_Part_Sum, q_Part_Gap, q_Rest_Up, q_Rest_Down, q_Rest_Part, q_Rest_Rest, q_Rest_Table, q_Rest_Among, q_Rest_Sum, q_Rest_Gap, q_Table_Up, q_Table_Down, q_Table_Part, q_Table_Rest, q_Table_Table, q_Table_Among, q_Table_Sum, q_Table_Gap, q_Among_Up, q_Among_Down, q_Among_Part, q_Among_Rest, q_Among_Table, q_Among_Among, q_Among_Sum, q_Among_Gap, q_Sum_Up, q_Sum_Down, q_Sum_Part, q_Sum_Rest, q_Sum_Table, q_Sum_Among, q_Sum_Sum, q_Sum_Gap, q_Gap_Up, q_Gap_Down, q_Gap_Part, q_Gap_Rest, q_Gap_Table, q_Gap_Among, q_Gap_Sum, q_Gap_Gap, q_Most_Up, q_Most_Down, q_Most_Part, q_Most_Rest, q_Most_Table, q_Most_Among, q_Most_Sum, q_Most_Gap, i0, i1, i2, dAdd_int, dSub_int, rLt, rLe, rGt, rGe, dEq_int, dNe_int, dIn_ints, dNotIn_ints, isTupD, isLstD, PK.d, ixTh (t := t) (show pl3 a from h)]; rfl
  | part a d =>
    have hd : divC (t.at a) d = true := divC_ok (by rcases h.2 with rfl | rfl <;> decide) (by rcases h.2 with rfl | rfl <;> decide)
    simp -implicitDefEqProofs only [eVar_ap, dVar_ap, eC_ap, dOf_ap, eFrz_ap, eBin_ap, bTest_ap, bTru_ap, bAnd_ap, bOr_ap, bNot_ap, eIf_ap, eB_ap, eAnd_ap, eOr_ap, aNil_ap, aCons_ap, sNil_ap, sCons_ap, eTup_ap, eLst_ap, eCall_ap, eApp_ap, oNone_ap, oSome_ap, eSl_ap, sNil'_ap, sSeq_ap, sBrk_ap, sRet_ap, sRetN_ap, sRetO_ap, sDrop_ap, sIf_ap, sSet_ap, sApp_ap, sTown_ap, sExt_ap, sIns_ap, sSetIx_ap, sAsg_ap, sPar_ap, iOf_ap, iVal_ap, iRng1_ap, iRng2_ap, sFor_ap, eComp_ap, bYes_ap, frzAt_ap, eUn_ap, eNotD_ap, eOrD_ap, eChain_ap, eListRg1_ap, eIsa_ap, eMt_ap, iEnumV_ap, iEnumF_ap, iZipV_ap, iZipF_ap, eTLen_ap, iRng3D_ap, sEnd_ap, eSs_ap, sPar3_ap, xPop_ap, xTup1_ap, xCat_ap, sSetX_ap, sAppX_ap, sParO_ap, sForEI_ap, sForK_ap, eRep_ap, eDicK_ap, eDicT_ap, sPut_ap, eAlt_ap, sTry_ap, eGetD_ap, eLockI_ap, iKeyF_ap, sSetDef_ap, eTupVals_ap, sNst_ap, frzNAt_ap, sAppN_ap, sStN_ap, eListRg2_ap, eLam_ap, eCallP_ap, eNow_ap, dBef_ap, sShApp_ap, xShPop_ap, sShNow_ap, sShNowX_ap, sShClr_ap, yCall_ap, yOf_ap, yX_ap, yR_ap, yIf_ap, sRetS_ap, unX_ap, ytOf_ap, ytTru_ap, ytNot_ap, ytSeq_ap, ytCmp_ap, yaOf_ap, yaCons_ap, yApp_ap, eMethR_ap, sMakeSh_ap, runB_ap, gOne_ap, gMany_ap, dI_ap, yesC_ap, dCmp_int, setD, kill_nx, kill_rt, kill_rs, kill_bk, Option.bind_some, Option.map_some, Option.bind_none, Option.map_none, List.getElem?_cons_zero, List.getElem?_cons_succ, List.set_cons_zero, List.set_cons_succ, List.cons_append, List.nil_append, List.append_nil, List.replicate, List.length_cons, List.length_nil, Nat.reduceAdd, Nat.reduceSub, Nat.zero_add, wdat_no, wdat_d, wdat_town, wdat_ol, wdat_od, wfrz_no, wfrz_d, wfrz_town, wfrz_ol, wfrz_od, wval_no, wval_d, wval_town, wval_ol, wval_od, warg_no, warg_d, warg_town, warg_ol, warg_od, vals, gLen, gAbs, gMax2, gMin2, gInt, gTup, gList, wipeW, if_true, if_false, Bool.false_eq_true, Bool.not_true, Bool.not_false, reduceCtorEq, q_Up_Up, q_Up_Down, q_Up_Part, q_Up_Rest, q_Up_Table, q_Up_Among, q_Up_Sum, q_Up_Gap, q_Down_Up, q_Down_Down, q_Down_Part, q_Down_Rest, q_Down_Table, q_Down_Among, q_Down_Sum, q_Down_Gap, q_Part_Up, q_Part_Down, q_Part_Part, q_Part_Rest, q_Part_Table, q_Part_Among, q_Part_Sum, q_Part_Gap, q_Rest_Up, q_Rest_Down, q_Rest_Part, q_Rest_Rest, q_Rest_Table, q_Rest_Among, q_Rest_Sum, q_Rest_Gap, q_Table_Up, q_Table_Down, q_Table_Part, q_Table_Rest, q_Table_Table, q_Table_Among, q_Table_Sum, q_Table_Gap, q_Among_Up, q_Among_Down, q_Among_Part, q_Among_Rest, q_Among_Table, q_Among_Among, q_Among_Sum, q_Among_Gap, q_Sum_Up, q_Sum_Down, q_Sum_Part, q_Sum_Rest, q_Sum_Table, q_Sum_Among, q_Sum_Sum, q_Sum_Gap, q_Gap_Up, q_Gap_Down, q_Gap_Part, q_Gap_Rest, q_Gap_Table, q_Gap_Among, q_Gap_Sum, q_Gap_Gap, q_Most_Up, q_Most_Down, q_Most_Part, q_Most_Rest, q_Most_Table, q_Most_Among, q_Most_Sum, q_Most_Gap, i0, i1, i2, dAdd_int, dSub_int, rLt, rLe, rGt, rGe, dEq_int, dNe_int, dIn_ints, dNotIn_ints, isTupD, isLstD, PK.d, ixTh (t := t) (show pl3 a from h.1), hd]; rfl
  | rest a d =>
    have hd : modC (t.at a) d = true := modC_ok (by rcases h.2 with rfl | rfl <;> decide)
    simp -implicitDefEqProofs only [eVar_ap, dVar_ap, eC_ap, dOf_ap, eFrz_ap, eBin_ap, bTest_ap, bTru_ap, bAnd_ap, bOr_ap, bNot_ap, eIf_ap, eB_ap, eAnd_ap, eOr_ap, aNil_ap, aCons_ap, sNil_ap, sCons_ap, eTup_ap, eLst_ap, eCall_ap, eApp_ap, oNone_ap, oSome_ap, eSl_ap, sNil'_ap, sSeq_ap, sBrk_ap, sRet_ap, sRetN_ap, sRetO_ap, sDrop_ap, sIf_ap, sSet_ap, sApp_ap, sTown_ap, sExt_ap, sIns_ap, sSetIx_ap, sAsg_ap, sPar_ap, iOf_ap, iVal_ap, iRng1_ap, iRng2_ap, sFor_ap, eComp_ap, bYes_ap, frzAt_ap, eUn_ap, eNotD_ap, eOrD_ap, eChain_ap, eListRg1_ap, eIsa_ap, eMt_ap, iEnumV_ap, iEnumF_ap, iZipV_ap, iZipF_ap, eTLen_ap, iRng3D_ap, sEnd_ap, eSs_ap, sPar3_ap, xPop_ap, xTup1_ap, xCat_ap, sSetX_ap, sAppX_ap, sParO_ap, sForEI_ap, sForK_ap, eRep_ap, eDicK_ap, eDicT_ap, sPut_ap, eAlt_ap, sTry_ap, eGetD_ap, eLockI_ap, iKeyF_ap, sSetDef_ap, eTupVals_ap, sNst_ap, frzNAt_ap, sAppN_ap, sStN_ap, eListRg2_ap, eLam_ap, eCallP_ap, eNow_ap, dBef_ap, sShApp_ap, xShPop_ap, sShNow_ap, sShNowX_ap, sShClr_ap, yCall_ap, yOf_ap, yX_ap, yR_ap, yIf_ap, sRetS_ap, unX_ap, ytOf_ap, ytTru_ap, ytNot_ap, ytSeq_ap, ytCmp_ap, yaOf_ap, yaCons_ap, yApp_ap, eMethR_ap, sMakeSh_ap, runB_ap, gOne_ap, gMany_ap, dI_ap, yesC_ap, dCmp_int, setD, kill_nx, kill_rt, kill_rs, kill_bk, Option.bind_some, Option.map_some, Option.bind_none, Option.map_none, List.getElem?_cons_zero, List.getElem?_cons_succ, List.set_cons_zero, List.set_cons_succ, List.cons_append, List.nil_append, List.append_nil, List.replicate, List.length_cons, List.length_nil, Nat.reduceAdd, Nat.reduceSub, Nat.zero_add, wdat_no, wdat_d, wdat_town, wdat_ol, wdat_od, wfrz_no, wfrz_d, wfrz_town, wfrz_ol, wfrz_od, wval_no, wval_d, wval_town, wval_ol, wval_od, warg_no, warg_d, warg_town, warg_ol, warg_od, vals, gLen, gAbs, gMax2, gMin2, gInt, gTup, gList, wipeW, if_true, if_false, Bool.false_eq_true, Bool.not_true, Bool.not_false, reduceCtorEq, q_Up_Up, q_Up_Down, q_Up_Part, q_Up_Rest, q_Up_Table, q_Up_Among, q_Up_Sum, q_Up_Gap, q_Down_Up, q_Down_Down, q_Down_Part, q_Down_Rest, q_Down_Table, q_Down_Among, q_Down_Sum, q_Down_Gap, q_Part_Up, q_Part_Down, q_Part_Part, q_Part_Rest, q_Part_Table, q_Part_Among, q_Part_Sum, q_Part_Gap, q_Rest_Up, q_Rest_Down, q_Rest_Part, q_Rest_Rest, q_Rest_Table, q_Rest_Among, q_Rest_Sum, q_Rest_Gap, q_Table_Up, q_Table_Down, q_Table_Part, q_Table_Rest, q_Table_Table, q_Table_Among, q_Table_Sum, q_Table_Gap, q_Among_Up, q_Among_Down, q_Among_Part, q_Among_Rest, q_Among_Table, q_Among_Among, q_Among_Sum, q_Among_Gap, q_Sum_Up, q_Sum_Down, q_Sum_Part, q_Sum_Rest, q_Sum_Table, q_Sum_Among, q_Sum_Sum, q_Sum_Gap, q_Gap_Up, q_Gap_Down, q_Gap_Part, q_Gap_Rest, q_Gap_Table, q_Gap_Among, q_Gap_Sum, q_Gap_Gap, q_Most_Up, q_Most_Down, q_Most_Part, q_Most_Rest, q_Most_Table, q_Most_Among, q_Most_Sum, q_Most_Gap, i0, i1, i2, dAdd_int, dSub_int, rLt, rLe, rGt, rGe, dEq_int, dNe_int, dIn_ints, dNotIn_ints, isTupD, isLstD, PK.d, ixTh (t := t) (show pl3 a from h.1), hd]; rfl
  | table a l =>
    by_cases hm : t.at a ∈ l
    · simp -implicitDefEqProofs only [eVar_ap, dVar_ap, eC_ap, dOf_ap, eFrz_ap, eBin_ap, bTest_ap, bTru_ap, bAnd_ap, bOr_ap, bNot_ap, eIf_ap, eB_ap, eAnd_ap, eOr_ap, aNil_ap, aCons_ap, sNil_ap, sCons_ap, eTup_ap, eLst_ap, eCall_ap, eApp_ap, oNone_ap, oSome_ap, eSl_ap, sNil'_ap, sSeq_ap, sBrk_ap, sRet_ap, sRetN_ap, sRetO_ap, sDrop_ap, sIf_ap, sSet_ap, sApp_ap, sTown_ap, sExt_ap, sIns_ap, sSetIx_ap, sAsg_ap, sPar_ap, iOf_ap, iVal_ap, iRng1_ap, iRng2_ap, sFor_ap, eComp_ap, bYes_ap, frzAt_ap, eUn_ap, eNotD_ap, eOrD_ap, eChain_ap, eListRg1_ap, eIsa_ap, eMt_ap, iEnumV_ap, iEnumF_ap, iZipV_ap, iZipF_ap, eTLen_ap, iRng3D_ap, sEnd_ap, eSs_ap, sPar3_ap, xPop_ap, xTup1_ap, xCat_ap, sSetX_ap, sAppX_ap, sParO_ap, sForEI_ap, sForK_ap, eRep_ap, eDicK_ap, eDicT_ap, sPut_ap, eAlt_ap, sTry_ap, eGetD_ap, eLockI_ap, iKeyF_ap, sSetDef_ap, eTupVals_ap, sNst_ap, frzNAt_ap, sAppN_ap, sStN_ap, eListRg2_ap, eLam_ap, eCallP_ap, eNow_ap, dBef_ap, sShApp_ap, xShPop_ap, sShNow_ap, sShNowX_ap, sShClr_ap, yCall_ap, yOf_ap, yX_ap, yR_ap, yIf_ap, sRetS_ap, unX_ap, ytOf_ap, ytTru_ap, ytNot_ap, ytSeq_ap, ytCmp_ap, yaOf_ap, yaCons_ap, yApp_ap, eMethR_ap, sMakeSh_ap, runB_ap, gOne_ap, gMany_ap, dI_ap, yesC_ap, dCmp_int, setD, kill_nx, kill_rt, kill_rs, kill_bk, Option.bind_some, Option.map_some, Option.bind_none, Option.map_none, List.getElem?_cons_zero, List.getElem?_cons_succ, List.set_cons_zero, List.set_cons_succ, List.cons_append, List.nil_append, List.append_nil, List.replicate, List.length_cons, List.length_nil, Nat.reduceAdd, Nat.reduceSub, Nat.zero_add, wdat_no, wdat_d, wdat_town, wdat_ol, wdat_od, wfrz_no, wfrz_d, wfrz_town, wfrz_ol, wfrz_od, wval_no, wval_d, wval_town, wval_ol, wval_od, warg_no, warg_d, warg_town, warg_ol, warg_od, vals, gLen, gAbs, gMax2, gMin2, gInt, gTup, gList, wipeW, if_true, if_false, Bool.false_eq_true, Bool.not_true, Bool.not_false, reduceCtorEq, q_Up_Up, q_Up_Down, q_Up_Part, q_Up_Rest, q_Up_Table, q_Up_Among, q_Up_Sum, q_Up_Gap, q_Down_Up, q_Down_Down, q_Down_Part, q_Down_Rest, q_Down_Table, q_Down_Among, q_Down_Sum, q_Down_Gap, q_Part_Up, q_Part_Down, q_Part_Part, q_Part_Rest, q_Part_Table, q_Part_Among, q_Part_Sum, q_Part_Gap, q_Rest_Up, q_Rest_Down, q_Rest_Part, q_Rest_Rest, q_Rest_Table, q_Rest_Among, q_Rest_Sum, q_Rest_Gap, q_Table_Up, q_Table_Down, q_Table_Part, q_Table_Rest, q_Table_Table, q_Table_Among, q_Table_Sum, q_Table_Gap, q_Among_Up, q_Among_Down, q_Among_Part, q_Among_Rest, q_Among_Table, q_Among_Among, q_Among_Sum, q_Among_Gap, q_Sum_Up, q_Sum_Down, q_Sum_Part, q_Sum_Rest, q_Sum_Table, q_Sum_Among, q_Sum_Sum, q_Sum_Gap, q_Gap_Up, q_Gap_Down, q_Gap_Part, q_Gap_Rest, q_Gap_Table, q_Gap_Among, q_Gap_Sum, q_Gap_Gap, q_Most_Up, q_Most_Down, q_Most_Part, q_Most_Rest, q_Most_Table, q_Most_Among, q_Most_Sum, q_Most_Gap, i0, i1, i2, dAdd_int, dSub_int, rLt, rLe, rGt, rGe, dEq_int, dNe_int, dIn_ints, dNotIn_ints, isTupD, isLstD, PK.d, ixTh (t := t) (show pl3 a from h.1), hm, decide_true, gIndexT_ints hm, PK.worth]
    · simp -implicitDefEqProofs only [eVar_ap, dVar_ap, eC_ap, dOf_ap, eFrz_ap, eBin_ap, bTest_ap, bTru_ap, bAnd_ap, bOr_ap, bNot_ap, eIf_ap, eB_ap, eAnd_ap, eOr_ap, aNil_ap, aCons_ap, sNil_ap, sCons_ap, eTup_ap, eLst_ap, eCall_ap, eApp_ap, oNone_ap, oSome_ap, eSl_ap, sNil'_ap, sSeq_ap, sBrk_ap, sRet_ap, sRetN_ap, sRetO_ap, sDrop_ap, sIf_ap, sSet_ap, sApp_ap, sTown_ap, sExt_ap, sIns_ap, sSetIx_ap, sAsg_ap, sPar_ap, iOf_ap, iVal_ap, iRng1_ap, iRng2_ap, sFor_ap, eComp_ap, bYes_ap, frzAt_ap, eUn_ap, eNotD_ap, eOrD_ap, eChain_ap, eListRg1_ap, eIsa_ap, eMt_ap, iEnumV_ap, iEnumF_ap, iZipV_ap, iZipF_ap, eTLen_ap, iRng3D_ap, sEnd_ap, eSs_ap, sPar3_ap, xPop_ap, xTup1_ap, xCat_ap, sSetX_ap, sAppX_ap, sParO_ap, sForEI_ap, sForK_ap, eRep_ap, eDicK_ap, eDicT_ap, sPut_ap, eAlt_ap, sTry_ap, eGetD_ap, eLockI_ap, iKeyF_ap, sSetDef_ap, eTupVals_ap, sNst_ap, frzNAt_ap, sAppN_ap, sStN_ap, eListRg2_ap, eLam_ap, eCallP_ap, eNow_ap, dBef_ap, sShApp_ap, xShPop_ap, sShNow_ap, sShNowX_ap, sShClr_ap, yCall_ap, yOf_ap, yX_ap, yR_ap, yIf_ap, sRetS_ap, unX_ap, ytOf_ap, ytTru_ap, ytNot_ap, ytSeq_ap, ytCmp_ap, yaOf_ap, yaCons_ap, yApp_ap, eMethR_ap, sMakeSh_ap, runB_ap, gOne_ap, gMany_ap, dI_ap, yesC_ap, dCmp_int, setD, kill_nx, kill_rt, kill_rs, kill_bk, Option.bind_some, Option.map_some, Option.bind_none, Option.map_none, List.getElem?_cons_zero, List.getElem?_cons_succ, List.set_cons_zero, List.set_cons_succ, List.cons_append, List.nil_append, List.append_nil, List.replicate, List.length_cons, List.length_nil, Nat.reduceAdd, Nat.reduceSub, Nat.zero_add, wdat_no, wdat_d, wdat_town, wdat_ol, wdat_od, wfrz_no, wfrz_d, wfrz_town, wfrz_ol, wfrz_od, wval_no, wval_d, wval_town, wval_ol, wval_od, warg_no, warg_d, warg_town, warg_ol, warg_od, vals, gLen, gAbs, gMax2, gMin2, gInt, gTup, gList, wipeW, if_true, if_false, Bool.false_eq_true, Bool.not_true, Bool.not_false, reduceCtorEq, q_Up_Up, q_Up_Down, q_Up_Part, q_Up_Rest, q_Up_Table, q_Up_Among, q_Up_Sum, q_Up_Gap, q_Down_Up, q_Down_Down, q_Down_Part, q_Down_Rest, q_Down_Table, q_Down_Among, q_Down_Sum, q_Down_Gap, q_Part_Up, q_Part_Down, q_Part_Part, q_Part_Rest, q_Part_Table, q_Part_Among, q_Part_Sum, q_Part_Gap, q_Rest_Up, q_Rest_Down, q_Rest_Part, q_Rest_Rest, q_Rest_Table, q_Rest_Among, q_Rest_Sum, q_Rest_Gap, q_Table_Up, q_Table_Down, q_Table_Part, q_Table_Rest, q_Table_Table, q_Table_Among, q_Table_Sum, q_Table_Gap, q_Among_Up, q_Among_Down, q_Among_Part, q_Among_Rest, q_Among_Table, q_Among_Among, q_Among_Sum, q_Among_Gap, q_Sum_Up, q_Sum_Down, q_Sum_Part, q_Sum_Rest, q_Sum_Table, q_Sum_Among, q_Sum_Sum, q_Sum_Gap, q_Gap_Up, q_Gap_Down, q_Gap_Part, q_Gap_Rest, q_Gap_Table, q_Gap_Among, q_Gap_Sum, q_Gap_Gap, q_Most_Up, q_Most_Down, q_Most_Part, q_Most_Rest, q_Most_Table, q_Most_Among, q_Most_Sum, q_Most_Gap, i0, i1, i2, dAdd_int, dSub_int, rLt, rLe, rGt, rGe, dEq_int, dNe_int, dIn_ints, dNotIn_ints, isTupD, isLstD, PK.d, ixTh (t := t) (show pl3 a from h.1), hm, decide_false, PK.worth, List.length_map]
  | among a l =>
    by_cases hm : t.at a ∈ l
    · simp -implicitDefEqProofs only [eVar_ap, dVar_ap, eC_ap, dOf_ap, eFrz_ap, eBin_ap, bTest_ap, bTru_ap, bAnd_ap, bOr_ap, bNot_ap, eIf_ap, eB_ap, eAnd_ap, eOr_ap, aNil_ap, aCons_ap, sNil_ap, sCons_ap, eTup_ap, eLst_ap, eCall_ap, eApp_ap, oNone_ap, oSome_ap, eSl_ap, sNil'_ap, sSeq_ap, sBrk_ap, sRet_ap, sRetN_ap, sRetO_ap, sDrop_ap, sIf_ap, sSet_ap, sApp_ap, sTown_ap, sExt_ap, sIns_ap, sSetIx_ap, sAsg_ap, sPar_ap, iOf_ap, iVal_ap, iRng1_ap, iRng2_ap, sFor_ap, eComp_ap, bYes_ap, frzAt_ap, eUn_ap, eNotD_ap, eOrD_ap, eChain_ap, eListRg1_ap, eIsa_ap, eMt_ap, iEnumV_ap, iEnumF_ap, iZipV_ap, iZipF_ap, eTLen_ap, iRng3D_ap, sEnd_ap, eSs_ap, sPar3_ap, xPop_ap, xTup1_ap, xCat_ap, sSetX_ap, sAppX_ap, sParO_ap, sForEI_ap, sForK_ap, eRep_ap, eDicK_ap, eDicT_ap, sPut_ap, eAlt_ap, sTry_ap, eGetD_ap, eLockI_ap, iKeyF_ap, sSetDef_ap, eTupVals_ap, sNst_ap, frzNAt_ap, sAppN_ap, sStN_ap, eListRg2_ap, eLam_ap, eCallP_ap, eNow_ap, dBef_ap, sShApp_ap, xShPop_ap, sShNow_ap, sShNowX_ap, sShClr_ap, yCall_ap, yOf_ap, yX_ap, yR_ap, yIf_ap, sRetS_ap, unX_ap, ytOf_ap, ytTru_ap, ytNot_ap, ytSeq_ap, ytCmp_ap, yaOf_ap, yaCons_ap, yApp_ap, eMethR_ap, sMakeSh_ap, runB_ap, gOne_ap, gMany_ap, dI_ap, yesC_ap, dCmp_int, setD, kill_nx, kill_rt, kill_rs, kill_bk, Option.bind_some, Option.map_some, Option.bind_none, Option.map_none, List.getElem?_cons_zero, List.getElem?_cons_succ, List.set_cons_zero, List.set_cons_succ, List.cons_append, List.nil_append, List.append_nil, List.replicate, List.length_cons, List.length_nil, Nat.reduceAdd, Nat.reduceSub, Nat.zero_add, wdat_no, wdat_d, wdat_town, wdat_ol, wdat_od, wfrz_no, wfrz_d, wfrz_town, wfrz_ol, wfrz_od, wval_no, wval_d, wval_town, wval_ol, wval_od, warg_no, warg_d, warg_town, warg_ol, warg_od, vals, gLen, gAbs, gMax2, gMin2, gInt, gTup, gList, wipeW, if_true, if_false, Bool.false_eq_true, Bool.not_true, Bool.not_false, reduceCtorEq, q_Up_Up, q_Up_Down, q_Up_Part, q_Up_Rest, q_Up_Table, q_Up_Among, q_Up_Sum, q_Up_Gap, q_Down_Up, q_Down_Down, q_Down_Part, q_Down_Rest, q_Down_Table, q_Down_Among, q_Down_Sum, q_Down_Gap, q_Part_Up, q_Part_Down, q_Part_Part, q_Part_Rest, q_Part_Table, q_Part_Among, q_Part_Sum, q_Part_Gap, q_Rest_Up, q_Rest_Down, q_Rest_Part, q_Rest_Rest, q_Rest_Table, q_Rest_Among, q_Rest_Sum, q_Rest_Gap, q_Table_Up, q_Table_Down, q_Table_Part, q_Table_Rest, q_Table_Table, q_Table_Among, q_Table_Sum, q_Table_Gap, q_Among_Up, q_Among_Down, q_Among_Part, q_Among_Rest, q_Among_Table, q_Among_Among, q_Among_Sum, q_Among_Gap, q_Sum_Up, q_Sum_Down, q_Sum_Part, q_Sum_Rest, q_Sum_Table, q_Sum_Among, q_Sum_Sum, q_Sum_Gap, q_Gap_Up, q_Gap_Down, q_Gap_Part, q_Gap_Rest, q_Gap_Table, q_Gap_Among, q_Gap_Sum, q_Gap_Gap, q_Most_Up, q_Most_Down, q_Most_Part, q_Most_Rest, q_Most_Table, q_Most_Among, q_Most_Sum, q_Most_Gap, i0, i1, i2, dAdd_int, dSub_int, rLt, rLe, rGt, rGe, dEq_int, dNe_int, dIn_ints, dNotIn_ints, isTupD, isLstD, PK.d, ixTh (t := t) (show pl3 a from h.1), hm, decide_true, PK.worth]
    · simp -implicitDefEqProofs only [eVar_ap, dVar_ap, eC_ap, dOf_ap, eFrz_ap, eBin_ap, bTest_ap, bTru_ap, bAnd_ap, bOr_ap, bNot_ap, eIf_ap, eB_ap, eAnd_ap, eOr_ap, aNil_ap, aCons_ap, sNil_ap, sCons_ap, eTup_ap, eLst_ap, eCall_ap, eApp_ap, oNone_ap, oSome_ap, eSl_ap, sNil'_ap, sSeq_ap, sBrk_ap, sRet_ap, sRetN_ap, sRetO_ap, sDrop_ap, sIf_ap, sSet_ap, sApp_ap, sTown_ap, sExt_ap, sIns_ap, sSetIx_ap, sAsg_ap, sPar_ap, iOf_ap, iVal_ap, iRng1_ap, iRng2_ap, sFor_ap, eComp_ap, bYes_ap, frzAt_ap, eUn_ap, eNotD_ap, eOrD_ap, eChain_ap, eListRg1_ap, eIsa_ap, eMt_ap, iEnumV_ap, iEnumF_ap, iZipV_ap, iZipF_ap, eTLen_ap, iRng3D_ap, sEnd_ap, eSs_ap, sPar3_ap, xPop_ap, xTup1_ap, xCat_ap, sSetX_ap, sAppX_ap, sParO_ap, sForEI_ap, sForK_ap, eRep_ap, eDicK_ap, eDicT_ap, sPut_ap, eAlt_ap, sTry_ap, eGetD_ap, eLockI_ap, iKeyF_ap, sSetDef_ap, eTupVals_ap, sNst_ap, frzNAt_ap, sAppN_ap, sStN_ap, eListRg2_ap, eLam_ap, eCallP_ap, eNow_ap, dBef_ap, sShApp_ap, xShPop_ap, sShNow_ap, sShNowX_ap, sShClr_ap, yCall_ap, yOf_ap, yX_ap, yR_ap, yIf_ap, sRetS_ap, unX_ap, ytOf_ap, ytTru_ap, ytNot_ap, ytSeq_ap, ytCmp_ap, yaOf_ap, yaCons_ap, yApp_ap, eMethR_ap, sMakeSh_ap, runB_ap, gOne_ap, gMany_ap, dI_ap, yesC_ap, dCmp_int, setD, kill_nx, kill_rt, kill_rs, kill_bk, Option.bind_some, Option.map_some, Option.bind_none, Option.map_none, List.getElem?_cons_zero, List.getElem?_cons_succ, List.set_cons_zero, List.set_cons_succ, List.cons_append, List.nil_append, List.append_nil, List.replicate, List.length_cons, List.length_nil, Nat.reduceAdd, Nat.reduceSub, Nat.zero_add, wdat_no, wdat_d, wdat_town, wdat_ol, wdat_od, wfrz_no, wfrz_d, wfrz_town, wfrz_ol, wfrz_od, wval_no, wval_d, wval_town, wval_ol, wval_od, warg_no, warg_d, warg_town, warg_ol, warg_od, vals, gLen, gAbs, gMax2, gMin2, gInt, gTup, gList, wipeW, if_true, if_false, Bool.false_eq_true, Bool.not_true, Bool.not_false, reduceCtorEq, q_Up_Up, q_Up_Down, q_Up_Part, q_Up_Rest, q_Up_Table, q_Up_Among, q_Up_Sum, q_Up_Gap, q_Down_Up, q_Down_Down, q_Down_Part, q_Down_Rest, q_Down_Table, q_Down_Among, q_Down_Sum, q_Down_Gap, q_Part_Up, q_Part_Down, q_Part_Part, q_Part_Rest, q_Part_Table, q_Part_Among, q_Part_Sum, q_Part_Gap, q_Rest_Up, q_Rest_Down, q_Rest_Part, q_Rest_Rest, q_Rest_Table, q_Rest_Among, q_Rest_Sum, q_Rest_Gap, q_Table_Up, q_Table_Down, q_Table_Part, q_Table_Rest, q_Table_Table, q_Table_Among, q_Table_Sum, q_Table_Gap, q_Among_Up, q_Among_Down, q_Among_Part, q_Among_Rest, q_Among_Table, q_Among_Among, q_Among_Sum, q_Among_Gap, q_Sum_Up, q_Sum_Down, q_Sum_Part, q_Sum_Rest, q_Sum_Table, q_Sum_Among, q_Sum_Sum, q_Sum_Gap, q_Gap_Up, q_Gap_Down, q_Gap_Part, q_Gap_Rest, q_Gap_Table, q_Gap_Among, q_Gap_Sum, q_Gap_Gap, q_Most_Up, q_Most_Down, q_Most_Part, q_Most_Rest, q_Most_Table, q_Most_Among, q_Most_Sum, q_Most_Gap, i0, i1, i2, dAdd_int, dSub_int, rLt, rLe, rGt, rGe, dEq_int, dNe_int, dIn_ints, dNotIn_ints, isTupD, isLstD, PK.d, ixTh (t := t) (show pl3 a from h.1), hm, decide_false, PK.worth]
  | sum a b => simp -implicitDefEqProofs only [eVar_ap, dVar_ap, eC_ap, dOf_ap, eFrz_ap, eBin_ap, bTest_ap, bTru_ap, bAnd_ap, bOr_ap, bNot_ap, eIf_ap, eB_ap, eAnd_ap, eOr_ap, aNil_ap, aCons_ap, sNil_ap, sCons_ap, eTup_ap, eLst_ap, eCall_ap, eApp_ap, oNone_ap, oSome_ap, eSl_ap, sNil'_ap, sSeq_ap, sBrk_ap, sRet_ap, sRetN_ap, sRetO_ap, sDrop_ap, sIf_ap, sSet_ap, sApp_ap, sTown_ap, sExt_ap, sIns_ap, sSetIx_ap, sAsg_ap, sPar_ap, iOf_ap, iVal_ap, iRng1_ap, iRng2_ap, sFor_ap, eComp_ap, bYes_ap, frzAt_ap, eUn_ap, eNotD_ap, eOrD_ap, eChain_ap, eListRg1_ap, eIsa_ap, eMt_ap, iEnumV_ap, iEnumF_ap, iZipV_ap, iZipF_ap, eTLen_ap, iRng3D_ap, sEnd_ap, eSs_ap, sPar3_ap, xPop_ap, xTup1_ap, xCat_ap, sSetX_ap, sAppX_ap, sParO_ap, sForEI_ap, sForK_ap, eRep_ap, eDicK_ap, eDicT_ap, sPut_ap, eAlt_ap, sTry_ap, eGetD_ap, eLockI_ap, iKeyF_ap, sSetDef_ap, eTupVals_ap, sNst_ap, frzNAt_ap, sAppN_ap, sStN_ap, eListRg2_ap, eLam_ap, eCallP_ap, eNow_ap, dBef_ap, sShApp_ap, xShPop_ap, sShNow_ap, sShNowX_ap, sShClr_ap, yCall_ap, yOf_ap, yX_ap, yR_ap, yIf_ap, sRetS_ap, unX_ap, ytOf_ap, ytTru_ap, ytNot_ap, ytSeq_ap, ytCmp_ap, yaOf_ap, yaCons_ap, yApp_ap, eMethR_ap, sMakeSh_ap, runB_ap, gOne_ap, gMany_ap, dI_ap, yesC_ap, dCmp_int, setD, kill_nx, kill_rt, kill_rs, kill_bk, Option.bind_some, Option.map_some, Option.bind_none, Option.map_none, List.getElem?_cons_zero, List.getElem?_cons_succ, List.set_cons_zero, List.set_cons_succ, List.cons_append, List.nil_append, List.append_nil, List.replicate, List.length_cons, List.length_nil, Nat.reduceAdd, Nat.reduceSub, Nat.zero_add, wdat_no, wdat_d, wdat_town, wdat_ol, wdat_od, wfrz_no, wfrz_d, wfrz_town, wfrz_ol, wfrz_od, wval_no, wval_d, wval_town, wval_ol, wval_od, warg_no, warg_d, warg_town, warg_ol, warg_od, vals, gLen, gAbs, gMax2, gMin2, gInt, gTup, gList, wipeW, if_true, if_false, Bool.false_eq_true, Bool.not_true, Bool.not_false, reduceCtorEq, q_Up_Up, q_Up_Down, q_Up_Part, q_Up_Rest, q_Up_Table, q_Up_Among, q_Up_Sum, q_Up_Gap, q_Down_Up, q_Down_Down, q_Down_Part, q_Down_Rest, q_Down_Table, q_Down_Among, q_Down_Sum, q_Down_Gap, q_Part_Up, q_Part_Down, q_Part_Part, q_Part_Rest, q_Part_Table, q_Part_Among, q_Part_Sum, q_Part_Gap, q_Rest_Up, q_Rest_Down, q_Rest_Part, q_Rest_Rest, q_Rest_Table, q_Rest_Among, q_Rest_Sum, q_Rest_Gap, q_Table_Up, q_Table_Down, q_Table_Part, q_Table_Rest, q_Table_Table, q_Table_Among, q_Table_Sum, q_Table_Gap, q_Among_Up, q_Among_Down, q_Among_Part, q_Among_Rest, q_Among_Table, q_Among_Among, q_Among_Sum, q_Among_Gap, q_Sum_Up, q_Sum_Down, q_Sum_Part, q_Sum_Rest, q_Sum_Table, q_Sum_Among, q_Sum_Sum, q_Sum_Gap, q_Gap_Up, q_Gap_Down, q_Gap_Part, q_Gap_Rest, q_Gap_Table, q_Gap_Among, q_Gap_Sum, q_Gap_Gap, q_Most_Up, q_Most_Down, q_Most_Part, q_Most_Rest, q_Most_Table, q_Most_Among, q_Most_Sum, q_Most_Gap, i0, i1, i2, dAdd_int, dSub_int, rLt, rLe, rGt, rGe, dEq_int, dNe_int, dIn_ints, dNotIn_ints, isTupD, isLstD, PK.d, ixTh (t := t) (show pl3 a from (prOk.l h).1), ixTh (t := t) (show pl3 b from (prOk.l h).2)]; rfl
  | gap a b => simp -implicitDefEqProofs only [eVar_ap, dVar_ap, eC_ap, dOf_ap, eFrz_ap, eBin_ap, bTest_ap, bTru_ap, bAnd_ap, bOr_ap, bNot_ap, eIf_ap, eB_ap, eAnd_ap, eOr_ap, aNil_ap, aCons_ap, sNil_ap, sCons_ap, eTup_ap, eLst_ap, eCall_ap, eApp_ap, oNone_ap, oSome_ap, eSl_ap, sNil'_ap, sSeq_ap, sBrk_ap, sRet_ap, sRetN_ap, sRetO_ap, sDrop_ap, sIf_ap, sSet_ap, sApp_ap, sTown_ap, sExt_ap, sIns_ap, sSetIx_ap, sAsg_ap, sPar_ap, iOf_ap, iVal_ap, iRng1_ap, iRng2_ap, sFor_ap, eComp_ap, bYes_ap, frzAt_ap, eUn_ap, eNotD_ap, eOrD_ap, eChain_ap, eListRg1_ap, eIsa_ap, eMt_ap, iEnumV_ap, iEnumF_ap, iZipV_ap, iZipF_ap, eTLen_ap, iRng3D_ap, sEnd_ap, eSs_ap, sPar3_ap, xPop_ap, xTup1_ap, xCat_ap, sSetX_ap, sAppX_ap, sParO_ap, sForEI_ap, sForK_ap, eRep_ap, eDicK_ap, eDicT_ap, sPut_ap, eAlt_ap, sTry_ap, eGetD_ap, eLockI_ap, iKeyF_ap, sSetDef_ap, eTupVals_ap, sNst_ap, frzNAt_ap, sAppN_ap, sStN_ap, eListRg2_ap, eLam_ap, eCallP_ap, eNow_ap, dBef_ap, sShApp_ap, xShPop_ap, sShNow_ap, sShNowX_ap, sShClr_ap, yCall_ap, yOf_ap, yX_ap, yR_ap, yIf_ap, sRetS_ap, unX_ap, ytOf_ap, ytTru_ap, ytNot_ap, ytSeq_ap, ytCmp_ap, yaOf_ap, yaCons_ap, yApp_ap, eMethR_ap, sMakeSh_ap, runB_ap, gOne_ap, gMany_ap, dI_ap, yesC_ap, dCmp_int, setD, kill_nx, kill_rt, kill_rs, kill_bk, Option.bind_some, Option.map_some, Option.bind_none, Option.map_none, List.getElem?_cons_zero, List.getElem?_cons_succ, List.set_cons_zero, List.set_cons_succ, List.cons_append, List.nil_append, List.append_nil, List.replicate, List.length_cons, List.length_nil, Nat.reduceAdd, Nat.reduceSub, Nat.zero_add, wdat_no, wdat_d, wdat_town, wdat_ol, wdat_od, wfrz_no, wfrz_d, wfrz_town, wfrz_ol, wfrz_od, wval_no, wval_d, wval_town, wval_ol, wval_od, warg_no, warg_d, warg_town, warg_ol, warg_od, vals, gLen, gAbs, gMax2, gMin2, gInt, gTup, gList, wipeW, if_true, if_false, Bool.false_eq_true, Bool.not_true, Bool.not_false, reduceCtorEq, q_Up_Up, q_Up_Down, q_Up_Part, q_Up_Rest, q_Up_Table, q_Up_Among, q_Up_Sum, q_Up_Gap, q_Down_Up, q_Down_Down, q_Down_Part, q_Down_Rest, q_Down_Table, q_Down_Among, q_Down_Sum, q_Down_Gap, q_Part_Up, q_Part_Down, q_Part_Part, q_Part_Rest, q_Part_Table, q_Part_Among, q_Part_Sum, q_Part_Gap, q_Rest_Up, q_Rest_Down, q_Rest_Part, q_Rest_Rest, q_Rest_Table, q_Rest_Among, q_Rest_Sum, q_Rest_Gap, q_Table_Up, q_Table_Down, q_Table_Part, q_Table_Rest, q_Table_Table, q_Table_Among, q_Table_Sum, q_Table_Gap, q_Among_Up, q_Among_Down, q_Among_Part, q_Among_Rest, q_Among_Table, q_Among_Among, q_Among_Sum, q_Among_Gap, q_Sum_Up, q_Sum_Down, q_Sum_Part, q_Sum_Rest, q_Sum_Table, q_Sum_Among, q_Sum_Sum, q_Sum_Gap, q_Gap_Up, q_Gap_Down, q_Gap_Part, q_Gap_Rest, q_Gap_Table, q_Gap_Among, q_Gap_Sum, q_Gap_Gap, q_Most_Up, q_Most_Down, q_Most_Part, q_Most_Rest, q_Most_Table, q_Most_Among, q_Most_Sum, q_Most_Gap, i0, i1, i2, dAdd_int, dSub_int, rLt, rLe, rGt, rGe, dEq_int, dNe_int, dIn_ints, dNotIn_ints, isTupD, isLstD, PK.d, ixTh (t := t) (show pl3 a from (prOk.l h).1), ixTh (t := t) (show pl3 b from (prOk.l h).2)]; rfl
  | most a b => simp -implicitDefEqProofs only [eVar_ap, dVar_ap, eC_ap, dOf_ap, eFrz_ap, eBin_ap, bTest_ap, bTru_ap, bAnd_ap, bOr_ap, bNot_ap, eIf_ap, eB_ap, eAnd_ap, eOr_ap, aNil_ap, aCons_ap, sNil_ap, sCons_ap, eTup_ap, eLst_ap, eCall_ap, eApp_ap, oNone_ap, oSome_ap, eSl_ap, sNil'_ap, sSeq_ap, sBrk_ap, sRet_ap, sRetN_ap, sRetO_ap, sDrop_ap, sIf_ap, sSet_ap, sApp_ap, sTown_ap, sExt_ap, sIns_ap, sSetIx_ap, sAsg_ap, sPar_ap, iOf_ap, iVal_ap, iRng1_ap, iRng2_ap, sFor_ap, eComp_ap, bYes_ap, frzAt_ap, eUn_ap, eNotD_ap, eOrD_ap, eChain_ap, eListRg1_ap, eIsa_ap, eMt_ap, iEnumV_ap, iEnumF_ap, iZipV_ap, iZipF_ap, eTLen_ap, iRng3D_ap, sEnd_ap, eSs_ap, sPar3_ap, xPop_ap, xTup1_ap, xCat_ap, sSetX_ap, sAppX_ap, sParO_ap, sForEI_ap, sForK_ap, eRep_ap, eDicK_ap, eDicT_ap, sPut_ap, eAlt_ap, sTry_ap, eGetD_ap, eLockI_ap, iKeyF_ap, sSetDef_ap, eTupVals_ap, sNst_ap, frzNAt_ap, sAppN_ap, sStN_ap, eListRg2_ap, eLam_ap, eCallP_ap, eNow_ap, dBef_ap, sShApp_ap, xShPop_ap, sShNow_ap, sShNowX_ap, sShClr_ap, yCall_ap, yOf_ap, yX_ap, yR_ap, yIf_ap, sRetS_ap, unX_ap, ytOf_ap, ytTru_ap, ytNot_ap, ytSeq_ap, ytCmp_ap, yaOf_ap, yaCons_ap, yApp_ap, eMethR_ap, sMakeSh_ap, runB_ap, gOne_ap, gMany_ap, dI_ap, yesC_ap, dCmp_int, setD, kill_nx, kill_rt, kill_rs, kill_bk, Option.bind_some, Option.map_some, Option.bind_none, Option.map_none, List.getElem?_cons_zero, List.getElem?_cons_succ, List.set_cons_zero, List.set_cons_succ, List.cons_append, List.nil_append, List.append_nil, List.replicate, List.length_cons, List.length_nil, Nat.reduceAdd, Nat.reduceSub, Nat.zero_add, wdat_no, wdat_d, wdat_town, wdat_ol, wdat_od, wfrz_no, wfrz_d, wfrz_town, wfrz_ol, wfrz_od, wval_no, wval_d, wval_town, wval_ol, wval_od, warg_no, warg_d, warg_town, warg_ol, warg_od, vals, gLen, gAbs, gMax2, gMin2, gInt, gTup, gList, wipeW, if_true, if_false, Bool.false_eq_true, Bool.not_true, Bool.not_false, reduceCtorEq, q_Up_Up, q_Up_Down, q_Up_Part, q_Up_Rest, q_Up_Table, q_Up_Among, q_Up_Sum, q_Up_Gap, q_Down_Up, q_Down_Down, q_Down_Part, q_Down_Rest, q_Down_Table, q_Down_Among, q_Down_Sum, q_Down_Gap, q_Part_Up, q_Part_Down, q_Part_Part, q_Part_Rest, q_Part_Table, q_Part_Among, q_Part_Sum, q_Part_Gap, q_Rest_Up, q_Rest_Down, q_Rest_Part, q_Rest_Rest, q_Rest_Table, q_Rest_Among, q_Rest_Sum, q_Rest_Gap, q_Table_Up, q_Table_Down, q_Table_Part, q_Table_Rest, q_Table_Table, q_Table_Among, q_Table_Sum, q_Table_Gap, q_Among_Up, q_Among_Down, q_Among_Part, q_Among_Rest, q_Among_Table, q_Among_Among, q_Among_Sum, q_Among_Gap, q_Sum_Up, q_Sum_Down, q_Sum_Part, q_Sum_Rest, q_Sum_Table, q_Sum_Among, q_Sum_Sum, q_Sum_Gap, q_Gap_Up, q_Gap_Down, q_Gap_Part, q_Gap_Rest, q_Gap_Table, q_Gap_Among, q_Gap_Sum, q_Gap_Gap, q_Most_Up, q_Most_Down, q_Most_Part, q_Most_Rest, q_Most_Table, q_Most_Among, q_Most_Sum, q_Most_Gap, i0, i1, i2, dAdd_int, dSub_int, rLt, rLe, rGt, rGe, dEq_int, dNe_int, dIn_ints, dNotIn_ints, isTupD, isLstD, PK.d, ixTh (t := t) (show pl3 a from (prOk.l h).1), ixTh (t := t) (show pl3 b from (prOk.l h).2)]; rfl
theorem worth_ok (k : Ky) (h : k.ok) (t : Th) (n : Nat) : m_worth [.d k.d, .d t.d] n = some (I' (k.worth t), n) := by
  cases k with
  | pl p => exact worth_pl 3 p h t n
  | dn p =>
    show m_worth_ 4 _ _ = _
    unfold m_worth_ b_worth
    simp -implicitDefEqProofs only [eVar_ap, dVar_ap, eC_ap, dOf_ap, eFrz_ap, eBin_ap, bTest_ap, bTru_ap, bAnd_ap, bOr_ap, bNot_ap, eIf_ap, eB_ap, eAnd_ap, eOr_ap, aNil_ap, aCons_ap, sNil_ap, sCons_ap, eTup_ap, eLst_ap, eCall_ap, eApp_ap, oNone_ap, oSome_ap, eSl_ap, sNil'_ap, sSeq_ap, sBrk_ap, sRet_ap, sRetN_ap, sRetO_ap, sDrop_ap, sIf_ap, sSet_ap, sApp_ap, sTown_ap, sExt_ap, sIns_ap, sSetIx_ap, sAsg_ap, sPar_ap, iOf_ap, iVal_ap, iRng1_ap, iRng2_ap, sFor_ap, eComp_ap, bYes_ap, frzAt_ap, eUn_ap, eNotD_ap, eOrD_ap, eChain_ap, eListRg1_ap, eIsa_ap, eMt_ap, iEnumV_ap, iEnumF_ap, iZipV_ap, iZipF_ap, eTLen_ap, iRng3D_ap, sEnd_ap, eSs_ap, sPar3_ap, xPop_ap, xTup1_ap, xCat_ap, sSetX_ap, sAppX_ap, sParO_ap, sForEI_ap, sForK_ap, eRep_ap, eDicK_ap, eDicT_ap, sPut_ap, eAlt_ap, sTry_ap, eGetD_ap, eLockI_ap, iKeyF_ap, sSetDef_ap, eTupVals_ap, sNst_ap, frzNAt_ap, sAppN_ap, sStN_ap, eListRg2_ap, eLam_ap, eCallP_ap, eNow_ap, dBef_ap, sShApp_ap, xShPop_ap, sShNow_ap, sShNowX_ap, sShClr_ap, yCall_ap, yOf_ap, yX_ap, yR_ap, yIf_ap, sRetS_ap, unX_ap, ytOf_ap, ytTru_ap, ytNot_ap, ytSeq_ap, ytCmp_ap, yaOf_ap, yaCons_ap, yApp_ap, eMethR_ap, sMakeSh_ap, runB_ap, gOne_ap, gMany_ap, dI_ap, yesC_ap, dCmp_int, setD, kill_nx, kill_rt, kill_rs, kill_bk, Option.bind_some, Option.map_some, Option.bind_none, Option.map_none, List.getElem?_cons_zero, List.getElem?_cons_succ, List.set_cons_zero, List.set_cons_succ, List.cons_append, List.nil_append, List.append_nil, List.replicate, List.length_cons, List.length_nil, Nat.reduceAdd, Nat.reduceSub, Nat.zero_add, wdat_no, wdat_d, wdat_town, wdat_ol, wdat_od, wfrz_no, wfrz_d, wfrz_town, wfrz_ol, wfrz_od, wval_no, wval_d, wval_town, wval_ol, wval_od, warg_no, warg_d, warg_town, warg_ol, warg_od, vals, gLen, gAbs, gMax2, gMin2, gInt, gTup, gList, wipeW, if_true, if_false, Bool.false_eq_true, Bool.not_true, Bool.not_false, reduceCtorEq, q_Up_Up, q_Up_Down, q_Up_Part, q_Up_Rest, q_Up_Table, q_Up_Among, q_Up_Sum, q_Up_Gap, q_Down_Up, q_Down_Down, q_Down_Part, q_Down_Rest, q_Down_Table, q_Down_Among, q_Down_Sum, q_Down_Gap, q_Part_Up, q_Part_Down, q_Part_Part, q_Part_Rest, q_Part_Table, q_Part_Among, q_Part_Sum, q_Part_Gap, q_Rest_Up, q_Rest_Down, q_Rest_Part, q_Rest_Rest, q_Rest_Table, q_Rest_Among, q_Rest_Sum, q_Rest_Gap, q_Table_Up, q_Table_Down, q_Table_Part, q_Table_Rest, q_Table_Table, q_Table_Among, q_Table_Sum, q_Table_Gap, q_Among_Up, q_Among_Down, q_Among_Part, q_Among_Rest, q_Among_Table, q_Among_Among, q_Among_Sum, q_Among_Gap, q_Sum_Up, q_Sum_Down, q_Sum_Part, q_Sum_Rest, q_Sum_Table, q_Sum_Among, q_Sum_Sum, q_Sum_Gap, q_Gap_Up, q_Gap_Down, q_Gap_Part, q_Gap_Rest, q_Gap_Table, q_Gap_Among, q_Gap_Sum, q_Gap_Gap, q_Most_Up, q_Most_Down, q_Most_Part, q_Most_Rest, q_Most_Table, q_Most_Among, q_Most_Sum, q_Most_Gap, i0, i1, i2, dAdd_int, dSub_int, rLt, rLe, rGt, rGe, dEq_int, dNe_int, dIn_ints, dNotIn_ints, isTupD, isLstD, Ky.d, worth_pl 2 p h t n]
    rfl
/-! rows -/
abbrev Rw := List Ky
def Rw.ok (r : Rw) : Prop := ∀ k ∈ r, k.ok
def wts (r : Rw) (t : Th) : List Int := r.map fun k => k.worth t
theorem worths_ok (r : Rw) (h : Rw.ok r) (hl : r.length ≤ 1000000) (t : Th) (n : Nat) : m_worths [.d (rowD r), .d t.d] n = some (.d (ti (wts r t)), n) := by
  have e : loopC (gOne 2) [2] bYes (eCall m_worth (aCons (eVar 2) (aCons (eVar 1) aNil))) [.d (rowD r), .d t.d, .no] (r.map Ky.d) n = some ((wts r t).map .int, n) := by
    unfold wts
    clear hl
    suffices ∀ (ρ0 : W), loopC (gOne 2) [2] bYes (eCall m_worth (aCons (eVar 2) (aCons (eVar 1) aNil))) [ρ0, .d t.d, .no] (r.map Ky.d) n = some ((r.map fun k => k.worth t).map .int, n) from this _
    intro ρ0
    induction r with
    | nil => rfl
    | cons k r ih =>
      rw [List.map_cons, loopC_cons]
      simp -implicitDefEqProofs only [eVar_ap, dVar_ap, eC_ap, dOf_ap, eFrz_ap, eBin_ap, bTest_ap, bTru_ap, bAnd_ap, bOr_ap, bNot_ap, eIf_ap, eB_ap, eAnd_ap, eOr_ap, aNil_ap, aCons_ap, sNil_ap, sCons_ap, eTup_ap, eLst_ap, eCall_ap, eApp_ap, oNone_ap, oSome_ap, eSl_ap, sNil'_ap, sSeq_ap, sBrk_ap, sRet_ap, sRetN_ap, sRetO_ap, sDrop_ap, sIf_ap, sSet_ap, sApp_ap, sTown_ap, sExt_ap, sIns_ap, sSetIx_ap, sAsg_ap, sPar_ap, iOf_ap, iVal_ap, iRng1_ap, iRng2_ap, sFor_ap, eComp_ap, bYes_ap, frzAt_ap, eUn_ap, eNotD_ap, eOrD_ap, eChain_ap, eListRg1_ap, eIsa_ap, eMt_ap, iEnumV_ap, iEnumF_ap, iZipV_ap, iZipF_ap, eTLen_ap, iRng3D_ap, sEnd_ap, eSs_ap, sPar3_ap, xPop_ap, xTup1_ap, xCat_ap, sSetX_ap, sAppX_ap, sParO_ap, sForEI_ap, sForK_ap, eRep_ap, eDicK_ap, eDicT_ap, sPut_ap, eAlt_ap, sTry_ap, eGetD_ap, eLockI_ap, iKeyF_ap, sSetDef_ap, eTupVals_ap, sNst_ap, frzNAt_ap, sAppN_ap, sStN_ap, eListRg2_ap, eLam_ap, eCallP_ap, eNow_ap, dBef_ap, sShApp_ap, xShPop_ap, sShNow_ap, sShNowX_ap, sShClr_ap, yCall_ap, yOf_ap, yX_ap, yR_ap, yIf_ap, sRetS_ap, unX_ap, ytOf_ap, ytTru_ap, ytNot_ap, ytSeq_ap, ytCmp_ap, yaOf_ap, yaCons_ap, yApp_ap, eMethR_ap, sMakeSh_ap, runB_ap, gOne_ap, gMany_ap, dI_ap, yesC_ap, dCmp_int, setD, kill_nx, kill_rt, kill_rs, kill_bk, Option.bind_some, Option.map_some, Option.bind_none, Option.map_none, List.getElem?_cons_zero, List.getElem?_cons_succ, List.set_cons_zero, List.set_cons_succ, List.cons_append, List.nil_append, List.append_nil, List.replicate, List.length_cons, List.length_nil, Nat.reduceAdd, Nat.reduceSub, Nat.zero_add, wdat_no, wdat_d, wdat_town, wdat_ol, wdat_od, wfrz_no, wfrz_d, wfrz_town, wfrz_ol, wfrz_od, wval_no, wval_d, wval_town, wval_ol, wval_od, warg_no, warg_d, warg_town, warg_ol, warg_od, vals, gLen, gAbs, gMax2, gMin2, gInt, gTup, gList, wipeW, if_true, if_false, Bool.false_eq_true, Bool.not_true, Bool.not_false, reduceCtorEq, worth_ok k (h k (List.mem_cons_self ..)) t n, ih fun z hz => h z (List.mem_cons_of_mem _ hz), List.map_cons]
  have hb : (r.map Ky.d).length ≤ big := by rw [List.length_map]; exact le_big hl
  unfold m_worths b_worths
  simp -implicitDefEqProofs only [eVar_ap, dVar_ap, eC_ap, dOf_ap, eFrz_ap, eBin_ap, bTest_ap, bTru_ap, bAnd_ap, bOr_ap, bNot_ap, eIf_ap, eB_ap, eAnd_ap, eOr_ap, aNil_ap, aCons_ap, sNil_ap, sCons_ap, eTup_ap, eLst_ap, eCall_ap, eApp_ap, oNone_ap, oSome_ap, eSl_ap, sNil'_ap, sSeq_ap, sBrk_ap, sRet_ap, sRetN_ap, sRetO_ap, sDrop_ap, sIf_ap, sSet_ap, sApp_ap, sTown_ap, sExt_ap, sIns_ap, sSetIx_ap, sAsg_ap, sPar_ap, iOf_ap, iVal_ap, iRng1_ap, iRng2_ap, sFor_ap, eComp_ap, bYes_ap, frzAt_ap, eUn_ap, eNotD_ap, eOrD_ap, eChain_ap, eListRg1_ap, eIsa_ap, eMt_ap, iEnumV_ap, iEnumF_ap, iZipV_ap, iZipF_ap, eTLen_ap, iRng3D_ap, sEnd_ap, eSs_ap, sPar3_ap, xPop_ap, xTup1_ap, xCat_ap, sSetX_ap, sAppX_ap, sParO_ap, sForEI_ap, sForK_ap, eRep_ap, eDicK_ap, eDicT_ap, sPut_ap, eAlt_ap, sTry_ap, eGetD_ap, eLockI_ap, iKeyF_ap, sSetDef_ap, eTupVals_ap, sNst_ap, frzNAt_ap, sAppN_ap, sStN_ap, eListRg2_ap, eLam_ap, eCallP_ap, eNow_ap, dBef_ap, sShApp_ap, xShPop_ap, sShNow_ap, sShNowX_ap, sShClr_ap, yCall_ap, yOf_ap, yX_ap, yR_ap, yIf_ap, sRetS_ap, unX_ap, ytOf_ap, ytTru_ap, ytNot_ap, ytSeq_ap, ytCmp_ap, yaOf_ap, yaCons_ap, yApp_ap, eMethR_ap, sMakeSh_ap, runB_ap, gOne_ap, gMany_ap, dI_ap, yesC_ap, dCmp_int, setD, kill_nx, kill_rt, kill_rs, kill_bk, Option.bind_some, Option.map_some, Option.bind_none, Option.map_none, List.getElem?_cons_zero, List.getElem?_cons_succ, List.set_cons_zero, List.set_cons_succ, List.cons_append, List.nil_append, List.append_nil, List.replicate, List.length_cons, List.length_nil, Nat.reduceAdd, Nat.reduceSub, Nat.zero_add, wdat_no, wdat_d, wdat_town, wdat_ol, wdat_od, wfrz_no, wfrz_d, wfrz_town, wfrz_ol, wfrz_od, wval_no, wval_d, wval_town, wval_ol, wval_od, warg_no, warg_d, warg_town, warg_ol, warg_od, vals, gLen, gAbs, gMax2, gMin2, gInt, gTup, gList, wipeW, if_true, if_false, Bool.false_eq_true, Bool.not_true, Bool.not_false, reduceCtorEq, iSeq, hb, e]
/-- 1, 0, -1 -/
def tld (r : Rw) (s t : Th) : Int := (if lexB rGt zGt (wts r s) (wts r t) then 1 else 0) - (if lexB rLt zLt (wts r s) (wts r t) then 1 else 0)
theorem told_ok (r : Rw) (h : Rw.ok r) (hl : r.length ≤ 1000000) (s t : Th) (n : Nat) : m_told [.d (rowD r), .d s.d, .d t.d] n = some (I' (tld r s t), n) := by
  unfold m_told b_told
  simp -implicitDefEqProofs only [eVar_ap, dVar_ap, eC_ap, dOf_ap, eFrz_ap, eBin_ap, bTest_ap, bTru_ap, bAnd_ap, bOr_ap, bNot_ap, eIf_ap, eB_ap, eAnd_ap, eOr_ap, aNil_ap, aCons_ap, sNil_ap, sCons_ap, eTup_ap, eLst_ap, eCall_ap, eApp_ap, oNone_ap, oSome_ap, eSl_ap, sNil'_ap, sSeq_ap, sBrk_ap, sRet_ap, sRetN_ap, sRetO_ap, sDrop_ap, sIf_ap, sSet_ap, sApp_ap, sTown_ap, sExt_ap, sIns_ap, sSetIx_ap, sAsg_ap, sPar_ap, iOf_ap, iVal_ap, iRng1_ap, iRng2_ap, sFor_ap, eComp_ap, bYes_ap, frzAt_ap, eUn_ap, eNotD_ap, eOrD_ap, eChain_ap, eListRg1_ap, eIsa_ap, eMt_ap, iEnumV_ap, iEnumF_ap, iZipV_ap, iZipF_ap, eTLen_ap, iRng3D_ap, sEnd_ap, eSs_ap, sPar3_ap, xPop_ap, xTup1_ap, xCat_ap, sSetX_ap, sAppX_ap, sParO_ap, sForEI_ap, sForK_ap, eRep_ap, eDicK_ap, eDicT_ap, sPut_ap, eAlt_ap, sTry_ap, eGetD_ap, eLockI_ap, iKeyF_ap, sSetDef_ap, eTupVals_ap, sNst_ap, frzNAt_ap, sAppN_ap, sStN_ap, eListRg2_ap, eLam_ap, eCallP_ap, eNow_ap, dBef_ap, sShApp_ap, xShPop_ap, sShNow_ap, sShNowX_ap, sShClr_ap, yCall_ap, yOf_ap, yX_ap, yR_ap, yIf_ap, sRetS_ap, unX_ap, ytOf_ap, ytTru_ap, ytNot_ap, ytSeq_ap, ytCmp_ap, yaOf_ap, yaCons_ap, yApp_ap, eMethR_ap, sMakeSh_ap, runB_ap, gOne_ap, gMany_ap, dI_ap, yesC_ap, dCmp_int, setD, kill_nx, kill_rt, kill_rs, kill_bk, Option.bind_some, Option.map_some, Option.bind_none, Option.map_none, List.getElem?_cons_zero, List.getElem?_cons_succ, List.set_cons_zero, List.set_cons_succ, List.cons_append, List.nil_append, List.append_nil, List.replicate, List.length_cons, List.length_nil, Nat.reduceAdd, Nat.reduceSub, Nat.zero_add, wdat_no, wdat_d, wdat_town, wdat_ol, wdat_od, wfrz_no, wfrz_d, wfrz_town, wfrz_ol, wfrz_od, wval_no, wval_d, wval_town, wval_ol, wval_od, warg_no, warg_d, warg_town, warg_ol, warg_od, vals, gLen, gAbs, gMax2, gMin2, gInt, gTup, gList, wipeW, if_true, if_false, Bool.false_eq_true, Bool.not_true, Bool.not_false, reduceCtorEq, worths_ok r h hl s n, worths_ok r h hl t n, dCmp_tup, dSub_int]
  rfl
end L2.Lv.Sh
namespace L2.Lv.Sh
open PySem PySem.Spec PyProof.Rows L2 L2.Lv

/-- the first key that tells -/
def wrd : Rw → Th → Th → Int
  | [], _, _ => 0
  | k :: r, s, t => if k.worth s = k.worth t then wrd r s t else if k.worth s < k.worth t then -1 else 1
theorem tld_wrd (r : Rw) (s t : Th) : tld r s t = wrd r s t := by
  unfold tld wts
  induction r with
  | nil => rfl
  | cons k r ih =>
    simp only [List.map_cons, lexB]
    by_cases e : k.worth s = k.worth t
    · rw [if_pos e, if_pos e, ih]
      exact (if_pos e).symm
    · rw [if_neg e, if_neg e]
      show _ = if _ then _ else _
      rw [if_neg e]
      by_cases l : k.worth s < k.worth t
      · simp [rLt, rGt, l]; omega
      · simp [rLt, rGt, l]; omega
theorem told_ok' (r : Rw) (h : Rw.ok r) (hl : r.length ≤ 1000000) (s t : Th) (n : Nat) : m_told [.d (rowD r), .d s.d, .d t.d] n = some (I' (wrd r s t), n) := by rw [told_ok r h hl, tld_wrd]
theorem wrd_anti (r : Rw) (s t : Th) : wrd r t s = 0 - wrd r s t := by
  induction r with
  | nil => rfl
  | cons k r ih =>
    simp only [wrd]
    by_cases e : k.worth s = k.worth t
    · rw [if_pos e.symm, if_pos e, ih]
    · rw [if_neg e, if_neg (Ne.symm e)]
      split <;> split <;> omega
theorem wrd_refl (r : Rw) (s : Th) : wrd r s s = 0 := by have := wrd_anti r s s; omega
/-- the order is one -/
theorem wrd_trans (r : Rw) (s t u : Th) (h1 : wrd r s t < 1) (h2 : wrd r t u < 1) : wrd r s u < 1 := by
  induction r with
  | nil => exact Int.one_pos
  | cons k r ih =>
    simp only [wrd] at h1 h2 ⊢
    by_cases e1 : k.worth s = k.worth t
    · by_cases e2 : k.worth t = k.worth u
      · rw [if_pos e1] at h1; rw [if_pos e2] at h2; rw [if_pos (e1.trans e2)]; exact ih h1 h2
      · rw [if_neg e2] at h2
        rw [e1, if_neg e2]
        exact h2
    · rw [if_neg e1] at h1
      split at h1
      · by_cases e2 : k.worth t = k.worth u
        · rw [← e2, if_neg e1, if_pos (by assumption)]; decide
        · rw [if_neg e2] at h2
          split at h2
          · rw [if_neg (by omega), if_pos (by omega)]; decide
          · omega
      · omega
/-! turned -/
def Ky.turn : Ky → Ky
  | pl p => dn p
  | dn p => pl p
end L2.Lv.Sh
namespace L2.Lv.Sh
open PySem PySem.Spec PyProof.Rows L2 L2.Lv
/-- plain data, of depth at most k, its tuples not too long -/
def nc : Nat → PyData → Bool
  | 0, _ => false
  | _ + 1, .none => true
  | _ + 1, .bool _ => true
  | _ + 1, .int _ => true
  | _ + 1, .str s => shp (.str s)
  | k + 1, .tuple xs => decide (xs.length ≤ 1000000) && xs.all (nc k)
  | _ + 1, _ => false
theorem nc_sm : ∀ (k : Nat) (x : PyData), nc k x = true → sm k x = true ∧ short k x = true
  | 0, _, h => by simp [nc] at h
  | k + 1, .none, _ => ⟨rfl, rfl⟩
  | k + 1, .bool _, _ => ⟨rfl, rfl⟩
  | k + 1, .int _, _ => ⟨rfl, rfl⟩
  | k + 1, .str _, h => ⟨h, rfl⟩
  | k + 1, .tuple xs, h => by
    simp [nc] at h
    constructor
    · simp [sm]; exact fun x hx => (nc_sm k x (h.2 x hx)).1
    · simp [short]; exact ⟨h.1, fun x hx => (nc_sm k x (h.2 x hx)).2⟩
  | k + 1, .list _, h => by simp [nc] at h
  | k + 1, .dict _, h => by simp [nc] at h
theorem nc_mono : ∀ (k : Nat) (x : PyData), nc k x = true → nc (k + 1) x = true
  | 0, _, h => by simp [nc] at h
  | k + 1, .none, _ => rfl
  | k + 1, .bool _, _ => rfl
  | k + 1, .int _, _ => rfl
  | k + 1, .str _, h => h
  | k + 1, .tuple xs, h => by
    simp [nc] at h
    show (decide _ && xs.all (nc (k + 1))) = true
    simp
    exact ⟨h.1, fun x hx => nc_mono k x (h.2 x hx)⟩
  | k + 1, .list _, h => by simp [nc] at h
  | k + 1, .dict _, h => by simp [nc] at h
theorem nc_le {j k : Nat} {x : PyData} (h : nc j x = true) (l : j ≤ k) : nc k x = true := by
  induction k with
  | zero => obtain rfl : j = 0 := by omega
            exact h
  | succ k ih =>
    by_cases e : j = k + 1
    · subst e; exact h
    · exact nc_mono k x (ih (by omega))
theorem same_ok {x : PyData} (h : nc 12 x = true) (n : Nat) : m__law_same [.d x, .d x] n = some (.d (.bool true), n) := same_refl 12 x n (nc_sm 12 x h).1 (nc_sm 12 x h).2
theorem nc_tup {k : Nat} {xs : List PyData} (hl : xs.length ≤ 1000000) (h : ∀ x ∈ xs, nc k x = true) : nc (k + 1) (.tuple xs) = true := by
  simp [nc]; exact ⟨hl, h⟩
theorem nc_int (k : Nat) (i : Int) : nc (k + 1) (.int i) = true := rfl
theorem nc_ti {l : List Int} (hl : l.length ≤ 1000000) : nc 2 (ti l) = true := nc_tup (by simpa using hl) fun x hx => by
  obtain ⟨i, _, rfl⟩ := List.mem_map.mp hx; rfl
theorem nc_str {s : Str} (h : shp (.str s) = true) (k : Nat) : nc (k + 1) (.str s) = true := h
theorem nc_pk {p : PK} (h : p.ok) : nc 3 p.d = true := by
  have tt : ∀ l, tOk l → nc 2 (ti l) = true := fun l hl => nc_ti (by have := hl.2.1; omega)
  cases p with
  | table a l => exact nc_tup (by simp) (by simp [nc_str shp_Table, nc_int, tt l h.2])
  | among a l => exact nc_tup (by simp) (by simp [nc_str shp_Among, nc_int, tt l h.2.1])
  | up a => exact nc_tup (by simp) (by simp [nc_str shp_Up, nc_int])
  | part a d => exact nc_tup (by simp) (by simp [nc_str shp_Part, nc_int])
  | rest a d => exact nc_tup (by simp) (by simp [nc_str shp_Rest, nc_int])
  | sum a d => exact nc_tup (by simp) (by simp [nc_str shp_Sum, nc_int])
  | gap a d => exact nc_tup (by simp) (by simp [nc_str shp_Gap, nc_int])
  | most a d => exact nc_tup (by simp) (by simp [nc_str shp_Most, nc_int])
theorem nc_ky {k : Ky} (h : k.ok) : nc 4 k.d = true := by
  cases k with
  | pl p => exact nc_mono _ _ (nc_pk h)
  | dn p => exact nc_tup (by simp) (by simp [nc_str shp_Down, nc_pk (p := p) h])
theorem nc_row {r : Rw} (h : Rw.ok r) (hl : r.length ≤ 1000000) : nc 5 (rowD r) = true := nc_tup (by simpa using hl) fun x hx => by
  obtain ⟨k, hk, rfl⟩ := List.mem_map.mp hx; exact nc_ky (h k hk)
/-! all things -/
def six : List Int := [0, 1, 2, 3, 4, 5]
def allT : List Th := six.flatMap fun x => six.flatMap fun y => six.map fun z => (x, y, z)
end L2.Lv.Sh
namespace L2.Lv.Sh
open PySem PySem.Spec PyProof.Rows L2 L2.Lv
end L2.Lv.Sh
namespace L2.Lv.Sh
open PySem PySem.Spec PyProof.Rows L2 L2.Lv
/-! comprehensions over typed lists -/
theorem comp_mapA {α : Type} {g : Fg} {own : List Nat} {elt : Fe} {ρ : List W} {n : Nat} (enc f : α → PyData) : ∀ (xs : List α), (∀ x ∈ xs, ∃ ρ1, g (enc x) (wipeW ρ own) = some ρ1 ∧ elt ρ1 n = some (.d (f x), n)) →
    loopC g own bYes elt ρ (xs.map enc) n = some (xs.map f, n)
  | [], _ => rfl
  | x :: xs, h => by
    obtain ⟨ρ1, e1, e2⟩ := h x (List.mem_cons_self ..)
    rw [List.map_cons, loopC_cons]
    simp -implicitDefEqProofs only [eVar_ap, dVar_ap, eC_ap, dOf_ap, eFrz_ap, eBin_ap, bTest_ap, bTru_ap, bAnd_ap, bOr_ap, bNot_ap, eIf_ap, eB_ap, eAnd_ap, eOr_ap, aNil_ap, aCons_ap, sNil_ap, sCons_ap, eTup_ap, eLst_ap, eCall_ap, eApp_ap, oNone_ap, oSome_ap, eSl_ap, sNil'_ap, sSeq_ap, sBrk_ap, sRet_ap, sRetN_ap, sRetO_ap, sDrop_ap, sIf_ap, sSet_ap, sApp_ap, sTown_ap, sExt_ap, sIns_ap, sSetIx_ap, sAsg_ap, sPar_ap, iOf_ap, iVal_ap, iRng1_ap, iRng2_ap, sFor_ap, eComp_ap, bYes_ap, frzAt_ap, eUn_ap, eNotD_ap, eOrD_ap, eChain_ap, eListRg1_ap, eIsa_ap, eMt_ap, iEnumV_ap, iEnumF_ap, iZipV_ap, iZipF_ap, eTLen_ap, iRng3D_ap, sEnd_ap, eSs_ap, sPar3_ap, xPop_ap, xTup1_ap, xCat_ap, sSetX_ap, sAppX_ap, sParO_ap, sForEI_ap, sForK_ap, eRep_ap, eDicK_ap, eDicT_ap, sPut_ap, eAlt_ap, sTry_ap, eGetD_ap, eLockI_ap, iKeyF_ap, sSetDef_ap, eTupVals_ap, sNst_ap, frzNAt_ap, sAppN_ap, sStN_ap, eListRg2_ap, eLam_ap, eCallP_ap, eNow_ap, dBef_ap, sShApp_ap, xShPop_ap, sShNow_ap, sShNowX_ap, sShClr_ap, yCall_ap, yOf_ap, yX_ap, yR_ap, yIf_ap, sRetS_ap, unX_ap, ytOf_ap, ytTru_ap, ytNot_ap, ytSeq_ap, ytCmp_ap, yaOf_ap, yaCons_ap, yApp_ap, eMethR_ap, sMakeSh_ap, runB_ap, gOne_ap, gMany_ap, dI_ap, yesC_ap, dCmp_int, setD, kill_nx, kill_rt, kill_rs, kill_bk, Option.bind_some, Option.map_some, Option.bind_none, Option.map_none, List.getElem?_cons_zero, List.getElem?_cons_succ, List.set_cons_zero, List.set_cons_succ, List.cons_append, List.nil_append, List.append_nil, List.replicate, List.length_cons, List.length_nil, Nat.reduceAdd, Nat.reduceSub, Nat.zero_add, wdat_no, wdat_d, wdat_town, wdat_ol, wdat_od, wfrz_no, wfrz_d, wfrz_town, wfrz_ol, wfrz_od, wval_no, wval_d, wval_town, wval_ol, wval_od, warg_no, warg_d, warg_town, warg_ol, warg_od, vals, gLen, gAbs, gMax2, gMin2, gInt, gTup, gList, wipeW, if_true, if_false, Bool.false_eq_true, Bool.not_true, Bool.not_false, reduceCtorEq, e1, e2, comp_mapA enc f xs fun z hz => h z (List.mem_cons_of_mem _ hz), List.map_cons]
theorem comp_filA {α : Type} {g : Fg} {own : List Nat} {tst : Ft} {elt : Fe} {ρ : List W} {n : Nat} (enc f : α → PyData) (p : α → Bool) : ∀ (xs : List α), (∀ x ∈ xs, ∃ ρ1, g (enc x) (wipeW ρ own) = some ρ1 ∧ tst ρ1 n = some (p x, n) ∧ (p x = true → elt ρ1 n = some (.d (f x), n))) →
    loopC g own tst elt ρ (xs.map enc) n = some ((xs.filter p).map f, n)
  | [], _ => rfl
  | x :: xs, h => by
    obtain ⟨ρ1, e1, e2, e3⟩ := h x (List.mem_cons_self ..)
    have ih := comp_filA enc f p xs fun z hz => h z (List.mem_cons_of_mem _ hz)
    rw [List.map_cons, loopC_cons]
    cases hp : p x with
    | true => simp -implicitDefEqProofs only [eVar_ap, dVar_ap, eC_ap, dOf_ap, eFrz_ap, eBin_ap, bTest_ap, bTru_ap, bAnd_ap, bOr_ap, bNot_ap, eIf_ap, eB_ap, eAnd_ap, eOr_ap, aNil_ap, aCons_ap, sNil_ap, sCons_ap, eTup_ap, eLst_ap, eCall_ap, eApp_ap, oNone_ap, oSome_ap, eSl_ap, sNil'_ap, sSeq_ap, sBrk_ap, sRet_ap, sRetN_ap, sRetO_ap, sDrop_ap, sIf_ap, sSet_ap, sApp_ap, sTown_ap, sExt_ap, sIns_ap, sSetIx_ap, sAsg_ap, sPar_ap, iOf_ap, iVal_ap, iRng1_ap, iRng2_ap, sFor_ap, eComp_ap, bYes_ap, frzAt_ap, eUn_ap, eNotD_ap, eOrD_ap, eChain_ap, eListRg1_ap, eIsa_ap, eMt_ap, iEnumV_ap, iEnumF_ap, iZipV_ap, iZipF_ap, eTLen_ap, iRng3D_ap, sEnd_ap, eSs_ap, sPar3_ap, xPop_ap, xTup1_ap, xCat_ap, sSetX_ap, sAppX_ap, sParO_ap, sForEI_ap, sForK_ap, eRep_ap, eDicK_ap, eDicT_ap, sPut_ap, eAlt_ap, sTry_ap, eGetD_ap, eLockI_ap, iKeyF_ap, sSetDef_ap, eTupVals_ap, sNst_ap, frzNAt_ap, sAppN_ap, sStN_ap, eListRg2_ap, eLam_ap, eCallP_ap, eNow_ap, dBef_ap, sShApp_ap, xShPop_ap, sShNow_ap, sShNowX_ap, sShClr_ap, yCall_ap, yOf_ap, yX_ap, yR_ap, yIf_ap, sRetS_ap, unX_ap, ytOf_ap, ytTru_ap, ytNot_ap, ytSeq_ap, ytCmp_ap, yaOf_ap, yaCons_ap, yApp_ap, eMethR_ap, sMakeSh_ap, runB_ap, gOne_ap, gMany_ap, dI_ap, yesC_ap, dCmp_int, setD, kill_nx, kill_rt, kill_rs, kill_bk, Option.bind_some, Option.map_some, Option.bind_none, Option.map_none, List.getElem?_cons_zero, List.getElem?_cons_succ, List.set_cons_zero, List.set_cons_succ, List.cons_append, List.nil_append, List.append_nil, List.replicate, List.length_cons, List.length_nil, Nat.reduceAdd, Nat.reduceSub, Nat.zero_add, wdat_no, wdat_d, wdat_town, wdat_ol, wdat_od, wfrz_no, wfrz_d, wfrz_town, wfrz_ol, wfrz_od, wval_no, wval_d, wval_town, wval_ol, wval_od, warg_no, warg_d, warg_town, warg_ol, warg_od, vals, gLen, gAbs, gMax2, gMin2, gInt, gTup, gList, wipeW, if_true, if_false, Bool.false_eq_true, Bool.not_true, Bool.not_false, reduceCtorEq, e1, e2, e3 hp, hp, ih, List.map_cons, List.filter_cons]
    | false => simp -implicitDefEqProofs only [eVar_ap, dVar_ap, eC_ap, dOf_ap, eFrz_ap, eBin_ap, bTest_ap, bTru_ap, bAnd_ap, bOr_ap, bNot_ap, eIf_ap, eB_ap, eAnd_ap, eOr_ap, aNil_ap, aCons_ap, sNil_ap, sCons_ap, eTup_ap, eLst_ap, eCall_ap, eApp_ap, oNone_ap, oSome_ap, eSl_ap, sNil'_ap, sSeq_ap, sBrk_ap, sRet_ap, sRetN_ap, sRetO_ap, sDrop_ap, sIf_ap, sSet_ap, sApp_ap, sTown_ap, sExt_ap, sIns_ap, sSetIx_ap, sAsg_ap, sPar_ap, iOf_ap, iVal_ap, iRng1_ap, iRng2_ap, sFor_ap, eComp_ap, bYes_ap, frzAt_ap, eUn_ap, eNotD_ap, eOrD_ap, eChain_ap, eListRg1_ap, eIsa_ap, eMt_ap, iEnumV_ap, iEnumF_ap, iZipV_ap, iZipF_ap, eTLen_ap, iRng3D_ap, sEnd_ap, eSs_ap, sPar3_ap, xPop_ap, xTup1_ap, xCat_ap, sSetX_ap, sAppX_ap, sParO_ap, sForEI_ap, sForK_ap, eRep_ap, eDicK_ap, eDicT_ap, sPut_ap, eAlt_ap, sTry_ap, eGetD_ap, eLockI_ap, iKeyF_ap, sSetDef_ap, eTupVals_ap, sNst_ap, frzNAt_ap, sAppN_ap, sStN_ap, eListRg2_ap, eLam_ap, eCallP_ap, eNow_ap, dBef_ap, sShApp_ap, xShPop_ap, sShNow_ap, sShNowX_ap, sShClr_ap, yCall_ap, yOf_ap, yX_ap, yR_ap, yIf_ap, sRetS_ap, unX_ap, ytOf_ap, ytTru_ap, ytNot_ap, ytSeq_ap, ytCmp_ap, yaOf_ap, yaCons_ap, yApp_ap, eMethR_ap, sMakeSh_ap, runB_ap, gOne_ap, gMany_ap, dI_ap, yesC_ap, dCmp_int, setD, kill_nx, kill_rt, kill_rs, kill_bk, Option.bind_some, Option.map_some, Option.bind_none, Option.map_none, List.getElem?_cons_zero, List.getElem?_cons_succ, List.set_cons_zero, List.set_cons_succ, List.cons_append, List.nil_append, List.append_nil, List.replicate, List.length_cons, List.length_nil, Nat.reduceAdd, Nat.reduceSub, Nat.zero_add, wdat_no, wdat_d, wdat_town, wdat_ol, wdat_od, wfrz_no, wfrz_d, wfrz_town, wfrz_ol, wfrz_od, wval_no, wval_d, wval_town, wval_ol, wval_od, warg_no, warg_d, warg_town, warg_ol, warg_od, vals, gLen, gAbs, gMax2, gMin2, gInt, gTup, gList, wipeW, if_true, if_false, Bool.false_eq_true, Bool.not_true, Bool.not_false, reduceCtorEq, e1, e2, hp, ih, List.filter_cons]
/-! lists of things -/
abbrev tsD (ts : List Th) : PyData := .tuple (ts.map Th.d)
theorem nc_th (t : Th) : nc 2 t.d = true := nc_ti (by simp)
theorem nc_ts {ts : List Th} (h : ts.length ≤ 1000000) : nc 3 (tsD ts) = true := nc_tup (by simpa using h) fun x hx => by
  obtain ⟨t, _, rfl⟩ := List.mem_map.mp hx; exact nc_th t
theorem list_loop (ns : List Int) (m : Int) (some : List Th) (hs : ∀ t ∈ some, t.ok) (hsl : some.length = 4) : ∀ (is : List PyData) (ts : List Th) (w4 : W) (n : Nat), (∀ t ∈ ts, t.ok) → ts.length + is.length ≤ 1000 → n + 4 * is.length ≤ big → ∃ (ts' : List Th) (w4' : W) (n' : Nat),
    loopF (gOne 4) l__law_list_1 is [Sc ns, .town, I' m, .d (.list (some.map Th.d)), w4, .d (tsD ts)] n = Option.some (.nx [Sc ns, .town, I' m, .d (.list (some.map Th.d)), w4', .d (tsD ts')] n') ∧ (∀ t ∈ ts', t.ok) ∧ ts'.length = ts.length + is.length ∧ n ≤ n' ∧ n' ≤ n + 4 * is.length
  | [], ts, w4, n, h, _, _ => ⟨ts, w4, n, rfl, h, rfl, Nat.le_refl _, Nat.le_add_right _ _⟩
  | i :: is, ts, w4, n, h, hl, hn => by
    rw [List.length_cons] at hl hn
    obtain ⟨_, n1, e1, l1, l2, t, ht, rfl⟩ := thing_ok ns n (by omega)
    have hx : some.map Th.d ++ [t.d] ≠ [] := by simp
    obtain ⟨x, hx, e2⟩ := pick_ok ns n1 (by omega) (some.map Th.d ++ [t.d]) hx
    obtain ⟨u, hu, rfl⟩ : ∃ u : Th, u.ok ∧ x = u.d := by
      rcases List.mem_append.mp hx with hx | hx
      · obtain ⟨u, hu, rfl⟩ := List.mem_map.mp hx; exact ⟨u, hs u hu, rfl⟩
      · simp at hx; exact ⟨t, ht, hx⟩
    obtain ⟨ts', w4', n', e3, q1, q2, q3, q4⟩ := list_loop ns m some hs hsl is (ts ++ [u]) (.d i) (n1 + 1) (fun t ht => by
      rcases List.mem_append.mp ht with ht | ht
      · exact h t ht
      · simp at ht; subst ht; exact hu) (by simp; omega) (by omega)
    refine ⟨ts', w4', n', ?_, q1, by simp at q2; simp; omega, by omega, by simp; omega⟩
    have ea : dAdd (.list (some.map Th.d)) (.list [t.d]) = Option.some (.ol (some.map Th.d ++ [t.d])) := dAdd_lst _ _ (le_big (by simp; omega))
    have eb : dAdd (tsD ts) (.tuple [u.d]) = Option.some (.d (tsD (ts ++ [u]))) := by
      rw [dAdd_tup _ _ (le_big (by simp; omega))]; simp [tsD]
    rw [loopF_cons]
    have e3 : loopF (gOne 4) l__law_list_1 is [Sc ns, .town, I' m, .d (.list (some.map Th.d)), .d i, .d (tsD (ts ++ [u]))] (n1 + 1) = _ := e3
    unfold l__law_list_1 at e3 ⊢
    simp -implicitDefEqProofs only [eVar_ap, dVar_ap, eC_ap, dOf_ap, eFrz_ap, eBin_ap, bTest_ap, bTru_ap, bAnd_ap, bOr_ap, bNot_ap, eIf_ap, eB_ap, eAnd_ap, eOr_ap, aNil_ap, aCons_ap, sNil_ap, sCons_ap, eTup_ap, eLst_ap, eCall_ap, eApp_ap, oNone_ap, oSome_ap, eSl_ap, sNil'_ap, sSeq_ap, sBrk_ap, sRet_ap, sRetN_ap, sRetO_ap, sDrop_ap, sIf_ap, sSet_ap, sApp_ap, sTown_ap, sExt_ap, sIns_ap, sSetIx_ap, sAsg_ap, sPar_ap, iOf_ap, iVal_ap, iRng1_ap, iRng2_ap, sFor_ap, eComp_ap, bYes_ap, frzAt_ap, eUn_ap, eNotD_ap, eOrD_ap, eChain_ap, eListRg1_ap, eIsa_ap, eMt_ap, iEnumV_ap, iEnumF_ap, iZipV_ap, iZipF_ap, eTLen_ap, iRng3D_ap, sEnd_ap, eSs_ap, sPar3_ap, xPop_ap, xTup1_ap, xCat_ap, sSetX_ap, sAppX_ap, sParO_ap, sForEI_ap, sForK_ap, eRep_ap, eDicK_ap, eDicT_ap, sPut_ap, eAlt_ap, sTry_ap, eGetD_ap, eLockI_ap, iKeyF_ap, sSetDef_ap, eTupVals_ap, sNst_ap, frzNAt_ap, sAppN_ap, sStN_ap, eListRg2_ap, eLam_ap, eCallP_ap, eNow_ap, dBef_ap, sShApp_ap, xShPop_ap, sShNow_ap, sShNowX_ap, sShClr_ap, yCall_ap, yOf_ap, yX_ap, yR_ap, yIf_ap, sRetS_ap, unX_ap, ytOf_ap, ytTru_ap, ytNot_ap, ytSeq_ap, ytCmp_ap, yaOf_ap, yaCons_ap, yApp_ap, eMethR_ap, sMakeSh_ap, runB_ap, gOne_ap, gMany_ap, dI_ap, yesC_ap, dCmp_int, setD, kill_nx, kill_rt, kill_rs, kill_bk, Option.bind_some, Option.map_some, Option.bind_none, Option.map_none, List.getElem?_cons_zero, List.getElem?_cons_succ, List.set_cons_zero, List.set_cons_succ, List.cons_append, List.nil_append, List.append_nil, List.replicate, List.length_cons, List.length_nil, Nat.reduceAdd, Nat.reduceSub, Nat.zero_add, wdat_no, wdat_d, wdat_town, wdat_ol, wdat_od, wfrz_no, wfrz_d, wfrz_town, wfrz_ol, wfrz_od, wval_no, wval_d, wval_town, wval_ol, wval_od, warg_no, warg_d, warg_town, warg_ol, warg_od, vals, gLen, gAbs, gMax2, gMin2, gInt, gTup, gList, wipeW, if_true, if_false, Bool.false_eq_true, Bool.not_true, Bool.not_false, reduceCtorEq, e1, ea, e2, eb, e3]
theorem list_ok (ns : List Int) (n : Nat) (k : Nat) (hk : k ≤ 100) (hn : n + 13 + 4 * k ≤ big) : Ran (m__law_list [Sc ns, .town, I' k] n) n (13 + 4 * k) fun w => ∃ ts : List Th, (∀ t ∈ ts, t.ok) ∧ ts.length ≤ k ∧ w = .d (tsD ts) := by
  obtain ⟨ys, n1, e1, l1, hq, l2, l3⟩ := comp_ran (i := 4) (own := [4]) (elt := eCall m__law_thing (aCons (eVar 0) (aCons (eVar 1) aNil))) (ρ := [Sc ns, .town, I' k, .no, .no, .no]) (c := 3) (P := fun y => ∃ t : Th, t.ok ∧ y = t.d) (rangeD 0 4) n
    (by rw [rangeD_len]; omega) (fun y _ q hq => by
      obtain ⟨w, q', h1, h2, h3, t, h4, rfl⟩ := thing_ok ns q hq
      exact ⟨_, q', by simp -implicitDefEqProofs only [eVar_ap, dVar_ap, eC_ap, dOf_ap, eFrz_ap, eBin_ap, bTest_ap, bTru_ap, bAnd_ap, bOr_ap, bNot_ap, eIf_ap, eB_ap, eAnd_ap, eOr_ap, aNil_ap, aCons_ap, sNil_ap, sCons_ap, eTup_ap, eLst_ap, eCall_ap, eApp_ap, oNone_ap, oSome_ap, eSl_ap, sNil'_ap, sSeq_ap, sBrk_ap, sRet_ap, sRetN_ap, sRetO_ap, sDrop_ap, sIf_ap, sSet_ap, sApp_ap, sTown_ap, sExt_ap, sIns_ap, sSetIx_ap, sAsg_ap, sPar_ap, iOf_ap, iVal_ap, iRng1_ap, iRng2_ap, sFor_ap, eComp_ap, bYes_ap, frzAt_ap, eUn_ap, eNotD_ap, eOrD_ap, eChain_ap, eListRg1_ap, eIsa_ap, eMt_ap, iEnumV_ap, iEnumF_ap, iZipV_ap, iZipF_ap, eTLen_ap, iRng3D_ap, sEnd_ap, eSs_ap, sPar3_ap, xPop_ap, xTup1_ap, xCat_ap, sSetX_ap, sAppX_ap, sParO_ap, sForEI_ap, sForK_ap, eRep_ap, eDicK_ap, eDicT_ap, sPut_ap, eAlt_ap, sTry_ap, eGetD_ap, eLockI_ap, iKeyF_ap, sSetDef_ap, eTupVals_ap, sNst_ap, frzNAt_ap, sAppN_ap, sStN_ap, eListRg2_ap, eLam_ap, eCallP_ap, eNow_ap, dBef_ap, sShApp_ap, xShPop_ap, sShNow_ap, sShNowX_ap, sShClr_ap, yCall_ap, yOf_ap, yX_ap, yR_ap, yIf_ap, sRetS_ap, unX_ap, ytOf_ap, ytTru_ap, ytNot_ap, ytSeq_ap, ytCmp_ap, yaOf_ap, yaCons_ap, yApp_ap, eMethR_ap, sMakeSh_ap, runB_ap, gOne_ap, gMany_ap, dI_ap, yesC_ap, dCmp_int, setD, kill_nx, kill_rt, kill_rs, kill_bk, Option.bind_some, Option.map_some, Option.bind_none, Option.map_none, List.getElem?_cons_zero, List.getElem?_cons_succ, List.set_cons_zero, List.set_cons_succ, List.cons_append, List.nil_append, List.append_nil, List.replicate, List.length_cons, List.length_nil, Nat.reduceAdd, Nat.reduceSub, Nat.zero_add, wdat_no, wdat_d, wdat_town, wdat_ol, wdat_od, wfrz_no, wfrz_d, wfrz_town, wfrz_ol, wfrz_od, wval_no, wval_d, wval_town, wval_ol, wval_od, warg_no, warg_d, warg_town, warg_ol, warg_od, vals, gLen, gAbs, gMax2, gMin2, gInt, gTup, gList, wipeW, if_true, if_false, Bool.false_eq_true, Bool.not_true, Bool.not_false, reduceCtorEq, h1], h3, h2, t, h4, rfl⟩)
  obtain ⟨some, rfl, hs⟩ := ex_map ys hq
  rw [rangeD_len] at l1 l3
  rw [List.length_map] at l1
  obtain ⟨m, m0, m1, e2⟩ := draw_ok ns n1 (by omega) (k + 1 : Int) (by omega)
  have hm : m.toNat ≤ k := by omega
  obtain ⟨ts, w4, n2, e3, q1, q2, q3, q4⟩ := list_loop ns k some hs l1 (rangeD 0 m.toNat) [] .no (n1 + 1) (by simp) (by simp [rangeD_len]; omega) (by rw [rangeD_len]; omega)
  rw [rangeD_len] at q2 q4
  refine ⟨_, n2, ?_, by omega, by omega, ts, q1, by simp at q2; omega, rfl⟩
  have hr4 : rng1 (.int 4) = Option.some (rangeD 0 4) := rng1_ok (by decide) (by decide)
  have hb4 : (rangeD 0 4).length ≤ big := le_big (by decide)
  have e3 : loopF (gOne 4) l__law_list_1 (rangeD 0 m.toNat) [Sc ns, .town, I' k, .d (.list (some.map Th.d)), .no, .d (.tuple [])] (n1 + 1) = _ := e3
  unfold m__law_list b__law_list
  simp -implicitDefEqProofs only [eVar_ap, dVar_ap, eC_ap, dOf_ap, eFrz_ap, eBin_ap, bTest_ap, bTru_ap, bAnd_ap, bOr_ap, bNot_ap, eIf_ap, eB_ap, eAnd_ap, eOr_ap, aNil_ap, aCons_ap, sNil_ap, sCons_ap, eTup_ap, eLst_ap, eCall_ap, eApp_ap, oNone_ap, oSome_ap, eSl_ap, sNil'_ap, sSeq_ap, sBrk_ap, sRet_ap, sRetN_ap, sRetO_ap, sDrop_ap, sIf_ap, sSet_ap, sApp_ap, sTown_ap, sExt_ap, sIns_ap, sSetIx_ap, sAsg_ap, sPar_ap, iOf_ap, iVal_ap, iRng1_ap, iRng2_ap, sFor_ap, eComp_ap, bYes_ap, frzAt_ap, eUn_ap, eNotD_ap, eOrD_ap, eChain_ap, eListRg1_ap, eIsa_ap, eMt_ap, iEnumV_ap, iEnumF_ap, iZipV_ap, iZipF_ap, eTLen_ap, iRng3D_ap, sEnd_ap, eSs_ap, sPar3_ap, xPop_ap, xTup1_ap, xCat_ap, sSetX_ap, sAppX_ap, sParO_ap, sForEI_ap, sForK_ap, eRep_ap, eDicK_ap, eDicT_ap, sPut_ap, eAlt_ap, sTry_ap, eGetD_ap, eLockI_ap, iKeyF_ap, sSetDef_ap, eTupVals_ap, sNst_ap, frzNAt_ap, sAppN_ap, sStN_ap, eListRg2_ap, eLam_ap, eCallP_ap, eNow_ap, dBef_ap, sShApp_ap, xShPop_ap, sShNow_ap, sShNowX_ap, sShClr_ap, yCall_ap, yOf_ap, yX_ap, yR_ap, yIf_ap, sRetS_ap, unX_ap, ytOf_ap, ytTru_ap, ytNot_ap, ytSeq_ap, ytCmp_ap, yaOf_ap, yaCons_ap, yApp_ap, eMethR_ap, sMakeSh_ap, runB_ap, gOne_ap, gMany_ap, dI_ap, yesC_ap, dCmp_int, setD, kill_nx, kill_rt, kill_rs, kill_bk, Option.bind_some, Option.map_some, Option.bind_none, Option.map_none, List.getElem?_cons_zero, List.getElem?_cons_succ, List.set_cons_zero, List.set_cons_succ, List.cons_append, List.nil_append, List.append_nil, List.replicate, List.length_cons, List.length_nil, Nat.reduceAdd, Nat.reduceSub, Nat.zero_add, wdat_no, wdat_d, wdat_town, wdat_ol, wdat_od, wfrz_no, wfrz_d, wfrz_town, wfrz_ol, wfrz_od, wval_no, wval_d, wval_town, wval_ol, wval_od, warg_no, warg_d, warg_town, warg_ol, warg_od, vals, gLen, gAbs, gMax2, gMin2, gInt, gTup, gList, wipeW, if_true, if_false, Bool.false_eq_true, Bool.not_true, Bool.not_false, reduceCtorEq, q_Up_Up, q_Up_Down, q_Up_Part, q_Up_Rest, q_Up_Table, q_Up_Among, q_Up_Sum, q_Up_Gap, q_Down_Up, q_Down_Down, q_Down_Part, q_Down_Rest, q_Down_Table, q_Down_Among, q_Down_Sum, q_Down_Gap, q_Part_Up, q_Part_Down, q_Part_Part, q_Part_Rest, q_Part_Table, q_Part_Among, q_Part_Sum, q_Part_Gap, q_Rest_Up, q_Rest_Down, q_Rest_Part, q_Rest_Rest, q_Rest_Table, q_Rest_Among, q_Rest_Sum, q_Rest_Gap, q_Table_Up, q_Table_Down, q_Table_Part, q_Table_Rest, q_Table_Table, q_Table_Among, q_Table_Sum, q_Table_Gap, q_Among_Up, q_Among_Down, q_Among_Part, q_Among_Rest, q_Among_Table, q_Among_Among, q_Among_Sum, q_Among_Gap, q_Sum_Up, q_Sum_Down, q_Sum_Part, q_Sum_Rest, q_Sum_Table, q_Sum_Among, q_Sum_Sum, q_Sum_Gap, q_Gap_Up, q_Gap_Down, q_Gap_Part, q_Gap_Rest, q_Gap_Table, q_Gap_Among, q_Gap_Sum, q_Gap_Gap, q_Most_Up, q_Most_Down, q_Most_Part, q_Most_Rest, q_Most_Table, q_Most_Among, q_Most_Sum, q_Most_Gap, dIx, dAdd_int, dSub_int, rLt, rLe, rGt, rGe, dEq_int, dNe_int, dIn_ints, dNotIn_ints, hr4, hb4, e1, e2, rng1_ok m0 (by omega), e3]
/-! orders of things -/
/-- p stands ahead of q, or is q -/
def rle (r : Rw) (p q : Nat × Th) : Prop := wrd r p.2 q.2 < 0 ∨ (wrd r p.2 q.2 = 0 ∧ p.1 ≤ q.1)
instance (r : Rw) (p q : Nat × Th) : Decidable (rle r p q) := inferInstanceAs (Decidable (_ ∨ _))
theorem wrd_cases (r : Rw) (s t : Th) : wrd r s t = -1 ∨ wrd r s t = 0 ∨ wrd r s t = 1 := by
  induction r with
  | nil => exact .inr (.inl rfl)
  | cons k r ih =>
    simp only [wrd]
    split
    · exact ih
    split
    · exact .inl rfl
    · exact .inr (.inr rfl)
theorem rle_total (r : Rw) (p q : Nat × Th) : rle r p q ∨ rle r q p := by
  have h := wrd_anti r p.2 q.2
  unfold rle
  rcases wrd_cases r p.2 q.2 with e | e | e <;> rw [h, e] <;> omega
theorem rle_trans (r : Rw) (p q s : Nat × Th) (h1 : rle r p q) (h2 : rle r q s) : rle r p s := by
  unfold rle at *
  have a1 := wrd_anti r p.2 q.2
  have a2 := wrd_anti r q.2 s.2
  have a3 := wrd_anti r p.2 s.2
  have t1 := wrd_trans r p.2 q.2 s.2
  have t2 := wrd_trans r s.2 q.2 p.2
  have t3 := wrd_trans r q.2 s.2 p.2
  have t4 := wrd_trans r s.2 p.2 q.2
  rcases wrd_cases r p.2 q.2 with e1 | e1 | e1 <;> rcases wrd_cases r q.2 s.2 with e2 | e2 | e2 <;> rcases wrd_cases r p.2 s.2 with e3 | e3 | e3 <;> rw [e1] at h1 a1 t1 t4 <;> rw [e2] at h2 a2 t1 t3 <;> rw [e3] at a3 t1 ⊢ <;> rw [a3] at t2 t3 t4 <;> rw [a1] at t2 t3 <;> rw [a2] at t2 t4 <;> omega
def enumT (ts : List Th) : List (Nat × Th) := ts.mapIdx fun i t => (i, t)
def sE (r : Rw) (ts : List Th) : List (Nat × Th) := (enumT ts).mergeSort fun p q => decide (rle r p q)
theorem enumT_get {ts : List Th} {p : Nat × Th} (h : p ∈ enumT ts) : ts[p.1]? = Option.some p.2 := by
  unfold enumT at h
  rw [List.mem_mapIdx] at h
  obtain ⟨i, hi, rfl⟩ := h
  exact List.getElem?_eq_getElem hi
theorem sE_perm (r : Rw) (ts : List Th) : (sE r ts).Perm (enumT ts) := List.mergeSort_perm _ _
theorem sE_pw (r : Rw) (ts : List Th) : (sE r ts).Pairwise (rle r) := by
  have h := List.pairwise_mergeSort (le := fun p q => decide (rle r p q)) (fun a b c h1 h2 => by simp at h1 h2 ⊢; exact rle_trans r a b c h1 h2) (fun a b => by simp; exact rle_total r a b) (enumT ts)
  exact h.imp fun h => by simpa using h
end L2.Lv.Sh
namespace L2.Lv.Sh
open PySem PySem.Spec PyProof.Rows L2 L2.Lv
/-! sorted by worths and place -/
def kD (r : Rw) (p : Nat × Th) : PyData := .tuple [ti (wts r p.2), .int p.1]
def lx (X Y : List (Int ⊕ List Nat)) : Bool := lexLt itemOrd X Y
theorem lx_tok (a b : Int) (X Y : List (Int ⊕ List Nat)) : lx (.inl a :: X) (.inl b :: Y) = (decide (a < b) || (!decide (b < a) && lx X Y)) := lex_cons (O := itemOrd) (.inl a) (.inl b) X Y
theorem lx_row (r : Rw) (s t : Th) (X Y : List (Int ⊕ List Nat)) : lx (PySem.W.keyToksAll ((wts r s).map .int) ++ X) (PySem.W.keyToksAll ((wts r t).map .int) ++ Y) = bif wrd r s t == 0 then lx X Y else decide (wrd r s t < 0) := by
  induction r with
  | nil =>
    show lx (PySem.W.keyToksAll [] ++ X) (PySem.W.keyToksAll [] ++ Y) = _
    simp only [PySem.W.keyToksAll, List.cons_append, List.nil_append, lx_tok]
    simp [wrd]
  | cons k r ih =>
    have hw : wrd (k :: r) s t = if k.worth s = k.worth t then wrd r s t else if k.worth s < k.worth t then -1 else 1 := rfl
    rw [hw]
    simp only [wts, List.map_cons, PySem.W.keyToksAll, PySem.W.keyToks, List.cons_append, List.nil_append, lx_tok] at ih ⊢
    rw [ih]
    by_cases e : k.worth s = k.worth t
    · rw [if_pos e]; simp [e]
    · rw [if_neg e]
      by_cases l : k.worth s < k.worth t
      · rw [if_pos l]; simp [l]
      · have : k.worth t < k.worth s := by omega
        rw [if_neg l]; simp [l, this]
theorem dataLe_kD (r : Rw) (p q : Nat × Th) : PySem.W.dataLe false (fun x => x) (kD r p) (kD r q) = decide (rle r p q) := by
  have h : lx (PySem.W.keyToks (kD r q)) (PySem.W.keyToks (kD r p)) = !decide (rle r p q) := by
    simp only [kD, ti, PySem.W.keyToks, PySem.W.keyToksAll, List.cons_append, List.append_assoc, lx_tok, lx_row, List.nil_append]
    have a := wrd_anti r p.2 q.2
    rcases wrd_cases r p.2 q.2 with e | e | e
    · have hr : rle r p q := .inl (by rw [e]; decide)
      rw [a, e]; simp [hr]
    · rw [a, e]
      by_cases hl : p.1 ≤ q.1
      · have hr : rle r p q := .inr ⟨e, hl⟩
        have h2 : ¬ ((q.1 : Int) < p.1) := by omega
        have h3 : lx [] [] = false := rfl
        simp [hr, h2, h3]
      · have hr : ¬ rle r p q := fun h => by unfold rle at h; omega
        have h2 : (q.1 : Int) < p.1 := by omega
        simp [hr, h2]
    · have hr : ¬ rle r p q := fun h => by unfold rle at h; omega
      rw [a, e]; simp [hr]
  show (!lx (PySem.W.keyToks (kD r q)) (PySem.W.keyToks (kD r p))) = _
  rw [h, Bool.not_not]
theorem srt_kD (r : Rw) (ts : List Th) : srt ((enumT ts).map (kD r)) = (sE r ts).map (kD r) := by
  unfold srt sE
  exact (List.map_mergeSort fun a _ b _ => (dataLe_kD r a b).symm).symm
theorem alike_ints : ∀ (xs ys : List Int), xs.length = ys.length → PySem.W.alikeAll (xs.map .int) (ys.map .int) = true
  | [], [], _ => rfl
  | x :: xs, y :: ys, h => by
    simp only [List.map_cons, PySem.W.alikeAll]
    rw [alike_ints xs ys (by simpa using h)]
    rfl
  | [], _ :: _, h => by simp at h
  | _ :: _, [], h => by simp at h
theorem srtOk_kD (r : Rw) (l : List (Nat × Th)) : srtOk (l.map (kD r)) = true := by
  have h1 : ∀ p q : Nat × Th, PySem.W.alike (kD r p) (kD r q) = true := fun p q => by
    have := alike_ints (wts r p.2) (wts r q.2) (by simp [wts])
    simp [kD, ti, PySem.W.alike, PySem.W.alikeAll, this]
  have h2 : ∀ p : Nat × Th, (kD r p).depth ≤ 64 := fun p => by
    have := depthAll_ints (wts r p.2)
    simp [kD, ti, PyData.depth, PyData.depthAll]
    omega
  unfold srtOk
  simp only [Bool.and_eq_true, List.all_eq_true, Bool.or_eq_true]
  refine ⟨⟨fun x hx y hy => ?_, .inl fun x hx => ?_⟩, fun x hx => ?_⟩
  · obtain ⟨p, _, rfl⟩ := List.mem_map.mp hx
    obtain ⟨q, _, rfl⟩ := List.mem_map.mp hy
    exact h1 p q
  · obtain ⟨p, _, rfl⟩ := List.mem_map.mp hx
    rfl
  · obtain ⟨p, _, rfl⟩ := List.mem_map.mp hx
    simpa using h2 p
theorem enumD_ts (ts : List Th) : enumD (ts.map Th.d) = (enumT ts).map fun p => .tuple [.int p.1, p.2.d] := by
  unfold enumD enumT
  apply List.ext_getElem?
  intro i
  simp only [List.getElem?_mapIdx, List.getElem?_map]
  cases ts[i]? <;> rfl
theorem enumT_len (ts : List Th) : (enumT ts).length = ts.length := by simp [enumT]
theorem sE_len (r : Rw) (ts : List Th) : (sE r ts).length = ts.length := by rw [(sE_perm r ts).length_eq, enumT_len]
theorem places_ok (r : Rw) (h : Rw.ok r) (hl : r.length ≤ 1000000) (ts : List Th) (ht : ts.length ≤ 1000000) (n : Nat) : m_places [.d (rowD r), .d (tsD ts)] n = some (.d (ti ((sE r ts).map fun p => (p.1 : Int))), n) := by
  have e1 := comp_mapA (g := gMany [3, 4]) (own := [3, 4]) (elt := eTup (aCons (eCall m_worths (aCons (eVar 0) (aCons (eVar 4) aNil))) (aCons (eVar 3) aNil))) (ρ := [.d (rowD r), .d (tsD ts), .no, .no, .no, .no]) (n := n)
    (fun p : Nat × Th => .tuple [.int p.1, p.2.d]) (kD r) (enumT ts) fun p _ => ⟨_, rfl, by simp -implicitDefEqProofs only [eVar_ap, dVar_ap, eC_ap, dOf_ap, eFrz_ap, eBin_ap, bTest_ap, bTru_ap, bAnd_ap, bOr_ap, bNot_ap, eIf_ap, eB_ap, eAnd_ap, eOr_ap, aNil_ap, aCons_ap, sNil_ap, sCons_ap, eTup_ap, eLst_ap, eCall_ap, eApp_ap, oNone_ap, oSome_ap, eSl_ap, sNil'_ap, sSeq_ap, sBrk_ap, sRet_ap, sRetN_ap, sRetO_ap, sDrop_ap, sIf_ap, sSet_ap, sApp_ap, sTown_ap, sExt_ap, sIns_ap, sSetIx_ap, sAsg_ap, sPar_ap, iOf_ap, iVal_ap, iRng1_ap, iRng2_ap, sFor_ap, eComp_ap, bYes_ap, frzAt_ap, eUn_ap, eNotD_ap, eOrD_ap, eChain_ap, eListRg1_ap, eIsa_ap, eMt_ap, iEnumV_ap, iEnumF_ap, iZipV_ap, iZipF_ap, eTLen_ap, iRng3D_ap, sEnd_ap, eSs_ap, sPar3_ap, xPop_ap, xTup1_ap, xCat_ap, sSetX_ap, sAppX_ap, sParO_ap, sForEI_ap, sForK_ap, eRep_ap, eDicK_ap, eDicT_ap, sPut_ap, eAlt_ap, sTry_ap, eGetD_ap, eLockI_ap, iKeyF_ap, sSetDef_ap, eTupVals_ap, sNst_ap, frzNAt_ap, sAppN_ap, sStN_ap, eListRg2_ap, eLam_ap, eCallP_ap, eNow_ap, dBef_ap, sShApp_ap, xShPop_ap, sShNow_ap, sShNowX_ap, sShClr_ap, yCall_ap, yOf_ap, yX_ap, yR_ap, yIf_ap, sRetS_ap, unX_ap, ytOf_ap, ytTru_ap, ytNot_ap, ytSeq_ap, ytCmp_ap, yaOf_ap, yaCons_ap, yApp_ap, eMethR_ap, sMakeSh_ap, runB_ap, gOne_ap, gMany_ap, dI_ap, yesC_ap, dCmp_int, setD, kill_nx, kill_rt, kill_rs, kill_bk, Option.bind_some, Option.map_some, Option.bind_none, Option.map_none, List.getElem?_cons_zero, List.getElem?_cons_succ, List.set_cons_zero, List.set_cons_succ, List.cons_append, List.nil_append, List.append_nil, List.replicate, List.length_cons, List.length_nil, Nat.reduceAdd, Nat.reduceSub, Nat.zero_add, wdat_no, wdat_d, wdat_town, wdat_ol, wdat_od, wfrz_no, wfrz_d, wfrz_town, wfrz_ol, wfrz_od, wval_no, wval_d, wval_town, wval_ol, wval_od, warg_no, warg_d, warg_town, warg_ol, warg_od, vals, gLen, gAbs, gMax2, gMin2, gInt, gTup, gList, wipeW, if_true, if_false, Bool.false_eq_true, Bool.not_true, Bool.not_false, reduceCtorEq, worths_ok r h hl p.2 n]; rfl⟩
  have e2 := comp_mapA (g := gMany [5, 3]) (own := [5, 3]) (elt := eVar 3) (ρ := [.d (rowD r), .d (tsD ts), .d (.list ((sE r ts).map (kD r))), .no, .no, .no]) (n := n)
    (kD r) (fun p => .int (p.1 : Int)) (sE r ts) fun p _ => ⟨_, rfl, rfl⟩
  have h3 : ((enumT ts).map fun p => PyData.tuple [.int p.1, p.2.d]).length ≤ big := by rw [List.length_map, enumT_len]; exact le_big ht
  have h4 : ((sE r ts).map (kD r)).length ≤ big := by rw [List.length_map, sE_len]; exact le_big ht
  have h5 : gSorted [.list ((enumT ts).map (kD r))] = some (.ol ((sE r ts).map (kD r))) := by
    simp only [gSorted, seqOf, Option.bind_some, srtOk_kD, srt_kD, if_true]
  have h6 : (List.map (fun p : Nat × Th => PyData.int (p.1 : Int)) (sE r ts)) = ((sE r ts).map fun p => (p.1 : Int)).map .int := by rw [List.map_map]; rfl
  unfold m_places b_places
  simp -implicitDefEqProofs only [eVar_ap, dVar_ap, eC_ap, dOf_ap, eFrz_ap, eBin_ap, bTest_ap, bTru_ap, bAnd_ap, bOr_ap, bNot_ap, eIf_ap, eB_ap, eAnd_ap, eOr_ap, aNil_ap, aCons_ap, sNil_ap, sCons_ap, eTup_ap, eLst_ap, eCall_ap, eApp_ap, oNone_ap, oSome_ap, eSl_ap, sNil'_ap, sSeq_ap, sBrk_ap, sRet_ap, sRetN_ap, sRetO_ap, sDrop_ap, sIf_ap, sSet_ap, sApp_ap, sTown_ap, sExt_ap, sIns_ap, sSetIx_ap, sAsg_ap, sPar_ap, iOf_ap, iVal_ap, iRng1_ap, iRng2_ap, sFor_ap, eComp_ap, bYes_ap, frzAt_ap, eUn_ap, eNotD_ap, eOrD_ap, eChain_ap, eListRg1_ap, eIsa_ap, eMt_ap, iEnumV_ap, iEnumF_ap, iZipV_ap, iZipF_ap, eTLen_ap, iRng3D_ap, sEnd_ap, eSs_ap, sPar3_ap, xPop_ap, xTup1_ap, xCat_ap, sSetX_ap, sAppX_ap, sParO_ap, sForEI_ap, sForK_ap, eRep_ap, eDicK_ap, eDicT_ap, sPut_ap, eAlt_ap, sTry_ap, eGetD_ap, eLockI_ap, iKeyF_ap, sSetDef_ap, eTupVals_ap, sNst_ap, frzNAt_ap, sAppN_ap, sStN_ap, eListRg2_ap, eLam_ap, eCallP_ap, eNow_ap, dBef_ap, sShApp_ap, xShPop_ap, sShNow_ap, sShNowX_ap, sShClr_ap, yCall_ap, yOf_ap, yX_ap, yR_ap, yIf_ap, sRetS_ap, unX_ap, ytOf_ap, ytTru_ap, ytNot_ap, ytSeq_ap, ytCmp_ap, yaOf_ap, yaCons_ap, yApp_ap, eMethR_ap, sMakeSh_ap, runB_ap, gOne_ap, gMany_ap, dI_ap, yesC_ap, dCmp_int, setD, kill_nx, kill_rt, kill_rs, kill_bk, Option.bind_some, Option.map_some, Option.bind_none, Option.map_none, List.getElem?_cons_zero, List.getElem?_cons_succ, List.set_cons_zero, List.set_cons_succ, List.cons_append, List.nil_append, List.append_nil, List.replicate, List.length_cons, List.length_nil, Nat.reduceAdd, Nat.reduceSub, Nat.zero_add, wdat_no, wdat_d, wdat_town, wdat_ol, wdat_od, wfrz_no, wfrz_d, wfrz_town, wfrz_ol, wfrz_od, wval_no, wval_d, wval_town, wval_ol, wval_od, warg_no, warg_d, warg_town, warg_ol, warg_od, vals, gLen, gAbs, gMax2, gMin2, gInt, gTup, gList, wipeW, if_true, if_false, Bool.false_eq_true, Bool.not_true, Bool.not_false, reduceCtorEq, seqOf, enumD_ts, h3, e1, h5, iSeq, h4, e2]
  rw [h6]
/-- the list in order -/
def ordT (r : Rw) (ts : List Th) : List Th := (sE r ts).map (·.2)
theorem ordT_len (r : Rw) (ts : List Th) : (ordT r ts).length = ts.length := by simp [ordT, sE_len]
theorem dIx_ts {ts : List Th} {p : Nat × Th} (h : p ∈ enumT ts) : dIx (tsD ts) (.int (p.1 : Int)) = some (.d p.2.d) := by
  have g := enumT_get h
  obtain ⟨hi, e⟩ := List.getElem?_eq_some_iff.mp g
  rw [ixT _ _ (by omega) (by simpa using hi)]
  simp [e]
theorem ordered_ok (r : Rw) (h : Rw.ok r) (hl : r.length ≤ 1000000) (ts : List Th) (ht : ts.length ≤ 1000000) (n : Nat) : m_ordered [.d (rowD r), .d (tsD ts)] n = some (.d (tsD (ordT r ts)), n) := by
  have e2 := comp_mapA (g := gOne 2) (own := [2]) (elt := eBin dIx (dVar 1) (dVar 2)) (ρ := [.d (rowD r), .d (tsD ts), .no]) (n := n)
    (fun p : Nat × Th => .int (p.1 : Int)) (fun p => p.2.d) (sE r ts) fun p hp => ⟨_, rfl, by simp -implicitDefEqProofs only [eVar_ap, dVar_ap, eC_ap, dOf_ap, eFrz_ap, eBin_ap, bTest_ap, bTru_ap, bAnd_ap, bOr_ap, bNot_ap, eIf_ap, eB_ap, eAnd_ap, eOr_ap, aNil_ap, aCons_ap, sNil_ap, sCons_ap, eTup_ap, eLst_ap, eCall_ap, eApp_ap, oNone_ap, oSome_ap, eSl_ap, sNil'_ap, sSeq_ap, sBrk_ap, sRet_ap, sRetN_ap, sRetO_ap, sDrop_ap, sIf_ap, sSet_ap, sApp_ap, sTown_ap, sExt_ap, sIns_ap, sSetIx_ap, sAsg_ap, sPar_ap, iOf_ap, iVal_ap, iRng1_ap, iRng2_ap, sFor_ap, eComp_ap, bYes_ap, frzAt_ap, eUn_ap, eNotD_ap, eOrD_ap, eChain_ap, eListRg1_ap, eIsa_ap, eMt_ap, iEnumV_ap, iEnumF_ap, iZipV_ap, iZipF_ap, eTLen_ap, iRng3D_ap, sEnd_ap, eSs_ap, sPar3_ap, xPop_ap, xTup1_ap, xCat_ap, sSetX_ap, sAppX_ap, sParO_ap, sForEI_ap, sForK_ap, eRep_ap, eDicK_ap, eDicT_ap, sPut_ap, eAlt_ap, sTry_ap, eGetD_ap, eLockI_ap, iKeyF_ap, sSetDef_ap, eTupVals_ap, sNst_ap, frzNAt_ap, sAppN_ap, sStN_ap, eListRg2_ap, eLam_ap, eCallP_ap, eNow_ap, dBef_ap, sShApp_ap, xShPop_ap, sShNow_ap, sShNowX_ap, sShClr_ap, yCall_ap, yOf_ap, yX_ap, yR_ap, yIf_ap, sRetS_ap, unX_ap, ytOf_ap, ytTru_ap, ytNot_ap, ytSeq_ap, ytCmp_ap, yaOf_ap, yaCons_ap, yApp_ap, eMethR_ap, sMakeSh_ap, runB_ap, gOne_ap, gMany_ap, dI_ap, yesC_ap, dCmp_int, setD, kill_nx, kill_rt, kill_rs, kill_bk, Option.bind_some, Option.map_some, Option.bind_none, Option.map_none, List.getElem?_cons_zero, List.getElem?_cons_succ, List.set_cons_zero, List.set_cons_succ, List.cons_append, List.nil_append, List.append_nil, List.replicate, List.length_cons, List.length_nil, Nat.reduceAdd, Nat.reduceSub, Nat.zero_add, wdat_no, wdat_d, wdat_town, wdat_ol, wdat_od, wfrz_no, wfrz_d, wfrz_town, wfrz_ol, wfrz_od, wval_no, wval_d, wval_town, wval_ol, wval_od, warg_no, warg_d, warg_town, warg_ol, warg_od, vals, gLen, gAbs, gMax2, gMin2, gInt, gTup, gList, wipeW, if_true, if_false, Bool.false_eq_true, Bool.not_true, Bool.not_false, reduceCtorEq, dIx_ts ((sE_perm r ts).mem_iff.mp hp)]⟩
  have h6 : ((sE r ts).map fun p => (p.1 : Int)).map PyData.int = (sE r ts).map fun p : Nat × Th => PyData.int (p.1 : Int) := by rw [List.map_map]; rfl
  have h4 : ((sE r ts).map fun p : Nat × Th => PyData.int (p.1 : Int)).length ≤ big := by rw [List.length_map, sE_len]; exact le_big ht
  have h7 : (sE r ts).map (fun p => p.2.d) = (ordT r ts).map Th.d := by unfold ordT; rw [List.map_map]; rfl
  unfold m_ordered b_ordered
  simp -implicitDefEqProofs only [eVar_ap, dVar_ap, eC_ap, dOf_ap, eFrz_ap, eBin_ap, bTest_ap, bTru_ap, bAnd_ap, bOr_ap, bNot_ap, eIf_ap, eB_ap, eAnd_ap, eOr_ap, aNil_ap, aCons_ap, sNil_ap, sCons_ap, eTup_ap, eLst_ap, eCall_ap, eApp_ap, oNone_ap, oSome_ap, eSl_ap, sNil'_ap, sSeq_ap, sBrk_ap, sRet_ap, sRetN_ap, sRetO_ap, sDrop_ap, sIf_ap, sSet_ap, sApp_ap, sTown_ap, sExt_ap, sIns_ap, sSetIx_ap, sAsg_ap, sPar_ap, iOf_ap, iVal_ap, iRng1_ap, iRng2_ap, sFor_ap, eComp_ap, bYes_ap, frzAt_ap, eUn_ap, eNotD_ap, eOrD_ap, eChain_ap, eListRg1_ap, eIsa_ap, eMt_ap, iEnumV_ap, iEnumF_ap, iZipV_ap, iZipF_ap, eTLen_ap, iRng3D_ap, sEnd_ap, eSs_ap, sPar3_ap, xPop_ap, xTup1_ap, xCat_ap, sSetX_ap, sAppX_ap, sParO_ap, sForEI_ap, sForK_ap, eRep_ap, eDicK_ap, eDicT_ap, sPut_ap, eAlt_ap, sTry_ap, eGetD_ap, eLockI_ap, iKeyF_ap, sSetDef_ap, eTupVals_ap, sNst_ap, frzNAt_ap, sAppN_ap, sStN_ap, eListRg2_ap, eLam_ap, eCallP_ap, eNow_ap, dBef_ap, sShApp_ap, xShPop_ap, sShNow_ap, sShNowX_ap, sShClr_ap, yCall_ap, yOf_ap, yX_ap, yR_ap, yIf_ap, sRetS_ap, unX_ap, ytOf_ap, ytTru_ap, ytNot_ap, ytSeq_ap, ytCmp_ap, yaOf_ap, yaCons_ap, yApp_ap, eMethR_ap, sMakeSh_ap, runB_ap, gOne_ap, gMany_ap, dI_ap, yesC_ap, dCmp_int, setD, kill_nx, kill_rt, kill_rs, kill_bk, Option.bind_some, Option.map_some, Option.bind_none, Option.map_none, List.getElem?_cons_zero, List.getElem?_cons_succ, List.set_cons_zero, List.set_cons_succ, List.cons_append, List.nil_append, List.append_nil, List.replicate, List.length_cons, List.length_nil, Nat.reduceAdd, Nat.reduceSub, Nat.zero_add, wdat_no, wdat_d, wdat_town, wdat_ol, wdat_od, wfrz_no, wfrz_d, wfrz_town, wfrz_ol, wfrz_od, wval_no, wval_d, wval_town, wval_ol, wval_od, warg_no, warg_d, warg_town, warg_ol, warg_od, vals, gLen, gAbs, gMax2, gMin2, gInt, gTup, gList, wipeW, if_true, if_false, Bool.false_eq_true, Bool.not_true, Bool.not_false, reduceCtorEq, places_ok r h hl ts ht n, iSeq, h6, h4, e2, h7]
end L2.Lv.Sh
namespace L2.Lv.Sh
open PySem PySem.Spec PyProof.Rows L2 L2.Lv
/-! slices -/
theorem cutD_take (xs : List PyData) (k : Nat) (h : k ≤ xs.length) : cutD xs none (some (k : Int)) = xs.take k := by
  unfold cutD
  rw [HT.sIx_none, HT.sIx_nat, Nat.min_eq_left h]
  simp
theorem cutD_drop (xs : List PyData) (k : Nat) (h : k ≤ xs.length) : cutD xs (some (k : Int)) none = xs.drop k := by
  unfold cutD
  rw [HT.sIx_none, HT.sIx_nat, Nat.min_eq_left h, ← List.length_drop, List.take_length]
/-! the list by hand -/
def ins (r : Rw) (p : Nat × Th) (L : List (Nat × Th)) : List (Nat × Th) := L.takeWhile (fun q => decide (wrd r q.2 p.2 < 1)) ++ p :: L.dropWhile (fun q => decide (wrd r q.2 p.2 < 1))
theorem enumT_pw (ts : List Th) : (enumT ts).Pairwise fun p q => p.1 < q.1 := by
  rw [List.pairwise_iff_getElem]
  intro i j hi hj hij
  simpa [enumT] using hij
end L2.Lv.Sh
namespace L2.Lv.Sh
open PySem PySem.Spec PyProof.Rows L2 L2.Lv
/-! runs -/
def rStep (r : Rw) (acc : List (List Th)) (t : Th) : List (List Th) := match acc.getLast? with
  | none => acc ++ [[t]]
  | some l => match l.getLast? with
    | none => acc ++ [[t]]
    | some u => if wrd r u t < 1 then acc.dropLast ++ [l ++ [t]] else acc ++ [[t]]
theorem rStep_nil (r : Rw) (t : Th) : rStep r [] t = [[t]] := rfl
theorem rStep_app (r : Rw) (A : List (List Th)) (B : List Th) (u t : Th) : rStep r (A ++ [B ++ [u]]) t = if wrd r u t < 1 then A ++ [B ++ [u] ++ [t]] else A ++ [B ++ [u]] ++ [[t]] := by
  unfold rStep
  simp
theorem ixN_last (k : Nat) : ixN (k + 1) (-1) = some k := by
  unfold ixN
  simp
  try omega
/-- what holds of the list so far -/
def rInv (acc : List (List Th)) (k : Nat) : Prop := acc.length + k ≤ 1000 ∧ ∀ l ∈ acc, l ≠ [] ∧ l.length + k ≤ 1000
theorem rInv.step {r : Rw} {acc : List (List Th)} {k : Nat} {t : Th} (h : rInv acc (k + 1)) : rInv (rStep r acc t) k := by
  obtain ⟨h1, h2⟩ := h
  rcases List.eq_nil_or_concat acc with rfl | ⟨A, l, rfl⟩
  · rw [rStep_nil]; exact ⟨by simp at h1 ⊢; omega, fun l hl => by simp at hl; subst hl; exact ⟨by simp, by simp at h1 ⊢; omega⟩⟩
  · obtain ⟨n1, n2⟩ := h2 l (by simp)
    rcases List.eq_nil_or_concat l with rfl | ⟨B, u, rfl⟩
    · exact absurd rfl n1
    · simp only [List.concat_eq_append] at *
      rw [rStep_app]
      split
      · refine ⟨by simp at h1 ⊢; omega, fun l hl => ?_⟩
        rcases List.mem_append.mp hl with hl | hl
        · obtain ⟨m1, m2⟩ := h2 l (List.mem_append_left _ hl); exact ⟨m1, by omega⟩
        · simp at hl; subst hl; exact ⟨by simp, by simp at n2 ⊢; omega⟩
      · refine ⟨by simp at h1 ⊢; omega, fun l hl => ?_⟩
        rcases List.mem_append.mp hl with hl | hl
        · obtain ⟨m1, m2⟩ := h2 l hl; exact ⟨m1, by omega⟩
        · simp at hl; subst hl; exact ⟨by simp, by simp at h1 ⊢; omega⟩
theorem rLast (A : List (List Th)) (l : List Th) : dIx (.list ((A ++ [l]).map tsD)) (.int (-1)) = some (.d (tsD l)) := by
  show (atI _ _).map W.d = _
  rw [List.map_append, List.map_singleton, atI_last]; rfl
theorem tLast (B : List Th) (u : Th) : dIx (tsD (B ++ [u])) (.int (-1)) = some (.d u.d) := by
  show (atI _ _).map W.d = _
  rw [List.map_append, List.map_singleton, atI_last]; rfl
theorem rSet (A : List (List Th)) (l m : List Th) : ((A ++ [l]).map tsD).set A.length (tsD m) = (A ++ [m]).map tsD := by
  simp
abbrev tssD (l : List (List Th)) : PyData := .tuple (l.map tsD)
/-! crossings -/
end L2.Lv.Sh
namespace L2.Lv.Sh
open PySem PySem.Spec PyProof.Rows L2 L2.Lv
/-! in order -/
theorem boolsOf_map {α : Type} (f : α → Bool) : ∀ l : List α, boolsOf (l.map fun x => .bool (f x)) = some (l.map f)
  | [] => rfl
  | x :: l => by
    show (boolsOf (l.map fun x => PyData.bool (f x))).map _ = _
    rw [boolsOf_map f l]; rfl
theorem ordT_pw (r : Rw) (ts : List Th) : (ordT r ts).Pairwise fun s t => wrd r s t < 1 := by
  unfold ordT
  rw [List.pairwise_map]
  exact (sE_pw r ts).imp fun h => by unfold rle at h; omega
theorem enumT_snd (ts : List Th) : (enumT ts).map (·.2) = ts := by
  apply List.ext_getElem?
  intro i
  simp only [enumT, List.getElem?_map, List.getElem?_mapIdx]
  cases ts[i]? <;> rfl
end L2.Lv.Sh
namespace L2.Lv.Sh
open PySem PySem.Spec PyProof.Rows L2 L2.Lv
/-! places in a list in order -/
theorem cut_at {α : Type} {R : α → α → Prop} (p : α → Bool) : ∀ (l : List α), (∀ a b, R a b → p b = true → p a = true) → l.Pairwise R → (l.filter p).length ≤ l.length ∧ ∀ i x, l[i]? = some x → (p x = true ↔ i < (l.filter p).length)
  | [], _, _ => ⟨Nat.le_refl _, by simp⟩
  | a :: l, h, hp => by
    obtain ⟨h1, h2⟩ := List.pairwise_cons.mp hp
    obtain ⟨k1, k2⟩ := cut_at p l h h2
    refine ⟨List.length_filter_le _ _, fun i x hx => ?_⟩
    cases hq : p a with
    | true =>
      rw [List.filter_cons, if_pos hq, List.length_cons]
      cases i with
      | zero => simp at hx; subst hx; simp [hq]
      | succ i => simp at hx; rw [k2 i x hx]; omega
    | false =>
      have hn : ∀ z ∈ l, p z = false := fun z hz => by
        cases hz2 : p z with
        | false => rfl
        | true => rw [h a z (h1 z hz) hz2] at hq; cases hq
      have hf : l.filter p = [] := List.filter_eq_nil_iff.mpr fun z hz => by simp [hn z hz]
      rw [List.filter_cons, if_neg (by simp [hq]), hf]
      cases i with
      | zero => simp at hx; subst hx; simp [hq]
      | succ i => simp at hx; simp [hn x (List.mem_of_getElem? hx)]
theorem ixTsN (ts : List Th) (i : Nat) (h : i < ts.length) : dIx (tsD ts) (.int (i : Int)) = some (.d (ts[i]).d) := by
  rw [ixT _ _ (by omega) (by simpa using h)]
  simp
theorem wrd_lt0 {r : Rw} {a b t : Th} (h1 : wrd r a b < 1) (h2 : wrd r b t < 0) : wrd r a t < 0 := by
  have q := wrd_trans r t a b
  have a1 := wrd_anti r a t
  have a2 := wrd_anti r b t
  by_cases h : wrd r a t < 0
  · exact h
  · have := q (by omega) h1; omega
theorem first_place_loop (r : Rw) (hr : Rw.ok r) (hrl : r.length ≤ 1000000) (ts : List Th) (t : Th) (k : Nat) (hk : ∀ i x, ts[i]? = some x → (wrd r x t < 0 ↔ i < k)) (n : Nat) : ∀ (f lo hi : Nat) (w5 : W), lo ≤ k → k ≤ hi → hi ≤ ts.length → hi - lo < f → ∃ w5',
    loopW (bTest (eBin (dCmp rLt zLt) (dVar 3) (dVar 4))) l_first_place_1 f [.d (rowD r), .d (tsD ts), .d t.d, I' lo, I' hi, w5] n = some (.nx [.d (rowD r), .d (tsD ts), .d t.d, I' k, I' k, w5'] n)
  | 0, _, _, _, _, _, _, h => absurd h (Nat.not_lt_zero _)
  | f + 1, lo, hi, w5, h1, h2, h3, h4 => by
    rw [loopW_succ]
    by_cases c : lo < hi
    · have hc : rLt (lo : Int) (hi : Int) = true := rLt_t (by omega)
      have hd : ∀ i : Int, divC i 2 = true := fun i => divC_ok (by decide) (by decide)
      have hm : ((lo : Int) + (hi : Int)) / 2 = (((lo + hi) / 2 : Nat) : Int) := by omega
      have hl : (lo + hi) / 2 < ts.length := by omega
      have hx : dIx (tsD ts) (.int (((lo + hi) / 2 : Nat) : Int)) = some (.d (ts[(lo + hi) / 2]).d) := ixTsN ts _ hl
      have ht := told_ok' r hr hrl (ts[(lo + hi) / 2]) t n
      have hq := hk _ _ (List.getElem?_eq_getElem hl)
      by_cases d : wrd r (ts[(lo + hi) / 2]) t < 0
      · obtain ⟨w5', e⟩ := first_place_loop r hr hrl ts t k hk n f ((lo + hi) / 2 + 1) hi (I' ((lo + hi) / 2 : Nat)) (by have := hq.mp d; omega) h2 h3 (by omega)
        refine ⟨w5', ?_⟩
        have hz : (((lo + hi) / 2 + 1 : Nat) : Int) = (((lo + hi) / 2 : Nat) : Int) + 1 := by omega
        rw [hz] at e
        unfold l_first_place_1 at e ⊢
        simp -implicitDefEqProofs only [eVar_ap, dVar_ap, eC_ap, dOf_ap, eFrz_ap, eBin_ap, bTest_ap, bTru_ap, bAnd_ap, bOr_ap, bNot_ap, eIf_ap, eB_ap, eAnd_ap, eOr_ap, aNil_ap, aCons_ap, sNil_ap, sCons_ap, eTup_ap, eLst_ap, eCall_ap, eApp_ap, oNone_ap, oSome_ap, eSl_ap, sNil'_ap, sSeq_ap, sBrk_ap, sRet_ap, sRetN_ap, sRetO_ap, sDrop_ap, sIf_ap, sSet_ap, sApp_ap, sTown_ap, sExt_ap, sIns_ap, sSetIx_ap, sAsg_ap, sPar_ap, iOf_ap, iVal_ap, iRng1_ap, iRng2_ap, sFor_ap, eComp_ap, bYes_ap, frzAt_ap, eUn_ap, eNotD_ap, eOrD_ap, eChain_ap, eListRg1_ap, eIsa_ap, eMt_ap, iEnumV_ap, iEnumF_ap, iZipV_ap, iZipF_ap, eTLen_ap, iRng3D_ap, sEnd_ap, eSs_ap, sPar3_ap, xPop_ap, xTup1_ap, xCat_ap, sSetX_ap, sAppX_ap, sParO_ap, sForEI_ap, sForK_ap, eRep_ap, eDicK_ap, eDicT_ap, sPut_ap, eAlt_ap, sTry_ap, eGetD_ap, eLockI_ap, iKeyF_ap, sSetDef_ap, eTupVals_ap, sNst_ap, frzNAt_ap, sAppN_ap, sStN_ap, eListRg2_ap, eLam_ap, eCallP_ap, eNow_ap, dBef_ap, sShApp_ap, xShPop_ap, sShNow_ap, sShNowX_ap, sShClr_ap, yCall_ap, yOf_ap, yX_ap, yR_ap, yIf_ap, sRetS_ap, unX_ap, ytOf_ap, ytTru_ap, ytNot_ap, ytSeq_ap, ytCmp_ap, yaOf_ap, yaCons_ap, yApp_ap, eMethR_ap, sMakeSh_ap, runB_ap, gOne_ap, gMany_ap, dI_ap, yesC_ap, dCmp_int, setD, kill_nx, kill_rt, kill_rs, kill_bk, Option.bind_some, Option.map_some, Option.bind_none, Option.map_none, List.getElem?_cons_zero, List.getElem?_cons_succ, List.set_cons_zero, List.set_cons_succ, List.cons_append, List.nil_append, List.append_nil, List.replicate, List.length_cons, List.length_nil, Nat.reduceAdd, Nat.reduceSub, Nat.zero_add, wdat_no, wdat_d, wdat_town, wdat_ol, wdat_od, wfrz_no, wfrz_d, wfrz_town, wfrz_ol, wfrz_od, wval_no, wval_d, wval_town, wval_ol, wval_od, warg_no, warg_d, warg_town, warg_ol, warg_od, vals, gLen, gAbs, gMax2, gMin2, gInt, gTup, gList, wipeW, if_true, if_false, Bool.false_eq_true, Bool.not_true, Bool.not_false, reduceCtorEq, hc, dDiv, dAdd_int, hd, hm, hx, ht, rLt_t d, e]
      · obtain ⟨w5', e⟩ := first_place_loop r hr hrl ts t k hk n f lo ((lo + hi) / 2) (I' ((lo + hi) / 2 : Nat)) h1 (by have := mt hq.mpr d; omega) (by omega) (by omega)
        refine ⟨w5', ?_⟩
        unfold l_first_place_1 at e ⊢
        simp -implicitDefEqProofs only [eVar_ap, dVar_ap, eC_ap, dOf_ap, eFrz_ap, eBin_ap, bTest_ap, bTru_ap, bAnd_ap, bOr_ap, bNot_ap, eIf_ap, eB_ap, eAnd_ap, eOr_ap, aNil_ap, aCons_ap, sNil_ap, sCons_ap, eTup_ap, eLst_ap, eCall_ap, eApp_ap, oNone_ap, oSome_ap, eSl_ap, sNil'_ap, sSeq_ap, sBrk_ap, sRet_ap, sRetN_ap, sRetO_ap, sDrop_ap, sIf_ap, sSet_ap, sApp_ap, sTown_ap, sExt_ap, sIns_ap, sSetIx_ap, sAsg_ap, sPar_ap, iOf_ap, iVal_ap, iRng1_ap, iRng2_ap, sFor_ap, eComp_ap, bYes_ap, frzAt_ap, eUn_ap, eNotD_ap, eOrD_ap, eChain_ap, eListRg1_ap, eIsa_ap, eMt_ap, iEnumV_ap, iEnumF_ap, iZipV_ap, iZipF_ap, eTLen_ap, iRng3D_ap, sEnd_ap, eSs_ap, sPar3_ap, xPop_ap, xTup1_ap, xCat_ap, sSetX_ap, sAppX_ap, sParO_ap, sForEI_ap, sForK_ap, eRep_ap, eDicK_ap, eDicT_ap, sPut_ap, eAlt_ap, sTry_ap, eGetD_ap, eLockI_ap, iKeyF_ap, sSetDef_ap, eTupVals_ap, sNst_ap, frzNAt_ap, sAppN_ap, sStN_ap, eListRg2_ap, eLam_ap, eCallP_ap, eNow_ap, dBef_ap, sShApp_ap, xShPop_ap, sShNow_ap, sShNowX_ap, sShClr_ap, yCall_ap, yOf_ap, yX_ap, yR_ap, yIf_ap, sRetS_ap, unX_ap, ytOf_ap, ytTru_ap, ytNot_ap, ytSeq_ap, ytCmp_ap, yaOf_ap, yaCons_ap, yApp_ap, eMethR_ap, sMakeSh_ap, runB_ap, gOne_ap, gMany_ap, dI_ap, yesC_ap, dCmp_int, setD, kill_nx, kill_rt, kill_rs, kill_bk, Option.bind_some, Option.map_some, Option.bind_none, Option.map_none, List.getElem?_cons_zero, List.getElem?_cons_succ, List.set_cons_zero, List.set_cons_succ, List.cons_append, List.nil_append, List.append_nil, List.replicate, List.length_cons, List.length_nil, Nat.reduceAdd, Nat.reduceSub, Nat.zero_add, wdat_no, wdat_d, wdat_town, wdat_ol, wdat_od, wfrz_no, wfrz_d, wfrz_town, wfrz_ol, wfrz_od, wval_no, wval_d, wval_town, wval_ol, wval_od, warg_no, warg_d, warg_town, warg_ol, warg_od, vals, gLen, gAbs, gMax2, gMin2, gInt, gTup, gList, wipeW, if_true, if_false, Bool.false_eq_true, Bool.not_true, Bool.not_false, reduceCtorEq, hc, dDiv, dAdd_int, hd, hm, hx, ht, rLt_f d, e]
    · have hc : rLt (lo : Int) (hi : Int) = false := rLt_f (by omega)
      obtain rfl : lo = k := by omega
      obtain rfl : hi = lo := by omega
      exact ⟨w5, by simp -implicitDefEqProofs only [eVar_ap, dVar_ap, eC_ap, dOf_ap, eFrz_ap, eBin_ap, bTest_ap, bTru_ap, bAnd_ap, bOr_ap, bNot_ap, eIf_ap, eB_ap, eAnd_ap, eOr_ap, aNil_ap, aCons_ap, sNil_ap, sCons_ap, eTup_ap, eLst_ap, eCall_ap, eApp_ap, oNone_ap, oSome_ap, eSl_ap, sNil'_ap, sSeq_ap, sBrk_ap, sRet_ap, sRetN_ap, sRetO_ap, sDrop_ap, sIf_ap, sSet_ap, sApp_ap, sTown_ap, sExt_ap, sIns_ap, sSetIx_ap, sAsg_ap, sPar_ap, iOf_ap, iVal_ap, iRng1_ap, iRng2_ap, sFor_ap, eComp_ap, bYes_ap, frzAt_ap, eUn_ap, eNotD_ap, eOrD_ap, eChain_ap, eListRg1_ap, eIsa_ap, eMt_ap, iEnumV_ap, iEnumF_ap, iZipV_ap, iZipF_ap, eTLen_ap, iRng3D_ap, sEnd_ap, eSs_ap, sPar3_ap, xPop_ap, xTup1_ap, xCat_ap, sSetX_ap, sAppX_ap, sParO_ap, sForEI_ap, sForK_ap, eRep_ap, eDicK_ap, eDicT_ap, sPut_ap, eAlt_ap, sTry_ap, eGetD_ap, eLockI_ap, iKeyF_ap, sSetDef_ap, eTupVals_ap, sNst_ap, frzNAt_ap, sAppN_ap, sStN_ap, eListRg2_ap, eLam_ap, eCallP_ap, eNow_ap, dBef_ap, sShApp_ap, xShPop_ap, sShNow_ap, sShNowX_ap, sShClr_ap, yCall_ap, yOf_ap, yX_ap, yR_ap, yIf_ap, sRetS_ap, unX_ap, ytOf_ap, ytTru_ap, ytNot_ap, ytSeq_ap, ytCmp_ap, yaOf_ap, yaCons_ap, yApp_ap, eMethR_ap, sMakeSh_ap, runB_ap, gOne_ap, gMany_ap, dI_ap, yesC_ap, dCmp_int, setD, kill_nx, kill_rt, kill_rs, kill_bk, Option.bind_some, Option.map_some, Option.bind_none, Option.map_none, List.getElem?_cons_zero, List.getElem?_cons_succ, List.set_cons_zero, List.set_cons_succ, List.cons_append, List.nil_append, List.append_nil, List.replicate, List.length_cons, List.length_nil, Nat.reduceAdd, Nat.reduceSub, Nat.zero_add, wdat_no, wdat_d, wdat_town, wdat_ol, wdat_od, wfrz_no, wfrz_d, wfrz_town, wfrz_ol, wfrz_od, wval_no, wval_d, wval_town, wval_ol, wval_od, warg_no, warg_d, warg_town, warg_ol, warg_od, vals, gLen, gAbs, gMax2, gMin2, gInt, gTup, gList, wipeW, if_true, if_false, Bool.false_eq_true, Bool.not_true, Bool.not_false, reduceCtorEq, hc]⟩
theorem first_place_ok (r : Rw) (hr : Rw.ok r) (hrl : r.length ≤ 1000000) (ts : List Th) (hp : ts.Pairwise fun s t => wrd r s t < 1) (hl : ts.length ≤ 1000) (t : Th) (n : Nat) : m_first_place [.d (rowD r), .d (tsD ts), .d t.d] n = some (I' ((ts.filter fun x => decide (wrd r x t < 0)).length : Nat), n) := by
  obtain ⟨k1, k2⟩ := cut_at (fun x => decide (wrd r x t < 0)) ts (fun a b hab hb => by simp at hb ⊢; exact wrd_lt0 hab hb) hp
  obtain ⟨w5, e⟩ := first_place_loop r hr hrl ts t _ (fun i x hx => by have := k2 i x hx; simpa using this) n 100000 0 ts.length .no (Nat.zero_le _) k1 (Nat.le_refl _) (by omega)
  have e : loopW _ l_first_place_1 100000 [.d (rowD r), .d (tsD ts), .d t.d, .d (.int 0), .d (.int ts.length), .no] n = _ := e
  unfold m_first_place b_first_place
  simp -implicitDefEqProofs only [eVar_ap, dVar_ap, eC_ap, dOf_ap, eFrz_ap, eBin_ap, bTest_ap, bTru_ap, bAnd_ap, bOr_ap, bNot_ap, eIf_ap, eB_ap, eAnd_ap, eOr_ap, aNil_ap, aCons_ap, sNil_ap, sCons_ap, eTup_ap, eLst_ap, eCall_ap, eApp_ap, oNone_ap, oSome_ap, eSl_ap, sNil'_ap, sSeq_ap, sBrk_ap, sRet_ap, sRetN_ap, sRetO_ap, sDrop_ap, sIf_ap, sSet_ap, sApp_ap, sTown_ap, sExt_ap, sIns_ap, sSetIx_ap, sAsg_ap, sPar_ap, iOf_ap, iVal_ap, iRng1_ap, iRng2_ap, sFor_ap, eComp_ap, bYes_ap, frzAt_ap, eUn_ap, eNotD_ap, eOrD_ap, eChain_ap, eListRg1_ap, eIsa_ap, eMt_ap, iEnumV_ap, iEnumF_ap, iZipV_ap, iZipF_ap, eTLen_ap, iRng3D_ap, sEnd_ap, eSs_ap, sPar3_ap, xPop_ap, xTup1_ap, xCat_ap, sSetX_ap, sAppX_ap, sParO_ap, sForEI_ap, sForK_ap, eRep_ap, eDicK_ap, eDicT_ap, sPut_ap, eAlt_ap, sTry_ap, eGetD_ap, eLockI_ap, iKeyF_ap, sSetDef_ap, eTupVals_ap, sNst_ap, frzNAt_ap, sAppN_ap, sStN_ap, eListRg2_ap, eLam_ap, eCallP_ap, eNow_ap, dBef_ap, sShApp_ap, xShPop_ap, sShNow_ap, sShNowX_ap, sShClr_ap, yCall_ap, yOf_ap, yX_ap, yR_ap, yIf_ap, sRetS_ap, unX_ap, ytOf_ap, ytTru_ap, ytNot_ap, ytSeq_ap, ytCmp_ap, yaOf_ap, yaCons_ap, yApp_ap, eMethR_ap, sMakeSh_ap, runB_ap, gOne_ap, gMany_ap, dI_ap, yesC_ap, dCmp_int, setD, kill_nx, kill_rt, kill_rs, kill_bk, Option.bind_some, Option.map_some, Option.bind_none, Option.map_none, List.getElem?_cons_zero, List.getElem?_cons_succ, List.set_cons_zero, List.set_cons_succ, List.cons_append, List.nil_append, List.append_nil, List.replicate, List.length_cons, List.length_nil, Nat.reduceAdd, Nat.reduceSub, Nat.zero_add, wdat_no, wdat_d, wdat_town, wdat_ol, wdat_od, wfrz_no, wfrz_d, wfrz_town, wfrz_ol, wfrz_od, wval_no, wval_d, wval_town, wval_ol, wval_od, warg_no, warg_d, warg_town, warg_ol, warg_od, vals, gLen, gAbs, gMax2, gMin2, gInt, gTup, gList, wipeW, if_true, if_false, Bool.false_eq_true, Bool.not_true, Bool.not_false, reduceCtorEq, List.length_map, e]
theorem last_place_loop (r : Rw) (hr : Rw.ok r) (hrl : r.length ≤ 1000000) (ts : List Th) (t : Th) (k : Nat) (hk : ∀ i x, ts[i]? = some x → (wrd r x t < 1 ↔ i < k)) (n : Nat) : ∀ (f lo hi : Nat) (w5 : W), lo ≤ k → k ≤ hi → hi ≤ ts.length → hi - lo < f → ∃ w5',
    loopW (bTest (eBin (dCmp rLt zLt) (dVar 3) (dVar 4))) l_last_place_1 f [.d (rowD r), .d (tsD ts), .d t.d, I' lo, I' hi, w5] n = some (.nx [.d (rowD r), .d (tsD ts), .d t.d, I' k, I' k, w5'] n)
  | 0, _, _, _, _, _, _, h => absurd h (Nat.not_lt_zero _)
  | f + 1, lo, hi, w5, h1, h2, h3, h4 => by
    rw [loopW_succ]
    by_cases c : lo < hi
    · have hc : rLt (lo : Int) (hi : Int) = true := rLt_t (by omega)
      have hd : ∀ i : Int, divC i 2 = true := fun i => divC_ok (by decide) (by decide)
      have hm : ((lo : Int) + (hi : Int)) / 2 = (((lo + hi) / 2 : Nat) : Int) := by omega
      have hl : (lo + hi) / 2 < ts.length := by omega
      have hx : dIx (tsD ts) (.int (((lo + hi) / 2 : Nat) : Int)) = some (.d (ts[(lo + hi) / 2]).d) := ixTsN ts _ hl
      have ht := told_ok' r hr hrl (ts[(lo + hi) / 2]) t n
      have hq := hk _ _ (List.getElem?_eq_getElem hl)
      by_cases d : wrd r (ts[(lo + hi) / 2]) t < 1
      · obtain ⟨w5', e⟩ := last_place_loop r hr hrl ts t k hk n f ((lo + hi) / 2 + 1) hi (I' ((lo + hi) / 2 : Nat)) (by have := hq.mp d; omega) h2 h3 (by omega)
        refine ⟨w5', ?_⟩
        have hz : (((lo + hi) / 2 + 1 : Nat) : Int) = (((lo + hi) / 2 : Nat) : Int) + 1 := by omega
        rw [hz] at e
        unfold l_last_place_1 at e ⊢
        simp -implicitDefEqProofs only [eVar_ap, dVar_ap, eC_ap, dOf_ap, eFrz_ap, eBin_ap, bTest_ap, bTru_ap, bAnd_ap, bOr_ap, bNot_ap, eIf_ap, eB_ap, eAnd_ap, eOr_ap, aNil_ap, aCons_ap, sNil_ap, sCons_ap, eTup_ap, eLst_ap, eCall_ap, eApp_ap, oNone_ap, oSome_ap, eSl_ap, sNil'_ap, sSeq_ap, sBrk_ap, sRet_ap, sRetN_ap, sRetO_ap, sDrop_ap, sIf_ap, sSet_ap, sApp_ap, sTown_ap, sExt_ap, sIns_ap, sSetIx_ap, sAsg_ap, sPar_ap, iOf_ap, iVal_ap, iRng1_ap, iRng2_ap, sFor_ap, eComp_ap, bYes_ap, frzAt_ap, eUn_ap, eNotD_ap, eOrD_ap, eChain_ap, eListRg1_ap, eIsa_ap, eMt_ap, iEnumV_ap, iEnumF_ap, iZipV_ap, iZipF_ap, eTLen_ap, iRng3D_ap, sEnd_ap, eSs_ap, sPar3_ap, xPop_ap, xTup1_ap, xCat_ap, sSetX_ap, sAppX_ap, sParO_ap, sForEI_ap, sForK_ap, eRep_ap, eDicK_ap, eDicT_ap, sPut_ap, eAlt_ap, sTry_ap, eGetD_ap, eLockI_ap, iKeyF_ap, sSetDef_ap, eTupVals_ap, sNst_ap, frzNAt_ap, sAppN_ap, sStN_ap, eListRg2_ap, eLam_ap, eCallP_ap, eNow_ap, dBef_ap, sShApp_ap, xShPop_ap, sShNow_ap, sShNowX_ap, sShClr_ap, yCall_ap, yOf_ap, yX_ap, yR_ap, yIf_ap, sRetS_ap, unX_ap, ytOf_ap, ytTru_ap, ytNot_ap, ytSeq_ap, ytCmp_ap, yaOf_ap, yaCons_ap, yApp_ap, eMethR_ap, sMakeSh_ap, runB_ap, gOne_ap, gMany_ap, dI_ap, yesC_ap, dCmp_int, setD, kill_nx, kill_rt, kill_rs, kill_bk, Option.bind_some, Option.map_some, Option.bind_none, Option.map_none, List.getElem?_cons_zero, List.getElem?_cons_succ, List.set_cons_zero, List.set_cons_succ, List.cons_append, List.nil_append, List.append_nil, List.replicate, List.length_cons, List.length_nil, Nat.reduceAdd, Nat.reduceSub, Nat.zero_add, wdat_no, wdat_d, wdat_town, wdat_ol, wdat_od, wfrz_no, wfrz_d, wfrz_town, wfrz_ol, wfrz_od, wval_no, wval_d, wval_town, wval_ol, wval_od, warg_no, warg_d, warg_town, warg_ol, warg_od, vals, gLen, gAbs, gMax2, gMin2, gInt, gTup, gList, wipeW, if_true, if_false, Bool.false_eq_true, Bool.not_true, Bool.not_false, reduceCtorEq, hc, dDiv, dAdd_int, hd, hm, hx, ht, rLt_t d, e]
      · obtain ⟨w5', e⟩ := last_place_loop r hr hrl ts t k hk n f lo ((lo + hi) / 2) (I' ((lo + hi) / 2 : Nat)) h1 (by have := mt hq.mpr d; omega) (by omega) (by omega)
        refine ⟨w5', ?_⟩
        unfold l_last_place_1 at e ⊢
        simp -implicitDefEqProofs only [eVar_ap, dVar_ap, eC_ap, dOf_ap, eFrz_ap, eBin_ap, bTest_ap, bTru_ap, bAnd_ap, bOr_ap, bNot_ap, eIf_ap, eB_ap, eAnd_ap, eOr_ap, aNil_ap, aCons_ap, sNil_ap, sCons_ap, eTup_ap, eLst_ap, eCall_ap, eApp_ap, oNone_ap, oSome_ap, eSl_ap, sNil'_ap, sSeq_ap, sBrk_ap, sRet_ap, sRetN_ap, sRetO_ap, sDrop_ap, sIf_ap, sSet_ap, sApp_ap, sTown_ap, sExt_ap, sIns_ap, sSetIx_ap, sAsg_ap, sPar_ap, iOf_ap, iVal_ap, iRng1_ap, iRng2_ap, sFor_ap, eComp_ap, bYes_ap, frzAt_ap, eUn_ap, eNotD_ap, eOrD_ap, eChain_ap, eListRg1_ap, eIsa_ap, eMt_ap, iEnumV_ap, iEnumF_ap, iZipV_ap, iZipF_ap, eTLen_ap, iRng3D_ap, sEnd_ap, eSs_ap, sPar3_ap, xPop_ap, xTup1_ap, xCat_ap, sSetX_ap, sAppX_ap, sParO_ap, sForEI_ap, sForK_ap, eRep_ap, eDicK_ap, eDicT_ap, sPut_ap, eAlt_ap, sTry_ap, eGetD_ap, eLockI_ap, iKeyF_ap, sSetDef_ap, eTupVals_ap, sNst_ap, frzNAt_ap, sAppN_ap, sStN_ap, eListRg2_ap, eLam_ap, eCallP_ap, eNow_ap, dBef_ap, sShApp_ap, xShPop_ap, sShNow_ap, sShNowX_ap, sShClr_ap, yCall_ap, yOf_ap, yX_ap, yR_ap, yIf_ap, sRetS_ap, unX_ap, ytOf_ap, ytTru_ap, ytNot_ap, ytSeq_ap, ytCmp_ap, yaOf_ap, yaCons_ap, yApp_ap, eMethR_ap, sMakeSh_ap, runB_ap, gOne_ap, gMany_ap, dI_ap, yesC_ap, dCmp_int, setD, kill_nx, kill_rt, kill_rs, kill_bk, Option.bind_some, Option.map_some, Option.bind_none, Option.map_none, List.getElem?_cons_zero, List.getElem?_cons_succ, List.set_cons_zero, List.set_cons_succ, List.cons_append, List.nil_append, List.append_nil, List.replicate, List.length_cons, List.length_nil, Nat.reduceAdd, Nat.reduceSub, Nat.zero_add, wdat_no, wdat_d, wdat_town, wdat_ol, wdat_od, wfrz_no, wfrz_d, wfrz_town, wfrz_ol, wfrz_od, wval_no, wval_d, wval_town, wval_ol, wval_od, warg_no, warg_d, warg_town, warg_ol, warg_od, vals, gLen, gAbs, gMax2, gMin2, gInt, gTup, gList, wipeW, if_true, if_false, Bool.false_eq_true, Bool.not_true, Bool.not_false, reduceCtorEq, hc, dDiv, dAdd_int, hd, hm, hx, ht, rLt_f d, e]
    · have hc : rLt (lo : Int) (hi : Int) = false := rLt_f (by omega)
      obtain rfl : lo = k := by omega
      obtain rfl : hi = lo := by omega
      exact ⟨w5, by simp -implicitDefEqProofs only [eVar_ap, dVar_ap, eC_ap, dOf_ap, eFrz_ap, eBin_ap, bTest_ap, bTru_ap, bAnd_ap, bOr_ap, bNot_ap, eIf_ap, eB_ap, eAnd_ap, eOr_ap, aNil_ap, aCons_ap, sNil_ap, sCons_ap, eTup_ap, eLst_ap, eCall_ap, eApp_ap, oNone_ap, oSome_ap, eSl_ap, sNil'_ap, sSeq_ap, sBrk_ap, sRet_ap, sRetN_ap, sRetO_ap, sDrop_ap, sIf_ap, sSet_ap, sApp_ap, sTown_ap, sExt_ap, sIns_ap, sSetIx_ap, sAsg_ap, sPar_ap, iOf_ap, iVal_ap, iRng1_ap, iRng2_ap, sFor_ap, eComp_ap, bYes_ap, frzAt_ap, eUn_ap, eNotD_ap, eOrD_ap, eChain_ap, eListRg1_ap, eIsa_ap, eMt_ap, iEnumV_ap, iEnumF_ap, iZipV_ap, iZipF_ap, eTLen_ap, iRng3D_ap, sEnd_ap, eSs_ap, sPar3_ap, xPop_ap, xTup1_ap, xCat_ap, sSetX_ap, sAppX_ap, sParO_ap, sForEI_ap, sForK_ap, eRep_ap, eDicK_ap, eDicT_ap, sPut_ap, eAlt_ap, sTry_ap, eGetD_ap, eLockI_ap, iKeyF_ap, sSetDef_ap, eTupVals_ap, sNst_ap, frzNAt_ap, sAppN_ap, sStN_ap, eListRg2_ap, eLam_ap, eCallP_ap, eNow_ap, dBef_ap, sShApp_ap, xShPop_ap, sShNow_ap, sShNowX_ap, sShClr_ap, yCall_ap, yOf_ap, yX_ap, yR_ap, yIf_ap, sRetS_ap, unX_ap, ytOf_ap, ytTru_ap, ytNot_ap, ytSeq_ap, ytCmp_ap, yaOf_ap, yaCons_ap, yApp_ap, eMethR_ap, sMakeSh_ap, runB_ap, gOne_ap, gMany_ap, dI_ap, yesC_ap, dCmp_int, setD, kill_nx, kill_rt, kill_rs, kill_bk, Option.bind_some, Option.map_some, Option.bind_none, Option.map_none, List.getElem?_cons_zero, List.getElem?_cons_succ, List.set_cons_zero, List.set_cons_succ, List.cons_append, List.nil_append, List.append_nil, List.replicate, List.length_cons, List.length_nil, Nat.reduceAdd, Nat.reduceSub, Nat.zero_add, wdat_no, wdat_d, wdat_town, wdat_ol, wdat_od, wfrz_no, wfrz_d, wfrz_town, wfrz_ol, wfrz_od, wval_no, wval_d, wval_town, wval_ol, wval_od, warg_no, warg_d, warg_town, warg_ol, warg_od, vals, gLen, gAbs, gMax2, gMin2, gInt, gTup, gList, wipeW, if_true, if_false, Bool.false_eq_true, Bool.not_true, Bool.not_false, reduceCtorEq, hc]⟩
theorem last_place_ok (r : Rw) (hr : Rw.ok r) (hrl : r.length ≤ 1000000) (ts : List Th) (hp : ts.Pairwise fun s t => wrd r s t < 1) (hl : ts.length ≤ 1000) (t : Th) (n : Nat) : m_last_place [.d (rowD r), .d (tsD ts), .d t.d] n = some (I' ((ts.filter fun x => decide (wrd r x t < 1)).length : Nat), n) := by
  obtain ⟨k1, k2⟩ := cut_at (fun x => decide (wrd r x t < 1)) ts (fun a b hab hb => by simp at hb ⊢; exact wrd_trans r a b t hab hb) hp
  obtain ⟨w5, e⟩ := last_place_loop r hr hrl ts t _ (fun i x hx => by have := k2 i x hx; simpa using this) n 100000 0 ts.length .no (Nat.zero_le _) k1 (Nat.le_refl _) (by omega)
  have e : loopW _ l_last_place_1 100000 [.d (rowD r), .d (tsD ts), .d t.d, .d (.int 0), .d (.int ts.length), .no] n = _ := e
  unfold m_last_place b_last_place
  simp -implicitDefEqProofs only [eVar_ap, dVar_ap, eC_ap, dOf_ap, eFrz_ap, eBin_ap, bTest_ap, bTru_ap, bAnd_ap, bOr_ap, bNot_ap, eIf_ap, eB_ap, eAnd_ap, eOr_ap, aNil_ap, aCons_ap, sNil_ap, sCons_ap, eTup_ap, eLst_ap, eCall_ap, eApp_ap, oNone_ap, oSome_ap, eSl_ap, sNil'_ap, sSeq_ap, sBrk_ap, sRet_ap, sRetN_ap, sRetO_ap, sDrop_ap, sIf_ap, sSet_ap, sApp_ap, sTown_ap, sExt_ap, sIns_ap, sSetIx_ap, sAsg_ap, sPar_ap, iOf_ap, iVal_ap, iRng1_ap, iRng2_ap, sFor_ap, eComp_ap, bYes_ap, frzAt_ap, eUn_ap, eNotD_ap, eOrD_ap, eChain_ap, eListRg1_ap, eIsa_ap, eMt_ap, iEnumV_ap, iEnumF_ap, iZipV_ap, iZipF_ap, eTLen_ap, iRng3D_ap, sEnd_ap, eSs_ap, sPar3_ap, xPop_ap, xTup1_ap, xCat_ap, sSetX_ap, sAppX_ap, sParO_ap, sForEI_ap, sForK_ap, eRep_ap, eDicK_ap, eDicT_ap, sPut_ap, eAlt_ap, sTry_ap, eGetD_ap, eLockI_ap, iKeyF_ap, sSetDef_ap, eTupVals_ap, sNst_ap, frzNAt_ap, sAppN_ap, sStN_ap, eListRg2_ap, eLam_ap, eCallP_ap, eNow_ap, dBef_ap, sShApp_ap, xShPop_ap, sShNow_ap, sShNowX_ap, sShClr_ap, yCall_ap, yOf_ap, yX_ap, yR_ap, yIf_ap, sRetS_ap, unX_ap, ytOf_ap, ytTru_ap, ytNot_ap, ytSeq_ap, ytCmp_ap, yaOf_ap, yaCons_ap, yApp_ap, eMethR_ap, sMakeSh_ap, runB_ap, gOne_ap, gMany_ap, dI_ap, yesC_ap, dCmp_int, setD, kill_nx, kill_rt, kill_rs, kill_bk, Option.bind_some, Option.map_some, Option.bind_none, Option.map_none, List.getElem?_cons_zero, List.getElem?_cons_succ, List.set_cons_zero, List.set_cons_succ, List.cons_append, List.nil_append, List.append_nil, List.replicate, List.length_cons, List.length_nil, Nat.reduceAdd, Nat.reduceSub, Nat.zero_add, wdat_no, wdat_d, wdat_town, wdat_ol, wdat_od, wfrz_no, wfrz_d, wfrz_town, wfrz_ol, wfrz_od, wval_no, wval_d, wval_town, wval_ol, wval_od, warg_no, warg_d, warg_town, warg_ol, warg_od, vals, gLen, gAbs, gMax2, gMin2, gInt, gTup, gList, wipeW, if_true, if_false, Bool.false_eq_true, Bool.not_true, Bool.not_false, reduceCtorEq, List.length_map, e]
end L2.Lv.Sh
namespace L2.Lv.Sh
open PySem PySem.Spec PyProof.Rows L2 L2.Lv
/-! groups -/
def gStep (r : Rw) (acc : List (List Th)) (t : Th) : List (List Th) := match acc.getLast? with
  | none => acc ++ [[t]]
  | some l => match l.head? with
    | none => acc ++ [[t]]
    | some u => if wrd r u t = 0 then acc.dropLast ++ [l ++ [t]] else acc ++ [[t]]
def groupsT (r : Rw) (ts : List Th) : List (List Th) := (ordT r ts).foldl (gStep r) []
theorem gStep_nil (r : Rw) (t : Th) : gStep r [] t = [[t]] := rfl
theorem gStep_app (r : Rw) (A : List (List Th)) (u : Th) (B : List Th) (t : Th) : gStep r (A ++ [u :: B]) t = if wrd r u t = 0 then A ++ [u :: (B ++ [t])] else A ++ [u :: B] ++ [[t]] := by
  unfold gStep
  simp
/-- what holds of the list so far -/
def gInv (acc : List (List Th)) (k : Nat) : Prop := acc.flatten.length + k ≤ 1000 ∧ ∀ l ∈ acc, l ≠ []
theorem gInv.len {acc : List (List Th)} {k : Nat} (h : gInv acc k) : acc.length + k ≤ 1000 := by
  obtain ⟨h1, h2⟩ := h
  have key : acc.length ≤ acc.flatten.length := by
    clear h1
    induction acc with
    | nil => exact Nat.le_refl _
    | cons l acc ih =>
      have := ih fun z hz => h2 z (List.mem_cons_of_mem _ hz)
      have h3 := List.length_pos_iff.mpr (h2 l (List.mem_cons_self ..))
      simp at this ⊢; omega
  omega
theorem gInv.at {acc : List (List Th)} {k : Nat} (h : gInv acc k) {l : List Th} (hl : l ∈ acc) : l.length + k ≤ 1000 := by
  have h1 := h.1
  have : l.length ≤ acc.flatten.length := by
    obtain ⟨A, B, rfl⟩ := List.append_of_mem hl
    simp; omega
  omega
theorem gStep_flat (r : Rw) (acc : List (List Th)) (t : Th) (h : ∀ l ∈ acc, l ≠ []) : (gStep r acc t).flatten = acc.flatten ++ [t] ∧ ∀ l ∈ gStep r acc t, l ≠ [] := by
  rcases List.eq_nil_or_concat acc with rfl | ⟨A, l, rfl⟩
  · exact ⟨rfl, fun l hl => by rw [gStep_nil] at hl; simp at hl; subst hl; simp⟩
  · simp only [List.concat_eq_append] at *
    cases l with
    | nil => exact absurd rfl (h [] (by simp))
    | cons u B =>
      rw [gStep_app]
      split
      · refine ⟨by simp, fun l hl => ?_⟩
        rcases List.mem_append.mp hl with hl | hl
        · exact h l (List.mem_append_left _ hl)
        · simp at hl; subst hl; simp
      · refine ⟨by simp, fun l hl => ?_⟩
        rcases List.mem_append.mp hl with hl | hl
        · exact h l hl
        · simp at hl; subst hl; simp
theorem gInv.step {r : Rw} {acc : List (List Th)} {k : Nat} {t : Th} (h : gInv acc (k + 1)) : gInv (gStep r acc t) k := by
  obtain ⟨h1, h2⟩ := h
  obtain ⟨f1, f2⟩ := gStep_flat r acc t h2
  exact ⟨by rw [f1]; simp at h1 ⊢; omega, f2⟩
theorem gInv0 {k : Nat} (h : k ≤ 1000) : gInv [] k := ⟨by simpa using h, by simp⟩
theorem fold_flat (r : Rw) : ∀ (ts : List Th) (acc : List (List Th)), (∀ l ∈ acc, l ≠ []) → (ts.foldl (gStep r) acc).flatten = acc.flatten ++ ts ∧ ∀ l ∈ ts.foldl (gStep r) acc, l ≠ []
  | [], acc, h => ⟨by simp, h⟩
  | t :: ts, acc, h => by
    obtain ⟨f1, f2⟩ := gStep_flat r acc t h
    obtain ⟨g1, g2⟩ := fold_flat r ts (gStep r acc t) f2
    exact ⟨by rw [List.foldl_cons, g1, f1]; simp, g2⟩
theorem groupsT_flat (r : Rw) (ts : List Th) : (groupsT r ts).flatten = ordT r ts ∧ ∀ l ∈ groupsT r ts, l ≠ [] := by
  obtain ⟨h1, h2⟩ := fold_flat r (ordT r ts) [] (by simp)
  rw [List.flatten_nil, List.nil_append] at h1
  exact ⟨h1, h2⟩
theorem hd0 (u : Th) (B : List Th) : dIx (tsD (u :: B)) (.int 0) = some (.d u.d) := i0 _ _
theorem groups_loop (r : Rw) (hr : Rw.ok r) (hrl : r.length ≤ 1000000) (w1 : W) (n : Nat) : ∀ (ts : List Th) (acc : List (List Th)) (w3 : W), gInv acc ts.length → ∃ w3',
    loopF (gOne 3) l_groups_1 (ts.map Th.d) [.d (rowD r), w1, .ol (acc.map tsD), w3] n = some (.nx [.d (rowD r), w1, .ol ((ts.foldl (gStep r) acc).map tsD), w3'] n)
  | [], acc, w3, _ => ⟨w3, rfl⟩
  | t :: ts, acc, w3, h => by
    obtain ⟨w3', e⟩ := groups_loop r hr hrl w1 n ts (gStep r acc t) (.d t.d) (gInv.step h)
    refine ⟨w3', ?_⟩
    have hb : (acc.map tsD).length < big := by rw [List.length_map]; unfold big; have := h.len; simp at this; omega
    rw [List.map_cons, loopF_cons, List.foldl_cons]
    unfold l_groups_1 at e ⊢
    rcases List.eq_nil_or_concat acc with rfl | ⟨A, l, rfl⟩
    · have hb0 : 0 < big := by decide
      rw [gStep_nil] at e
      rw [gStep_nil]
      have e' : loopF (gOne 3) _ (ts.map Th.d) [.d (rowD r), w1, .ol [.tuple [t.d]], .d t.d] n = _ := e
      simp -implicitDefEqProofs only [eVar_ap, dVar_ap, eC_ap, dOf_ap, eFrz_ap, eBin_ap, bTest_ap, bTru_ap, bAnd_ap, bOr_ap, bNot_ap, eIf_ap, eB_ap, eAnd_ap, eOr_ap, aNil_ap, aCons_ap, sNil_ap, sCons_ap, eTup_ap, eLst_ap, eCall_ap, eApp_ap, oNone_ap, oSome_ap, eSl_ap, sNil'_ap, sSeq_ap, sBrk_ap, sRet_ap, sRetN_ap, sRetO_ap, sDrop_ap, sIf_ap, sSet_ap, sApp_ap, sTown_ap, sExt_ap, sIns_ap, sSetIx_ap, sAsg_ap, sPar_ap, iOf_ap, iVal_ap, iRng1_ap, iRng2_ap, sFor_ap, eComp_ap, bYes_ap, frzAt_ap, eUn_ap, eNotD_ap, eOrD_ap, eChain_ap, eListRg1_ap, eIsa_ap, eMt_ap, iEnumV_ap, iEnumF_ap, iZipV_ap, iZipF_ap, eTLen_ap, iRng3D_ap, sEnd_ap, eSs_ap, sPar3_ap, xPop_ap, xTup1_ap, xCat_ap, sSetX_ap, sAppX_ap, sParO_ap, sForEI_ap, sForK_ap, eRep_ap, eDicK_ap, eDicT_ap, sPut_ap, eAlt_ap, sTry_ap, eGetD_ap, eLockI_ap, iKeyF_ap, sSetDef_ap, eTupVals_ap, sNst_ap, frzNAt_ap, sAppN_ap, sStN_ap, eListRg2_ap, eLam_ap, eCallP_ap, eNow_ap, dBef_ap, sShApp_ap, xShPop_ap, sShNow_ap, sShNowX_ap, sShClr_ap, yCall_ap, yOf_ap, yX_ap, yR_ap, yIf_ap, sRetS_ap, unX_ap, ytOf_ap, ytTru_ap, ytNot_ap, ytSeq_ap, ytCmp_ap, yaOf_ap, yaCons_ap, yApp_ap, eMethR_ap, sMakeSh_ap, runB_ap, gOne_ap, gMany_ap, dI_ap, yesC_ap, dCmp_int, setD, kill_nx, kill_rt, kill_rs, kill_bk, Option.bind_some, Option.map_some, Option.bind_none, Option.map_none, List.getElem?_cons_zero, List.getElem?_cons_succ, List.set_cons_zero, List.set_cons_succ, List.cons_append, List.nil_append, List.append_nil, List.replicate, List.length_cons, List.length_nil, Nat.reduceAdd, Nat.reduceSub, Nat.zero_add, wdat_no, wdat_d, wdat_town, wdat_ol, wdat_od, wfrz_no, wfrz_d, wfrz_town, wfrz_ol, wfrz_od, wval_no, wval_d, wval_town, wval_ol, wval_od, warg_no, warg_d, warg_town, warg_ol, warg_od, vals, gLen, gAbs, gMax2, gMin2, gInt, gTup, gList, wipeW, if_true, if_false, Bool.false_eq_true, Bool.not_true, Bool.not_false, reduceCtorEq, dTru, List.map_nil, List.isEmpty_nil, hb0, e']
    · simp only [List.concat_eq_append] at *
      cases l with
      | nil => exact absurd rfl (h.2 [] (by simp))
      | cons u B =>
        have n2 := h.at (l := u :: B) (by simp)
        rw [gStep_app] at e
        rw [gStep_app]
        have ht := told_ok' r hr hrl u t n
        have he : ((A ++ [u :: B]).map tsD).isEmpty = false := by simp
        by_cases c : wrd r u t = 0
        · rw [if_pos c] at e
          rw [if_pos c]
          have ea : dAdd (tsD (u :: B)) (.tuple [t.d]) = some (.d (tsD (u :: (B ++ [t])))) := by
            rw [dAdd_tup _ _ (le_big (by simp at n2 ⊢; omega))]; simp
          have ix : ixN ((A ++ [u :: B]).map tsD).length (-1) = some A.length := by
            have : ((A ++ [u :: B]).map tsD).length = A.length + 1 := by simp
            rw [this, ixN_last]
          have c2 : (wrd r u t == 0) = true := by simpa using c
          simp -implicitDefEqProofs only [eVar_ap, dVar_ap, eC_ap, dOf_ap, eFrz_ap, eBin_ap, bTest_ap, bTru_ap, bAnd_ap, bOr_ap, bNot_ap, eIf_ap, eB_ap, eAnd_ap, eOr_ap, aNil_ap, aCons_ap, sNil_ap, sCons_ap, eTup_ap, eLst_ap, eCall_ap, eApp_ap, oNone_ap, oSome_ap, eSl_ap, sNil'_ap, sSeq_ap, sBrk_ap, sRet_ap, sRetN_ap, sRetO_ap, sDrop_ap, sIf_ap, sSet_ap, sApp_ap, sTown_ap, sExt_ap, sIns_ap, sSetIx_ap, sAsg_ap, sPar_ap, iOf_ap, iVal_ap, iRng1_ap, iRng2_ap, sFor_ap, eComp_ap, bYes_ap, frzAt_ap, eUn_ap, eNotD_ap, eOrD_ap, eChain_ap, eListRg1_ap, eIsa_ap, eMt_ap, iEnumV_ap, iEnumF_ap, iZipV_ap, iZipF_ap, eTLen_ap, iRng3D_ap, sEnd_ap, eSs_ap, sPar3_ap, xPop_ap, xTup1_ap, xCat_ap, sSetX_ap, sAppX_ap, sParO_ap, sForEI_ap, sForK_ap, eRep_ap, eDicK_ap, eDicT_ap, sPut_ap, eAlt_ap, sTry_ap, eGetD_ap, eLockI_ap, iKeyF_ap, sSetDef_ap, eTupVals_ap, sNst_ap, frzNAt_ap, sAppN_ap, sStN_ap, eListRg2_ap, eLam_ap, eCallP_ap, eNow_ap, dBef_ap, sShApp_ap, xShPop_ap, sShNow_ap, sShNowX_ap, sShClr_ap, yCall_ap, yOf_ap, yX_ap, yR_ap, yIf_ap, sRetS_ap, unX_ap, ytOf_ap, ytTru_ap, ytNot_ap, ytSeq_ap, ytCmp_ap, yaOf_ap, yaCons_ap, yApp_ap, eMethR_ap, sMakeSh_ap, runB_ap, gOne_ap, gMany_ap, dI_ap, yesC_ap, dCmp_int, setD, kill_nx, kill_rt, kill_rs, kill_bk, Option.bind_some, Option.map_some, Option.bind_none, Option.map_none, List.getElem?_cons_zero, List.getElem?_cons_succ, List.set_cons_zero, List.set_cons_succ, List.cons_append, List.nil_append, List.append_nil, List.replicate, List.length_cons, List.length_nil, Nat.reduceAdd, Nat.reduceSub, Nat.zero_add, wdat_no, wdat_d, wdat_town, wdat_ol, wdat_od, wfrz_no, wfrz_d, wfrz_town, wfrz_ol, wfrz_od, wval_no, wval_d, wval_town, wval_ol, wval_od, warg_no, warg_d, warg_town, warg_ol, warg_od, vals, gLen, gAbs, gMax2, gMin2, gInt, gTup, gList, wipeW, if_true, if_false, Bool.false_eq_true, Bool.not_true, Bool.not_false, reduceCtorEq, dTru, he, dNeg, rLast, hd0, ht, dEq_int, c2, ea, ix, rSet, e]
        · rw [if_neg c] at e
          rw [if_neg c]
          have em : (A ++ [u :: B]).map tsD ++ [.tuple [t.d]] = (A ++ [u :: B] ++ [[t]]).map tsD := by simp
          have c2 : (wrd r u t == 0) = false := by simpa using c
          simp -implicitDefEqProofs only [eVar_ap, dVar_ap, eC_ap, dOf_ap, eFrz_ap, eBin_ap, bTest_ap, bTru_ap, bAnd_ap, bOr_ap, bNot_ap, eIf_ap, eB_ap, eAnd_ap, eOr_ap, aNil_ap, aCons_ap, sNil_ap, sCons_ap, eTup_ap, eLst_ap, eCall_ap, eApp_ap, oNone_ap, oSome_ap, eSl_ap, sNil'_ap, sSeq_ap, sBrk_ap, sRet_ap, sRetN_ap, sRetO_ap, sDrop_ap, sIf_ap, sSet_ap, sApp_ap, sTown_ap, sExt_ap, sIns_ap, sSetIx_ap, sAsg_ap, sPar_ap, iOf_ap, iVal_ap, iRng1_ap, iRng2_ap, sFor_ap, eComp_ap, bYes_ap, frzAt_ap, eUn_ap, eNotD_ap, eOrD_ap, eChain_ap, eListRg1_ap, eIsa_ap, eMt_ap, iEnumV_ap, iEnumF_ap, iZipV_ap, iZipF_ap, eTLen_ap, iRng3D_ap, sEnd_ap, eSs_ap, sPar3_ap, xPop_ap, xTup1_ap, xCat_ap, sSetX_ap, sAppX_ap, sParO_ap, sForEI_ap, sForK_ap, eRep_ap, eDicK_ap, eDicT_ap, sPut_ap, eAlt_ap, sTry_ap, eGetD_ap, eLockI_ap, iKeyF_ap, sSetDef_ap, eTupVals_ap, sNst_ap, frzNAt_ap, sAppN_ap, sStN_ap, eListRg2_ap, eLam_ap, eCallP_ap, eNow_ap, dBef_ap, sShApp_ap, xShPop_ap, sShNow_ap, sShNowX_ap, sShClr_ap, yCall_ap, yOf_ap, yX_ap, yR_ap, yIf_ap, sRetS_ap, unX_ap, ytOf_ap, ytTru_ap, ytNot_ap, ytSeq_ap, ytCmp_ap, yaOf_ap, yaCons_ap, yApp_ap, eMethR_ap, sMakeSh_ap, runB_ap, gOne_ap, gMany_ap, dI_ap, yesC_ap, dCmp_int, setD, kill_nx, kill_rt, kill_rs, kill_bk, Option.bind_some, Option.map_some, Option.bind_none, Option.map_none, List.getElem?_cons_zero, List.getElem?_cons_succ, List.set_cons_zero, List.set_cons_succ, List.cons_append, List.nil_append, List.append_nil, List.replicate, List.length_cons, List.length_nil, Nat.reduceAdd, Nat.reduceSub, Nat.zero_add, wdat_no, wdat_d, wdat_town, wdat_ol, wdat_od, wfrz_no, wfrz_d, wfrz_town, wfrz_ol, wfrz_od, wval_no, wval_d, wval_town, wval_ol, wval_od, warg_no, warg_d, warg_town, warg_ol, warg_od, vals, gLen, gAbs, gMax2, gMin2, gInt, gTup, gList, wipeW, if_true, if_false, Bool.false_eq_true, Bool.not_true, Bool.not_false, reduceCtorEq, dTru, he, dNeg, rLast, hd0, ht, dEq_int, c2, hb, em, e]
theorem groups_ok (r : Rw) (hr : Rw.ok r) (hrl : r.length ≤ 1000000) (ts : List Th) (ht : ts.length ≤ 1000) (n : Nat) : m_groups [.d (rowD r), .d (tsD ts)] n = some (.d (tssD (groupsT r ts)), n) := by
  obtain ⟨w3, e⟩ := groups_loop r hr hrl (.d (tsD ts)) n (ordT r ts) [] .no (gInv0 (by rw [ordT_len]; exact ht))
  rw [List.map_nil] at e
  unfold m_groups b_groups
  simp -implicitDefEqProofs only [eVar_ap, dVar_ap, eC_ap, dOf_ap, eFrz_ap, eBin_ap, bTest_ap, bTru_ap, bAnd_ap, bOr_ap, bNot_ap, eIf_ap, eB_ap, eAnd_ap, eOr_ap, aNil_ap, aCons_ap, sNil_ap, sCons_ap, eTup_ap, eLst_ap, eCall_ap, eApp_ap, oNone_ap, oSome_ap, eSl_ap, sNil'_ap, sSeq_ap, sBrk_ap, sRet_ap, sRetN_ap, sRetO_ap, sDrop_ap, sIf_ap, sSet_ap, sApp_ap, sTown_ap, sExt_ap, sIns_ap, sSetIx_ap, sAsg_ap, sPar_ap, iOf_ap, iVal_ap, iRng1_ap, iRng2_ap, sFor_ap, eComp_ap, bYes_ap, frzAt_ap, eUn_ap, eNotD_ap, eOrD_ap, eChain_ap, eListRg1_ap, eIsa_ap, eMt_ap, iEnumV_ap, iEnumF_ap, iZipV_ap, iZipF_ap, eTLen_ap, iRng3D_ap, sEnd_ap, eSs_ap, sPar3_ap, xPop_ap, xTup1_ap, xCat_ap, sSetX_ap, sAppX_ap, sParO_ap, sForEI_ap, sForK_ap, eRep_ap, eDicK_ap, eDicT_ap, sPut_ap, eAlt_ap, sTry_ap, eGetD_ap, eLockI_ap, iKeyF_ap, sSetDef_ap, eTupVals_ap, sNst_ap, frzNAt_ap, sAppN_ap, sStN_ap, eListRg2_ap, eLam_ap, eCallP_ap, eNow_ap, dBef_ap, sShApp_ap, xShPop_ap, sShNow_ap, sShNowX_ap, sShClr_ap, yCall_ap, yOf_ap, yX_ap, yR_ap, yIf_ap, sRetS_ap, unX_ap, ytOf_ap, ytTru_ap, ytNot_ap, ytSeq_ap, ytCmp_ap, yaOf_ap, yaCons_ap, yApp_ap, eMethR_ap, sMakeSh_ap, runB_ap, gOne_ap, gMany_ap, dI_ap, yesC_ap, dCmp_int, setD, kill_nx, kill_rt, kill_rs, kill_bk, Option.bind_some, Option.map_some, Option.bind_none, Option.map_none, List.getElem?_cons_zero, List.getElem?_cons_succ, List.set_cons_zero, List.set_cons_succ, List.cons_append, List.nil_append, List.append_nil, List.replicate, List.length_cons, List.length_nil, Nat.reduceAdd, Nat.reduceSub, Nat.zero_add, wdat_no, wdat_d, wdat_town, wdat_ol, wdat_od, wfrz_no, wfrz_d, wfrz_town, wfrz_ol, wfrz_od, wval_no, wval_d, wval_town, wval_ol, wval_od, warg_no, warg_d, warg_town, warg_ol, warg_od, vals, gLen, gAbs, gMax2, gMin2, gInt, gTup, gList, wipeW, if_true, if_false, Bool.false_eq_true, Bool.not_true, Bool.not_false, reduceCtorEq, ordered_ok r hr hrl ts (by omega) n, iSeq, e]
  rfl
/-! the best -/
/-! lists told -/
end L2.Lv.Sh
namespace L2.Lv.Sh
open PySem PySem.Spec PyProof.Rows L2 L2.Lv
end L2.Lv.Sh
namespace L2.Lv.Sh
open PySem PySem.Spec PyProof.Rows L2 L2.Lv
/-! the one list in order, by its classes -/
def eqv (r : Rw) (x : Th) (l : List Th) : List Th := l.filter fun y => wrd r x y == 0
def srted (r : Rw) (l : List Th) : Prop := l.Pairwise fun s t => wrd r s t < 1
/-- l is ts put in order, what is alike left as it stood -/
def Is (r : Rw) (l ts : List Th) : Prop := srted r l ∧ ∀ x, eqv r x l = eqv r x ts
theorem mem_eqv {r : Rw} {x y : Th} {l : List Th} : y ∈ eqv r x l ↔ y ∈ l ∧ wrd r x y = 0 := by
  unfold eqv
  rw [List.mem_filter, beq_iff_eq]
theorem Is.uniq {r : Rw} : ∀ {l m ts : List Th}, Is r l ts → Is r m ts → l = m
  | [], [], _, _, _ => rfl
  | [], b :: m, _, h1, h2 => by
    have h := (h1.2 b).trans (h2.2 b).symm
    have : b ∈ eqv r b (b :: m) := mem_eqv.mpr ⟨List.mem_cons_self .., wrd_refl r b⟩
    rw [← h] at this
    exact absurd (mem_eqv.mp this).1 (by simp)
  | a :: l, [], _, h1, h2 => by
    have h := (h1.2 a).trans (h2.2 a).symm
    have : a ∈ eqv r a (a :: l) := mem_eqv.mpr ⟨List.mem_cons_self .., wrd_refl r a⟩
    rw [h] at this
    exact absurd (mem_eqv.mp this).1 (by simp)
  | a :: l, b :: m, ts, h1, h2 => by
    have hh : ∀ x, eqv r x (a :: l) = eqv r x (b :: m) := fun x => (h1.2 x).trans (h2.2 x).symm
    obtain ⟨p1, p2⟩ := List.pairwise_cons.mp h1.1
    obtain ⟨q1, q2⟩ := List.pairwise_cons.mp h2.1
    have am : a ∈ eqv r a (b :: m) := by rw [← hh]; exact mem_eqv.mpr ⟨List.mem_cons_self .., wrd_refl r a⟩
    have bm : b ∈ eqv r b (a :: l) := by rw [hh]; exact mem_eqv.mpr ⟨List.mem_cons_self .., wrd_refl r b⟩
    have hba : wrd r b a < 1 := by
      rcases List.mem_cons.mp (mem_eqv.mp am).1 with e | e
      · rw [e, wrd_refl]; decide
      · exact q1 a e
    have hab : wrd r a b < 1 := by
      rcases List.mem_cons.mp (mem_eqv.mp bm).1 with e | e
      · rw [e, wrd_refl]; decide
      · exact p1 b e
    have h0 : wrd r a b = 0 := by have := wrd_anti r a b; omega
    have hd := hh a
    unfold eqv at hd
    rw [List.filter_cons, List.filter_cons, if_pos (by rw [wrd_refl]; rfl), if_pos (by rw [h0]; rfl)] at hd
    obtain ⟨rfl, _⟩ := List.cons.inj hd
    have ht : l = m := Is.uniq (ts := l) ⟨p2, fun _ => rfl⟩ ⟨q2, fun x => by
      have hx := hh x
      unfold eqv at hx ⊢
      rw [List.filter_cons, List.filter_cons] at hx
      split at hx
      · exact (List.cons.inj hx).2.symm
      · exact hx.symm⟩
    rw [ht]
theorem ordT_is (r : Rw) (ts : List Th) : Is r (ordT r ts) ts := by
  refine ⟨ordT_pw r ts, fun x => ?_⟩
  have h : (sE r ts).filter (fun p => wrd r x p.2 == 0) = (enumT ts).filter (fun p => wrd r x p.2 == 0) := by
    refine List.Perm.eq_of_pairwise (le := fun p q : Nat × Th => p.1 ≤ q.1) (fun a b ha hb h1 h2 => ?_) ?_ ?_ ((sE_perm r ts).filter _)
    · have g1 := enumT_get ((sE_perm r ts).mem_iff.mp (List.mem_filter.mp ha).1)
      have g2 := enumT_get (List.mem_filter.mp hb).1
      have e : a.1 = b.1 := Nat.le_antisymm h1 h2
      rw [e, g2] at g1
      exact Prod.ext e (Option.some.inj g1).symm
    · rw [List.pairwise_filter]
      refine (sE_pw r ts).imp fun {p q} h hp hq => ?_
      simp only [beq_iff_eq] at hp hq
      have h1 : wrd r p.2 q.2 = 0 := by
        have a1 := wrd_anti r x p.2
        have a2 := wrd_anti r x q.2
        have a3 := wrd_anti r p.2 q.2
        have t1 := wrd_trans r p.2 x q.2 (by omega) (by omega)
        have t2 := wrd_trans r q.2 x p.2 (by omega) (by omega)
        omega
      unfold rle at h
      omega
    · rw [List.pairwise_filter]
      exact (enumT_pw ts).imp fun h _ _ => Nat.le_of_lt h
  unfold eqv ordT
  rw [List.filter_map]
  show ((sE r ts).filter (fun p => wrd r x p.2 == 0)).map (·.2) = _
  rw [h]
  conv => rhs; rw [← enumT_snd ts, List.filter_map]
  rfl
theorem ordT_eq {r : Rw} {l ts : List Th} (h : Is r l ts) : l = ordT r ts := h.uniq (ordT_is r ts)
/-! two lists led together -/
end L2.Lv.Sh
namespace L2.Lv.Sh
open PySem PySem.Spec PyProof.Rows L2 L2.Lv
/-! loops whose state is known -/
theorem loopF_same {α : Type} {g : Fg} {body : Fs} {ρ : List W} {n : Nat} (enc : α → PyData) : ∀ (xs : List α), (∀ x ∈ xs, ∃ ρ1, g (enc x) ρ = some ρ1 ∧ body ρ1 n = some (.nx ρ n)) → loopF g body (xs.map enc) ρ n = some (.nx ρ n)
  | [], _ => rfl
  | x :: xs, h => by
    obtain ⟨ρ1, e1, e2⟩ := h x (List.mem_cons_self ..)
    rw [List.map_cons, loopF_cons]
    simp -implicitDefEqProofs only [eVar_ap, dVar_ap, eC_ap, dOf_ap, eFrz_ap, eBin_ap, bTest_ap, bTru_ap, bAnd_ap, bOr_ap, bNot_ap, eIf_ap, eB_ap, eAnd_ap, eOr_ap, aNil_ap, aCons_ap, sNil_ap, sCons_ap, eTup_ap, eLst_ap, eCall_ap, eApp_ap, oNone_ap, oSome_ap, eSl_ap, sNil'_ap, sSeq_ap, sBrk_ap, sRet_ap, sRetN_ap, sRetO_ap, sDrop_ap, sIf_ap, sSet_ap, sApp_ap, sTown_ap, sExt_ap, sIns_ap, sSetIx_ap, sAsg_ap, sPar_ap, iOf_ap, iVal_ap, iRng1_ap, iRng2_ap, sFor_ap, eComp_ap, bYes_ap, frzAt_ap, eUn_ap, eNotD_ap, eOrD_ap, eChain_ap, eListRg1_ap, eIsa_ap, eMt_ap, iEnumV_ap, iEnumF_ap, iZipV_ap, iZipF_ap, eTLen_ap, iRng3D_ap, sEnd_ap, eSs_ap, sPar3_ap, xPop_ap, xTup1_ap, xCat_ap, sSetX_ap, sAppX_ap, sParO_ap, sForEI_ap, sForK_ap, eRep_ap, eDicK_ap, eDicT_ap, sPut_ap, eAlt_ap, sTry_ap, eGetD_ap, eLockI_ap, iKeyF_ap, sSetDef_ap, eTupVals_ap, sNst_ap, frzNAt_ap, sAppN_ap, sStN_ap, eListRg2_ap, eLam_ap, eCallP_ap, eNow_ap, dBef_ap, sShApp_ap, xShPop_ap, sShNow_ap, sShNowX_ap, sShClr_ap, yCall_ap, yOf_ap, yX_ap, yR_ap, yIf_ap, sRetS_ap, unX_ap, ytOf_ap, ytTru_ap, ytNot_ap, ytSeq_ap, ytCmp_ap, yaOf_ap, yaCons_ap, yApp_ap, eMethR_ap, sMakeSh_ap, runB_ap, gOne_ap, gMany_ap, dI_ap, yesC_ap, dCmp_int, setD, kill_nx, kill_rt, kill_rs, kill_bk, Option.bind_some, Option.map_some, Option.bind_none, Option.map_none, List.getElem?_cons_zero, List.getElem?_cons_succ, List.set_cons_zero, List.set_cons_succ, List.cons_append, List.nil_append, List.append_nil, List.replicate, List.length_cons, List.length_nil, Nat.reduceAdd, Nat.reduceSub, Nat.zero_add, wdat_no, wdat_d, wdat_town, wdat_ol, wdat_od, wfrz_no, wfrz_d, wfrz_town, wfrz_ol, wfrz_od, wval_no, wval_d, wval_town, wval_ol, wval_od, warg_no, warg_d, warg_town, warg_ol, warg_od, vals, gLen, gAbs, gMax2, gMin2, gInt, gTup, gList, wipeW, if_true, if_false, Bool.false_eq_true, Bool.not_true, Bool.not_false, reduceCtorEq, e1, e2, loopF_same enc xs fun z hz => h z (List.mem_cons_of_mem _ hz)]
/-- the turns of a law -/
theorem loop_law {g : Fg} {body : Fs} {ρ : List W} (c : Nat) (h : ∀ (x : PyData) (n : Nat), n + c ≤ big → ∃ ρ1 n', g x ρ = some ρ1 ∧ body ρ1 n = some (.nx ρ n') ∧ n ≤ n' ∧ n' ≤ n + c) :
    ∀ (xs : List PyData) (n : Nat), n + c * xs.length ≤ big → ∃ n', loopF g body xs ρ n = some (.nx ρ n') ∧ n ≤ n' ∧ n' ≤ n + c * xs.length
  | [], n, _ => ⟨n, rfl, Nat.le_refl _, Nat.le_add_right _ _⟩
  | x :: xs, n, hn => by
    rw [List.length_cons, Nat.mul_succ] at hn
    obtain ⟨ρ1, n1, e1, e2, l1, l2⟩ := h x n (by omega)
    obtain ⟨n2, e3, l3, l4⟩ := loop_law c h xs n1 (by omega)
    refine ⟨n2, ?_, by omega, by rw [List.length_cons, Nat.mul_succ]; omega⟩
    rw [loopF_cons]
    simp -implicitDefEqProofs only [eVar_ap, dVar_ap, eC_ap, dOf_ap, eFrz_ap, eBin_ap, bTest_ap, bTru_ap, bAnd_ap, bOr_ap, bNot_ap, eIf_ap, eB_ap, eAnd_ap, eOr_ap, aNil_ap, aCons_ap, sNil_ap, sCons_ap, eTup_ap, eLst_ap, eCall_ap, eApp_ap, oNone_ap, oSome_ap, eSl_ap, sNil'_ap, sSeq_ap, sBrk_ap, sRet_ap, sRetN_ap, sRetO_ap, sDrop_ap, sIf_ap, sSet_ap, sApp_ap, sTown_ap, sExt_ap, sIns_ap, sSetIx_ap, sAsg_ap, sPar_ap, iOf_ap, iVal_ap, iRng1_ap, iRng2_ap, sFor_ap, eComp_ap, bYes_ap, frzAt_ap, eUn_ap, eNotD_ap, eOrD_ap, eChain_ap, eListRg1_ap, eIsa_ap, eMt_ap, iEnumV_ap, iEnumF_ap, iZipV_ap, iZipF_ap, eTLen_ap, iRng3D_ap, sEnd_ap, eSs_ap, sPar3_ap, xPop_ap, xTup1_ap, xCat_ap, sSetX_ap, sAppX_ap, sParO_ap, sForEI_ap, sForK_ap, eRep_ap, eDicK_ap, eDicT_ap, sPut_ap, eAlt_ap, sTry_ap, eGetD_ap, eLockI_ap, iKeyF_ap, sSetDef_ap, eTupVals_ap, sNst_ap, frzNAt_ap, sAppN_ap, sStN_ap, eListRg2_ap, eLam_ap, eCallP_ap, eNow_ap, dBef_ap, sShApp_ap, xShPop_ap, sShNow_ap, sShNowX_ap, sShClr_ap, yCall_ap, yOf_ap, yX_ap, yR_ap, yIf_ap, sRetS_ap, unX_ap, ytOf_ap, ytTru_ap, ytNot_ap, ytSeq_ap, ytCmp_ap, yaOf_ap, yaCons_ap, yApp_ap, eMethR_ap, sMakeSh_ap, runB_ap, gOne_ap, gMany_ap, dI_ap, yesC_ap, dCmp_int, setD, kill_nx, kill_rt, kill_rs, kill_bk, Option.bind_some, Option.map_some, Option.bind_none, Option.map_none, List.getElem?_cons_zero, List.getElem?_cons_succ, List.set_cons_zero, List.set_cons_succ, List.cons_append, List.nil_append, List.append_nil, List.replicate, List.length_cons, List.length_nil, Nat.reduceAdd, Nat.reduceSub, Nat.zero_add, wdat_no, wdat_d, wdat_town, wdat_ol, wdat_od, wfrz_no, wfrz_d, wfrz_town, wfrz_ol, wfrz_od, wval_no, wval_d, wval_town, wval_ol, wval_od, warg_no, warg_d, warg_town, warg_ol, warg_od, vals, gLen, gAbs, gMax2, gMin2, gInt, gTup, gList, wipeW, if_true, if_false, Bool.false_eq_true, Bool.not_true, Bool.not_false, reduceCtorEq, e1, e2, e3]
/-! merged -/
theorem dTru_bool (b : Bool) : dTru (.bool b) = some b := rfl
end L2.Lv.Sh
namespace L2.Lv.Sh
open PySem PySem.Spec PyProof.Rows L2 L2.Lv
/-! lists led together two and two -/
end L2.Lv.Sh
namespace L2.Lv.Sh
open PySem PySem.Spec PyProof.Rows L2 L2.Lv L2.Lv.Sh
/-! what the runs are -/
/-! by hand -/
end L2.Lv.Sh
namespace L2.Lv.Sh
open PySem PySem.Spec PyProof.Rows L2 L2.Lv
/-! what rows tell, put together -/
theorem wrd_le_lt {r : Rw} {a b c : Th} (h1 : wrd r a b < 1) (h2 : wrd r b c < 0) : wrd r a c < 0 := wrd_lt0 h1 h2
theorem wrd_lt_le {r : Rw} {a b c : Th} (h1 : wrd r a b < 0) (h2 : wrd r b c < 1) : wrd r a c < 0 := by
  have a1 := wrd_anti r a b
  have a2 := wrd_anti r b c
  have a3 := wrd_anti r a c
  have t := wrd_trans r b c a h2
  by_cases h : wrd r a c < 0
  · exact h
  · have := t (by omega)
    omega
theorem wrd_eq_trans {r : Rw} {a b c : Th} (h1 : wrd r a b = 0) (h2 : wrd r b c = 0) : wrd r a c = 0 := by
  have a1 := wrd_anti r a b
  have a2 := wrd_anti r b c
  have a3 := wrd_anti r a c
  have t1 := wrd_trans r a b c (by omega) (by omega)
  have t2 := wrd_trans r c b a (by omega) (by omega)
  omega
theorem wrd_sym {r : Rw} {a b : Th} (h : wrd r a b = 0) : wrd r b a = 0 := by have := wrd_anti r a b; omega
/-! groups -/
structure IsG (r : Rw) (G : List (List Th)) : Prop where
  eq : ∀ g ∈ G, ∀ a ∈ g, ∀ b ∈ g, wrd r a b = 0
  lt : G.Pairwise fun g h => ∀ a ∈ g, ∀ b ∈ h, wrd r a b < 0
  ne : ∀ g ∈ G, g ≠ []
theorem IsG.step {r : Rw} {acc : List (List Th)} {t : Th} (h : IsG r acc) (ht : ∀ a ∈ acc.flatten, wrd r a t < 1) : IsG r (gStep r acc t) := by
  rcases List.eq_nil_or_concat acc with rfl | ⟨A, l, rfl⟩
  · rw [gStep_nil]
    refine ⟨fun g hg a ha b hb => ?_, List.pairwise_singleton _ _, by simp⟩
    simp only [List.mem_singleton] at hg
    subst hg
    simp only [List.mem_singleton] at ha hb
    rw [ha, hb, wrd_refl]
  · simp only [List.concat_eq_append] at *
    cases l with
    | nil => exact absurd rfl (h.ne [] (by simp))
    | cons u B =>
      rw [gStep_app]
      have hu : wrd r u t < 1 := ht u (by simp)
      have hl := List.pairwise_append.mp h.lt
      have heq : ∀ a ∈ u :: B, wrd r a u = 0 := fun a ha => h.eq (u :: B) (by simp) a ha u (by simp)
      split
      · rename_i c
        have hat : ∀ a ∈ u :: B, wrd r a t = 0 := fun a ha => wrd_eq_trans (heq a ha) c
        refine ⟨fun g hg a ha b hb => ?_, List.pairwise_append.mpr ⟨hl.1, List.pairwise_singleton _ _, fun g hg k hk a ha b hb => ?_⟩, fun g hg => ?_⟩
        · rcases List.mem_append.mp hg with hg | hg
          · exact h.eq g (List.mem_append_left _ hg) a ha b hb
          · simp only [List.mem_singleton] at hg
            subst hg
            have ha : a ∈ (u :: B) ++ [t] := ha
            have hb : b ∈ (u :: B) ++ [t] := hb
            rcases List.mem_append.mp ha with ha | ha <;> rcases List.mem_append.mp hb with hb | hb
            · exact h.eq (u :: B) (by simp) a ha b hb
            · rw [List.mem_singleton.mp hb]; exact hat a ha
            · rw [List.mem_singleton.mp ha]; exact wrd_sym (hat b hb)
            · rw [List.mem_singleton.mp ha, List.mem_singleton.mp hb]; exact wrd_refl _ _
        · simp only [List.mem_singleton] at hk
          subst hk
          have hb : b ∈ (u :: B) ++ [t] := hb
          rcases List.mem_append.mp hb with hb | hb
          · exact hl.2.2 g hg (u :: B) (by simp) a ha b hb
          · simp only [List.mem_singleton] at hb; subst hb
            exact wrd_lt_le (hl.2.2 g hg (u :: B) (by simp) a ha u (by simp)) hu
        · rcases List.mem_append.mp hg with hg | hg
          · exact h.ne g (List.mem_append_left _ hg)
          · simp only [List.mem_singleton] at hg; subst hg; simp
      · rename_i c
        have hut : wrd r u t < 0 := by omega
        have hat : ∀ a ∈ u :: B, wrd r a t < 0 := fun a ha => wrd_le_lt (by have := heq a ha; omega) hut
        refine ⟨fun g hg a ha b hb => ?_, List.pairwise_append.mpr ⟨h.lt, List.pairwise_singleton _ _, fun g hg k hk a ha b hb => ?_⟩, fun g hg => ?_⟩
        · rcases List.mem_append.mp hg with hg | hg
          · exact h.eq g hg a ha b hb
          · simp only [List.mem_singleton] at hg; subst hg
            simp only [List.mem_singleton] at ha hb; subst ha hb; exact wrd_refl _ _
        · simp only [List.mem_singleton] at hk; subst hk
          simp only [List.mem_singleton] at hb; subst hb
          rcases List.mem_append.mp hg with hg | hg
          · exact wrd_lt_le (hl.2.2 g hg (u :: B) (by simp) a ha u (by simp)) hu
          · simp only [List.mem_singleton] at hg; subst hg; exact hat a ha
        · rcases List.mem_append.mp hg with hg | hg
          · exact h.ne g hg
          · simp only [List.mem_singleton] at hg; subst hg; simp
theorem fold_isG (r : Rw) : ∀ (ts : List Th) (acc : List (List Th)), IsG r acc → srted r (acc.flatten ++ ts) → IsG r (ts.foldl (gStep r) acc)
  | [], _, h, _ => h
  | t :: ts, acc, h, hs => by
    have hf := (gStep_flat r acc t h.ne).1
    refine fold_isG r ts (gStep r acc t) (h.step fun a ha => ?_) ?_
    · exact (List.pairwise_append.mp hs).2.2 a ha t (by simp)
    · rw [hf, List.append_assoc]; exact hs
theorem groupsT_isG (r : Rw) (ts : List Th) : IsG r (groupsT r ts) := fold_isG r (ordT r ts) [] ⟨by simp, List.Pairwise.nil, by simp⟩ (by rw [List.flatten_nil, List.nil_append]; exact ordT_pw r ts)
theorem IsG.tail {r : Rw} {g : List Th} {G : List (List Th)} (h : IsG r (g :: G)) : IsG r G := ⟨fun k hk => h.eq k (List.mem_cons_of_mem _ hk), (List.pairwise_cons.mp h.lt).2, fun k hk => h.ne k (List.mem_cons_of_mem _ hk)⟩
theorem takeWhile_app {α : Type} {p : α → Bool} : ∀ {l m : List α}, (∀ x ∈ l, p x = true) → (∀ x ∈ m.head?, p x = false) → (l ++ m).takeWhile p = l ∧ (l ++ m).dropWhile p = m
  | [], [], _, _ => ⟨rfl, rfl⟩
  | [], b :: m, _, h => by
    have := h b rfl
    simp [List.takeWhile_cons, List.dropWhile_cons, this]
  | a :: l, m, h1, h2 => by
    obtain ⟨q1, q2⟩ := takeWhile_app (l := l) (m := m) (fun x hx => h1 x (List.mem_cons_of_mem _ hx)) h2
    have := h1 a (List.mem_cons_self ..)
    simp [List.takeWhile_cons, List.dropWhile_cons, this, q1, q2]
theorem IsG.uniq {r : Rw} : ∀ {G K : List (List Th)}, IsG r G → IsG r K → G.flatten = K.flatten → G = K
  | [], [], _, _, _ => rfl
  | [], k :: K, _, hK, e => by
    have := hK.ne k (by simp)
    rw [List.flatten_nil, List.flatten_cons] at e
    exact absurd (List.append_eq_nil_iff.mp e.symm).1 this
  | g :: G, [], hG, _, e => by
    have := hG.ne g (by simp)
    rw [List.flatten_nil, List.flatten_cons] at e
    exact absurd (List.append_eq_nil_iff.mp e).1 this
  | g :: G, k :: K, hG, hK, e => by
    cases hg : g with
    | nil => exact absurd hg (hG.ne g (by simp))
    | cons a g' =>
      cases hk : k with
      | nil => exact absurd hk (hK.ne k (by simp))
      | cons b k' =>
        subst hg hk
        have hab : a = b := by
          rw [List.flatten_cons, List.flatten_cons, List.cons_append, List.cons_append] at e
          exact (List.cons.inj e).1
        subst hab
        have key : ∀ {l : List Th} {M : List (List Th)}, IsG r ((a :: l) :: M) → ((a :: l) ++ M.flatten).takeWhile (fun y => wrd r a y == 0) = a :: l ∧ ((a :: l) ++ M.flatten).dropWhile (fun y => wrd r a y == 0) = M.flatten := fun {l M} h => takeWhile_app (fun x hx => by
          have := h.eq (a :: l) (by simp) a (by simp) x hx
          simpa using this) fun x hx => by
          have hm : x ∈ M.flatten := List.mem_of_mem_head? hx
          obtain ⟨m, h1, h2⟩ := List.mem_flatten.mp hm
          have := (List.pairwise_cons.mp h.lt).1 m h1 a (by simp) x h2
          simp; omega
        obtain ⟨p1, p2⟩ := key hG
        obtain ⟨q1, q2⟩ := key hK
        rw [List.flatten_cons, List.flatten_cons] at e
        rw [e] at p1 p2
        have e1 := p1.symm.trans q1
        have e2 := p2.symm.trans q2
        rw [e1, IsG.uniq hG.tail hK.tail e2]
theorem IsG.srt {r : Rw} : ∀ {G : List (List Th)}, IsG r G → srted r G.flatten
  | [], _ => List.Pairwise.nil
  | g :: G, h => by
    rw [List.flatten_cons]
    refine List.pairwise_append.mpr ⟨?_, h.tail.srt, fun a ha b hb => ?_⟩
    · rw [List.pairwise_iff_getElem]
      intro i j hi hj _
      have := h.eq g (by simp) g[i] (List.getElem_mem _) g[j] (List.getElem_mem _)
      omega
    · obtain ⟨m, h1, h2⟩ := List.mem_flatten.mp hb
      have := (List.pairwise_cons.mp h.lt).1 m h1 a ha b h2
      omega
/-! crossings, pairs not told apart -/
def tieT (r : Rw) : List Th → Nat
  | [] => 0
  | t :: ts => (ts.filter fun u => wrd r t u == 0).length + tieT r ts
def tri : Nat → Nat
  | 0 => 0
  | n + 1 => tri n + n
theorem tieT_all {r : Rw} : ∀ {g : List Th}, (∀ a ∈ g, ∀ b ∈ g, wrd r a b = 0) → tieT r g = tri g.length
  | [], _ => rfl
  | a :: g, h => by
    have ih := tieT_all (g := g) fun x hx y hy => h x (List.mem_cons_of_mem _ hx) y (List.mem_cons_of_mem _ hy)
    have : g.filter (fun u => wrd r a u == 0) = g := List.filter_eq_self.mpr fun b hb => by simpa using h a (by simp) b (List.mem_cons_of_mem _ hb)
    simp only [tieT, this, ih, List.length_cons, tri]
    omega
theorem tieT_app {r : Rw} {g m : List Th} (h : ∀ a ∈ g, ∀ b ∈ m, wrd r a b < 0) : tieT r (g ++ m) = tieT r g + tieT r m := by
  induction g with
  | nil => simp [tieT]
  | cons a g ih =>
    have ih := ih fun x hx => h x (List.mem_cons_of_mem _ hx)
    have : m.filter (fun u => wrd r a u == 0) = [] := List.filter_eq_nil_iff.mpr fun b hb => by
      have := h a (by simp) b hb
      simp; omega
    simp only [List.cons_append, tieT, ih, List.filter_append, List.length_append, this, List.length_nil]
    omega
theorem IsG.tie {r : Rw} : ∀ {G : List (List Th)}, IsG r G → tieT r G.flatten = (G.map fun g => tri g.length).sum
  | [], _ => rfl
  | g :: G, h => by
    rw [List.flatten_cons, tieT_app fun a ha b hb => by
      obtain ⟨m, h1, h2⟩ := List.mem_flatten.mp hb
      exact (List.pairwise_cons.mp h.lt).1 m h1 a ha b h2, h.tail.tie, tieT_all (h.eq g (by simp))]
    simp
/-! the best -/
/-! lists told go on -/
/-! places -/
end L2.Lv.Sh
namespace L2.Lv.Sh
open PySem PySem.Spec PyProof.Rows L2 L2.Lv
/-! plain data is like itself -/
mutual
theorem nc_self : ∀ (k : Nat) (x : PyData), nc k x = true → x.canLay0 = true ∧ x.depth ≤ k ∧ PyData.eqv x x = true
  | 0, _, h => by simp [nc] at h
  | k + 1, .none, _ => by simp [PyData.canLay0, PyData.depth, PyData.eqv]
  | k + 1, .bool b, _ => by simp [PyData.canLay0, PyData.depth, PyData.eqv]
  | k + 1, .int i, _ => by simp [PyData.canLay0, PyData.depth, PyData.eqv]
  | k + 1, .str s, h => by
    have h : shp (.str s) = true := h
    have := SeqAt.canLay_of_shaped h
    refine ⟨this, by simp [PyData.depth], by simp [PyData.eqv]⟩
  | k + 1, .tuple xs, h => by
    simp [nc] at h
    obtain ⟨h1, h2, h3⟩ := nc_selfAll k xs h.2
    exact ⟨by simpa [PyData.canLay0] using h1, by simp [PyData.depth]; omega, by simpa [PyData.eqv] using h3⟩
  | k + 1, .list _, h => by simp [nc] at h
  | k + 1, .dict _, h => by simp [nc] at h
theorem nc_selfAll : ∀ (k : Nat) (xs : List PyData), (∀ x ∈ xs, nc k x = true) → PyData.canLayAll0 xs = true ∧ PyData.depthAll xs ≤ k ∧ PyData.eqvAll xs xs = true
  | _, [], _ => by simp [PyData.canLayAll0, PyData.depthAll, PyData.eqvAll]
  | k, x :: xs, h => by
    obtain ⟨a1, a2, a3⟩ := nc_self k x (h x (List.mem_cons_self ..))
    obtain ⟨b1, b2, b3⟩ := nc_selfAll k xs fun z hz => h z (List.mem_cons_of_mem _ hz)
    refine ⟨by simp [PyData.canLayAll0, a1, b1], by simp [PyData.depthAll]; omega, by simp [PyData.eqvAll, a3, b3]⟩
end
theorem nc_shp {k : Nat} {x : PyData} (h : nc k x = true) (hk : k ≤ 60) : shp x = true := by
  obtain ⟨h1, h2, _⟩ := nc_self k x h
  simp only [shp, SeqAt.shaped, h1, Bool.true_and, decide_eq_true_eq]
  omega
theorem dNe_self {k : Nat} {x : PyData} (h : nc k x = true) (hk : k ≤ 60) : dNe x x = some (.d (.bool false)) := by
  rw [dNe, nc_shp h hk, (nc_self k x h).2.2]; rfl
/-! a tuple the other way round -/
end L2.Lv.Sh
namespace L2.Lv.Sh
open PySem PySem.Spec PyProof.Rows L2 L2.Lv
/-! orders put in one another -/
inductive Kd where
  | as | many | first | last
  deriving DecidableEq
abbrev kAs : Str := "as"
abbrev kMany : Str := "many"
abbrev kFirst : Str := "first"
abbrev kLast : Str := "last"
def Kd.s : Kd → Str
  | as => kAs
  | many => kMany
  | first => kFirst
  | last => kLast
theorem shp_as : shp (.str kAs) = true := by decide +kernel
theorem shp_many : shp (.str kMany) = true := by decide +kernel
theorem shp_first : shp (.str kFirst) = true := by decide +kernel
theorem shp_last : shp (.str kLast) = true := by decide +kernel
theorem Kd.shp (k : Kd) : L2.Lv.shp (.str k.s) = true := by
  cases k
  · exact shp_as
  · exact shp_many
  · exact shp_first
  · exact shp_last
def th0 : Th := (0, 0, 0)
def hdT (l : List Th) : Th := l.headD th0
def lsT (l : List Th) : Th := l.getLastD th0
theorem ixHd {l : List Th} (h : l ≠ []) : dIx (tsD l) (.int 0) = some (.d (hdT l).d) := by
  cases l with
  | nil => exact absurd rfl h
  | cons a l => exact hd0 a l
theorem ixLs {l : List Th} (h : l ≠ []) : dIx (tsD l) (.int (-1)) = some (.d (lsT l).d) := by
  obtain ⟨B, u, rfl⟩ := (List.eq_nil_or_concat l).resolve_left h
  rw [List.concat_eq_append, tLast]
  unfold lsT
  simp
theorem hdT_mem {l : List Th} (h : l ≠ []) : hdT l ∈ l := by
  cases l with
  | nil => exact absurd rfl h
  | cons a l => exact List.mem_cons_self ..
theorem lsT_mem {l : List Th} (h : l ≠ []) : lsT l ∈ l := by
  obtain ⟨B, u, rfl⟩ := (List.eq_nil_or_concat l).resolve_left h
  unfold lsT
  simp
/-- more than 0: the one comes behind -/
def kc (q : Rw) : Kd → List Th → List Th → Int
  | .as, _, _ => 0
  | .many, a, b => (a.length : Int) - b.length
  | .first, a, b => wrd q (hdT a) (hdT b)
  | .last, a, b => wrd q (lsT a) (lsT b)
def lat (q : Rw) (k : Kd) (a b : List Th) : Bool := decide (0 < kc q k a b)
/-! put in by kind -/
end L2.Lv.Sh
namespace L2.Lv.Sh
open PySem PySem.Spec PyProof.Rows L2 L2.Lv
/-! many lists led together -/
end L2.Lv.Sh
namespace L2.Lv.Sh
open PySem PySem.Spec PyProof.Rows L2 L2.Lv
/-! fronts -/
/-- one beats the other -/
def btT (R : List Rw) (a b : Th) : Bool := R.any (fun r => wrd r a b == -1) && R.all (fun r => !(wrd r a b == 1))
/-- the ones that none beats -/
def nb (R : List Rw) (L : List (Nat × Th)) (p : Nat × Th) : Bool := !(L.any fun o => btT R o.2 p.2)
end L2.Lv.Sh
namespace L2.Lv.Sh
open PySem PySem.Spec PyProof.Rows L2 L2.Lv
def _root_.L2.Lv.Sh.PK.few : PK → Prop
  | .table _ t => t.length ≤ 4
  | .among _ t => t.length ≤ 4
  | _ => True
end L2.Lv.Sh
namespace L2.Lv.Sh
open PySem PySem.Spec PyProof.Rows L2 L2.Lv
/-! runs: between one and the next the order breaks -/
/-! crossings of two parts -/
/-! things sorted as they are -/
def thle (a b : Th) : Prop := a.1 < b.1 ∨ (a.1 = b.1 ∧ (a.2.1 < b.2.1 ∨ (a.2.1 = b.2.1 ∧ a.2.2 ≤ b.2.2)))
instance (a b : Th) : Decidable (thle a b) := inferInstanceAs (Decidable (_ ∨ _))
end L2.Lv.Sh
namespace L2.Lv.Sh
open PySem PySem.Spec PyProof.Rows L2 L2.Lv
end L2.Lv.Sh
namespace L2.Lv.Sh
open PySem PySem.Spec PyProof.Rows L2 L2.Lv
/-! layer by layer -/
/-! put in stably -/
end L2.Lv.Sh
namespace L2.Lv.Sh
open PySem PySem.Spec PyProof.Rows L2 L2.Lv
/-! loops that come back with the first one found -/
/-! tables -/
end L2.Lv.Sh
namespace L2.Lv.Sh
open PySem PySem.Spec PyProof.Rows L2 L2.Lv
/-- a table that tells an order -/
structure OrdB (n : Nat) (f : Nat → Nat → Int) : Prop where
  anti : ∀ i j, i < n → j < n → f i j = 0 - f j i
  ch : ∀ i j k, i < n → j < n → k < n → f i j < 1 → f j k < 1 → f i k = if f j k < f i j then f j k else f i j
theorem fil_mono {α : Type} {p q : α → Bool} : ∀ (l : List α), (∀ x ∈ l, p x = true → q x = true) → (l.filter p).length ≤ (l.filter q).length ∧ ((∃ x ∈ l, q x = true ∧ p x = false) → (l.filter p).length < (l.filter q).length)
  | [], _ => ⟨Nat.le_refl _, fun ⟨x, hx, _⟩ => by cases hx⟩
  | x :: l, h => by
    obtain ⟨h1, h2⟩ := fil_mono l fun y hy => h y (List.mem_cons_of_mem _ hy)
    have hx := h x (List.mem_cons_self ..)
    rw [List.filter_cons, List.filter_cons]
    cases hp : p x with
    | true =>
      rw [hx hp]
      simp only [if_true, List.length_cons]
      refine ⟨by omega, fun ⟨y, hy, a, b⟩ => ?_⟩
      rcases List.mem_cons.mp hy with rfl | hy
      · rw [hp] at b; cases b
      · have := h2 ⟨y, hy, a, b⟩; omega
    | false =>
      cases hq : q x with
      | true =>
        simp only [if_true, Bool.false_eq_true, if_false, List.length_cons]
        exact ⟨by omega, fun _ => by omega⟩
      | false =>
        simp only [Bool.false_eq_true, if_false]
        refine ⟨h1, fun ⟨y, hy, a, b⟩ => ?_⟩
        rcases List.mem_cons.mp hy with rfl | hy
        · rw [hq] at a; cases a
        · exact h2 ⟨y, hy, a, b⟩
def cntT (n : Nat) (f : Nat → Nat → Int) (i : Nat) : Nat := ((List.range n).filter fun k => f i k == 1).length
theorem OrdB.eq {n : Nat} {f : Nat → Nat → Int} (h : OrdB n f) {i j : Nat} (hi : i < n) (hj : j < n) (e : f i j = 0) : cntT n f i = cntT n f j := by
  have a1 := h.anti i j hi hj
  have one : ∀ {a b : Nat}, a < n → b < n → f a b = 0 → ∀ k, k < n → f b k = 1 → f a k = 1 := fun {a b} ha hb e k hk q => by
    have a1 := h.anti a b ha hb
    have a3 := h.anti b k hb hk
    have a4 := h.anti a k ha hk
    have := h.ch k b a hk hb ha (by omega) (by omega)
    have : f k a = -1 := by rw [this]; split <;> omega
    omega
  have h1 := (fil_mono (p := fun k => f i k == 1) (q := fun k => f j k == 1) (List.range n) fun k hk q => by
    have := one hj hi (by omega) k (List.mem_range.mp hk) (by simpa using q)
    simpa using this).1
  have h2 := (fil_mono (p := fun k => f j k == 1) (q := fun k => f i k == 1) (List.range n) fun k hk q => by
    have := one hi hj e k (List.mem_range.mp hk) (by simpa using q)
    simpa using this).1
  exact Nat.le_antisymm h1 h2
end L2.Lv.Sh
namespace L2.Lv.Sh
open PySem PySem.Spec PyProof.Rows L2 L2.Lv
end L2.Lv.Sh
namespace L2.Lv.Sh
open PySem PySem.Spec PyProof.Rows L2 L2.Lv
/-! shapes of parts -/
/-! whole numbers -/
/-! things -/
/-! worths -/
/-! keys -/
/-! keys and rows that are drawn are so -/
end L2.Lv.Sh
namespace L2.Lv.Sh
open PySem PySem.Spec PyProof.Rows L2 L2.Lv
/-! pairs of numbers -/
abbrev NN := Nat × Nat
def prN (p : NN) : PyData := .tuple [.int (p.1 : Int), .int (p.2 : Int)]
def nle (p q : NN) : Prop := p.1 < q.1 ∨ (p.1 = q.1 ∧ p.2 ≤ q.2)
def nlt (p q : NN) : Prop := p.1 < q.1 ∨ (p.1 = q.1 ∧ p.2 < q.2)
instance (p q : NN) : Decidable (nle p q) := inferInstanceAs (Decidable (_ ∨ _))
instance (p q : NN) : Decidable (nlt p q) := inferInstanceAs (Decidable (_ ∨ _))
theorem nlt_nodup {P : List NN} (h : P.Pairwise nlt) : P.Nodup := h.imp fun {a b} q e => by subst e; unfold nlt at q; omega
/-! behind -/
/-! no ring -/
theorem nodup6 {w : List Nat} (h : w.Nodup) (h6 : ∀ x ∈ w, x < 6) : w.length ≤ 6 := by
  have hp : w.Nodup → (∀ x ∈ w, x ∈ List.range 6) → w.length ≤ (List.range 6).length := fun a b => by
    have key : ∀ (l m : List Nat), l.Nodup → (∀ x ∈ l, x ∈ m) → l.length ≤ m.length := by
      intro l
      induction l with
      | nil => intro m _ _; exact Nat.zero_le _
      | cons x l ih =>
        intro m hn hs
        have hx := hs x (by simp)
        have hl := List.length_erase_of_mem hx
        have hp : 0 < m.length := List.length_pos_of_mem hx
        have := ih (m.erase x) (List.nodup_cons.mp hn).2 fun y hy => by
          refine (List.mem_erase_of_ne ?_).mpr (hs y (List.mem_cons_of_mem _ hy))
          intro e
          exact (List.nodup_cons.mp hn).1 (e ▸ hy)
        rw [List.length_cons]; omega
    exact key w _ a b
  have := hp h fun x hx => List.mem_range.mpr (h6 x hx)
  simpa using this
/-! all that follow -/
end L2.Lv.Sh
namespace L2.Lv.Sh
open PySem PySem.Spec PyProof.Rows L2 L2.Lv
/-! orders -/
end L2.Lv.Sh
namespace L2.Lv.Sh
open PySem PySem.Spec PyProof.Rows L2 L2.Lv
/-- those ahead of it -/
def ahd (P : List NN) (x : Nat) : List Nat := (P.filter fun p => p.2 == x).map (·.1)
def cnt (P : List NN) (x : Nat) : Nat := (ahd P x).length
/-! the least order -/
/-! heights -/
def maxN (l : List Nat) : Nat := l.foldr max 0
def hF (P : List NN) : Nat → Nat → Nat
  | 0, _ => 0
  | k + 1, x => maxN ((ahd P x).map fun f => hF P k f + 1)
end L2.Lv.Sh
namespace L2.Lv.Sh
open PySem PySem.Spec PyProof.Rows L2 L2.Lv
/-! what is agreed, as a strict order -/
/-! layers by heights -/
/-! of one row -/
/-! places are an order -/
end L2.Lv.Sh
namespace L2.Lv.Sh
open PySem PySem.Spec PyProof.Rows L2 L2.Lv
/-! what follows from pairs -/
inductive TC (P : List NN) : Nat → Nat → Prop
  | base {a b : Nat} : (a, b) ∈ P → TC P a b
  | step {a b c : Nat} : TC P a b → (b, c) ∈ P → TC P a c
theorem TC.trans {P : List NN} {a b c : Nat} (h : TC P a b) (g : TC P b c) : TC P a c := by
  induction g with
  | base q => exact .step h q
  | step _ q ih => exact .step ih q
theorem TC.mono {P Q : List NN} (h : ∀ p ∈ P, p ∈ Q) {a b : Nat} (t : TC P a b) : TC Q a b := by
  induction t with
  | base q => exact .base (h _ q)
  | step _ q ih => exact .step ih (h _ q)
/-- pairs of numbers below six, each once -/
structure Pr (P : List NN) : Prop where
  lt : ∀ p ∈ P, p.1 < 6 ∧ p.2 < 6
  nd : P.Nodup
theorem nodup_le : ∀ (l m : List Nat), l.Nodup → (∀ x ∈ l, x ∈ m) → l.length ≤ m.length
  | [], m, _, _ => Nat.zero_le _
  | x :: l, m, hn, hs => by
    have hx := hs x (by simp)
    have hl := List.length_erase_of_mem hx
    have hp : 0 < m.length := List.length_pos_of_mem hx
    have := nodup_le l (m.erase x) (List.nodup_cons.mp hn).2 fun y hy => by
      refine (List.mem_erase_of_ne ?_).mpr (hs y (List.mem_cons_of_mem _ hy))
      intro e
      exact (List.nodup_cons.mp hn).1 (e ▸ hy)
    rw [List.length_cons]; omega
theorem Pr.few {P : List NN} (h : Pr P) : P.length ≤ 36 := by
  have nd : (P.map fun p => 6 * p.1 + p.2).Nodup := by
    unfold List.Nodup
    rw [List.pairwise_map]
    refine List.Pairwise.imp_of_mem (fun {a b} ha hb ne e => ?_) h.nd
    have := h.lt a ha
    have := h.lt b hb
    refine ne ?_
    obtain ⟨a1, a2⟩ := a
    obtain ⟨b1, b2⟩ := b
    simp only [Prod.mk.injEq] at *
    omega
  have := nodup_le _ (List.range 36) nd fun x hx => by
    obtain ⟨p, hp, rfl⟩ := List.mem_map.mp hx
    have := h.lt p hp
    exact List.mem_range.mpr (by omega)
  simpa using this
theorem TC.lt {P : List NN} (h : Pr P) {a b : Nat} (t : TC P a b) : a < 6 ∧ b < 6 := by
  induction t with
  | base q => exact h.lt _ q
  | step _ q ih => exact ⟨ih.1, (h.lt _ q).2⟩
/-! adding up -/
/-- one step on -/
def Nx (P A A' : List NN) : Prop := ∀ a c, (a, c) ∈ A' ↔ (a, c) ∈ A ∨ ∃ b, (a, b) ∈ A ∧ (b, c) ∈ P
def Sat (P A : List NN) : Prop := ∀ a b c, (a, b) ∈ A → (b, c) ∈ P → (a, c) ∈ A
structure Within (P A : List NN) : Prop where
  low : ∀ p ∈ P, p ∈ A
  up : ∀ a b, (a, b) ∈ A → TC P a b
  nd : A.Nodup
theorem Within.pr {P A : List NN} (W : Within P A) (h : Pr P) : Pr A := ⟨fun p hp => (W.up p.1 p.2 hp).lt h, W.nd⟩
theorem Within.next {P A A' : List NN} (W : Within P A) (x : Nx P A A') (nd : A'.Nodup) : Within P A' := ⟨fun p hp => (x p.1 p.2).mpr (.inl (W.low p hp)), fun a b h => by
  rcases (x a b).mp h with h | ⟨c, h1, h2⟩
  · exact W.up a b h
  · exact .step (W.up a c h1) h2, nd⟩
theorem Within.tc {P A : List NN} (W : Within P A) (s : Sat P A) (a b : Nat) : (a, b) ∈ A ↔ TC P a b := ⟨W.up a b, fun t => by
  induction t with
  | base q => exact W.low _ q
  | step _ q ih => exact s _ _ _ ih q⟩
/-! closed -/
end L2.Lv.Sh
namespace L2.Lv.Sh
open PySem PySem.Spec PyProof.Rows L2 L2.Lv
/-! rings -/
def hdw (w : List Nat) : Nat := w.headD 0
def ls0 (w : List Nat) : Nat := w.getLastD 0
theorem ls0_snoc (i : List Nat) (l : Nat) : ls0 (i ++ [l]) = l := by simp [ls0]
theorem snoc_of {w : List Nat} (h : w ≠ []) : ∃ i, w = i ++ [ls0 w] := by
  have e := List.getLast?_eq_some_getLast h
  obtain ⟨i, hi⟩ := List.getLast?_eq_some_iff.mp e
  refine ⟨i, ?_⟩
  have g : ls0 w = w.getLast h := by
    unfold ls0
    rw [List.getLastD_eq_getLast?, e]; rfl
  rw [g]
  exact hi
def sc (P : List NN) (l : Nat) : List Nat := (P.filter fun q => q.1 == l).map (·.2)
theorem sc_mem {P : List NN} {l b : Nat} : b ∈ sc P l ↔ (l, b) ∈ P := by
  unfold sc
  rw [List.mem_map]
  constructor
  · rintro ⟨⟨a, c⟩, h, rfl⟩
    rw [List.mem_filter, beq_iff_eq] at h
    have e : a = l := h.2
    subst e
    exact h.1
  · intro h
    exact ⟨(l, b), List.mem_filter.mpr ⟨h, by simp⟩, rfl⟩
structure Wy (w : List Nat) : Prop where
  ne : w ≠ []
  nd : w.Nodup
  lt : ∀ x ∈ w, x < 6
theorem Wy.one {x : Nat} (h : x < 6) : Wy [x] := ⟨by simp, by simp, by simpa using h⟩
theorem Wy.len {w : List Nat} (h : Wy w) : w.length ≤ 6 := nodup6 h.nd h.lt
def rgP (r : List Nat → List (List Nat)) (w : List Nat) (b : Nat) : List (List Nat) := if b = hdw w then [w] else if hdw w < b ∧ b ∉ w then r (w ++ [b]) else []
def rgF (P : List NN) : Nat → List Nat → List (List Nat)
  | 0, _ => []
  | k + 1, w => (sc P (ls0 w)).flatMap (rgP (rgF P k) w)
/-! .. by hand -/
/-! .. the first one -/
/-- all rings, from 0 on -/
def allR (P : List NN) (m : Nat) : List (List Nat) := (List.range m).flatMap fun x => rgF P 10 [x]
end L2.Lv.Sh
namespace L2.Lv.Sh
open PySem PySem.Spec PyProof.Rows L2 L2.Lv
/-! the first ring is the least -/
theorem rgF_pre (P : List NN) : ∀ (k : Nat) (w : List Nat), ∀ r ∈ rgF P k w, ∃ t, r = w ++ t
  | 0, _, _, h => by cases h
  | k + 1, w, r, h => by
    obtain ⟨b, _, h⟩ := List.mem_flatMap.mp h
    unfold rgP at h
    split at h
    · rw [List.mem_singleton.mp h]; exact ⟨[], by simp⟩
    · split at h
      · obtain ⟨t, e⟩ := rgF_pre P k (w ++ [b]) r h
        exact ⟨b :: t, by rw [e]; simp⟩
      · cases h
theorem rgP_pre {P : List NN} {k : Nat} {w : List Nat} {b : Nat} {r : List Nat} (h : r ∈ rgP (rgF P k) w b) : (b = hdw w ∧ r = w) ∨ (hdw w < b ∧ b ∉ w ∧ r ∈ rgF P k (w ++ [b]) ∧ ∃ t, r = w ++ b :: t) := by
  unfold rgP at h
  split at h
  · rename_i e; exact .inl ⟨e, List.mem_singleton.mp h⟩
  · split at h
    · rename_i c
      obtain ⟨t, e⟩ := rgF_pre P k (w ++ [b]) r h
      exact .inr ⟨c.1, c.2, h, t, by rw [e]; simp⟩
    · cases h
/-! ways along the pairs -/
def Pth (P : List NN) : List Nat → Prop
  | a :: b :: l => (a, b) ∈ P ∧ Pth P (b :: l)
  | _ => True
theorem pth_app {P : List NN} : ∀ (a : List Nat) (v : Nat) (c : List Nat), Pth P (a ++ v :: c) ↔ Pth P (a ++ [v]) ∧ Pth P (v :: c)
  | [], v, c => by simp [Pth]
  | [x], v, c => by simp [Pth]
  | x :: y :: a, v, c => by
    have ih := pth_app (P := P) (y :: a) v c
    show ((x, y) ∈ P ∧ Pth P (y :: a ++ v :: c)) ↔ ((x, y) ∈ P ∧ Pth P (y :: a ++ [v])) ∧ _
    rw [ih, and_assoc]
theorem pth_snoc {P : List NN} {w : List Nat} (h : w ≠ []) {b : Nat} (hp : Pth P w) (hb : (ls0 w, b) ∈ P) : Pth P (w ++ [b]) := by
  obtain ⟨i, e⟩ := snoc_of h
  generalize ls0 w = l at *
  subst e
  rw [List.append_assoc]
  exact (pth_app i l [b]).mpr ⟨hp, hb, trivial⟩
theorem hdw_app {w : List Nat} (h : w ≠ []) (t : List Nat) : hdw (w ++ t) = hdw w := by
  cases w with
  | nil => exact absurd rfl h
  | cons a w => rfl
/-- what is found is a ring -/
structure Rg (P : List NN) (w : List Nat) : Prop where
  ne : w ≠ []
  pth : Pth P w
  cl : (ls0 w, hdw w) ∈ P
  nd : w.Nodup
  lo : ∀ x ∈ w, hdw w ≤ x
theorem rgF_rg {P : List NN} : ∀ (k : Nat) (w : List Nat), w ≠ [] → Pth P w → w.Nodup → (∀ x ∈ w, hdw w ≤ x) → ∀ r ∈ rgF P k w, Rg P r
  | 0, _, _, _, _, _, _, h => by cases h
  | k + 1, w, ne, hp, nd, lo, r, h => by
    obtain ⟨b, hb, h⟩ := List.mem_flatMap.mp h
    have hb := sc_mem.mp hb
    rcases rgP_pre h with ⟨e1, e2⟩ | ⟨c1, c2, c3, _⟩
    · subst e2
      exact ⟨ne, hp, e1 ▸ hb, nd, lo⟩
    · refine rgF_rg k (w ++ [b]) (by simp) (pth_snoc ne hp hb) ?_ ?_ r c3
      · rw [List.nodup_append]
        exact ⟨nd, by simp, fun a ha c hc => by rw [List.mem_singleton.mp hc]; exact fun e => c2 (e ▸ ha)⟩
      · intro x hx
        rw [hdw_app ne]
        rcases List.mem_append.mp hx with hx | hx
        · exact lo x hx
        · rw [List.mem_singleton.mp hx]; omega
theorem allR_rg {P : List NN} {m : Nat} {r : List Nat} (h : r ∈ allR P m) : Rg P r := by
  obtain ⟨x, _, h⟩ := List.mem_flatMap.mp h
  exact rgF_rg 10 [x] (by simp) trivial (by simp) (fun y hy => by rw [List.mem_singleton.mp hy]; exact Nat.le_refl _) r h
/-- and each ring is found -/
theorem rgF_has {P : List NN} : ∀ (t w : List Nat) (k : Nat), w ≠ [] → Pth P (w ++ t) → (ls0 (w ++ t), hdw w) ∈ P → (w ++ t).Nodup → (∀ x ∈ t, hdw w < x) → t.length < k → w ++ t ∈ rgF P k w
  | _, _, 0, _, _, _, _, _, hk => by omega
  | [], w, k + 1, ne, _, hc, _, _, _ => by
    rw [List.append_nil] at hc ⊢
    exact List.mem_flatMap.mpr ⟨hdw w, sc_mem.mpr hc, by unfold rgP; rw [if_pos rfl]; simp⟩
  | b :: t, w, k + 1, ne, hp, hc, nd, lo, hk => by
    have e : w ++ b :: t = (w ++ [b]) ++ t := by simp
    rw [e] at hp hc nd ⊢
    have hb := lo b (by simp)
    have nb : b ∉ w := fun q => by
      rw [List.nodup_append] at nd
      have := (List.nodup_append.mp nd.1).2.2 b q b (by simp)
      exact this rfl
    have ih := rgF_has t (w ++ [b]) k (by simp) hp (by rw [hdw_app ne]; exact hc) nd (fun x hx => by rw [hdw_app ne]; exact lo x (List.mem_cons_of_mem _ hx)) (by simp at hk; omega)
    refine List.mem_flatMap.mpr ⟨b, sc_mem.mpr ?_, by unfold rgP; rw [if_neg (by omega), if_pos ⟨hb, nb⟩]; exact ih⟩
    obtain ⟨i, ei⟩ := snoc_of ne
    generalize ls0 w = l at *
    subst ei
    have e2 : (i ++ [l] ++ [b]) ++ t = i ++ l :: (b :: t) := by simp
    rw [e2, pth_app] at hp
    exact hp.2.1
/-- a ring follows itself -/
theorem pth_tc {P : List NN} : ∀ (w : List Nat), Pth P w → ∀ x ∈ w.tail, TC P (hdw w) x
  | [], _, x, hx => by cases hx
  | [_], _, x, hx => by cases hx
  | a :: b :: l, h, x, hx => by
    rcases List.mem_cons.mp (show x ∈ b :: l from hx) with rfl | hx
    · exact .base h.1
    · exact TC.trans (.base h.1) (pth_tc (b :: l) h.2 x hx)
theorem ls0_mem {w : List Nat} (h : w ≠ []) : ls0 w ∈ w := by
  obtain ⟨i, e⟩ := snoc_of h
  generalize ls0 w = l at *
  subst e
  simp
theorem closed_tc {P : List NN} {w : List Nat} (ne : w ≠ []) (hp : Pth P w) (hc : (ls0 w, hdw w) ∈ P) : TC P (hdw w) (hdw w) := by
  cases w with
  | nil => exact absurd rfl ne
  | cons a t =>
    rcases List.mem_cons.mp (ls0_mem ne) with e | e
    · have : hdw (a :: t) = a := rfl
      rw [this] at hc ⊢
      rw [e] at hc
      exact .base hc
    · exact .step (pth_tc (a :: t) hp _ e) hc
theorem tc_way {P : List NN} {a b : Nat} (t : TC P a b) : ∃ w, w ≠ [] ∧ hdw w = a ∧ Pth P w ∧ (ls0 w, b) ∈ P := by
  induction t with
  | base h => exact ⟨[a], by simp, rfl, trivial, h⟩
  | step _ h ih =>
    obtain ⟨w, h1, h2, h3, h4⟩ := ih
    exact ⟨w ++ [_], by simp, by rw [hdw_app h1]; exact h2, pth_snoc h1 h3 h4, by rw [ls0_snoc]; exact h⟩
theorem dup_split : ∀ (l : List Nat), ¬ l.Nodup → ∃ a v b c, l = a ++ v :: (b ++ v :: c)
  | [], h => absurd List.nodup_nil h
  | x :: l, h => by
    by_cases hx : x ∈ l
    · obtain ⟨b, c, e⟩ := List.append_of_mem hx
      exact ⟨[], x, b, c, by rw [e]; rfl⟩
    · obtain ⟨a, v, b, c, e⟩ := dup_split l fun n => h (List.nodup_cons.mpr ⟨hx, n⟩)
      exact ⟨x :: a, v, b, c, by rw [e]; rfl⟩
theorem ls0_app (a : List Nat) {c : List Nat} (h : c ≠ []) : ls0 (a ++ c) = ls0 c := by
  obtain ⟨i, e⟩ := snoc_of h
  generalize ls0 c = l at *
  subst e
  rw [← List.append_assoc, ls0_snoc]
theorem way_nd {P : List NN} : ∀ (k : Nat) (w : List Nat), w.length < k → w ≠ [] → Pth P w → ∃ w', w' ≠ [] ∧ hdw w' = hdw w ∧ ls0 w' = ls0 w ∧ Pth P w' ∧ w'.Nodup
  | 0, _, h, _, _ => by omega
  | k + 1, w, h, ne, hp => by
    by_cases nd : w.Nodup
    · exact ⟨w, ne, rfl, rfl, hp, nd⟩
    · obtain ⟨a, v, b, c, e⟩ := dup_split w nd
      subst e
      have h1 := (pth_app a v (b ++ v :: c)).mp hp
      have h2 := (pth_app (v :: b) v c).mp (by rw [List.cons_append]; exact h1.2)
      obtain ⟨w', q1, q2, q3, q4, q5⟩ := way_nd k (a ++ v :: c) (by simp at h ⊢; omega) (by simp) ((pth_app a v c).mpr ⟨h1.1, h2.2⟩)
      refine ⟨w', q1, ?_, ?_, q4, q5⟩
      · rw [q2]
        cases a with
        | nil => rfl
        | cons x a => rfl
      · rw [q3, ls0_app a (by simp), ls0_app a (by simp)]
        have : v :: (b ++ v :: c) = (v :: b) ++ v :: c := rfl
        rw [this, ls0_app (v :: b) (by simp)]
theorem least_of {p : Nat → Prop} : ∀ n, p n → ∃ k, p k ∧ ∀ j, j < k → ¬ p j := by
  intro n
  induction n using Nat.strongRecOn with
  | ind n ih =>
    intro h
    by_cases c : ∃ j, j < n ∧ p j
    · obtain ⟨j, hj, pj⟩ := c
      exact ih j hj pj
    · exact ⟨n, h, fun j hj pj => c ⟨j, hj, pj⟩⟩
theorem pth_all {P : List NN} : ∀ (w : List Nat), Pth P w → w ≠ [] → ∀ x ∈ w, x = ls0 w ∨ TC P x (ls0 w)
  | [], _, ne, _, _ => absurd rfl ne
  | [a], _, _, x, hx => .inl (List.mem_singleton.mp hx)
  | a :: b :: l, h, _, x, hx => by
    have ih := pth_all (b :: l) h.2 (by simp)
    have e : ls0 (a :: b :: l) = ls0 (b :: l) := ls0_app [a] (by simp)
    rw [e]
    rcases List.mem_cons.mp hx with rfl | hx
    · right
      rcases ih b (by simp) with q | q
      · rw [← q]; exact .base h.1
      · exact TC.trans (.base h.1) q
    · exact ih x hx
theorem ring_has {P : List NN} {m : Nat} (h6 : m ≤ 6) (hm : ∀ p ∈ P, p.1 < m ∧ p.2 < m) (hc : ∃ a, TC P a a) : allR P m ≠ [] := by
  obtain ⟨a, ha⟩ := hc
  obtain ⟨x, hx, mn⟩ := least_of (p := fun x => TC P x x) a ha
  obtain ⟨w, q1, q2, q3, q4⟩ := tc_way hx
  obtain ⟨w', p1, p2, p3, p4, p5⟩ := way_nd (w.length + 1) w (by omega) q1 q3
  rw [q2] at p2
  rw [← p3] at q4
  have lt : ∀ y ∈ w', y < m := fun y hy => by
    rcases pth_all w' p4 p1 y hy with e | t
    · rw [e]; exact (hm _ q4).1
    · cases t with
      | base h => exact (hm _ h).1
      | step t h =>
        clear h
        induction t with
        | base h => exact (hm _ h).1
        | step _ _ ih => exact ih
  have lo : ∀ y ∈ w', x ≤ y := fun y hy => by
    refine Classical.byContradiction fun c => mn y (by omega) ?_
    have t1 : TC P y x := by
      rcases pth_all w' p4 p1 y hy with e | t
      · rw [e]; exact .base q4
      · exact .step t q4
    cases w' with
    | nil => exact absurd rfl p1
    | cons z t =>
      have e : z = x := p2
      subst e
      rcases List.mem_cons.mp hy with e | hy
      · omega
      · exact TC.trans t1 (pth_tc (z :: t) p4 y hy)
  cases w' with
  | nil => exact absurd rfl p1
  | cons z t =>
    have e : z = x := p2
    subst e
    have l6 : (z :: t).length ≤ 6 := nodup6 p5 fun y hy => by have := lt y hy; omega
    have g := rgF_has t [z] 10 (by simp) p4 q4 p5 (fun y hy => by
      have := lo y (List.mem_cons_of_mem _ hy)
      have ne : y ≠ z := fun e => (List.nodup_cons.mp p5).1 (e ▸ hy)
      show z < y
      omega) (by simp at l6; omega)
    intro en
    have : (z :: t) ∈ allR P m := List.mem_flatMap.mpr ⟨z, List.mem_range.mpr (lt z (by simp)), g⟩
    rw [en] at this
    cases this
theorem no_ring {P : List NN} {m : Nat} (h6 : m ≤ 6) (hm : ∀ p ∈ P, p.1 < m ∧ p.2 < m) : allR P m = [] ↔ ∀ a, ¬ TC P a a := by
  constructor
  · intro e a t
    exact ring_has h6 hm ⟨a, t⟩ e
  · intro h
    refine List.eq_nil_iff_forall_not_mem.mpr fun r hr => ?_
    have R := allR_rg hr
    exact h _ (closed_tc R.ne R.pth R.cl)
end L2.Lv.Sh
set_option maxHeartbeats 1000000
namespace L2.Lv.Sh
open PySem PySem.Spec PyProof.Rows L2 L2.Lv
/-! dicts of pairs, 0 for each -/
def encZ (L : List NN) : List (PyData × PyData) := L.map fun p => (prN p, .int 0)
/-! what follows, by hand -/
/-! pairs are drawn -/
/-- pairs as they are drawn -/
structure Dp (m : Nat) (P : List NN) : Prop where
  pos : 0 < m
  six : m ≤ 6
  few : P.length ≤ 8
  lt : ∀ p ∈ P, p.1 < m ∧ p.2 < m
  ne : ∀ p ∈ P, p.1 ≠ p.2
  srt : P.Pairwise nlt
theorem Dp.pr {m : Nat} {P : List NN} (h : Dp m P) : Pr P := ⟨fun p hp => by have := h.lt p hp; have := h.six; omega, nlt_nodup h.srt⟩
end L2.Lv.Sh
set_option maxHeartbeats 1000000
namespace L2.Lv.Sh
open PySem PySem.Spec PyProof.Rows L2 L2.Lv
/-! pairs in lists of pairs; free pairs; bare pairs -/
/-! bare -/
end L2.Lv.Sh
set_option maxHeartbeats 1000000
namespace L2.Lv.Sh
open PySem PySem.Spec PyProof.Rows L2 L2.Lv
/-! pairs without rings: each number has its height -/
/-! .. refused where there is a ring -/
structure Ac (P : List NN) (m : Nat) : Prop where
  pr : Pr P
  srt : P.Pairwise nlt
  six : m ≤ 6
  lt : ∀ p ∈ P, p.1 < m ∧ p.2 < m
  no : ∀ a, ¬ TC P a a
theorem Ac.nil {P : List NN} {m : Nat} (A : Ac P m) : allR P m = [] := (no_ring A.six A.lt).mpr A.no
end L2.Lv.Sh
set_option maxHeartbeats 1000000
namespace L2.Lv.Sh
open PySem PySem.Spec PyProof.Rows L2 L2.Lv
/-! the first of all orders -/
/-! orders by hand -/
/-! heights by hand -/
/-! bare pairs -/
/-! a free pair stands either way -/
end L2.Lv.Sh
set_option maxHeartbeats 1000000
namespace L2.Lv.Sh
open PySem PySem.Spec PyProof.Rows L2 L2.Lv
/-! tuples put in order, each once -/
/-! dicts by tuples of ints -/
/-! the form of a row -/
def evK (r : Rw) : List (List Int) := allT.map (wts r)
def sK (r : Rw) : List (List Int) := sortI (ddup (evK r))
def rnk (r : Rw) (t : Th) : Nat := (sK r).idxOf (wts r t)
def frm (r : Rw) : List Int := allT.map fun t => (rnk r t : Int)
/-! all things, by hand -/
/-! the form, by hand -/
/-! alike -/
end L2.Lv.Sh
set_option maxHeartbeats 1000000
namespace L2.Lv.Sh
open PySem PySem.Spec PyProof.Rows L2 L2.Lv
/-! rising places -/
/-! all choices, by hand -/
end L2.Lv.Sh
set_option maxHeartbeats 1000000
namespace L2.Lv.Sh
open PySem PySem.Spec PyProof.Rows L2 L2.Lv
/-! keys chosen, keys left out -/
/-! short rows -/
def shF (r : Rw) : List Nat → Rw
  | [] => r
  | i :: is => shF (if frm (r.eraseIdx i) = frm r then r.eraseIdx i else r) is
/-! the fewest keys -/
/-! rows drawn, keys near one another -/
end L2.Lv.Sh
set_option maxHeartbeats 1000000
namespace L2.Lv.Sh
open PySem PySem.Spec PyProof.Rows L2 L2.Lv
/-! forms and words -/
/-! how many pairs -/
/-! counts by a dict -/
end L2.Lv.Sh
set_option maxHeartbeats 1000000
namespace L2.Lv.Sh
open PySem PySem.Spec PyProof.Rows L2 L2.Lv
/-! the dict of counts -/
end L2.Lv.Sh
set_option maxHeartbeats 1000000
namespace L2.Lv.Sh
open PySem PySem.Spec PyProof.Rows L2 L2.Lv
/-! pairs that a key decides -/
/-! keys that are silent, or needless -/
/-! the same, pair by pair -/
end L2.Lv.Sh
set_option maxHeartbeats 1000000
namespace L2.Lv.Sh
open PySem PySem.Spec PyProof.Rows L2 L2.Lv
/-! what is short has no needless key -/
end L2.Lv.Sh
set_option maxHeartbeats 1000000
namespace L2.Lv.Sh
open PySem PySem.Spec PyProof.Rows L2 L2.Lv
/-! keys said again -/
/-! a silent key is needless -/
/-! the fewest -/
/-! choices, first by first -/
/-! tuples of places -/
end L2.Lv.Sh
set_option maxHeartbeats 1000000
namespace L2.Lv.Sh
open PySem PySem.Spec PyProof.Rows L2 L2.Lv
/-! pairs drawn, rising mostly -/
def Eq (ns : List Int) (m : Nat) (got : List NN) : List W := [Sc ns, .town, .d (.int (m : Int)), .od (markT :: encZ got), .no, .no, .no, .no]
/-! sorted(dict(..)) of what is sorted -/
end L2.Lv.Sh
set_option maxHeartbeats 1000000
namespace L2.Lv.Sh
open PySem PySem.Spec PyProof.Rows L2 L2.Lv
/-! orders: each keeps the pairs, they rise -/
/-! free ones and those that follow are all -/
end L2.Lv.Sh
namespace L2.Lv.Sh
open PySem PySem.Spec PyProof.Rows L2 L2.Lv
/-! rows found -/
def pk : List Ky := [.pl (.up 0), .pl (.up 1), .pl (.up 2), .dn (.up 0), .dn (.up 1), .dn (.up 2), .pl (.rest 0 2), .pl (.rest 1 2), .pl (.rest 2 2), .pl (.part 0 2), .pl (.part 1 2), .pl (.part 2 2), .pl (.sum 0 1), .pl (.sum 0 2), .pl (.sum 1 2)]
/-! what a list agrees with -/
/-! rows of like orders: the first of each -/
end L2.Lv.Sh
namespace L2.Lv.Sh
open PySem PySem.Spec PyProof.Rows L2 L2.Lv
/-! tables by hand -/
end L2.Lv.Sh
namespace L2.Lv.Sh
open PySem PySem.Spec PyProof.Rows L2 L2.Lv
end L2.Lv.Sh
set_option maxHeartbeats 1000000
namespace L2.Lv.Sh
open PySem PySem.Spec PyProof.Rows L2 L2.Lv
/-! the first pair of things that a test tells of -/
section
variable (g : Int → Int → Bool) (r s : Rw) (n : Nat)
end
end L2.Lv.Sh
set_option maxHeartbeats 1000000
namespace L2.Lv.Sh
open PySem PySem.Spec PyProof.Rows L2 L2.Lv
/-! classes: how many ranks there are -/
def cl (r : Rw) : Nat := (sK r).length
/-! all in order: no two things are alike -/
end L2.Lv.Sh
set_option maxHeartbeats 1000000
namespace L2.Lv.Sh
open PySem PySem.Spec PyProof.Rows L2 L2.Lv
/-! classes, tie -/
section
variable (r : Rw) (hr : Rw.ok r) (hl : r.length ≤ 1000000) (n : Nat)
include hr hl
end
section
variable (r : Rw) (hr : Rw.ok r) (hl : r.length ≤ 1000000) (n : Nat)
include hr hl
end
/-! the place of a thing -/
end L2.Lv.Sh
set_option maxHeartbeats 1000000
namespace L2.Lv.Sh
open PySem PySem.Spec PyProof.Rows L2 L2.Lv
/-! rows cut and joined -/
end L2.Lv.Sh
namespace L2.Lv.Sh
open PySem PySem.Spec PyProof.Rows
/-! shelves -/
abbrev stD (r : Rw) (ts : List Th) : PyData := .tuple [rowD r, tsD ts]
/-- where one comes -/
def plTs (r : Rw) (ts : List Th) (t : Th) : Nat := (ts.filter fun x => decide (wrd r x t < 1)).length
def insT (r : Rw) (ts : List Th) (t : Th) : List Th := ts.take (plTs r ts t) ++ t :: ts.drop (plTs r ts t)
theorem plTs_le (r : Rw) (ts : List Th) (t : Th) : plTs r ts t ≤ ts.length := List.length_filter_le _ _
theorem plTs_cut {r : Rw} {ts : List Th} {t : Th} (hs : srted r ts) {i : Nat} {x : Th} (h : ts[i]? = some x) : wrd r x t < 1 ↔ i < plTs r ts t := by
  obtain ⟨_, k2⟩ := cut_at (fun x => decide (wrd r x t < 1)) ts (fun a b hab hb => by simp at hb ⊢; exact wrd_trans r a b t hab hb) hs
  have := k2 i x h
  unfold plTs
  simpa using this
theorem insT_is {r : Rw} {ts us : List Th} {t : Th} (h : Is r ts us) : Is r (insT r ts t) (us ++ [t]) := by
  have hs : srted r ts := h.1
  have ht : ∀ a ∈ ts.take (plTs r ts t), wrd r a t < 1 := fun a ha => by
    obtain ⟨i, hi⟩ := List.getElem?_of_mem ha
    rw [List.getElem?_take] at hi
    split at hi
    · exact (plTs_cut hs hi).mpr (by assumption)
    · cases hi
  have hd : ∀ a ∈ ts.drop (plTs r ts t), ¬ wrd r a t < 1 := fun a ha => by
    obtain ⟨i, hi⟩ := List.getElem?_of_mem ha
    rw [List.getElem?_drop] at hi
    exact fun z => absurd ((plTs_cut hs hi).mp z) (by omega)
  have sp : srted r (ts.take (plTs r ts t) ++ ts.drop (plTs r ts t)) := by rw [List.take_append_drop]; exact hs
  obtain ⟨s1, s2, s3⟩ := List.pairwise_append.mp sp
  refine ⟨List.pairwise_append.mpr ⟨s1, List.pairwise_cons.mpr ⟨fun b hb => ?_, s2⟩, fun a ha b hb => ?_⟩, fun x => ?_⟩
  · have := hd b hb
    have := wrd_anti r b t
    omega
  · rcases List.mem_cons.mp hb with rfl | hb
    · exact ht a ha
    · exact s3 a ha b hb
  · have he : eqv r x (us ++ [t]) = eqv r x ts ++ eqv r x [t] := by
      rw [show eqv r x (us ++ [t]) = eqv r x us ++ eqv r x [t] from List.filter_append .., ← h.2 x]
    rw [he]
    conv => rhs; rw [← List.take_append_drop (plTs r ts t) ts]
    unfold eqv
    unfold insT
    rw [List.filter_append, List.filter_append, List.append_assoc, ← List.singleton_append, List.filter_append]
    congr 1
    by_cases c : wrd r x t = 0
    · have : (ts.drop (plTs r ts t)).filter (fun a => wrd r x a == 0) = [] := List.filter_eq_nil_iff.mpr fun a ha e => by
        have e : wrd r x a = 0 := by simpa using e
        have h1 := hd a ha
        have h2 := wrd_anti r x a
        have h3 := wrd_trans r a x t (by omega) (by omega)
        exact h1 h3
      rw [this, List.append_nil, List.nil_append]
    · have : [t].filter (fun a => wrd r x a == 0) = [] := by simp [c]
      rw [this, List.append_nil, List.nil_append]
theorem insT_ord {r : Rw} {us : List Th} {t : Th} : insT r (ordT r us) t = ordT r (us ++ [t]) := ordT_eq (insT_is (ordT_is r us))
theorem insT_at {r : Rw} {ts : List Th} {t : Th} : (insT r ts t)[plTs r ts t]? = some t := by
  have := plTs_le r ts t
  unfold insT
  rw [List.getElem?_append_right (by simp; omega)]
  simp [Nat.min_eq_left this]
/-! its deeds -/
theorem rLe_t {i j : Int} (h : i ≤ j) : rLe i j = true := decide_eq_true h
theorem sh_keep_ok (now x : PyData) (bef lat : List PyData) (n : Nat) (hb : bef.length < big) : y_sh_keep (now, bef, lat) [.d x] n = some (.inl .none, (x, bef ++ [now], []), n) := by
  unfold y_sh_keep by_sh_keep
  simp -implicitDefEqProofs only [eVar_ap, dVar_ap, eC_ap, dOf_ap, eFrz_ap, eBin_ap, bTest_ap, bTru_ap, bAnd_ap, bOr_ap, bNot_ap, eIf_ap, eB_ap, eAnd_ap, eOr_ap, aNil_ap, aCons_ap, sNil_ap, sCons_ap, eTup_ap, eLst_ap, eCall_ap, eApp_ap, oNone_ap, oSome_ap, eSl_ap, sNil'_ap, sSeq_ap, sBrk_ap, sRet_ap, sRetN_ap, sRetO_ap, sDrop_ap, sIf_ap, sSet_ap, sApp_ap, sTown_ap, sExt_ap, sIns_ap, sSetIx_ap, sAsg_ap, sPar_ap, iOf_ap, iVal_ap, iRng1_ap, iRng2_ap, sFor_ap, eComp_ap, bYes_ap, frzAt_ap, eUn_ap, eNotD_ap, eOrD_ap, eChain_ap, eListRg1_ap, eIsa_ap, eMt_ap, iEnumV_ap, iEnumF_ap, iZipV_ap, iZipF_ap, eTLen_ap, iRng3D_ap, sEnd_ap, eSs_ap, sPar3_ap, xPop_ap, xTup1_ap, xCat_ap, sSetX_ap, sAppX_ap, sParO_ap, sForEI_ap, sForK_ap, eRep_ap, eDicK_ap, eDicT_ap, sPut_ap, eAlt_ap, sTry_ap, eGetD_ap, eLockI_ap, iKeyF_ap, sSetDef_ap, eTupVals_ap, sNst_ap, frzNAt_ap, sAppN_ap, sStN_ap, eListRg2_ap, eLam_ap, eCallP_ap, eNow_ap, dBef_ap, sShApp_ap, xShPop_ap, sShNow_ap, sShNowX_ap, sShClr_ap, yCall_ap, yOf_ap, yX_ap, yR_ap, yIf_ap, sRetS_ap, unX_ap, ytOf_ap, ytTru_ap, ytNot_ap, ytSeq_ap, ytCmp_ap, yaOf_ap, yaCons_ap, yApp_ap, eMethR_ap, sMakeSh_ap, runB_ap, gOne_ap, gMany_ap, dI_ap, yesC_ap, dCmp_int, setD, kill_nx, kill_rt, kill_rs, kill_bk, Option.bind_some, Option.map_some, Option.bind_none, Option.map_none, List.getElem?_cons_zero, List.getElem?_cons_succ, List.set_cons_zero, List.set_cons_succ, List.cons_append, List.nil_append, List.append_nil, List.replicate, List.length_cons, List.length_nil, Nat.reduceAdd, Nat.reduceSub, Nat.zero_add, wdat_no, wdat_d, wdat_town, wdat_ol, wdat_od, wfrz_no, wfrz_d, wfrz_town, wfrz_ol, wfrz_od, wval_no, wval_d, wval_town, wval_ol, wval_od, warg_no, warg_d, warg_town, warg_ol, warg_od, vals, gLen, gAbs, gMax2, gMin2, gInt, gTup, gList, wipeW, if_true, if_false, Bool.false_eq_true, Bool.not_true, Bool.not_false, reduceCtorEq, runY, lft, shW, shSet, pick2, hb, shAt0]
theorem sh_put_ok (r : Rw) (hr : Rw.ok r) (hrl : r.length ≤ 1000000) (ts : List Th) (hs : srted r ts) (hl : ts.length ≤ 1000) (t : Th) (bef lat : List PyData) (n : Nat) (hb : bef.length < big) :
    y_sh_put (stD r ts, bef, lat) [.d t.d] n = some (.inl (.int (plTs r ts t : Nat)), (stD r (insT r ts t), bef ++ [stD r ts], []), n) := by
  have f1 := last_place_ok r hr hrl ts hs hl t n
  have pl := plTs_le r ts t
  have e1 : cutD (ts.map Th.d) none (some (plTs r ts t : Int)) = (ts.take (plTs r ts t)).map Th.d := by rw [cutD_take _ _ (by rw [List.length_map]; exact pl), List.map_take]
  have e2 : cutD (ts.map Th.d) (some (plTs r ts t : Int)) none = (ts.drop (plTs r ts t)).map Th.d := by rw [cutD_drop _ _ (by rw [List.length_map]; exact pl), List.map_drop]
  have a1 : dAdd (.tuple ((ts.take (plTs r ts t)).map Th.d)) (.tuple [t.d]) = some (.d (tsD (ts.take (plTs r ts t) ++ [t]))) := by
    rw [dAdd_tup _ _ (le_big (by simp; omega))]; simp
  have a2 : dAdd (tsD (ts.take (plTs r ts t) ++ [t])) (.tuple ((ts.drop (plTs r ts t)).map Th.d)) = some (.d (tsD (insT r ts t))) := by
    rw [dAdd_tup _ _ (le_big (by simp; omega))]; unfold insT; simp
  have k := sh_keep_ok (stD r ts) (stD r (insT r ts t)) bef lat n hb
  have f1 : m_last_place [.d (rowD r), .d (tsD ts), .d t.d] n = some (I' (plTs r ts t : Nat), n) := f1
  unfold y_sh_put by_sh_put
  simp -implicitDefEqProofs only [eVar_ap, dVar_ap, eC_ap, dOf_ap, eFrz_ap, eBin_ap, bTest_ap, bTru_ap, bAnd_ap, bOr_ap, bNot_ap, eIf_ap, eB_ap, eAnd_ap, eOr_ap, aNil_ap, aCons_ap, sNil_ap, sCons_ap, eTup_ap, eLst_ap, eCall_ap, eApp_ap, oNone_ap, oSome_ap, eSl_ap, sNil'_ap, sSeq_ap, sBrk_ap, sRet_ap, sRetN_ap, sRetO_ap, sDrop_ap, sIf_ap, sSet_ap, sApp_ap, sTown_ap, sExt_ap, sIns_ap, sSetIx_ap, sAsg_ap, sPar_ap, iOf_ap, iVal_ap, iRng1_ap, iRng2_ap, sFor_ap, eComp_ap, bYes_ap, frzAt_ap, eUn_ap, eNotD_ap, eOrD_ap, eChain_ap, eListRg1_ap, eIsa_ap, eMt_ap, iEnumV_ap, iEnumF_ap, iZipV_ap, iZipF_ap, eTLen_ap, iRng3D_ap, sEnd_ap, eSs_ap, sPar3_ap, xPop_ap, xTup1_ap, xCat_ap, sSetX_ap, sAppX_ap, sParO_ap, sForEI_ap, sForK_ap, eRep_ap, eDicK_ap, eDicT_ap, sPut_ap, eAlt_ap, sTry_ap, eGetD_ap, eLockI_ap, iKeyF_ap, sSetDef_ap, eTupVals_ap, sNst_ap, frzNAt_ap, sAppN_ap, sStN_ap, eListRg2_ap, eLam_ap, eCallP_ap, eNow_ap, dBef_ap, sShApp_ap, xShPop_ap, sShNow_ap, sShNowX_ap, sShClr_ap, yCall_ap, yOf_ap, yX_ap, yR_ap, yIf_ap, sRetS_ap, unX_ap, ytOf_ap, ytTru_ap, ytNot_ap, ytSeq_ap, ytCmp_ap, yaOf_ap, yaCons_ap, yApp_ap, eMethR_ap, sMakeSh_ap, runB_ap, gOne_ap, gMany_ap, dI_ap, yesC_ap, dCmp_int, setD, kill_nx, kill_rt, kill_rs, kill_bk, Option.bind_some, Option.map_some, Option.bind_none, Option.map_none, List.getElem?_cons_zero, List.getElem?_cons_succ, List.set_cons_zero, List.set_cons_succ, List.cons_append, List.nil_append, List.append_nil, List.replicate, List.length_cons, List.length_nil, Nat.reduceAdd, Nat.reduceSub, Nat.zero_add, wdat_no, wdat_d, wdat_town, wdat_ol, wdat_od, wfrz_no, wfrz_d, wfrz_town, wfrz_ol, wfrz_od, wval_no, wval_d, wval_town, wval_ol, wval_od, warg_no, warg_d, warg_town, warg_ol, warg_od, vals, gLen, gAbs, gMax2, gMin2, gInt, gTup, gList, wipeW, if_true, if_false, Bool.false_eq_true, Bool.not_true, Bool.not_false, reduceCtorEq, runY, sSeqX, lft, sEndX, sDropY, yPut, shW, shAt0, f1, dSl, e1, e2, a1, a2, k]
theorem sh_take_ok (r : Rw) (ts : List Th) (i : Nat) (h : i < ts.length) (hl : ts.length ≤ 1000) (bef lat : List PyData) (n : Nat) (hb : bef.length < big) :
    y_sh_take (stD r ts, bef, lat) [.d (.int (i : Int))] n = some (.inl (ts[i]).d, (stD r (ts.eraseIdx i), bef ++ [stD r ts], []), n) := by
  have e1 : cutD (ts.map Th.d) none (some (i : Int)) = (ts.take i).map Th.d := by rw [cutD_take _ _ (by rw [List.length_map]; omega), List.map_take]
  have e2 : cutD (ts.map Th.d) (some ((i : Int) + 1)) none = (ts.drop (i + 1)).map Th.d := by
    rw [show ((i : Int) + 1) = ((i + 1 : Nat) : Int) from rfl, cutD_drop _ _ (by rw [List.length_map]; omega), List.map_drop]
  have a1 : dAdd (.tuple ((ts.take i).map Th.d)) (.tuple ((ts.drop (i + 1)).map Th.d)) = some (.d (tsD (ts.eraseIdx i))) := by
    rw [dAdd_tup _ _ (le_big (by simp; omega)), List.eraseIdx_eq_take_drop_succ]; simp
  have k := sh_keep_ok (stD r ts) (stD r (ts.eraseIdx i)) bef lat n hb
  have ix := ixTsN ts i h
  have c1 : (0 : Int) ≤ i := by omega
  have c2 : (i : Int) < ts.length := by omega
  unfold y_sh_take by_sh_take
  simp -implicitDefEqProofs only [eVar_ap, dVar_ap, eC_ap, dOf_ap, eFrz_ap, eBin_ap, bTest_ap, bTru_ap, bAnd_ap, bOr_ap, bNot_ap, eIf_ap, eB_ap, eAnd_ap, eOr_ap, aNil_ap, aCons_ap, sNil_ap, sCons_ap, eTup_ap, eLst_ap, eCall_ap, eApp_ap, oNone_ap, oSome_ap, eSl_ap, sNil'_ap, sSeq_ap, sBrk_ap, sRet_ap, sRetN_ap, sRetO_ap, sDrop_ap, sIf_ap, sSet_ap, sApp_ap, sTown_ap, sExt_ap, sIns_ap, sSetIx_ap, sAsg_ap, sPar_ap, iOf_ap, iVal_ap, iRng1_ap, iRng2_ap, sFor_ap, eComp_ap, bYes_ap, frzAt_ap, eUn_ap, eNotD_ap, eOrD_ap, eChain_ap, eListRg1_ap, eIsa_ap, eMt_ap, iEnumV_ap, iEnumF_ap, iZipV_ap, iZipF_ap, eTLen_ap, iRng3D_ap, sEnd_ap, eSs_ap, sPar3_ap, xPop_ap, xTup1_ap, xCat_ap, sSetX_ap, sAppX_ap, sParO_ap, sForEI_ap, sForK_ap, eRep_ap, eDicK_ap, eDicT_ap, sPut_ap, eAlt_ap, sTry_ap, eGetD_ap, eLockI_ap, iKeyF_ap, sSetDef_ap, eTupVals_ap, sNst_ap, frzNAt_ap, sAppN_ap, sStN_ap, eListRg2_ap, eLam_ap, eCallP_ap, eNow_ap, dBef_ap, sShApp_ap, xShPop_ap, sShNow_ap, sShNowX_ap, sShClr_ap, yCall_ap, yOf_ap, yX_ap, yR_ap, yIf_ap, sRetS_ap, unX_ap, ytOf_ap, ytTru_ap, ytNot_ap, ytSeq_ap, ytCmp_ap, yaOf_ap, yaCons_ap, yApp_ap, eMethR_ap, sMakeSh_ap, runB_ap, gOne_ap, gMany_ap, dI_ap, yesC_ap, dCmp_int, setD, kill_nx, kill_rt, kill_rs, kill_bk, Option.bind_some, Option.map_some, Option.bind_none, Option.map_none, List.getElem?_cons_zero, List.getElem?_cons_succ, List.set_cons_zero, List.set_cons_succ, List.cons_append, List.nil_append, List.append_nil, List.replicate, List.length_cons, List.length_nil, Nat.reduceAdd, Nat.reduceSub, Nat.zero_add, wdat_no, wdat_d, wdat_town, wdat_ol, wdat_od, wfrz_no, wfrz_d, wfrz_town, wfrz_ol, wfrz_od, wval_no, wval_d, wval_town, wval_ol, wval_od, warg_no, warg_d, warg_town, warg_ol, warg_od, vals, gLen, gAbs, gMax2, gMin2, gInt, gTup, gList, wipeW, if_true, if_false, Bool.false_eq_true, Bool.not_true, Bool.not_false, reduceCtorEq, runY, sSeqX, lft, sIfX, sEndX, sDropY, yPut, shW, shAt0, rLe_t c1, rLt_t c2, List.length_map, dSl, e1, e2, a1, k, ix, dAdd_int]
theorem sh_order_ok (r q : Rw) (hq : Rw.ok q) (hql : q.length ≤ 1000000) (ts : List Th) (hl : ts.length ≤ 1000) (bef lat : List PyData) (n : Nat) (hb : bef.length < big) :
    y_sh_order (stD r ts, bef, lat) [.d (rowD q)] n = some (.inl .none, (stD q (ordT q ts), bef ++ [stD r ts], []), n) := by
  have f1 := ordered_ok q hq hql ts (by omega) n
  have k := sh_keep_ok (stD r ts) (stD q (ordT q ts)) bef lat n hb
  have i1' := i1 (rowD r) (tsD ts) []
  unfold y_sh_order by_sh_order
  simp -implicitDefEqProofs only [eVar_ap, dVar_ap, eC_ap, dOf_ap, eFrz_ap, eBin_ap, bTest_ap, bTru_ap, bAnd_ap, bOr_ap, bNot_ap, eIf_ap, eB_ap, eAnd_ap, eOr_ap, aNil_ap, aCons_ap, sNil_ap, sCons_ap, eTup_ap, eLst_ap, eCall_ap, eApp_ap, oNone_ap, oSome_ap, eSl_ap, sNil'_ap, sSeq_ap, sBrk_ap, sRet_ap, sRetN_ap, sRetO_ap, sDrop_ap, sIf_ap, sSet_ap, sApp_ap, sTown_ap, sExt_ap, sIns_ap, sSetIx_ap, sAsg_ap, sPar_ap, iOf_ap, iVal_ap, iRng1_ap, iRng2_ap, sFor_ap, eComp_ap, bYes_ap, frzAt_ap, eUn_ap, eNotD_ap, eOrD_ap, eChain_ap, eListRg1_ap, eIsa_ap, eMt_ap, iEnumV_ap, iEnumF_ap, iZipV_ap, iZipF_ap, eTLen_ap, iRng3D_ap, sEnd_ap, eSs_ap, sPar3_ap, xPop_ap, xTup1_ap, xCat_ap, sSetX_ap, sAppX_ap, sParO_ap, sForEI_ap, sForK_ap, eRep_ap, eDicK_ap, eDicT_ap, sPut_ap, eAlt_ap, sTry_ap, eGetD_ap, eLockI_ap, iKeyF_ap, sSetDef_ap, eTupVals_ap, sNst_ap, frzNAt_ap, sAppN_ap, sStN_ap, eListRg2_ap, eLam_ap, eCallP_ap, eNow_ap, dBef_ap, sShApp_ap, xShPop_ap, sShNow_ap, sShNowX_ap, sShClr_ap, yCall_ap, yOf_ap, yX_ap, yR_ap, yIf_ap, sRetS_ap, unX_ap, ytOf_ap, ytTru_ap, ytNot_ap, ytSeq_ap, ytCmp_ap, yaOf_ap, yaCons_ap, yApp_ap, eMethR_ap, sMakeSh_ap, runB_ap, gOne_ap, gMany_ap, dI_ap, yesC_ap, dCmp_int, setD, kill_nx, kill_rt, kill_rs, kill_bk, Option.bind_some, Option.map_some, Option.bind_none, Option.map_none, List.getElem?_cons_zero, List.getElem?_cons_succ, List.set_cons_zero, List.set_cons_succ, List.cons_append, List.nil_append, List.append_nil, List.replicate, List.length_cons, List.length_nil, Nat.reduceAdd, Nat.reduceSub, Nat.zero_add, wdat_no, wdat_d, wdat_town, wdat_ol, wdat_od, wfrz_no, wfrz_d, wfrz_town, wfrz_ol, wfrz_od, wval_no, wval_d, wval_town, wval_ol, wval_od, warg_no, warg_d, warg_town, warg_ol, warg_od, vals, gLen, gAbs, gMax2, gMin2, gInt, gTup, gList, wipeW, if_true, if_false, Bool.false_eq_true, Bool.not_true, Bool.not_false, reduceCtorEq, runY, sEndX, sDropY, yPut, shW, shAt0, i1', f1, k]
theorem sh_back_ok (now b : PyData) (bef lat : List PyData) (n : Nat) (hl : lat.length < big) : y_sh_back (now, bef ++ [b], lat) [] n = some (.inl .none, (b, bef, lat ++ [now]), n) := by
  have e : (bef ++ [b]).isEmpty = false := by simp
  have g : (bef ++ [b])[(bef ++ [b]).length - 1]? = some b := by simp
  have dl : (bef ++ [b]).dropLast = bef := by simp
  unfold y_sh_back by_sh_back
  simp -implicitDefEqProofs only [eVar_ap, dVar_ap, eC_ap, dOf_ap, eFrz_ap, eBin_ap, bTest_ap, bTru_ap, bAnd_ap, bOr_ap, bNot_ap, eIf_ap, eB_ap, eAnd_ap, eOr_ap, aNil_ap, aCons_ap, sNil_ap, sCons_ap, eTup_ap, eLst_ap, eCall_ap, eApp_ap, oNone_ap, oSome_ap, eSl_ap, sNil'_ap, sSeq_ap, sBrk_ap, sRet_ap, sRetN_ap, sRetO_ap, sDrop_ap, sIf_ap, sSet_ap, sApp_ap, sTown_ap, sExt_ap, sIns_ap, sSetIx_ap, sAsg_ap, sPar_ap, iOf_ap, iVal_ap, iRng1_ap, iRng2_ap, sFor_ap, eComp_ap, bYes_ap, frzAt_ap, eUn_ap, eNotD_ap, eOrD_ap, eChain_ap, eListRg1_ap, eIsa_ap, eMt_ap, iEnumV_ap, iEnumF_ap, iZipV_ap, iZipF_ap, eTLen_ap, iRng3D_ap, sEnd_ap, eSs_ap, sPar3_ap, xPop_ap, xTup1_ap, xCat_ap, sSetX_ap, sAppX_ap, sParO_ap, sForEI_ap, sForK_ap, eRep_ap, eDicK_ap, eDicT_ap, sPut_ap, eAlt_ap, sTry_ap, eGetD_ap, eLockI_ap, iKeyF_ap, sSetDef_ap, eTupVals_ap, sNst_ap, frzNAt_ap, sAppN_ap, sStN_ap, eListRg2_ap, eLam_ap, eCallP_ap, eNow_ap, dBef_ap, sShApp_ap, xShPop_ap, sShNow_ap, sShNowX_ap, sShClr_ap, yCall_ap, yOf_ap, yX_ap, yR_ap, yIf_ap, sRetS_ap, unX_ap, ytOf_ap, ytTru_ap, ytNot_ap, ytSeq_ap, ytCmp_ap, yaOf_ap, yaCons_ap, yApp_ap, eMethR_ap, sMakeSh_ap, runB_ap, gOne_ap, gMany_ap, dI_ap, yesC_ap, dCmp_int, setD, kill_nx, kill_rt, kill_rs, kill_bk, Option.bind_some, Option.map_some, Option.bind_none, Option.map_none, List.getElem?_cons_zero, List.getElem?_cons_succ, List.set_cons_zero, List.set_cons_succ, List.cons_append, List.nil_append, List.append_nil, List.replicate, List.length_cons, List.length_nil, Nat.reduceAdd, Nat.reduceSub, Nat.zero_add, wdat_no, wdat_d, wdat_town, wdat_ol, wdat_od, wfrz_no, wfrz_d, wfrz_town, wfrz_ol, wfrz_od, wval_no, wval_d, wval_town, wval_ol, wval_od, warg_no, warg_d, warg_town, warg_ol, warg_od, vals, gLen, gAbs, gMax2, gMin2, gInt, gTup, gList, wipeW, if_true, if_false, Bool.false_eq_true, Bool.not_true, Bool.not_false, reduceCtorEq, runY, sSeqX, lft, sIfX, shW, shAt0, pick2, dTru, e, hl, shSet, g, dl]
/-! looks -/
theorem sh_things_ok (r : Rw) (ts : List Th) (n : Nat) : m_sh_things [.shR (stD r ts)] n = some (.d (tsD ts), n) := by
  unfold m_sh_things b_sh_things
  simp -implicitDefEqProofs only [eVar_ap, dVar_ap, eC_ap, dOf_ap, eFrz_ap, eBin_ap, bTest_ap, bTru_ap, bAnd_ap, bOr_ap, bNot_ap, eIf_ap, eB_ap, eAnd_ap, eOr_ap, aNil_ap, aCons_ap, sNil_ap, sCons_ap, eTup_ap, eLst_ap, eCall_ap, eApp_ap, oNone_ap, oSome_ap, eSl_ap, sNil'_ap, sSeq_ap, sBrk_ap, sRet_ap, sRetN_ap, sRetO_ap, sDrop_ap, sIf_ap, sSet_ap, sApp_ap, sTown_ap, sExt_ap, sIns_ap, sSetIx_ap, sAsg_ap, sPar_ap, iOf_ap, iVal_ap, iRng1_ap, iRng2_ap, sFor_ap, eComp_ap, bYes_ap, frzAt_ap, eUn_ap, eNotD_ap, eOrD_ap, eChain_ap, eListRg1_ap, eIsa_ap, eMt_ap, iEnumV_ap, iEnumF_ap, iZipV_ap, iZipF_ap, eTLen_ap, iRng3D_ap, sEnd_ap, eSs_ap, sPar3_ap, xPop_ap, xTup1_ap, xCat_ap, sSetX_ap, sAppX_ap, sParO_ap, sForEI_ap, sForK_ap, eRep_ap, eDicK_ap, eDicT_ap, sPut_ap, eAlt_ap, sTry_ap, eGetD_ap, eLockI_ap, iKeyF_ap, sSetDef_ap, eTupVals_ap, sNst_ap, frzNAt_ap, sAppN_ap, sStN_ap, eListRg2_ap, eLam_ap, eCallP_ap, eNow_ap, dBef_ap, sShApp_ap, xShPop_ap, sShNow_ap, sShNowX_ap, sShClr_ap, yCall_ap, yOf_ap, yX_ap, yR_ap, yIf_ap, sRetS_ap, unX_ap, ytOf_ap, ytTru_ap, ytNot_ap, ytSeq_ap, ytCmp_ap, yaOf_ap, yaCons_ap, yApp_ap, eMethR_ap, sMakeSh_ap, runB_ap, gOne_ap, gMany_ap, dI_ap, yesC_ap, dCmp_int, setD, kill_nx, kill_rt, kill_rs, kill_bk, Option.bind_some, Option.map_some, Option.bind_none, Option.map_none, List.getElem?_cons_zero, List.getElem?_cons_succ, List.set_cons_zero, List.set_cons_succ, List.cons_append, List.nil_append, List.append_nil, List.replicate, List.length_cons, List.length_nil, Nat.reduceAdd, Nat.reduceSub, Nat.zero_add, wdat_no, wdat_d, wdat_town, wdat_ol, wdat_od, wfrz_no, wfrz_d, wfrz_town, wfrz_ol, wfrz_od, wval_no, wval_d, wval_town, wval_ol, wval_od, warg_no, warg_d, warg_town, warg_ol, warg_od, vals, gLen, gAbs, gMax2, gMin2, gInt, gTup, gList, wipeW, if_true, if_false, Bool.false_eq_true, Bool.not_true, Bool.not_false, reduceCtorEq, i1]
theorem sh_row_ok (r : Rw) (ts : List Th) (n : Nat) : m_sh_row [.shR (stD r ts)] n = some (.d (rowD r), n) := by
  unfold m_sh_row b_sh_row
  simp -implicitDefEqProofs only [eVar_ap, dVar_ap, eC_ap, dOf_ap, eFrz_ap, eBin_ap, bTest_ap, bTru_ap, bAnd_ap, bOr_ap, bNot_ap, eIf_ap, eB_ap, eAnd_ap, eOr_ap, aNil_ap, aCons_ap, sNil_ap, sCons_ap, eTup_ap, eLst_ap, eCall_ap, eApp_ap, oNone_ap, oSome_ap, eSl_ap, sNil'_ap, sSeq_ap, sBrk_ap, sRet_ap, sRetN_ap, sRetO_ap, sDrop_ap, sIf_ap, sSet_ap, sApp_ap, sTown_ap, sExt_ap, sIns_ap, sSetIx_ap, sAsg_ap, sPar_ap, iOf_ap, iVal_ap, iRng1_ap, iRng2_ap, sFor_ap, eComp_ap, bYes_ap, frzAt_ap, eUn_ap, eNotD_ap, eOrD_ap, eChain_ap, eListRg1_ap, eIsa_ap, eMt_ap, iEnumV_ap, iEnumF_ap, iZipV_ap, iZipF_ap, eTLen_ap, iRng3D_ap, sEnd_ap, eSs_ap, sPar3_ap, xPop_ap, xTup1_ap, xCat_ap, sSetX_ap, sAppX_ap, sParO_ap, sForEI_ap, sForK_ap, eRep_ap, eDicK_ap, eDicT_ap, sPut_ap, eAlt_ap, sTry_ap, eGetD_ap, eLockI_ap, iKeyF_ap, sSetDef_ap, eTupVals_ap, sNst_ap, frzNAt_ap, sAppN_ap, sStN_ap, eListRg2_ap, eLam_ap, eCallP_ap, eNow_ap, dBef_ap, sShApp_ap, xShPop_ap, sShNow_ap, sShNowX_ap, sShClr_ap, yCall_ap, yOf_ap, yX_ap, yR_ap, yIf_ap, sRetS_ap, unX_ap, ytOf_ap, ytTru_ap, ytNot_ap, ytSeq_ap, ytCmp_ap, yaOf_ap, yaCons_ap, yApp_ap, eMethR_ap, sMakeSh_ap, runB_ap, gOne_ap, gMany_ap, dI_ap, yesC_ap, dCmp_int, setD, kill_nx, kill_rt, kill_rs, kill_bk, Option.bind_some, Option.map_some, Option.bind_none, Option.map_none, List.getElem?_cons_zero, List.getElem?_cons_succ, List.set_cons_zero, List.set_cons_succ, List.cons_append, List.nil_append, List.append_nil, List.replicate, List.length_cons, List.length_nil, Nat.reduceAdd, Nat.reduceSub, Nat.zero_add, wdat_no, wdat_d, wdat_town, wdat_ol, wdat_od, wfrz_no, wfrz_d, wfrz_town, wfrz_ol, wfrz_od, wval_no, wval_d, wval_town, wval_ol, wval_od, warg_no, warg_d, warg_town, warg_ol, warg_od, vals, gLen, gAbs, gMax2, gMin2, gInt, gTup, gList, wipeW, if_true, if_false, Bool.false_eq_true, Bool.not_true, Bool.not_false, reduceCtorEq, i0]
def frTs (r : Rw) (ts : List Th) (t : Th) : Nat := (ts.filter fun x => decide (wrd r x t < 0)).length
theorem sh_around_ok (r : Rw) (hr : Rw.ok r) (hrl : r.length ≤ 1000000) (ts : List Th) (hs : srted r ts) (hl : ts.length ≤ 1000) (t : Th) (n : Nat) :
    m_sh_around [.shR (stD r ts), .d t.d] n = some (.d (.tuple [.int (frTs r ts t : Nat), .int (plTs r ts t : Nat)]), n) := by
  have f1 := first_place_ok r hr hrl ts hs hl t n
  have f2 := last_place_ok r hr hrl ts hs hl t n
  have f1 : m_first_place [.d (rowD r), .d (tsD ts), .d t.d] n = some (I' (frTs r ts t : Nat), n) := f1
  have f2 : m_last_place [.d (rowD r), .d (tsD ts), .d t.d] n = some (I' (plTs r ts t : Nat), n) := f2
  unfold m_sh_around b_sh_around
  simp -implicitDefEqProofs only [eVar_ap, dVar_ap, eC_ap, dOf_ap, eFrz_ap, eBin_ap, bTest_ap, bTru_ap, bAnd_ap, bOr_ap, bNot_ap, eIf_ap, eB_ap, eAnd_ap, eOr_ap, aNil_ap, aCons_ap, sNil_ap, sCons_ap, eTup_ap, eLst_ap, eCall_ap, eApp_ap, oNone_ap, oSome_ap, eSl_ap, sNil'_ap, sSeq_ap, sBrk_ap, sRet_ap, sRetN_ap, sRetO_ap, sDrop_ap, sIf_ap, sSet_ap, sApp_ap, sTown_ap, sExt_ap, sIns_ap, sSetIx_ap, sAsg_ap, sPar_ap, iOf_ap, iVal_ap, iRng1_ap, iRng2_ap, sFor_ap, eComp_ap, bYes_ap, frzAt_ap, eUn_ap, eNotD_ap, eOrD_ap, eChain_ap, eListRg1_ap, eIsa_ap, eMt_ap, iEnumV_ap, iEnumF_ap, iZipV_ap, iZipF_ap, eTLen_ap, iRng3D_ap, sEnd_ap, eSs_ap, sPar3_ap, xPop_ap, xTup1_ap, xCat_ap, sSetX_ap, sAppX_ap, sParO_ap, sForEI_ap, sForK_ap, eRep_ap, eDicK_ap, eDicT_ap, sPut_ap, eAlt_ap, sTry_ap, eGetD_ap, eLockI_ap, iKeyF_ap, sSetDef_ap, eTupVals_ap, sNst_ap, frzNAt_ap, sAppN_ap, sStN_ap, eListRg2_ap, eLam_ap, eCallP_ap, eNow_ap, dBef_ap, sShApp_ap, xShPop_ap, sShNow_ap, sShNowX_ap, sShClr_ap, yCall_ap, yOf_ap, yX_ap, yR_ap, yIf_ap, sRetS_ap, unX_ap, ytOf_ap, ytTru_ap, ytNot_ap, ytSeq_ap, ytCmp_ap, yaOf_ap, yaCons_ap, yApp_ap, eMethR_ap, sMakeSh_ap, runB_ap, gOne_ap, gMany_ap, dI_ap, yesC_ap, dCmp_int, setD, kill_nx, kill_rt, kill_rs, kill_bk, Option.bind_some, Option.map_some, Option.bind_none, Option.map_none, List.getElem?_cons_zero, List.getElem?_cons_succ, List.set_cons_zero, List.set_cons_succ, List.cons_append, List.nil_append, List.append_nil, List.replicate, List.length_cons, List.length_nil, Nat.reduceAdd, Nat.reduceSub, Nat.zero_add, wdat_no, wdat_d, wdat_town, wdat_ol, wdat_od, wfrz_no, wfrz_d, wfrz_town, wfrz_ol, wfrz_od, wval_no, wval_d, wval_town, wval_ol, wval_od, warg_no, warg_d, warg_town, warg_ol, warg_od, vals, gLen, gAbs, gMax2, gMin2, gInt, gTup, gList, wipeW, if_true, if_false, Bool.false_eq_true, Bool.not_true, Bool.not_false, reduceCtorEq, f1, f2]
def btwT (r : Rw) (ts : List Th) (a b : Th) : List Th := ts.filter fun x => decide (wrd r a x < 1) && decide (wrd r x b < 1)
theorem sh_between_ok (r : Rw) (hr : Rw.ok r) (hrl : r.length ≤ 1000000) (ts : List Th) (hl : ts.length ≤ 1000) (a b : Th) (n : Nat) :
    m_sh_between [.shR (stD r ts), .d a.d, .d b.d] n = some (.d (tsD (btwT r ts a b)), n) := by
  have cc := comp_filA (g := gOne 5) (own := [5]) (tst := bAnd (bTest (eBin (dCmp rLt zLt) (dOf (eCall m_told (aCons (eVar 3) (aCons (eVar 1) (aCons (eVar 5) aNil))))) (dOf (eC (.int 1))))) (bTest (eBin (dCmp rLt zLt) (dOf (eCall m_told (aCons (eVar 3) (aCons (eVar 5) (aCons (eVar 2) aNil))))) (dOf (eC (.int 1)))))) (elt := eVar 5)
    (ρ := [.no, .d a.d, .d b.d, .d (rowD r), .d (tsD ts), .no]) (n := n) Th.d Th.d (fun x => decide (wrd r a x < 1) && decide (wrd r x b < 1)) ts fun x hx => ⟨_, rfl, by
      have t1 := told_ok' r hr hrl a x n
      have t2 := told_ok' r hr hrl x b n
      by_cases c : wrd r a x < 1
      · by_cases c2 : wrd r x b < 1
        · simp -implicitDefEqProofs only [eVar_ap, dVar_ap, eC_ap, dOf_ap, eFrz_ap, eBin_ap, bTest_ap, bTru_ap, bAnd_ap, bOr_ap, bNot_ap, eIf_ap, eB_ap, eAnd_ap, eOr_ap, aNil_ap, aCons_ap, sNil_ap, sCons_ap, eTup_ap, eLst_ap, eCall_ap, eApp_ap, oNone_ap, oSome_ap, eSl_ap, sNil'_ap, sSeq_ap, sBrk_ap, sRet_ap, sRetN_ap, sRetO_ap, sDrop_ap, sIf_ap, sSet_ap, sApp_ap, sTown_ap, sExt_ap, sIns_ap, sSetIx_ap, sAsg_ap, sPar_ap, iOf_ap, iVal_ap, iRng1_ap, iRng2_ap, sFor_ap, eComp_ap, bYes_ap, frzAt_ap, eUn_ap, eNotD_ap, eOrD_ap, eChain_ap, eListRg1_ap, eIsa_ap, eMt_ap, iEnumV_ap, iEnumF_ap, iZipV_ap, iZipF_ap, eTLen_ap, iRng3D_ap, sEnd_ap, eSs_ap, sPar3_ap, xPop_ap, xTup1_ap, xCat_ap, sSetX_ap, sAppX_ap, sParO_ap, sForEI_ap, sForK_ap, eRep_ap, eDicK_ap, eDicT_ap, sPut_ap, eAlt_ap, sTry_ap, eGetD_ap, eLockI_ap, iKeyF_ap, sSetDef_ap, eTupVals_ap, sNst_ap, frzNAt_ap, sAppN_ap, sStN_ap, eListRg2_ap, eLam_ap, eCallP_ap, eNow_ap, dBef_ap, sShApp_ap, xShPop_ap, sShNow_ap, sShNowX_ap, sShClr_ap, yCall_ap, yOf_ap, yX_ap, yR_ap, yIf_ap, sRetS_ap, unX_ap, ytOf_ap, ytTru_ap, ytNot_ap, ytSeq_ap, ytCmp_ap, yaOf_ap, yaCons_ap, yApp_ap, eMethR_ap, sMakeSh_ap, runB_ap, gOne_ap, gMany_ap, dI_ap, yesC_ap, dCmp_int, setD, kill_nx, kill_rt, kill_rs, kill_bk, Option.bind_some, Option.map_some, Option.bind_none, Option.map_none, List.getElem?_cons_zero, List.getElem?_cons_succ, List.set_cons_zero, List.set_cons_succ, List.cons_append, List.nil_append, List.append_nil, List.replicate, List.length_cons, List.length_nil, Nat.reduceAdd, Nat.reduceSub, Nat.zero_add, wdat_no, wdat_d, wdat_town, wdat_ol, wdat_od, wfrz_no, wfrz_d, wfrz_town, wfrz_ol, wfrz_od, wval_no, wval_d, wval_town, wval_ol, wval_od, warg_no, warg_d, warg_town, warg_ol, warg_od, vals, gLen, gAbs, gMax2, gMin2, gInt, gTup, gList, wipeW, if_true, if_false, Bool.false_eq_true, Bool.not_true, Bool.not_false, reduceCtorEq, t1, t2, rLt_t c, rLt_t c2, decide_true, Bool.and_self, c, c2]
        · simp -implicitDefEqProofs only [eVar_ap, dVar_ap, eC_ap, dOf_ap, eFrz_ap, eBin_ap, bTest_ap, bTru_ap, bAnd_ap, bOr_ap, bNot_ap, eIf_ap, eB_ap, eAnd_ap, eOr_ap, aNil_ap, aCons_ap, sNil_ap, sCons_ap, eTup_ap, eLst_ap, eCall_ap, eApp_ap, oNone_ap, oSome_ap, eSl_ap, sNil'_ap, sSeq_ap, sBrk_ap, sRet_ap, sRetN_ap, sRetO_ap, sDrop_ap, sIf_ap, sSet_ap, sApp_ap, sTown_ap, sExt_ap, sIns_ap, sSetIx_ap, sAsg_ap, sPar_ap, iOf_ap, iVal_ap, iRng1_ap, iRng2_ap, sFor_ap, eComp_ap, bYes_ap, frzAt_ap, eUn_ap, eNotD_ap, eOrD_ap, eChain_ap, eListRg1_ap, eIsa_ap, eMt_ap, iEnumV_ap, iEnumF_ap, iZipV_ap, iZipF_ap, eTLen_ap, iRng3D_ap, sEnd_ap, eSs_ap, sPar3_ap, xPop_ap, xTup1_ap, xCat_ap, sSetX_ap, sAppX_ap, sParO_ap, sForEI_ap, sForK_ap, eRep_ap, eDicK_ap, eDicT_ap, sPut_ap, eAlt_ap, sTry_ap, eGetD_ap, eLockI_ap, iKeyF_ap, sSetDef_ap, eTupVals_ap, sNst_ap, frzNAt_ap, sAppN_ap, sStN_ap, eListRg2_ap, eLam_ap, eCallP_ap, eNow_ap, dBef_ap, sShApp_ap, xShPop_ap, sShNow_ap, sShNowX_ap, sShClr_ap, yCall_ap, yOf_ap, yX_ap, yR_ap, yIf_ap, sRetS_ap, unX_ap, ytOf_ap, ytTru_ap, ytNot_ap, ytSeq_ap, ytCmp_ap, yaOf_ap, yaCons_ap, yApp_ap, eMethR_ap, sMakeSh_ap, runB_ap, gOne_ap, gMany_ap, dI_ap, yesC_ap, dCmp_int, setD, kill_nx, kill_rt, kill_rs, kill_bk, Option.bind_some, Option.map_some, Option.bind_none, Option.map_none, List.getElem?_cons_zero, List.getElem?_cons_succ, List.set_cons_zero, List.set_cons_succ, List.cons_append, List.nil_append, List.append_nil, List.replicate, List.length_cons, List.length_nil, Nat.reduceAdd, Nat.reduceSub, Nat.zero_add, wdat_no, wdat_d, wdat_town, wdat_ol, wdat_od, wfrz_no, wfrz_d, wfrz_town, wfrz_ol, wfrz_od, wval_no, wval_d, wval_town, wval_ol, wval_od, warg_no, warg_d, warg_town, warg_ol, warg_od, vals, gLen, gAbs, gMax2, gMin2, gInt, gTup, gList, wipeW, if_true, if_false, Bool.false_eq_true, Bool.not_true, Bool.not_false, reduceCtorEq, t1, t2, rLt_t c, rLt_f c2, decide_true, decide_false, Bool.true_and, c, c2]
      · simp -implicitDefEqProofs only [eVar_ap, dVar_ap, eC_ap, dOf_ap, eFrz_ap, eBin_ap, bTest_ap, bTru_ap, bAnd_ap, bOr_ap, bNot_ap, eIf_ap, eB_ap, eAnd_ap, eOr_ap, aNil_ap, aCons_ap, sNil_ap, sCons_ap, eTup_ap, eLst_ap, eCall_ap, eApp_ap, oNone_ap, oSome_ap, eSl_ap, sNil'_ap, sSeq_ap, sBrk_ap, sRet_ap, sRetN_ap, sRetO_ap, sDrop_ap, sIf_ap, sSet_ap, sApp_ap, sTown_ap, sExt_ap, sIns_ap, sSetIx_ap, sAsg_ap, sPar_ap, iOf_ap, iVal_ap, iRng1_ap, iRng2_ap, sFor_ap, eComp_ap, bYes_ap, frzAt_ap, eUn_ap, eNotD_ap, eOrD_ap, eChain_ap, eListRg1_ap, eIsa_ap, eMt_ap, iEnumV_ap, iEnumF_ap, iZipV_ap, iZipF_ap, eTLen_ap, iRng3D_ap, sEnd_ap, eSs_ap, sPar3_ap, xPop_ap, xTup1_ap, xCat_ap, sSetX_ap, sAppX_ap, sParO_ap, sForEI_ap, sForK_ap, eRep_ap, eDicK_ap, eDicT_ap, sPut_ap, eAlt_ap, sTry_ap, eGetD_ap, eLockI_ap, iKeyF_ap, sSetDef_ap, eTupVals_ap, sNst_ap, frzNAt_ap, sAppN_ap, sStN_ap, eListRg2_ap, eLam_ap, eCallP_ap, eNow_ap, dBef_ap, sShApp_ap, xShPop_ap, sShNow_ap, sShNowX_ap, sShClr_ap, yCall_ap, yOf_ap, yX_ap, yR_ap, yIf_ap, sRetS_ap, unX_ap, ytOf_ap, ytTru_ap, ytNot_ap, ytSeq_ap, ytCmp_ap, yaOf_ap, yaCons_ap, yApp_ap, eMethR_ap, sMakeSh_ap, runB_ap, gOne_ap, gMany_ap, dI_ap, yesC_ap, dCmp_int, setD, kill_nx, kill_rt, kill_rs, kill_bk, Option.bind_some, Option.map_some, Option.bind_none, Option.map_none, List.getElem?_cons_zero, List.getElem?_cons_succ, List.set_cons_zero, List.set_cons_succ, List.cons_append, List.nil_append, List.append_nil, List.replicate, List.length_cons, List.length_nil, Nat.reduceAdd, Nat.reduceSub, Nat.zero_add, wdat_no, wdat_d, wdat_town, wdat_ol, wdat_od, wfrz_no, wfrz_d, wfrz_town, wfrz_ol, wfrz_od, wval_no, wval_d, wval_town, wval_ol, wval_od, warg_no, warg_d, warg_town, warg_ol, warg_od, vals, gLen, gAbs, gMax2, gMin2, gInt, gTup, gList, wipeW, if_true, if_false, Bool.false_eq_true, Bool.not_true, Bool.not_false, reduceCtorEq, t1, rLt_f c, decide_false, Bool.false_and, c], fun _ => rfl⟩
  have hb : ts.length ≤ big := le_big (by omega)
  unfold m_sh_between b_sh_between
  simp -implicitDefEqProofs only [eVar_ap, dVar_ap, eC_ap, dOf_ap, eFrz_ap, eBin_ap, bTest_ap, bTru_ap, bAnd_ap, bOr_ap, bNot_ap, eIf_ap, eB_ap, eAnd_ap, eOr_ap, aNil_ap, aCons_ap, sNil_ap, sCons_ap, eTup_ap, eLst_ap, eCall_ap, eApp_ap, oNone_ap, oSome_ap, eSl_ap, sNil'_ap, sSeq_ap, sBrk_ap, sRet_ap, sRetN_ap, sRetO_ap, sDrop_ap, sIf_ap, sSet_ap, sApp_ap, sTown_ap, sExt_ap, sIns_ap, sSetIx_ap, sAsg_ap, sPar_ap, iOf_ap, iVal_ap, iRng1_ap, iRng2_ap, sFor_ap, eComp_ap, bYes_ap, frzAt_ap, eUn_ap, eNotD_ap, eOrD_ap, eChain_ap, eListRg1_ap, eIsa_ap, eMt_ap, iEnumV_ap, iEnumF_ap, iZipV_ap, iZipF_ap, eTLen_ap, iRng3D_ap, sEnd_ap, eSs_ap, sPar3_ap, xPop_ap, xTup1_ap, xCat_ap, sSetX_ap, sAppX_ap, sParO_ap, sForEI_ap, sForK_ap, eRep_ap, eDicK_ap, eDicT_ap, sPut_ap, eAlt_ap, sTry_ap, eGetD_ap, eLockI_ap, iKeyF_ap, sSetDef_ap, eTupVals_ap, sNst_ap, frzNAt_ap, sAppN_ap, sStN_ap, eListRg2_ap, eLam_ap, eCallP_ap, eNow_ap, dBef_ap, sShApp_ap, xShPop_ap, sShNow_ap, sShNowX_ap, sShClr_ap, yCall_ap, yOf_ap, yX_ap, yR_ap, yIf_ap, sRetS_ap, unX_ap, ytOf_ap, ytTru_ap, ytNot_ap, ytSeq_ap, ytCmp_ap, yaOf_ap, yaCons_ap, yApp_ap, eMethR_ap, sMakeSh_ap, runB_ap, gOne_ap, gMany_ap, dI_ap, yesC_ap, dCmp_int, setD, kill_nx, kill_rt, kill_rs, kill_bk, Option.bind_some, Option.map_some, Option.bind_none, Option.map_none, List.getElem?_cons_zero, List.getElem?_cons_succ, List.set_cons_zero, List.set_cons_succ, List.cons_append, List.nil_append, List.append_nil, List.replicate, List.length_cons, List.length_nil, Nat.reduceAdd, Nat.reduceSub, Nat.zero_add, wdat_no, wdat_d, wdat_town, wdat_ol, wdat_od, wfrz_no, wfrz_d, wfrz_town, wfrz_ol, wfrz_od, wval_no, wval_d, wval_town, wval_ol, wval_od, warg_no, warg_d, warg_town, warg_ol, warg_od, vals, gLen, gAbs, gMax2, gMin2, gInt, gTup, gList, wipeW, if_true, if_false, Bool.false_eq_true, Bool.not_true, Bool.not_false, reduceCtorEq, iSeq, List.length_map, hb, cc]
  rfl
end L2.Lv.Sh
namespace L2.Lv.K26
open PySem PySem.Spec PyProof.Rows L2 L2.Lv L2.Lv.Sh
def topS (i : Nat) : Stmt := PySem.Challenge.pw_keyorders_k26_whole_shelves_and_lists.main.body.getD i (.Pass ⟨0, 0, 0, 0⟩)
structure Facts (K : PySem.W.Frag) (mg : Str → Option Value) where
  Cl : Addr
  sk : ShK K Cl
  gS : mg "Shelf" = some (.ref Cl)
  M___init__ : DM K Cl "__init__" "Shelf.__init__" (inClass (topS 16) 0) ["self", "row"]
  M_things : DM K Cl "things" "Shelf.things" (inClass (topS 16) 2) ["self"]
  M_row : DM K Cl "row" "Shelf.row" (inClass (topS 16) 3) ["self"]
  M_keep : DM K Cl "keep" "Shelf.keep" (inClass (topS 16) 1) ["self", "stand"]
  M_put : DM K Cl "put" "Shelf.put" (inClass (topS 16) 4) ["self", "thing"]
  M_take : DM K Cl "take" "Shelf.take" (inClass (topS 16) 5) ["self", "at"]
  M_order : DM K Cl "order" "Shelf.order" (inClass (topS 16) 6) ["self", "row"]
  M_around : DM K Cl "around" "Shelf.around" (inClass (topS 16) 7) ["self", "thing"]
  M_between : DM K Cl "between" "Shelf.between" (inClass (topS 16) 8) ["self", "one", "other"]
  M_back : DM K Cl "back" "Shelf.back" (inClass (topS 16) 9) ["self"]
  mkS : Mk K Cl M___init__.f
  d_worth : DF K mg "worth" (topS 6) ["key", "thing"]
  d_worths : DF K mg "worths" (topS 7) ["row", "thing"]
  d_places : DF K mg "places" (topS 10) ["row", "things"]
  d_ordered : DF K mg "ordered" (topS 11) ["row", "things"]
  d_told : DF K mg "told" (topS 8) ["row", "one", "other"]
  d_groups : DF K mg "groups" (topS 14) ["row", "things"]
  d_last_place : DF K mg "last_place" (topS 13) ["row", "things", "thing"]
  d_first_place : DF K mg "first_place" (topS 12) ["row", "things", "thing"]
  d__law_same : DF K mg "_law_same" (topS 18) ["_law_got", "_law_due"]
  d__law_draw : DF K mg "_law_draw" (topS 19) ["_law_script", "_law_town", "_law_many"]
  d__law_pick : DF K mg "_law_pick" (topS 20) ["_law_script", "_law_town", "_law_some"]
  d__law_plain : DF K mg "_law_plain" (topS 21) ["_law_script", "_law_town"]
  d__law_key : DF K mg "_law_key" (topS 22) ["_law_script", "_law_town"]
  d__law_keys : DF K mg "_law_keys" (topS 23) ["_law_script", "_law_town", "_law_most"]
  d__law_thing : DF K mg "_law_thing" (topS 24) ["_law_script", "_law_town"]
  d__law_list : DF K mg "_law_list" (topS 25) ["_law_script", "_law_town", "_law_most"]
  d_law : DF K mg "law" (topS 26) ["_law_script"]
  z_abs : mg "abs" = none
  z_all : mg "all" = none
  z_bool : mg "bool" = none
  z_enumerate : mg "enumerate" = none
  z_int : mg "int" = none
  z_isinstance : mg "isinstance" = none
  z_len : mg "len" = none
  z_max : mg "max" = none
  z_range : mg "range" = none
  z_sorted : mg "sorted" = none
  z_str : mg "str" = none
  z_tuple : mg "tuple" = none
  z_zip : mg "zip" = none
  c_NoPlace : Addr
  g_NoPlace : mg "NoPlace" = some (.ref c_NoPlace)
  x_NoPlace : PySem.W.excIn K c_NoPlace [.type "ValueError", .type "Exception", .type "BaseException", .type "object"] "ValueError.__new__" = true
  k_NoPlace : PySem.W.keepIn K (.ref c_NoPlace) = true
  b_NoPlace : PySem.W.subIn K (.ref c_NoPlace) (.type "BaseException") = some true
  t_NoPlace : PySem.W.typeIn K (.ref c_NoPlace) = some (.type "type")
  e_NoPlace : PySem.W.exmOne K (.ref c_NoPlace) (.ref c_NoPlace) = some true
  c_NoStep : Addr
  g_NoStep : mg "NoStep" = some (.ref c_NoStep)
  x_NoStep : PySem.W.excIn K c_NoStep [.type "ValueError", .type "Exception", .type "BaseException", .type "object"] "ValueError.__new__" = true
  k_NoStep : PySem.W.keepIn K (.ref c_NoStep) = true
  b_NoStep : PySem.W.subIn K (.ref c_NoStep) (.type "BaseException") = some true
  t_NoStep : PySem.W.typeIn K (.ref c_NoStep) = some (.type "type")
  e_NoStep : PySem.W.exmOne K (.ref c_NoStep) (.ref c_NoStep) = some true
def clsF {K : PySem.W.Frag} {mg : Str → Option Value} (T : Facts K mg) : Nat → Addr
  | 0 => T.c_NoPlace
  | 1 => T.c_NoStep
  | _ => 0
section
variable {P : Program} {w : World} {K : PySem.W.Frag} {mg : Str → Option Value} {base : Heap}
/-! ### worth -/
abbrev st_worth : Stmt := topS 6
abbrev N_worth : List Str := ["key", "thing", "word", "one", "other"]
theorem sc_worth : FnScope N_worth ["key", "thing"] (defScope st_worth) := ⟨rfl, rfl, rfl, by decide +kernel, rfl, by decide +kernel, by decide +kernel⟩
theorem ok_worth_ (T : Facts K mg)  : ∀ k, FnOk P w K mg base CX0 (k + 0) T.d_worth.f T.d_worth.fd ["key", "thing"] (spOf K 2 (m_worth_ k))
  | 0 => fn_none
  | k + 1 => by
    have G := ok_worth_ T  k
    have h0 : k + 0 ≤ k + 0 := Nat.le_refl _
    show FnOk P w K mg base CX0 (k + 0 + 1) _ _ _ _
    exact fn_val (N := N_worth) T.d_worth.F sc_worth fun cdv A outer s H E hr => ((by exact (ss_cons (by exact (ss_set (i := 2) sc_worth.nd (by rfl) (by first | exact .inl rfl | exact .inr rfl) (by exact (ev_ix ixv (by exact (eb_var (pv 0))) (by exact (eb_of (by exact ev_int))) (fun _ _ => by rfl)))))
    (by exact (ss_cons (by exact (ss_if (by exact (et_cmp (ov_eq (hu64 hr)) (by exact (eb_var (pv 2))) (by exact (eb_of (by exact ev_str))) (nomark _)))
    (by exact (ss_one (by exact (ss_ret (by exact (ev_bin ov_sub (by exact (eb_of (by exact ev_int))) (by exact (eb_of (by exact (ev_callD T.d_worth G hr h0 (by rfl) (by exact (ea_cons (by exact (ev_ix ixv (by exact (eb_var (pv 0))) (by exact (eb_of (by exact ev_int))) (fun _ _ => by rfl))) (by exact (ea_cons (by exact (ev_var (pv 1))) (by exact ea_nil)))))))))))))))
    (by exact ss_nil)))
    (by exact (ss_cons (by exact (ss_set (i := 3) sc_worth.nd (by rfl) (by first | exact .inl rfl | exact .inr rfl) (by exact (ev_ix ixv (by exact (eb_var (pv 1))) (by exact (eb_of (by exact (ev_ix ixv (by exact (eb_var (pv 0))) (by exact (eb_of (by exact ev_int))) (fun _ _ => by rfl))))) (fun _ _ => by rfl)))))
    (by exact (ss_cons (by exact (ss_if (by exact (et_cmp (ov_eq (hu64 hr)) (by exact (eb_var (pv 2))) (by exact (eb_of (by exact ev_str))) (nomark _)))
    (by exact (ss_one (by exact (ss_ret (by exact (ev_var (pv 3)))))))
    (by exact ss_nil)))
    (by exact (ss_cons (by exact (ss_if (by exact (et_cmp (ov_eq (hu64 hr)) (by exact (eb_var (pv 2))) (by exact (eb_of (by exact ev_str))) (nomark _)))
    (by exact (ss_one (by exact (ss_ret (by exact (ev_bin ov_div (by exact (eb_var (pv 3))) (by exact (eb_of (by exact (ev_ix ixv (by exact (eb_var (pv 0))) (by exact (eb_of (by exact ev_int))) (fun _ _ => by rfl)))))))))))
    (by exact ss_nil)))
    (by exact (ss_cons (by exact (ss_if (by exact (et_cmp (ov_eq (hu64 hr)) (by exact (eb_var (pv 2))) (by exact (eb_of (by exact ev_str))) (nomark _)))
    (by exact (ss_one (by exact (ss_ret (by exact (ev_bin ov_mod (by exact (eb_var (pv 3))) (by exact (eb_of (by exact (ev_ix ixv (by exact (eb_var (pv 0))) (by exact (eb_of (by exact ev_int))) (fun _ _ => by rfl)))))))))))
    (by exact ss_nil)))
    (by exact (ss_cons (by exact (ss_if (by exact (et_cmp (ov_eq (hu64 hr)) (by exact (eb_var (pv 2))) (by exact (eb_of (by exact ev_str))) (nomark _)))
    (by exact (ss_one (by exact (ss_ret (by exact (ev_ife (by exact (et_cmp (ov_in (hu65 hr)) (by exact (eb_var (pv 3))) (by exact (eb_of (by exact (ev_ix ixv (by exact (eb_var (pv 0))) (by exact (eb_of (by exact ev_int))) (fun _ _ => by rfl))))) (by with_unfolding_all rfl))) (by exact (ev_tm PySem.F.slot_tuple_index PySem.F.type_tuple_index mv_tindex (by exact (eb_of (by exact (ev_ix ixv (by exact (eb_var (pv 0))) (by exact (eb_of (by exact ev_int))) (fun _ _ => by rfl))))) (by exact (ed_cons (by exact (eb_var (pv 3))) (by exact ed_nil))))) (by exact (ev_callB cv_len (by rfl) T.z_len bt_len (by exact (ed_cons (by exact (eb_of (by exact (ev_ix ixv (by exact (eb_var (pv 0))) (by exact (eb_of (by exact ev_int))) (fun _ _ => by rfl))))) (by exact ed_nil)))))))))))
    (by exact ss_nil)))
    (by exact (ss_cons (by exact (ss_if (by exact (et_cmp (ov_eq (hu64 hr)) (by exact (eb_var (pv 2))) (by exact (eb_of (by exact ev_str))) (nomark _)))
    (by exact (ss_one (by exact (ss_ret (by exact (ev_callTy cv_int (by rfl) T.z_int bt_int (by exact (ed_cons (by exact (eb_of (by exact (ev_cmp (ov_notIn (hu65 hr)) (by exact (eb_var (pv 3))) (by exact (eb_of (by exact (ev_ix ixv (by exact (eb_var (pv 0))) (by exact (eb_of (by exact ev_int))) (fun _ _ => by rfl))))) (by with_unfolding_all rfl))))) (by exact ed_nil)))))))))
    (by exact ss_nil)))
    (by exact (ss_cons (by exact (ss_set (i := 4) sc_worth.nd (by rfl) (by first | exact .inl rfl | exact .inr rfl) (by exact (ev_ix ixv (by exact (eb_var (pv 1))) (by exact (eb_of (by exact (ev_ix ixv (by exact (eb_var (pv 0))) (by exact (eb_of (by exact ev_int))) (fun _ _ => by rfl))))) (fun _ _ => by rfl)))))
    (by exact (ss_cons (by exact (ss_if (by exact (et_cmp (ov_eq (hu64 hr)) (by exact (eb_var (pv 2))) (by exact (eb_of (by exact ev_str))) (nomark _)))
    (by exact (ss_one (by exact (ss_ret (by exact (ev_bin ov_add (by exact (eb_var (pv 3))) (by exact (eb_var (pv 4)))))))))
    (by exact ss_nil)))
    (by exact (ss_cons (by exact (ss_if (by exact (et_cmp (ov_eq (hu64 hr)) (by exact (eb_var (pv 2))) (by exact (eb_of (by exact ev_str))) (nomark _)))
    (by exact (ss_one (by exact (ss_ret (by exact (ev_callB cv_abs (by rfl) T.z_abs bt_abs (by exact (ed_cons (by exact (eb_of (by exact (ev_bin ov_sub (by exact (eb_var (pv 3))) (by exact (eb_var (pv 4))))))) (by exact ed_nil)))))))))
    (by exact ss_nil)))
    (by exact (ss_one (by exact (ss_ret (by exact (ev_callB (cv_max2 (by rfl)) (by rfl) T.z_max bt_max (by exact (ed_cons (by exact (eb_var (pv 3))) (by exact (ed_cons (by exact (eb_var (pv 4))) (by exact ed_nil))))))))))))))))))))))))))))))))))
theorem ok_worth (T : Facts K mg)  : FnOk P w K mg base CX0 4 T.d_worth.f T.d_worth.fd ["key", "thing"] (spOf K 2 m_worth) := ok_worth_ T  4
/-! ### worths -/
abbrev st_worths : Stmt := topS 7
abbrev N_worths : List Str := ["row", "thing", "key"]
theorem sc_worths : FnScope N_worths ["row", "thing"] (defScope st_worths) := ⟨rfl, rfl, rfl, by decide +kernel, rfl, by decide +kernel, by decide +kernel⟩
theorem ok_worths (T : Facts K mg) (G_worth : FnOk P w K mg base CX0 4 T.d_worth.f T.d_worth.fd ["key", "thing"] (spOf K 2 m_worth)) : FnOk P w K mg base CX0 5 T.d_worths.f T.d_worths.fd ["row", "thing"] (spOf K 2 m_worths) :=
  fn_val (N := N_worths) T.d_worths.F sc_worths fun cdv A outer s H E hr => (by exact (ss_one (by exact (ss_ret (by exact (ev_callTy cv_tup (by rfl) T.z_tuple bt_tuple (by exact (ed_cons (by exact (eb_of (by exact (ev_lc (own:=[("key",2)]) (by rfl) sc_worths.nd (by exact (ej_seq (by exact (eb_var (pv 0))))) (blkOk_by (N := N_worths) (sc := defScope st_worths) (by decide +kernel)) (fun _ _ _ _ _ => (by exact (eg_one (pg_name (i := 2) sc_worths.nd (by rfl) (by first | exact .inl rfl | exact .inr rfl))))) (fun _ _ _ _ _ => ets_nil) (fun _ _ _ _ _ => (by exact (ev_callD T.d_worth G_worth hr (by decide) (by rfl) (by exact (ea_cons (by exact (ev_var (pv 2))) (by exact (ea_cons (by exact (ev_var (pv 1))) (by exact ea_nil)))))))))))) (by exact ed_nil)))))))))
/-! ### places -/
abbrev st_places : Stmt := topS 10
abbrev N_places : List Str := ["row", "things", "keyed", "at", "thing", "some"]
theorem sc_places : FnScope N_places ["row", "things"] (defScope st_places) := ⟨rfl, rfl, rfl, by decide +kernel, rfl, by decide +kernel, by decide +kernel⟩
theorem ok_places (T : Facts K mg) (G_worths : FnOk P w K mg base CX0 5 T.d_worths.f T.d_worths.fd ["row", "thing"] (spOf K 2 m_worths)) : FnOk P w K mg base CX0 6 T.d_places.f T.d_places.fd ["row", "things"] (spOf K 2 m_places) :=
  fn_val (N := N_places) T.d_places.F sc_places fun cdv A outer s H E hr => (by exact (ss_cons (by exact (ss_set (i := 2) sc_places.nd (by rfl) (by first | exact .inl rfl | exact .inr rfl) (ev_frz (by exact (ev_callB (cv_sorted (hu100 hr)) (by rfl) T.z_sorted bt_sorted (by exact (ed_cons (by exact (eb_of (by exact (ev_lc (own:=[("at",3),("thing",4)]) (by rfl) sc_places.nd (by exact (ej_enum (by rfl) T.z_enumerate (by exact (eb_var (pv 1))))) (blkOk_by (N := N_places) (sc := defScope st_places) (by decide +kernel)) (fun _ _ _ _ _ => (by exact (eg_many (by rfl) (egs_cons (pg_name (i := 3) sc_places.nd (by rfl) (by first | exact .inl rfl | exact .inr rfl)) (egs_cons (pg_name (i := 4) sc_places.nd (by rfl) (by first | exact .inl rfl | exact .inr rfl)) egs_nil))))) (fun _ _ _ _ _ => ets_nil) (fun _ _ _ _ _ => (by exact (ev_tup (by exact (ea_cons (by exact (ev_callD T.d_worths G_worths hr (by decide) (by rfl) (by exact (ea_cons (by exact (ev_var (pv 0))) (by exact (ea_cons (by exact (ev_var (pv 4))) (by exact ea_nil))))))) (by exact (ea_cons (by exact (ev_var (pv 3))) (by exact ea_nil)))))))))))) (by exact ed_nil))))))))
    (by exact (ss_one (by exact (ss_ret (by exact (ev_callTy cv_tup (by rfl) T.z_tuple bt_tuple (by exact (ed_cons (by exact (eb_of (by exact (ev_lc (own:=[("some",5),("at",3)]) (by rfl) sc_places.nd (by exact (ej_seq (by exact (eb_var (pv 2))))) (blkOk_by (N := N_places) (sc := defScope st_places) (by decide +kernel)) (fun _ _ _ _ _ => (by exact (eg_many (by rfl) (egs_cons (pg_name (i := 5) sc_places.nd (by rfl) (by first | exact .inl rfl | exact .inr rfl)) (egs_cons (pg_name (i := 3) sc_places.nd (by rfl) (by first | exact .inl rfl | exact .inr rfl)) egs_nil))))) (fun _ _ _ _ _ => ets_nil) (fun _ _ _ _ _ => (by exact (ev_var (pv 3)))))))) (by exact ed_nil)))))))))))
/-! ### ordered -/
abbrev st_ordered : Stmt := topS 11
abbrev N_ordered : List Str := ["row", "things", "at"]
theorem sc_ordered : FnScope N_ordered ["row", "things"] (defScope st_ordered) := ⟨rfl, rfl, rfl, by decide +kernel, rfl, by decide +kernel, by decide +kernel⟩
theorem ok_ordered (T : Facts K mg) (G_places : FnOk P w K mg base CX0 6 T.d_places.f T.d_places.fd ["row", "things"] (spOf K 2 m_places)) : FnOk P w K mg base CX0 7 T.d_ordered.f T.d_ordered.fd ["row", "things"] (spOf K 2 m_ordered) :=
  fn_val (N := N_ordered) T.d_ordered.F sc_ordered fun cdv A outer s H E hr => (by exact (ss_one (by exact (ss_ret (by exact (ev_callTy cv_tup (by rfl) T.z_tuple bt_tuple (by exact (ed_cons (by exact (eb_of (by exact (ev_lc (own:=[("at",2)]) (by rfl) sc_ordered.nd (by exact (ej_seq (by exact (eb_of (by exact (ev_callD T.d_places G_places hr (by decide) (by rfl) (by exact (ea_cons (by exact (ev_var (pv 0))) (by exact (ea_cons (by exact (ev_var (pv 1))) (by exact ea_nil))))))))))) (blkOk_by (N := N_ordered) (sc := defScope st_ordered) (by decide +kernel)) (fun _ _ _ _ _ => (by exact (eg_one (pg_name (i := 2) sc_ordered.nd (by rfl) (by first | exact .inl rfl | exact .inr rfl))))) (fun _ _ _ _ _ => ets_nil) (fun _ _ _ _ _ => (by exact (ev_ix ixv (by exact (eb_var (pv 1))) (by exact (eb_var (pv 2))) (fun _ _ => by rfl)))))))) (by exact ed_nil)))))))))
/-! ### told -/
abbrev st_told : Stmt := topS 8
abbrev N_told : List Str := ["row", "one", "other", "mine", "yours"]
theorem sc_told : FnScope N_told ["row", "one", "other"] (defScope st_told) := ⟨rfl, rfl, rfl, by decide +kernel, rfl, by decide +kernel, by decide +kernel⟩
theorem ok_told (T : Facts K mg) (G_worths : FnOk P w K mg base CX0 5 T.d_worths.f T.d_worths.fd ["row", "thing"] (spOf K 2 m_worths)) : FnOk P w K mg base CX0 6 T.d_told.f T.d_told.fd ["row", "one", "other"] (spOf K 3 m_told) :=
  fn_val (N := N_told) T.d_told.F sc_told fun cdv A outer s H E hr => (by exact (ss_cons (by exact (ss_set (i := 3) sc_told.nd (by rfl) (by first | exact .inl rfl | exact .inr rfl) (ev_frz (by exact (ev_callD T.d_worths G_worths hr (by decide) (by rfl) (by exact (ea_cons (by exact (ev_var (pv 0))) (by exact (ea_cons (by exact (ev_var (pv 1))) (by exact ea_nil))))))))))
    (by exact (ss_cons (by exact (ss_set (i := 4) sc_told.nd (by rfl) (by first | exact .inl rfl | exact .inr rfl) (ev_frz (by exact (ev_callD T.d_worths G_worths hr (by decide) (by rfl) (by exact (ea_cons (by exact (ev_var (pv 0))) (by exact (ea_cons (by exact (ev_var (pv 2))) (by exact ea_nil))))))))))
    (by exact (ss_one (by exact (ss_ret (by exact (ev_bin ov_sub (by exact (eb_of (by exact (ev_callTy cv_int (by rfl) T.z_int bt_int (by exact (ed_cons (by exact (eb_of (by exact (ev_cmp (ov_gt (hu0 hr)) (by exact (eb_var (pv 3))) (by exact (eb_var (pv 4))) (nomark _))))) (by exact ed_nil))))))) (by exact (eb_of (by exact (ev_callTy cv_int (by rfl) T.z_int bt_int (by exact (ed_cons (by exact (eb_of (by exact (ev_cmp (ov_lt (hu0 hr)) (by exact (eb_var (pv 3))) (by exact (eb_var (pv 4))) (nomark _))))) (by exact ed_nil)))))))))))))))))
/-! ### groups -/
abbrev st_groups : Stmt := topS 14
abbrev N_groups : List Str := ["row", "things", "found", "thing"]
theorem sc_groups : FnScope N_groups ["row", "things"] (defScope st_groups) := ⟨rfl, rfl, rfl, by decide +kernel, rfl, by decide +kernel, by decide +kernel⟩
theorem ok_groups (T : Facts K mg) (G_told : FnOk P w K mg base CX0 6 T.d_told.f T.d_told.fd ["row", "one", "other"] (spOf K 3 m_told)) (G_ordered : FnOk P w K mg base CX0 7 T.d_ordered.f T.d_ordered.fd ["row", "things"] (spOf K 2 m_ordered)) : FnOk P w K mg base CX0 8 T.d_groups.f T.d_groups.fd ["row", "things"] (spOf K 2 m_groups) :=
  fn_val (N := N_groups) T.d_groups.F sc_groups fun cdv A outer s H E hr => (by exact (ss_cons (by exact (ss_set (i := 2) sc_groups.nd (by rfl) (by first | exact .inl rfl | exact .inr rfl) (by exact (ev_lst (by exact ea_nil)))))
    (by exact (ss_cons (by exact (ss_for PassesOwn.never (by rfl) (by exact (ei_seq (by exact (ev_callD T.d_ordered G_ordered hr (by decide) (by rfl) (by exact (ea_cons (by exact (ev_var (pv 0))) (by exact (ea_cons (by exact (ev_var (pv 1))) (by exact ea_nil))))))))) (by exact (eg_one (pg_name (i := 3) sc_groups.nd (by rfl) (by first | exact .inl rfl | exact .inr rfl))))
    (by exact (ss_one (by exact (ss_if (by exact (et_w (ew_and (by exact (et_tru (by exact (eb_var (pv 2))) (fun _ => (by rfl)))) (ew_and1 (by exact (et_cmp (ov_eq (hu64 hr)) (by exact (eb_of (by exact (ev_callD T.d_told G_told hr (by decide) (by rfl) (by exact (ea_cons (by exact (ev_var (pv 0))) (by exact (ea_cons (by exact (ev_ix ixv (by exact (eb_of (by exact (ev_ix ixv (by exact (eb_var (pv 2))) (by exact (eb_of (by exact (ev_neg (by exact (eb_of (by exact ev_int))))))) (fun _ _ => by rfl))))) (by exact (eb_of (by exact ev_int))) (fun _ _ => by rfl))) (by exact (ea_cons (by exact (ev_var (pv 3))) (by exact ea_nil))))))))))) (by exact (eb_of (by exact ev_int))) (nomark _)))))))
    (by exact (ss_one (by exact (ss_setix (pv 2) (by exact (eb_of (by exact (ev_neg (by exact (eb_of (by exact ev_int))))))) (by exact (ev_bin ov_add (by exact (eb_of (by exact (ev_ix ixv (by exact (eb_var (pv 2))) (by exact (eb_of (by exact (ev_neg (by exact (eb_of (by exact ev_int))))))) (fun _ _ => by rfl))))) (by exact (eb_of (by exact (ev_tup (by exact (ea_cons (by exact (ev_var (pv 3))) (by exact ea_nil))))))))) (fun _ => (by rfl))))))
    (by exact (ss_one (by exact (ss_append (pv 2) (by exact (ev_tup (by exact (ea_cons (by exact (ev_var (pv 3))) (by exact ea_nil)))))))))))))))
    (by exact (ss_one (by exact (ss_ret (by exact (ev_callTy cv_tup (by rfl) T.z_tuple bt_tuple (by exact (ed_cons (by exact (eb_var (pv 2))) (by exact ed_nil)))))))))))))
abbrev st_sh___init__ : Stmt := inClass (topS 16) 0
theorem sc_sh___init__ : FnScope ["self", "row"] ["self", "row"] (defScope st_sh___init__) := ⟨rfl, rfl, rfl, by decide +kernel, rfl, by decide +kernel, by decide +kernel⟩
theorem ok_sh___init__ (T : Facts K mg) : FnOk P w K mg base CX0 1 T.M___init__.f T.M___init__.fd ["self", "row"] (spInit K T.Cl) :=
  init_ok T.M___init__.F sc_sh___init__ T.sk rfl fun _ _ _ _ _ _ => ⟨pv 0, pv 0, pv 0, pv 1⟩
/-! ### sh_things -/
abbrev st_sh_things : Stmt := inClass (topS 16) 2
abbrev N_sh_things : List Str := ["self"]
theorem sc_sh_things : FnScope N_sh_things ["self"] (defScope st_sh_things) := ⟨rfl, rfl, rfl, by decide +kernel, rfl, by decide +kernel, by decide +kernel⟩
theorem ok_sh_things (T : Facts K mg)  : FnOk P w K mg base CX0 1 T.M_things.f T.M_things.fd ["self"] (spOf K 1 m_sh_things) :=
  fn_val (N := N_sh_things) T.M_things.F sc_sh_things fun cdv A outer s H E hr => (by exact (ss_one (by exact (ss_ret (by exact (ev_ix ixv (by exact (eb_of (by exact (ev_now T.sk (pv 0))))) (by exact (eb_of (by exact ev_int))) (fun _ _ => by rfl)))))))
/-! ### sh_row -/
abbrev st_sh_row : Stmt := inClass (topS 16) 3
abbrev N_sh_row : List Str := ["self"]
theorem sc_sh_row : FnScope N_sh_row ["self"] (defScope st_sh_row) := ⟨rfl, rfl, rfl, by decide +kernel, rfl, by decide +kernel, by decide +kernel⟩
theorem ok_sh_row (T : Facts K mg)  : FnOk P w K mg base CX0 1 T.M_row.f T.M_row.fd ["self"] (spOf K 1 m_sh_row) :=
  fn_val (N := N_sh_row) T.M_row.F sc_sh_row fun cdv A outer s H E hr => (by exact (ss_one (by exact (ss_ret (by exact (ev_ix ixv (by exact (eb_of (by exact (ev_now T.sk (pv 0))))) (by exact (eb_of (by exact ev_int))) (fun _ _ => by rfl)))))))
/-! ### last_place -/
abbrev st_last_place : Stmt := topS 13
abbrev N_last_place : List Str := ["row", "things", "thing", "low", "high", "middle"]
theorem sc_last_place : FnScope N_last_place ["row", "things", "thing"] (defScope st_last_place) := ⟨rfl, rfl, rfl, by decide +kernel, rfl, by decide +kernel, by decide +kernel⟩
theorem ok_last_place (T : Facts K mg) (G_told : FnOk P w K mg base CX0 6 T.d_told.f T.d_told.fd ["row", "one", "other"] (spOf K 3 m_told)) : FnOk P w K mg base CX0 7 T.d_last_place.f T.d_last_place.fd ["row", "things", "thing"] (spOf K 3 m_last_place) :=
  fn_val (N := N_last_place) T.d_last_place.F sc_last_place fun cdv A outer s H E hr => (by exact (ss_cons (by exact (ss_set (i := 3) sc_last_place.nd (by rfl) (by first | exact .inl rfl | exact .inr rfl) (by exact ev_int)))
    (by exact (ss_cons (by exact (ss_set (i := 4) sc_last_place.nd (by rfl) (by first | exact .inl rfl | exact .inr rfl) (by exact (ev_callB cv_len (by rfl) T.z_len bt_len (by exact (ed_cons (by exact (eb_var (pv 1))) (by exact ed_nil)))))))
    (by exact (ss_cons (by exact (ss_while 100000 PassesOwn.never (by exact (et_cmp (ov_lt (hu0 hr)) (by exact (eb_var (pv 3))) (by exact (eb_var (pv 4))) (nomark _))) (by exact (ss_cons (by exact (ss_set (i := 5) sc_last_place.nd (by rfl) (by first | exact .inl rfl | exact .inr rfl) (by exact (ev_bin ov_div (by exact (eb_of (by exact (ev_bin ov_add (by exact (eb_var (pv 3))) (by exact (eb_var (pv 4))))))) (by exact (eb_of (by exact ev_int)))))))
    (by exact (ss_one (by exact (ss_if (by exact (et_cmp (ov_lt (hu0 hr)) (by exact (eb_of (by exact (ev_callD T.d_told G_told hr (by decide) (by rfl) (by exact (ea_cons (by exact (ev_var (pv 0))) (by exact (ea_cons (by exact (ev_ix ixv (by exact (eb_var (pv 1))) (by exact (eb_var (pv 5))) (fun _ _ => by rfl))) (by exact (ea_cons (by exact (ev_var (pv 2))) (by exact ea_nil))))))))))) (by exact (eb_of (by exact ev_int))) (nomark _)))
    (by exact (ss_one (by exact (ss_set (i := 3) sc_last_place.nd (by rfl) (by first | exact .inl rfl | exact .inr rfl) (ev_frz (by exact (ev_bin ov_add (by exact (eb_var (pv 5))) (by exact (eb_of (by exact ev_int))))))))))
    (by exact (ss_one (by exact (ss_set (i := 4) sc_last_place.nd (by rfl) (by first | exact .inl rfl | exact .inr rfl) (by exact (ev_var (pv 5)))))))))))))))
    (by exact (ss_one (by exact (ss_ret (by exact (ev_var (pv 3)))))))))))))
/-! ### sh_keep -/
abbrev st_sh_keep : Stmt := inClass (topS 16) 1
abbrev N_sh_keep : List Str := ["self", "stand"]
theorem sc_sh_keep : FnScope N_sh_keep ["self", "stand"] (defScope st_sh_keep) := ⟨rfl, rfl, rfl, by decide +kernel, rfl, by decide +kernel, by decide +kernel⟩
theorem ok_sh_keep (T : Facts K mg)  : FnOk P w K mg base (L2.CX P w) 1 T.M_keep.f T.M_keep.fd ["self", "stand"] (spY K (clsF T) 1 y_sh_keep) :=
  fn_valY (N := N_sh_keep) T.M_keep.F sc_sh_keep rfl (by decide) fun cdv A outer s H E hr => (by exact (sxs_nox (by exact (ss_cons (by exact (ss_shApp (c := true) T.sk (pv 0) (by exact (ev_now T.sk (pv 0)))))
    (by exact (ss_cons (by exact (ss_shClr T.sk (pv 0)))
    (by exact (ss_one (by exact (ss_end [1] (by exact (ss_shNow T.sk (pv 0) (by exact (ev_var (pv 1)))))))))))))))
/-! ### sh_put -/
abbrev st_sh_put : Stmt := inClass (topS 16) 4
abbrev N_sh_put : List Str := ["self", "thing", "row", "things", "at"]
theorem sc_sh_put : FnScope N_sh_put ["self", "thing"] (defScope st_sh_put) := ⟨rfl, rfl, rfl, by decide +kernel, rfl, by decide +kernel, by decide +kernel⟩
theorem ok_sh_put (T : Facts K mg) (G_last_place : FnOk P w K mg base CX0 7 T.d_last_place.f T.d_last_place.fd ["row", "things", "thing"] (spOf K 3 m_last_place)) (GY_sh_keep : FnOk P w K mg base (L2.CX P w) 1 T.M_keep.f T.M_keep.fd ["self", "stand"] (spY K (clsF T) 1 y_sh_keep)) : FnOk P w K mg base (L2.CX P w) 8 T.M_put.f T.M_put.fd ["self", "thing"] (spY K (clsF T) 1 y_sh_put) :=
  fn_valY (N := N_sh_put) T.M_put.F sc_sh_put rfl (by decide) fun cdv A outer s H E hr => (by exact (sx_cons (sx_lift (by exact (ss_asg (by exact (ev_now T.sk (pv 0))) (by exact (eg_many (by rfl) (egs_cons (pg_name (i := 2) sc_sh_put.nd (by rfl) (by first | exact .inl rfl | exact .inr rfl)) (egs_cons (pg_name (i := 3) sc_sh_put.nd (by rfl) (by first | exact .inl rfl | exact .inr rfl)) egs_nil)))))))
    (by exact (sx_cons (sx_lift (by exact (ss_set (i := 4) sc_sh_put.nd (by rfl) (by first | exact .inl rfl | exact .inr rfl) (ev_frz (by exact (ev_callD T.d_last_place G_last_place hr (by decide) (by rfl) (by exact (ea_cons (by exact (ev_var (pv 2))) (by exact (ea_cons (by exact (ev_var (pv 3))) (by exact (ea_cons (by exact (ev_var (pv 1))) (by exact ea_nil)))))))))))))
    (by exact (sx_cons (by exact (sx_end [1, 2, 3] (by exact (sx_exprY (by exact (ey_meth T.sk (pv 0) T.M_keep.g GY_sh_keep (hr.mono (by decide)) T.M_keep.b (takes_of rfl rfl rfl rfl) (by exact (ea_cons (by exact (ev_tup (by exact (ea_cons (by exact (ev_var (pv 2))) (by exact (ea_cons (by exact (ev_bin ov_add (by exact (eb_of (by exact (ev_bin ov_add (by exact (eb_of (by exact (ev_slice slv (by exact (eb_var (pv 3))) (by exact eo_none) (by exact (eo_some (by exact (eb_var (pv 4))))))))) (by exact (eb_of (by exact (ev_tup (by exact (ea_cons (by exact (ev_var (pv 1))) (by exact ea_nil))))))))))) (by exact (eb_of (by exact (ev_slice slv (by exact (eb_var (pv 3))) (by exact (eo_some (by exact (eb_var (pv 4))))) (by exact eo_none))))))) (by exact ea_nil))))))) (by exact ea_nil)))))))))
    (by exact (sxs_nox (by exact (ss_one (by exact (ss_retS (by exact (ev_var (pv 4)))))))))))))))
/-! ### sh_take -/
abbrev st_sh_take : Stmt := inClass (topS 16) 5
abbrev N_sh_take : List Str := ["self", "at", "row", "things"]
theorem sc_sh_take : FnScope N_sh_take ["self", "at"] (defScope st_sh_take) := ⟨rfl, rfl, rfl, by decide +kernel, rfl, by decide +kernel, by decide +kernel⟩
theorem ok_sh_take (T : Facts K mg) (GY_sh_keep : FnOk P w K mg base (L2.CX P w) 1 T.M_keep.f T.M_keep.fd ["self", "stand"] (spY K (clsF T) 1 y_sh_keep)) : FnOk P w K mg base (L2.CX P w) 2 T.M_take.f T.M_take.fd ["self", "at"] (spY K (clsF T) 1 y_sh_take) :=
  fn_valY (N := N_sh_take) T.M_take.F sc_sh_take rfl (by decide) fun cdv A outer s H E hr => (by exact (sx_cons (sx_lift (by exact (ss_asg (by exact (ev_now T.sk (pv 0))) (by exact (eg_many (by rfl) (egs_cons (pg_name (i := 2) sc_sh_take.nd (by rfl) (by first | exact .inl rfl | exact .inr rfl)) (egs_cons (pg_name (i := 3) sc_sh_take.nd (by rfl) (by first | exact .inl rfl | exact .inr rfl)) egs_nil)))))))
    (by exact (sx_cons (by exact (sx_if (by exact (et_not (by exact (et_chain (ov_le (hu0 hr)) (ov_lt (hu0 hr)) (by exact (eb_of (by exact ev_int))) (by exact (eb_var (pv 1))) (by exact (eb_of (by exact (ev_callB cv_len (by rfl) T.z_len bt_len (by exact (ed_cons (by exact (eb_var (pv 3))) (by exact ed_nil)))))))))))
    (by exact (sx_one (by exact (sx_raise (cls := clsF T) (c := 0) rfl (takes_of rfl rfl rfl rfl) (pmk_own0 PySem.F.excBase_ValueError T.x_NoPlace T.g_NoPlace T.k_NoPlace (raises_own T.b_NoPlace T.t_NoPlace) (by exact rfl))))))
    (by exact (sxs_lift (by exact ss_nil)))))
    (by exact (sx_cons (by exact (sx_end [2] (by exact (sx_exprY (by exact (ey_meth T.sk (pv 0) T.M_keep.g GY_sh_keep (hr.mono (by decide)) T.M_keep.b (takes_of rfl rfl rfl rfl) (by exact (ea_cons (by exact (ev_tup (by exact (ea_cons (by exact (ev_var (pv 2))) (by exact (ea_cons (by exact (ev_bin ov_add (by exact (eb_of (by exact (ev_slice slv (by exact (eb_var (pv 3))) (by exact eo_none) (by exact (eo_some (by exact (eb_var (pv 1))))))))) (by exact (eb_of (by exact (ev_slice slv (by exact (eb_var (pv 3))) (by exact (eo_some (by exact (eb_of (by exact (ev_bin ov_add (by exact (eb_var (pv 1))) (by exact (eb_of (by exact ev_int))))))))) (by exact eo_none))))))) (by exact ea_nil))))))) (by exact ea_nil)))))))))
    (by exact (sxs_nox (by exact (ss_one (by exact (ss_retS (by exact (ev_ix ixv (by exact (eb_var (pv 3))) (by exact (eb_var (pv 1))) (fun _ _ => by rfl)))))))))))))))
/-! ### sh_order -/
abbrev st_sh_order : Stmt := inClass (topS 16) 6
abbrev N_sh_order : List Str := ["self", "row"]
theorem sc_sh_order : FnScope N_sh_order ["self", "row"] (defScope st_sh_order) := ⟨rfl, rfl, rfl, by decide +kernel, rfl, by decide +kernel, by decide +kernel⟩
theorem ok_sh_order (T : Facts K mg) (G_ordered : FnOk P w K mg base CX0 7 T.d_ordered.f T.d_ordered.fd ["row", "things"] (spOf K 2 m_ordered)) (GY_sh_keep : FnOk P w K mg base (L2.CX P w) 1 T.M_keep.f T.M_keep.fd ["self", "stand"] (spY K (clsF T) 1 y_sh_keep)) : FnOk P w K mg base (L2.CX P w) 8 T.M_order.f T.M_order.fd ["self", "row"] (spY K (clsF T) 1 y_sh_order) :=
  fn_valY (N := N_sh_order) T.M_order.F sc_sh_order rfl (by decide) fun cdv A outer s H E hr => (by exact (sx_one (by exact (sx_end [1] (by exact (sx_exprY (by exact (ey_meth T.sk (pv 0) T.M_keep.g GY_sh_keep (hr.mono (by decide)) T.M_keep.b (takes_of rfl rfl rfl rfl) (by exact (ea_cons (by exact (ev_tup (by exact (ea_cons (by exact (ev_var (pv 1))) (by exact (ea_cons (by exact (ev_callD T.d_ordered G_ordered hr (by decide) (by rfl) (by exact (ea_cons (by exact (ev_var (pv 1))) (by exact (ea_cons (by exact (ev_ix ixv (by exact (eb_of (by exact (ev_now T.sk (pv 0))))) (by exact (eb_of (by exact ev_int))) (fun _ _ => by rfl))) (by exact ea_nil))))))) (by exact ea_nil))))))) (by exact ea_nil)))))))))))
/-! ### first_place -/
abbrev st_first_place : Stmt := topS 12
abbrev N_first_place : List Str := ["row", "things", "thing", "low", "high", "middle"]
theorem sc_first_place : FnScope N_first_place ["row", "things", "thing"] (defScope st_first_place) := ⟨rfl, rfl, rfl, by decide +kernel, rfl, by decide +kernel, by decide +kernel⟩
theorem ok_first_place (T : Facts K mg) (G_told : FnOk P w K mg base CX0 6 T.d_told.f T.d_told.fd ["row", "one", "other"] (spOf K 3 m_told)) : FnOk P w K mg base CX0 7 T.d_first_place.f T.d_first_place.fd ["row", "things", "thing"] (spOf K 3 m_first_place) :=
  fn_val (N := N_first_place) T.d_first_place.F sc_first_place fun cdv A outer s H E hr => (by exact (ss_cons (by exact (ss_set (i := 3) sc_first_place.nd (by rfl) (by first | exact .inl rfl | exact .inr rfl) (by exact ev_int)))
    (by exact (ss_cons (by exact (ss_set (i := 4) sc_first_place.nd (by rfl) (by first | exact .inl rfl | exact .inr rfl) (by exact (ev_callB cv_len (by rfl) T.z_len bt_len (by exact (ed_cons (by exact (eb_var (pv 1))) (by exact ed_nil)))))))
    (by exact (ss_cons (by exact (ss_while 100000 PassesOwn.never (by exact (et_cmp (ov_lt (hu0 hr)) (by exact (eb_var (pv 3))) (by exact (eb_var (pv 4))) (nomark _))) (by exact (ss_cons (by exact (ss_set (i := 5) sc_first_place.nd (by rfl) (by first | exact .inl rfl | exact .inr rfl) (by exact (ev_bin ov_div (by exact (eb_of (by exact (ev_bin ov_add (by exact (eb_var (pv 3))) (by exact (eb_var (pv 4))))))) (by exact (eb_of (by exact ev_int)))))))
    (by exact (ss_one (by exact (ss_if (by exact (et_cmp (ov_lt (hu0 hr)) (by exact (eb_of (by exact (ev_callD T.d_told G_told hr (by decide) (by rfl) (by exact (ea_cons (by exact (ev_var (pv 0))) (by exact (ea_cons (by exact (ev_ix ixv (by exact (eb_var (pv 1))) (by exact (eb_var (pv 5))) (fun _ _ => by rfl))) (by exact (ea_cons (by exact (ev_var (pv 2))) (by exact ea_nil))))))))))) (by exact (eb_of (by exact ev_int))) (nomark _)))
    (by exact (ss_one (by exact (ss_set (i := 3) sc_first_place.nd (by rfl) (by first | exact .inl rfl | exact .inr rfl) (ev_frz (by exact (ev_bin ov_add (by exact (eb_var (pv 5))) (by exact (eb_of (by exact ev_int))))))))))
    (by exact (ss_one (by exact (ss_set (i := 4) sc_first_place.nd (by rfl) (by first | exact .inl rfl | exact .inr rfl) (by exact (ev_var (pv 5)))))))))))))))
    (by exact (ss_one (by exact (ss_ret (by exact (ev_var (pv 3)))))))))))))
/-! ### sh_around -/
abbrev st_sh_around : Stmt := inClass (topS 16) 7
abbrev N_sh_around : List Str := ["self", "thing", "row", "things"]
theorem sc_sh_around : FnScope N_sh_around ["self", "thing"] (defScope st_sh_around) := ⟨rfl, rfl, rfl, by decide +kernel, rfl, by decide +kernel, by decide +kernel⟩
theorem ok_sh_around (T : Facts K mg) (G_first_place : FnOk P w K mg base CX0 7 T.d_first_place.f T.d_first_place.fd ["row", "things", "thing"] (spOf K 3 m_first_place)) (G_last_place : FnOk P w K mg base CX0 7 T.d_last_place.f T.d_last_place.fd ["row", "things", "thing"] (spOf K 3 m_last_place)) : FnOk P w K mg base CX0 8 T.M_around.f T.M_around.fd ["self", "thing"] (spOf K 2 m_sh_around) :=
  fn_val (N := N_sh_around) T.M_around.F sc_sh_around fun cdv A outer s H E hr => (by exact (ss_cons (by exact (ss_end [0] (by exact (ss_asg (by exact (ev_now T.sk (pv 0))) (by exact (eg_many (by rfl) (egs_cons (pg_name (i := 2) sc_sh_around.nd (by rfl) (by first | exact .inl rfl | exact .inr rfl)) (egs_cons (pg_name (i := 3) sc_sh_around.nd (by rfl) (by first | exact .inl rfl | exact .inr rfl)) egs_nil))))))))
    (by exact (ss_one (by exact (ss_ret (by exact (ev_tup (by exact (ea_cons (by exact (ev_callD T.d_first_place G_first_place hr (by decide) (by rfl) (by exact (ea_cons (by exact (ev_var (pv 2))) (by exact (ea_cons (by exact (ev_var (pv 3))) (by exact (ea_cons (by exact (ev_var (pv 1))) (by exact ea_nil))))))))) (by exact (ea_cons (by exact (ev_callD T.d_last_place G_last_place hr (by decide) (by rfl) (by exact (ea_cons (by exact (ev_var (pv 2))) (by exact (ea_cons (by exact (ev_var (pv 3))) (by exact (ea_cons (by exact (ev_var (pv 1))) (by exact ea_nil))))))))) (by exact ea_nil)))))))))))))
/-! ### sh_between -/
abbrev st_sh_between : Stmt := inClass (topS 16) 8
abbrev N_sh_between : List Str := ["self", "one", "other", "row", "things", "thing"]
theorem sc_sh_between : FnScope N_sh_between ["self", "one", "other"] (defScope st_sh_between) := ⟨rfl, rfl, rfl, by decide +kernel, rfl, by decide +kernel, by decide +kernel⟩
theorem ok_sh_between (T : Facts K mg) (G_told : FnOk P w K mg base CX0 6 T.d_told.f T.d_told.fd ["row", "one", "other"] (spOf K 3 m_told)) : FnOk P w K mg base CX0 7 T.M_between.f T.M_between.fd ["self", "one", "other"] (spOf K 3 m_sh_between) :=
  fn_val (N := N_sh_between) T.M_between.F sc_sh_between fun cdv A outer s H E hr => (by exact (ss_cons (by exact (ss_end [0] (by exact (ss_asg (by exact (ev_now T.sk (pv 0))) (by exact (eg_many (by rfl) (egs_cons (pg_name (i := 3) sc_sh_between.nd (by rfl) (by first | exact .inl rfl | exact .inr rfl)) (egs_cons (pg_name (i := 4) sc_sh_between.nd (by rfl) (by first | exact .inl rfl | exact .inr rfl)) egs_nil))))))))
    (by exact (ss_one (by exact (ss_ret (by exact (ev_callTy cv_tup (by rfl) T.z_tuple bt_tuple (by exact (ed_cons (by exact (eb_of (by exact (ev_lc (own:=[("thing",5)]) (by rfl) sc_sh_between.nd (by exact (ej_seq (by exact (eb_var (pv 4))))) (blkOk_by (N := N_sh_between) (sc := defScope st_sh_between) (by decide +kernel)) (fun _ _ _ _ _ => (by exact (eg_one (pg_name (i := 5) sc_sh_between.nd (by rfl) (by first | exact .inl rfl | exact .inr rfl))))) (fun _ _ _ _ _ => (ets_one (by exact (et_w (ew_and (by exact (et_cmp (ov_lt (hu0 hr)) (by exact (eb_of (by exact (ev_callD T.d_told G_told hr (by decide) (by rfl) (by exact (ea_cons (by exact (ev_var (pv 3))) (by exact (ea_cons (by exact (ev_var (pv 1))) (by exact (ea_cons (by exact (ev_var (pv 5))) (by exact ea_nil))))))))))) (by exact (eb_of (by exact ev_int))) (nomark _))) (ew_and1 (by exact (et_cmp (ov_lt (hu0 hr)) (by exact (eb_of (by exact (ev_callD T.d_told G_told hr (by decide) (by rfl) (by exact (ea_cons (by exact (ev_var (pv 3))) (by exact (ea_cons (by exact (ev_var (pv 5))) (by exact (ea_cons (by exact (ev_var (pv 2))) (by exact ea_nil))))))))))) (by exact (eb_of (by exact ev_int))) (nomark _))))))))) (fun _ _ _ _ _ => (by exact (ev_var (pv 5)))))))) (by exact ed_nil)))))))))))
/-! ### sh_back -/
abbrev st_sh_back : Stmt := inClass (topS 16) 9
abbrev N_sh_back : List Str := ["self"]
theorem sc_sh_back : FnScope N_sh_back ["self"] (defScope st_sh_back) := ⟨rfl, rfl, rfl, by decide +kernel, rfl, by decide +kernel, by decide +kernel⟩
theorem ok_sh_back (T : Facts K mg)  : FnOk P w K mg base (L2.CX P w) 1 T.M_back.f T.M_back.fd ["self"] (spY K (clsF T) 0 y_sh_back) :=
  fn_valY (N := N_sh_back) T.M_back.F sc_sh_back rfl (by decide) fun cdv A outer s H E hr => (by exact (sx_cons (by exact (sx_if (by exact (et_not (by exact (et_tru (by exact (eb_bef (c := true) T.sk (pv 0))) (fun _ => (by rfl))))))
    (by exact (sx_one (by exact (sx_raise (cls := clsF T) (c := 1) rfl (takes_of rfl rfl rfl rfl) (pmk_own0 PySem.F.excBase_ValueError T.x_NoStep T.g_NoStep T.k_NoStep (raises_own T.b_NoStep T.t_NoStep) (by exact rfl))))))
    (by exact (sxs_lift (by exact ss_nil)))))
    (by exact (sxs_nox (by exact (ss_cons (by exact (ss_shApp (c := false) T.sk (pv 0) (by exact (ev_now T.sk (pv 0)))))
    (by exact (ss_one (by exact (ss_shNowX T.sk (pv 0) (ex_shPop (c := true) T.sk (pv 0))))))))))))
/-! ### _law_same -/
abbrev st__law_same : Stmt := topS 18
abbrev N__law_same : List Str := ["_law_got", "_law_due", "_law_one", "_law_other"]
theorem sc__law_same : FnScope N__law_same ["_law_got", "_law_due"] (defScope st__law_same) := ⟨rfl, rfl, rfl, by decide +kernel, rfl, by decide +kernel, by decide +kernel⟩
theorem ok__law_same_ (T : Facts K mg)  : ∀ k, FnOk P w K mg base CX0 (k + 0) T.d__law_same.f T.d__law_same.fd ["_law_got", "_law_due"] (spOf K 2 (m__law_same_ k))
  | 0 => fn_none
  | k + 1 => by
    have G := ok__law_same_ T  k
    have h0 : k + 0 ≤ k + 0 := Nat.le_refl _
    show FnOk P w K mg base CX0 (k + 0 + 1) _ _ _ _
    exact fn_val (N := N__law_same) T.d__law_same.F sc__law_same fun cdv A outer s H E hr => ((by exact (ss_cons (by exact (ss_if (by exact (et_cmp (ov_isN) (by exact (eb_var (pv 1))) (by exact (eb_of (by exact ev_non))) (nomark _)))
    (by exact (ss_one (by exact (ss_ret (by exact (ev_cmp (ov_isN) (by exact (eb_var (pv 0))) (by exact (eb_of (by exact ev_non))) (nomark _)))))))
    (by exact ss_nil)))
    (by exact (ss_cons (by exact (ss_if (by exact (et_tru (by exact (eb_of (by exact (ev_isa isa_bool (by rfl) T.z_isinstance bt_isinstance (by exact (eb_var (pv 1))) (pe_bltn (by rfl) T.z_bool bt_bool (by rfl)))))) (fun _ => (by rfl))))
    (by exact (ss_one (by exact (ss_ret (by exact (ev_and (by exact (ev_isa isa_bool (by rfl) T.z_isinstance bt_isinstance (by exact (eb_var (pv 0))) (pe_bltn (by rfl) T.z_bool bt_bool (by rfl)))) (ev_one (by exact (ev_cmp (ov_eq (hu64 hr)) (by exact (eb_var (pv 0))) (by exact (eb_var (pv 1))) (nomark _))))))))))
    (by exact ss_nil)))
    (by exact (ss_cons (by exact (ss_if (by exact (et_tru (by exact (eb_of (by exact (ev_isa isa_tuple (by rfl) T.z_isinstance bt_isinstance (by exact (eb_var (pv 1))) (pe_bltn (by rfl) T.z_tuple bt_tuple (by rfl)))))) (fun _ => (by rfl))))
    (by exact (ss_cons (by exact (ss_if (by exact (et_w (ew_or (by exact (et_not (by exact (et_tru (by exact (eb_of (by exact (ev_isa isa_tuple (by rfl) T.z_isinstance bt_isinstance (by exact (eb_var (pv 0))) (pe_bltn (by rfl) T.z_tuple bt_tuple (by rfl)))))) (fun _ => (by rfl)))))) (ew_or1 (by exact (et_cmp (ov_ne (hu64 hr)) (by exact (eb_of (by exact (ev_callB cv_len (by rfl) T.z_len bt_len (by exact (ed_cons (by exact (eb_var (pv 0))) (by exact ed_nil))))))) (by exact (eb_of (by exact (ev_callB cv_len (by rfl) T.z_len bt_len (by exact (ed_cons (by exact (eb_var (pv 1))) (by exact ed_nil))))))) (nomark _)))))))
    (by exact (ss_one (by exact (ss_ret (by exact ev_bl)))))
    (by exact ss_nil)))
    (by exact (ss_one (by exact (ss_ret (by exact (ev_callB (cv_all (by rfl)) (by rfl) T.z_all bt_all (by exact (ed_cons (by exact (eb_of (by exact (ev_lc (own:=[("_law_one",2),("_law_other",3)]) (by rfl) sc__law_same.nd (by exact (ej_zip (by rfl) T.z_zip (by exact (eb_var (pv 0))) (by exact (eb_var (pv 1))))) (blkOk_by (N := N__law_same) (sc := defScope st__law_same) (by decide +kernel)) (fun _ _ _ _ _ => (by exact (eg_many (by rfl) (egs_cons (pg_name (i := 2) sc__law_same.nd (by rfl) (by first | exact .inl rfl | exact .inr rfl)) (egs_cons (pg_name (i := 3) sc__law_same.nd (by rfl) (by first | exact .inl rfl | exact .inr rfl)) egs_nil))))) (fun _ _ _ _ _ => ets_nil) (fun _ _ _ _ _ => (by exact (ev_callD T.d__law_same G hr h0 (by rfl) (by exact (ea_cons (by exact (ev_var (pv 2))) (by exact (ea_cons (by exact (ev_var (pv 3))) (by exact ea_nil)))))))))))) (by exact ed_nil)))))))))))
    (by exact ss_nil)))
    (by exact (ss_cons (by exact (ss_if (by exact (et_tru (by exact (eb_of (by exact (ev_isa isa_str (by rfl) T.z_isinstance bt_isinstance (by exact (eb_var (pv 1))) (pe_bltn (by rfl) T.z_str bt_str (by rfl)))))) (fun _ => (by rfl))))
    (by exact (ss_one (by exact (ss_ret (by exact (ev_and (by exact (ev_isa isa_str (by rfl) T.z_isinstance bt_isinstance (by exact (eb_var (pv 0))) (pe_bltn (by rfl) T.z_str bt_str (by rfl)))) (ev_one (by exact (ev_cmp (ov_eq (hu64 hr)) (by exact (eb_var (pv 0))) (by exact (eb_var (pv 1))) (nomark _))))))))))
    (by exact ss_nil)))
    (by exact (ss_one (by exact (ss_ret (by exact (ev_and (by exact (ev_isa isa_int (by rfl) T.z_isinstance bt_isinstance (by exact (eb_var (pv 0))) (pe_bltn (by rfl) T.z_int bt_int (by rfl)))) (ev_and (by exact (ev_notD (by exact (eb_of (by exact (ev_isa isa_bool (by rfl) T.z_isinstance bt_isinstance (by exact (eb_var (pv 0))) (pe_bltn (by rfl) T.z_bool bt_bool (by rfl)))))))) (ev_one (by exact (ev_cmp (ov_eq (hu64 hr)) (by exact (eb_var (pv 0))) (by exact (eb_var (pv 1))) (nomark _))))))))))))))))))))
theorem ok__law_same (T : Facts K mg)  : FnOk P w K mg base CX0 12 T.d__law_same.f T.d__law_same.fd ["_law_got", "_law_due"] (spOf K 2 m__law_same) := ok__law_same_ T  12
/-! ### _law_draw -/
abbrev st__law_draw : Stmt := topS 19
abbrev N__law_draw : List Str := ["_law_script", "_law_town", "_law_many", "_law_k", "_law_cell", "_law_number"]
theorem sc__law_draw : FnScope N__law_draw ["_law_script", "_law_town", "_law_many"] (defScope st__law_draw) := ⟨rfl, rfl, rfl, by decide +kernel, rfl, by decide +kernel, by decide +kernel⟩
theorem ok__law_draw (T : Facts K mg)  : FnOk P w K mg base CX0 1 T.d__law_draw.f T.d__law_draw.fd ["_law_script", "_law_town", "_law_many"] (spOf K 3 m__law_draw) :=
  fn_val (N := N__law_draw) T.d__law_draw.F sc__law_draw fun cdv A outer s H E hr => (by exact (ss_cons (by exact (ss_town (pv 1)))
    (by exact (ss_cons (by exact (ss_set (i := 3) sc__law_draw.nd (by rfl) (by first | exact .inl rfl | exact .inr rfl) (by exact (ev_tlen (by rfl) T.z_len (pv 1)))))
    (by exact (ss_cons (by exact (ss_set (i := 4) sc__law_draw.nd (by rfl) (by first | exact .inl rfl | exact .inr rfl) (by exact ev_int)))
    (by exact (ss_cons (by exact (ss_if (by exact (et_tru (by exact (eb_var (pv 0))) (fun _ => (by rfl))))
    (by exact (ss_one (by exact (ss_set (i := 4) sc__law_draw.nd (by rfl) (by first | exact .inl rfl | exact .inr rfl) (by exact (ev_ix ixv (by exact (eb_var (pv 0))) (by exact (eb_of (by exact (ev_bin ov_mod (by exact (eb_var (pv 3))) (by exact (eb_of (by exact (ev_callB cv_len (by rfl) T.z_len bt_len (by exact (ed_cons (by exact (eb_var (pv 0))) (by exact ed_nil))))))))))) (fun _ _ => by rfl)))))))
    (by exact ss_nil)))
    (by exact (ss_cons (by exact (ss_set (i := 5) sc__law_draw.nd (by rfl) (by first | exact .inl rfl | exact .inr rfl) (by exact (ev_bin ov_mod (by exact (eb_of (by exact (ev_bin ov_add (by exact (eb_var (pv 4))) (by exact (eb_of (by exact (ev_bin ov_mul (by exact (eb_of (by exact ev_int))) (by exact (eb_var (pv 3))))))))))) (by exact (eb_of (by exact ev_int)))))))
    (by exact (ss_cons (by exact (ss_set (i := 5) sc__law_draw.nd (by rfl) (by first | exact .inl rfl | exact .inr rfl) (by exact (ev_bin ov_mod (by exact (eb_of (by exact (ev_bin ov_mul (by exact (eb_of (by exact (ev_bin ov_mod (by exact (eb_of (by exact (ev_bin ov_mul (by exact (eb_var (pv 5))) (by exact (eb_var (pv 5))))))) (by exact (eb_of (by exact ev_int))))))) (by exact (eb_of (by exact ev_int))))))) (by exact (eb_of (by exact ev_int)))))))
    (by exact (ss_one (by exact (ss_ret (by exact (ev_bin ov_mod (by exact (eb_of (by exact (ev_bin ov_div (by exact (eb_var (pv 5))) (by exact (eb_of (by exact ev_int))))))) (by exact (eb_var (pv 2)))))))))))))))))))))
/-! ### _law_pick -/
abbrev st__law_pick : Stmt := topS 20
abbrev N__law_pick : List Str := ["_law_script", "_law_town", "_law_some"]
theorem sc__law_pick : FnScope N__law_pick ["_law_script", "_law_town", "_law_some"] (defScope st__law_pick) := ⟨rfl, rfl, rfl, by decide +kernel, rfl, by decide +kernel, by decide +kernel⟩
theorem ok__law_pick (T : Facts K mg) (G__law_draw : FnOk P w K mg base CX0 1 T.d__law_draw.f T.d__law_draw.fd ["_law_script", "_law_town", "_law_many"] (spOf K 3 m__law_draw)) : FnOk P w K mg base CX0 2 T.d__law_pick.f T.d__law_pick.fd ["_law_script", "_law_town", "_law_some"] (spOf K 3 m__law_pick) :=
  fn_val (N := N__law_pick) T.d__law_pick.F sc__law_pick fun cdv A outer s H E hr => (by exact (ss_one (by exact (ss_ret (by exact (ev_ix ixv (by exact (eb_var (pv 2))) (by exact (eb_of (by exact (ev_callD T.d__law_draw G__law_draw hr (by decide) (by rfl) (by exact (ea_cons (by exact (ev_var (pv 0))) (by exact (ea_cons (by exact (ev_var (pv 1))) (by exact (ea_cons (by exact (ev_callB cv_len (by rfl) T.z_len bt_len (by exact (ed_cons (by exact (eb_var (pv 2))) (by exact ed_nil))))) (by exact ea_nil))))))))))) (fun _ _ => by rfl)))))))
/-! ### _law_plain -/
abbrev st__law_plain : Stmt := topS 21
abbrev N__law_plain : List Str := ["_law_script", "_law_town", "_law_kind", "_law_at", "_law_some", "_law_k", "_law_one", "_law_pair"]
theorem sc__law_plain : FnScope N__law_plain ["_law_script", "_law_town"] (defScope st__law_plain) := ⟨rfl, rfl, rfl, by decide +kernel, rfl, by decide +kernel, by decide +kernel⟩
theorem ok__law_plain (T : Facts K mg) (G__law_draw : FnOk P w K mg base CX0 1 T.d__law_draw.f T.d__law_draw.fd ["_law_script", "_law_town", "_law_many"] (spOf K 3 m__law_draw)) (G__law_pick : FnOk P w K mg base CX0 2 T.d__law_pick.f T.d__law_pick.fd ["_law_script", "_law_town", "_law_some"] (spOf K 3 m__law_pick)) : FnOk P w K mg base CX0 3 T.d__law_plain.f T.d__law_plain.fd ["_law_script", "_law_town"] (spOf K 2 m__law_plain) :=
  fn_val (N := N__law_plain) T.d__law_plain.F sc__law_plain fun cdv A outer s H E hr => (by exact (ss_cons (by exact (ss_set (i := 2) sc__law_plain.nd (by rfl) (by first | exact .inl rfl | exact .inr rfl) (by exact (ev_callD T.d__law_draw G__law_draw hr (by decide) (by rfl) (by exact (ea_cons (by exact (ev_var (pv 0))) (by exact (ea_cons (by exact (ev_var (pv 1))) (by exact (ea_cons (by exact ev_int) (by exact ea_nil)))))))))))
    (by exact (ss_cons (by exact (ss_set (i := 3) sc__law_plain.nd (by rfl) (by first | exact .inl rfl | exact .inr rfl) (by exact (ev_callD T.d__law_draw G__law_draw hr (by decide) (by rfl) (by exact (ea_cons (by exact (ev_var (pv 0))) (by exact (ea_cons (by exact (ev_var (pv 1))) (by exact (ea_cons (by exact ev_int) (by exact ea_nil)))))))))))
    (by exact (ss_cons (by exact (ss_if (by exact (et_cmp (ov_lt (hu0 hr)) (by exact (eb_var (pv 2))) (by exact (eb_of (by exact ev_int))) (nomark _)))
    (by exact (ss_one (by exact (ss_ret (by exact (ev_tup (by exact (ea_cons (by exact ev_str) (by exact (ea_cons (by exact (ev_var (pv 3))) (by exact ea_nil)))))))))))
    (by exact ss_nil)))
    (by exact (ss_cons (by exact (ss_if (by exact (et_cmp (ov_lt (hu0 hr)) (by exact (eb_var (pv 2))) (by exact (eb_of (by exact ev_int))) (nomark _)))
    (by exact (ss_one (by exact (ss_ret (by exact (ev_tup (by exact (ea_cons (by exact (ev_ix ixv (by exact (eb_of (by exact (ev_lst (by exact (ea_cons (by exact ev_str) (by exact (ea_cons (by exact ev_str) (by exact ea_nil))))))))) (by exact (eb_of (by exact (ev_bin ov_sub (by exact (eb_var (pv 2))) (by exact (eb_of (by exact ev_int))))))) (fun _ _ => by rfl))) (by exact (ea_cons (by exact (ev_var (pv 3))) (by exact (ea_cons (by exact (ev_bin ov_add (by exact (eb_of (by exact ev_int))) (by exact (eb_of (by exact (ev_callD T.d__law_draw G__law_draw hr (by decide) (by rfl) (by exact (ea_cons (by exact (ev_var (pv 0))) (by exact (ea_cons (by exact (ev_var (pv 1))) (by exact (ea_cons (by exact ev_int) (by exact ea_nil))))))))))))) (by exact ea_nil)))))))))))))
    (by exact ss_nil)))
    (by exact (ss_cons (by exact (ss_if (by exact (et_cmp (ov_lt (hu0 hr)) (by exact (eb_var (pv 2))) (by exact (eb_of (by exact ev_int))) (nomark _)))
    (by exact (ss_cons (by exact (ss_set (i := 4) sc__law_plain.nd (by rfl) (by first | exact .inl rfl | exact .inr rfl) (by exact (ev_tup (by exact ea_nil)))))
    (by exact (ss_cons (by exact (ss_for PassesOwn.never (by rfl) (by exact (ei_range1 (by rfl) T.z_range (by exact (eb_of (by exact (ev_bin ov_add (by exact (eb_of (by exact ev_int))) (by exact (eb_of (by exact (ev_callD T.d__law_draw G__law_draw hr (by decide) (by rfl) (by exact (ea_cons (by exact (ev_var (pv 0))) (by exact (ea_cons (by exact (ev_var (pv 1))) (by exact (ea_cons (by exact ev_int) (by exact ea_nil))))))))))))))))) (by exact (eg_one (pg_name (i := 5) sc__law_plain.nd (by rfl) (by first | exact .inl rfl | exact .inr rfl))))
    (by exact (ss_cons (by exact (ss_set (i := 6) sc__law_plain.nd (by rfl) (by first | exact .inl rfl | exact .inr rfl) (by exact (ev_callD T.d__law_draw G__law_draw hr (by decide) (by rfl) (by exact (ea_cons (by exact (ev_var (pv 0))) (by exact (ea_cons (by exact (ev_var (pv 1))) (by exact (ea_cons (by exact ev_int) (by exact ea_nil)))))))))))
    (by exact (ss_one (by exact (ss_if (by exact (et_cmp (ov_notIn (hu65 hr)) (by exact (eb_var (pv 6))) (by exact (eb_var (pv 4))) (by with_unfolding_all rfl)))
    (by exact (ss_one (by exact (ss_set (i := 4) sc__law_plain.nd (by rfl) (by first | exact .inl rfl | exact .inr rfl) (ev_frz (by exact (ev_bin ov_add (by exact (eb_var (pv 4))) (by exact (eb_of (by exact (ev_tup (by exact (ea_cons (by exact (ev_var (pv 6))) (by exact ea_nil))))))))))))))
    (by exact ss_nil)))))))))
    (by exact (ss_one (by exact (ss_ret (by exact (ev_ife (by exact (et_cmp (ov_eq (hu64 hr)) (by exact (eb_var (pv 2))) (by exact (eb_of (by exact ev_int))) (nomark _))) (by exact (ev_tup (by exact (ea_cons (by exact ev_str) (by exact (ea_cons (by exact (ev_var (pv 3))) (by exact (ea_cons (by exact (ev_var (pv 4))) (by exact ea_nil))))))))) (by exact (ev_tup (by exact (ea_cons (by exact ev_str) (by exact (ea_cons (by exact (ev_var (pv 3))) (by exact (ea_cons (by exact (ev_callTy cv_tup (by rfl) T.z_tuple bt_tuple (by exact (ed_cons (by exact (eb_of (by exact (ev_callB (cv_sorted (hu100 hr)) (by rfl) T.z_sorted bt_sorted (by exact (ed_cons (by exact (eb_var (pv 4))) (by exact ed_nil))))))) (by exact ed_nil))))) (by exact ea_nil)))))))))))))))))))
    (by exact ss_nil)))
    (by exact (ss_cons (by exact (ss_set (i := 7) sc__law_plain.nd (by rfl) (by first | exact .inl rfl | exact .inr rfl) (ev_frz (by exact (ev_callD T.d__law_pick G__law_pick hr (by decide) (by rfl) (by exact (ea_cons (by exact (ev_var (pv 0))) (by exact (ea_cons (by exact (ev_var (pv 1))) (by exact (ea_cons (by exact (ev_lst (by exact (ea_cons (by exact (ev_tup (by exact (ea_cons (by exact ev_int) (by exact (ea_cons (by exact ev_int) (by exact ea_nil))))))) (by exact (ea_cons (by exact (ev_tup (by exact (ea_cons (by exact ev_int) (by exact (ea_cons (by exact ev_int) (by exact ea_nil))))))) (by exact (ea_cons (by exact (ev_tup (by exact (ea_cons (by exact ev_int) (by exact (ea_cons (by exact ev_int) (by exact ea_nil))))))) (by exact ea_nil))))))))) (by exact ea_nil))))))))))))
    (by exact (ss_one (by exact (ss_ret (by exact (ev_bin ov_add (by exact (eb_of (by exact (ev_tup (by exact (ea_cons (by exact (ev_ix ixv (by exact (eb_of (by exact (ev_lst (by exact (ea_cons (by exact ev_str) (by exact (ea_cons (by exact ev_str) (by exact (ea_cons (by exact ev_str) (by exact ea_nil))))))))))) (by exact (eb_of (by exact (ev_bin ov_sub (by exact (eb_var (pv 2))) (by exact (eb_of (by exact ev_int))))))) (fun _ _ => by rfl))) (by exact ea_nil))))))) (by exact (eb_var (pv 7)))))))))))))))))))))
/-! ### _law_key -/
abbrev st__law_key : Stmt := topS 22
abbrev N__law_key : List Str := ["_law_script", "_law_town", "_law_key_here"]
theorem sc__law_key : FnScope N__law_key ["_law_script", "_law_town"] (defScope st__law_key) := ⟨rfl, rfl, rfl, by decide +kernel, rfl, by decide +kernel, by decide +kernel⟩
theorem ok__law_key (T : Facts K mg) (G__law_draw : FnOk P w K mg base CX0 1 T.d__law_draw.f T.d__law_draw.fd ["_law_script", "_law_town", "_law_many"] (spOf K 3 m__law_draw)) (G__law_plain : FnOk P w K mg base CX0 3 T.d__law_plain.f T.d__law_plain.fd ["_law_script", "_law_town"] (spOf K 2 m__law_plain)) : FnOk P w K mg base CX0 4 T.d__law_key.f T.d__law_key.fd ["_law_script", "_law_town"] (spOf K 2 m__law_key) :=
  fn_val (N := N__law_key) T.d__law_key.F sc__law_key fun cdv A outer s H E hr => (by exact (ss_cons (by exact (ss_set (i := 2) sc__law_key.nd (by rfl) (by first | exact .inl rfl | exact .inr rfl) (ev_frz (by exact (ev_callD T.d__law_plain G__law_plain hr (by decide) (by rfl) (by exact (ea_cons (by exact (ev_var (pv 0))) (by exact (ea_cons (by exact (ev_var (pv 1))) (by exact ea_nil))))))))))
    (by exact (ss_one (by exact (ss_ret (by exact (ev_ife (by exact (et_cmp (ov_eq (hu64 hr)) (by exact (eb_of (by exact (ev_callD T.d__law_draw G__law_draw hr (by decide) (by rfl) (by exact (ea_cons (by exact (ev_var (pv 0))) (by exact (ea_cons (by exact (ev_var (pv 1))) (by exact (ea_cons (by exact ev_int) (by exact ea_nil))))))))))) (by exact (eb_of (by exact ev_int))) (nomark _))) (by exact (ev_tup (by exact (ea_cons (by exact ev_str) (by exact (ea_cons (by exact (ev_var (pv 2))) (by exact ea_nil))))))) (by exact (ev_var (pv 2)))))))))))
/-! ### _law_keys -/
abbrev st__law_keys : Stmt := topS 23
abbrev N__law_keys : List Str := ["_law_script", "_law_town", "_law_most", "_law_k"]
theorem sc__law_keys : FnScope N__law_keys ["_law_script", "_law_town", "_law_most"] (defScope st__law_keys) := ⟨rfl, rfl, rfl, by decide +kernel, rfl, by decide +kernel, by decide +kernel⟩
theorem ok__law_keys (T : Facts K mg) (G__law_draw : FnOk P w K mg base CX0 1 T.d__law_draw.f T.d__law_draw.fd ["_law_script", "_law_town", "_law_many"] (spOf K 3 m__law_draw)) (G__law_key : FnOk P w K mg base CX0 4 T.d__law_key.f T.d__law_key.fd ["_law_script", "_law_town"] (spOf K 2 m__law_key)) : FnOk P w K mg base CX0 5 T.d__law_keys.f T.d__law_keys.fd ["_law_script", "_law_town", "_law_most"] (spOf K 3 m__law_keys) :=
  fn_val (N := N__law_keys) T.d__law_keys.F sc__law_keys fun cdv A outer s H E hr => (by exact (ss_one (by exact (ss_ret (by exact (ev_callTy cv_tup (by rfl) T.z_tuple bt_tuple (by exact (ed_cons (by exact (eb_of (by exact (ev_lc (own:=[("_law_k",3)]) (by rfl) sc__law_keys.nd (by exact (ej_of (ei_range1 (by rfl) T.z_range (by exact (eb_of (by exact (ev_callD T.d__law_draw G__law_draw hr (by decide) (by rfl) (by exact (ea_cons (by exact (ev_var (pv 0))) (by exact (ea_cons (by exact (ev_var (pv 1))) (by exact (ea_cons (by exact (ev_bin ov_add (by exact (eb_var (pv 2))) (by exact (eb_of (by exact ev_int))))) (by exact ea_nil)))))))))))))) (blkOk_by (N := N__law_keys) (sc := defScope st__law_keys) (by decide +kernel)) (fun _ _ _ _ _ => (by exact (eg_one (pg_name (i := 3) sc__law_keys.nd (by rfl) (by first | exact .inl rfl | exact .inr rfl))))) (fun _ _ _ _ _ => ets_nil) (fun _ _ _ _ _ => (by exact (ev_callD T.d__law_key G__law_key hr (by decide) (by rfl) (by exact (ea_cons (by exact (ev_var (pv 0))) (by exact (ea_cons (by exact (ev_var (pv 1))) (by exact ea_nil)))))))))))) (by exact ed_nil)))))))))
/-! ### _law_thing -/
abbrev st__law_thing : Stmt := topS 24
abbrev N__law_thing : List Str := ["_law_script", "_law_town"]
theorem sc__law_thing : FnScope N__law_thing ["_law_script", "_law_town"] (defScope st__law_thing) := ⟨rfl, rfl, rfl, by decide +kernel, rfl, by decide +kernel, by decide +kernel⟩
theorem ok__law_thing (T : Facts K mg) (G__law_draw : FnOk P w K mg base CX0 1 T.d__law_draw.f T.d__law_draw.fd ["_law_script", "_law_town", "_law_many"] (spOf K 3 m__law_draw)) : FnOk P w K mg base CX0 2 T.d__law_thing.f T.d__law_thing.fd ["_law_script", "_law_town"] (spOf K 2 m__law_thing) :=
  fn_val (N := N__law_thing) T.d__law_thing.F sc__law_thing fun cdv A outer s H E hr => (by exact (ss_one (by exact (ss_ret (by exact (ev_tup (by exact (ea_cons (by exact (ev_callD T.d__law_draw G__law_draw hr (by decide) (by rfl) (by exact (ea_cons (by exact (ev_var (pv 0))) (by exact (ea_cons (by exact (ev_var (pv 1))) (by exact (ea_cons (by exact ev_int) (by exact ea_nil))))))))) (by exact (ea_cons (by exact (ev_callD T.d__law_draw G__law_draw hr (by decide) (by rfl) (by exact (ea_cons (by exact (ev_var (pv 0))) (by exact (ea_cons (by exact (ev_var (pv 1))) (by exact (ea_cons (by exact ev_int) (by exact ea_nil))))))))) (by exact (ea_cons (by exact (ev_callD T.d__law_draw G__law_draw hr (by decide) (by rfl) (by exact (ea_cons (by exact (ev_var (pv 0))) (by exact (ea_cons (by exact (ev_var (pv 1))) (by exact (ea_cons (by exact ev_int) (by exact ea_nil))))))))) (by exact ea_nil)))))))))))))
/-! ### _law_list -/
abbrev st__law_list : Stmt := topS 25
abbrev N__law_list : List Str := ["_law_script", "_law_town", "_law_most", "_law_some", "_law_k", "_law_got"]
theorem sc__law_list : FnScope N__law_list ["_law_script", "_law_town", "_law_most"] (defScope st__law_list) := ⟨rfl, rfl, rfl, by decide +kernel, rfl, by decide +kernel, by decide +kernel⟩
theorem ok__law_list (T : Facts K mg) (G__law_draw : FnOk P w K mg base CX0 1 T.d__law_draw.f T.d__law_draw.fd ["_law_script", "_law_town", "_law_many"] (spOf K 3 m__law_draw)) (G__law_pick : FnOk P w K mg base CX0 2 T.d__law_pick.f T.d__law_pick.fd ["_law_script", "_law_town", "_law_some"] (spOf K 3 m__law_pick)) (G__law_thing : FnOk P w K mg base CX0 2 T.d__law_thing.f T.d__law_thing.fd ["_law_script", "_law_town"] (spOf K 2 m__law_thing)) : FnOk P w K mg base CX0 3 T.d__law_list.f T.d__law_list.fd ["_law_script", "_law_town", "_law_most"] (spOf K 3 m__law_list) :=
  fn_val (N := N__law_list) T.d__law_list.F sc__law_list fun cdv A outer s H E hr => (by exact (ss_cons (by exact (ss_setLcF (i := 3) (own:=[("_law_k",4)]) (by rfl) sc__law_list.nd (by rfl) (by rfl) (by rfl) (by exact (ej_of (ei_range1 (by rfl) T.z_range (by exact (eb_of (by exact ev_int)))))) (blkOk_by (N := N__law_list) (sc := defScope st__law_list) (by decide +kernel)) (fun _ _ _ _ _ => (by exact (eg_one (pg_name (i := 4) sc__law_list.nd (by rfl) (by first | exact .inl rfl | exact .inr rfl))))) (fun _ _ _ _ _ => ets_nil) (fun _ _ _ _ _ => (by exact (ev_callD T.d__law_thing G__law_thing hr (by decide) (by rfl) (by exact (ea_cons (by exact (ev_var (pv 0))) (by exact (ea_cons (by exact (ev_var (pv 1))) (by exact ea_nil))))))))))
    (by exact (ss_cons (by exact (ss_set (i := 5) sc__law_list.nd (by rfl) (by first | exact .inl rfl | exact .inr rfl) (by exact (ev_tup (by exact ea_nil)))))
    (by exact (ss_cons (by exact (ss_for PassesOwn.never (by rfl) (by exact (ei_range1 (by rfl) T.z_range (by exact (eb_of (by exact (ev_callD T.d__law_draw G__law_draw hr (by decide) (by rfl) (by exact (ea_cons (by exact (ev_var (pv 0))) (by exact (ea_cons (by exact (ev_var (pv 1))) (by exact (ea_cons (by exact (ev_bin ov_add (by exact (eb_var (pv 2))) (by exact (eb_of (by exact ev_int))))) (by exact ea_nil))))))))))))) (by exact (eg_one (pg_name (i := 4) sc__law_list.nd (by rfl) (by first | exact .inl rfl | exact .inr rfl))))
    (by exact (ss_one (by exact (ss_set (i := 5) sc__law_list.nd (by rfl) (by first | exact .inl rfl | exact .inr rfl) (ev_frz (by exact (ev_bin ov_add (by exact (eb_var (pv 5))) (by exact (eb_of (by exact (ev_tup (by exact (ea_cons (by exact (ev_callD T.d__law_pick G__law_pick hr (by decide) (by rfl) (by exact (ea_cons (by exact (ev_var (pv 0))) (by exact (ea_cons (by exact (ev_var (pv 1))) (by exact (ea_cons (by exact (ev_bin ov_add (by exact (eb_var (pv 3))) (by exact (eb_of (by exact (ev_lst (by exact (ea_cons (by exact (ev_callD T.d__law_thing G__law_thing hr (by decide) (by rfl) (by exact (ea_cons (by exact (ev_var (pv 0))) (by exact (ea_cons (by exact (ev_var (pv 1))) (by exact ea_nil))))))) (by exact ea_nil))))))))) (by exact ea_nil))))))))) (by exact ea_nil))))))))))))))))
    (by exact (ss_one (by exact (ss_ret (by exact (ev_var (pv 5)))))))))))))
/-! ### law -/
abbrev st_law : Stmt := topS 26
abbrev N_law : List Str := ["_law_script", "_law_town", "_law_k", "_law_one", "_law_two", "_law_things", "_law_shelf", "_law_thing_here", "_law_at", "_law_whole", "_law_group", "_law_first", "_law_end", "_law_many", "_law_ahead", "_law_j"]
theorem sc_law : FnScope N_law ["_law_script"] (defScope st_law) := ⟨rfl, rfl, rfl, by decide +kernel, rfl, by decide +kernel, by decide +kernel⟩
-- l_law_2: head 0:_law_script 1:_law_town 3:_law_one 4:_law_two 5:_law_things 6:_law_shelf of 16
def l_law_2 : Fs :=
    (sSeq (unX (sSetY 8 (yCall y_sh_put 6 (aCons (eVar 7) aNil))))
    (sEnd [7, 8] (sIf (bTest (eBin dNe (dOf (eBin dIx (dOf (eMethR m_sh_things 6 aNil)) (dVar 8))) (dVar 7)))
    (sRet (eC (.bool false)))
    sNil')))
-- l_law_3: head 0:_law_script 1:_law_town 4:_law_two 5:_law_things 6:_law_shelf 9:_law_whole of 16
def l_law_3 : Fs :=
    (sSeq (sAsg (gMany [11, 12]) (eMethR m_sh_around 6 (aCons (eBin dIx (dVar 10) (dOf (eC (.int 0)))) aNil)))
    (sEnd [10, 11, 12] (sIf (bOr (bNot (bTru (dOf (eCall m__law_same (aCons (eSl dSl (dVar 9) (oSome (dVar 11)) (oSome (dVar 12))) (aCons (eVar 10) aNil)))))) (bNot (bTru (dOf (eCall m__law_same (aCons (eMethR m_sh_between 6 (aCons (eBin dIx (dVar 10) (dOf (eC (.int 0)))) (aCons (eBin dIx (dVar 10) (dOf (eUn dNeg (dOf (eC (.int 1)))))) aNil))) (aCons (eVar 10) aNil)))))))
    (sRet (eC (.bool false)))
    sNil')))
-- l_law_4: head 0:_law_script 1:_law_town 5:_law_things 6:_law_shelf 9:_law_whole 13:_law_many of 16
def l_law_4 : Fs :=
    (sSeq (sSet 8 (eCall m__law_draw (aCons (eVar 0) (aCons (eVar 1) (aCons (eApp gLen (sCons (dOf (eMethR m_sh_things 6 aNil)) sNil)) aNil)))))
    (sSeq (sSet 14 (eFrz (eMethR m_sh_things 6 aNil)))
    (sSeq (sEnd [8, 14] (unX (sIfY (ytSeq false (ytNot (ytTru (yApp m__law_same (yaCons (yCall y_sh_take 6 (aCons (eVar 8) aNil)) (yaOf (aCons (eBin dIx (dVar 14) (dVar 8)) aNil)))))) (ywOf (bNot (bTru (dOf (eCall m__law_same (aCons (eMethR m_sh_things 6 aNil) (aCons (eBin dAdd (dOf (eSl dSl (dVar 14) oNone (oSome (dVar 8)))) (dOf (eSl dSl (dVar 14) (oSome (dOf (eBin dAdd (dVar 8) (dOf (eC (.int 1)))))) oNone))) aNil))))))))
    (lft (sRet (eC (.bool false))))
    (lft sNil'))))
    (sSet 13 (eFrz (eBin dAdd (dVar 13) (dOf (eC (.int 1)))))))))
-- l_law_5: head 0:_law_script 1:_law_town 5:_law_things 6:_law_shelf 9:_law_whole 13:_law_many of 16
def l_law_5 : Fs :=
    (sEnd [15] (unX (sDropY (yCall y_sh_back 6 aNil))))
-- l_law_1: head 0:_law_script 1:_law_town of 16
def l_law_1 : Fs :=
    (sSeq (sEnd [2] (sSet 3 (eFrz (eCall m__law_keys (aCons (eVar 0) (aCons (eVar 1) (aCons (eC (.int 3)) aNil)))))))
    (sSeq (sSet 4 (eFrz (eCall m__law_keys (aCons (eVar 0) (aCons (eVar 1) (aCons (eC (.int 3)) aNil))))))
    (sSeq (sSet 5 (eFrz (eCall m__law_list (aCons (eVar 0) (aCons (eVar 1) (aCons (eC (.int 15)) aNil))))))
    (sSeq (sMakeSh 6 (eVar 3))
    (sSeq (sFor (iVal (eVar 5)) (gOne 7)
    l_law_2)
    (sSeq (sSet 9 (eFrz (eCall m_ordered (aCons (eVar 3) (aCons (eVar 5) aNil)))))
    (sSeq (sIf (bNot (bTru (dOf (eCall m__law_same (aCons (eMethR m_sh_things 6 aNil) (aCons (eVar 9) aNil))))))
    (sRet (eC (.bool false)))
    sNil')
    (sSeq (sForK [3] (iVal (eCall m_groups (aCons (eVar 3) (aCons (eVar 5) aNil)))) (gOne 10)
    l_law_3)
    (sSeq (sIf (bAnd (bTru (dVar 9)) (bNot (bTru (dOf (eCall m__law_same (aCons (eMethR m_sh_between 6 (aCons (eBin dIx (dVar 9) (dOf (eC (.int 0)))) (aCons (eBin dIx (dVar 9) (dOf (eUn dNeg (dOf (eC (.int 1)))))) aNil))) (aCons (eVar 9) aNil)))))))
    (sRet (eC (.bool false)))
    sNil')
    (sSeq (unX (sDropY (yCall y_sh_order 6 (aCons (eVar 4) aNil))))
    (sSeq (sEnd [4] (sIf (bOr (bNot (bTru (dOf (eCall m__law_same (aCons (eMethR m_sh_things 6 aNil) (aCons (eCall m_ordered (aCons (eVar 4) (aCons (eVar 9) aNil))) aNil)))))) (bNot (bTru (dOf (eCall m__law_same (aCons (eMethR m_sh_row 6 aNil) (aCons (eVar 4) aNil)))))))
    (sRet (eC (.bool false)))
    sNil'))
    (sSeq (unX (sDropY (yCall y_sh_back 6 aNil)))
    (sSeq (sSet 13 (eC (.int 0)))
    (sSeq (loopW (bTru (dOf (eMethR m_sh_things 6 aNil))) l_law_4 100000)
    (sSeq (sFor (iRng1 (dVar 13)) (gOne 15)
    l_law_5)
    (sEnd [5, 6, 9, 13] (sIf (bOr (bTest (eBin dNe (dVar 13) (dOf (eApp gLen (sCons (dVar 5) sNil))))) (bNot (bTru (dOf (eCall m__law_same (aCons (eMethR m_sh_things 6 aNil) (aCons (eVar 9) aNil)))))))
    (sRet (eC (.bool false)))
    sNil')))))))))))))))))
def b_law : Fs :=
    (sSeq (sEnd [0, 1] (sFor (iRng1 (dOf (eC (.int 5)))) (gOne 2)
    l_law_1))
    (sRet (eC (.bool true))))
theorem ok_law (T : Facts K mg) (G_ordered : FnOk P w K mg base CX0 7 T.d_ordered.f T.d_ordered.fd ["row", "things"] (spOf K 2 m_ordered)) (G_groups : FnOk P w K mg base CX0 8 T.d_groups.f T.d_groups.fd ["row", "things"] (spOf K 2 m_groups)) (G_sh___init__ : FnOk P w K mg base CX0 1 T.M___init__.f T.M___init__.fd ["self", "row"] (spInit K T.Cl)) (G_sh_things : FnOk P w K mg base CX0 1 T.M_things.f T.M_things.fd ["self"] (spOf K 1 m_sh_things)) (G_sh_row : FnOk P w K mg base CX0 1 T.M_row.f T.M_row.fd ["self"] (spOf K 1 m_sh_row)) (GY_sh_put : FnOk P w K mg base (L2.CX P w) 8 T.M_put.f T.M_put.fd ["self", "thing"] (spY K (clsF T) 1 y_sh_put)) (GY_sh_take : FnOk P w K mg base (L2.CX P w) 2 T.M_take.f T.M_take.fd ["self", "at"] (spY K (clsF T) 1 y_sh_take)) (GY_sh_order : FnOk P w K mg base (L2.CX P w) 8 T.M_order.f T.M_order.fd ["self", "row"] (spY K (clsF T) 1 y_sh_order)) (G_sh_around : FnOk P w K mg base CX0 8 T.M_around.f T.M_around.fd ["self", "thing"] (spOf K 2 m_sh_around)) (G_sh_between : FnOk P w K mg base CX0 7 T.M_between.f T.M_between.fd ["self", "one", "other"] (spOf K 3 m_sh_between)) (GY_sh_back : FnOk P w K mg base (L2.CX P w) 1 T.M_back.f T.M_back.fd ["self"] (spY K (clsF T) 0 y_sh_back)) (G__law_same : FnOk P w K mg base CX0 12 T.d__law_same.f T.d__law_same.fd ["_law_got", "_law_due"] (spOf K 2 m__law_same)) (G__law_draw : FnOk P w K mg base CX0 1 T.d__law_draw.f T.d__law_draw.fd ["_law_script", "_law_town", "_law_many"] (spOf K 3 m__law_draw)) (G__law_keys : FnOk P w K mg base CX0 5 T.d__law_keys.f T.d__law_keys.fd ["_law_script", "_law_town", "_law_most"] (spOf K 3 m__law_keys)) (G__law_list : FnOk P w K mg base CX0 3 T.d__law_list.f T.d__law_list.fd ["_law_script", "_law_town", "_law_most"] (spOf K 3 m__law_list)) (m : Nat) (hm : ∀ ns : List Int, ns.length ≤ m → ∃ n', b_law (.d (.list (ns.map .int)) :: .town :: List.replicate 14 .no) 0 = some (.rt (.d (.bool true)) n')) : FnOk P w K mg base CX0 13 T.d_law.f T.d_law.fd ["_law_script"] (spLaw K m) :=
  fn_law (N := N_law) T.d_law.F sc_law rfl rfl (by first | exact .inl rfl | exact .inr rfl) (fun cdv A outer s H E hr => (by exact (ss_cons (by exact (ss_end [0, 1] (by exact (ss_for PassesOwn.never (by rfl) (by exact (ei_range1 (by rfl) T.z_range (by exact (eb_of (by exact ev_int))))) (by exact (eg_one (pg_name (i := 2) sc_law.nd (by rfl) (by first | exact .inl rfl | exact .inr rfl))))
    (by exact (ss_cons (by exact (ss_end [2] (by exact (ss_set (i := 3) sc_law.nd (by rfl) (by first | exact .inl rfl | exact .inr rfl) (ev_frz (by exact (ev_callD T.d__law_keys G__law_keys hr (by decide) (by rfl) (by exact (ea_cons (by exact (ev_var (pv 0))) (by exact (ea_cons (by exact (ev_var (pv 1))) (by exact (ea_cons (by exact ev_int) (by exact ea_nil))))))))))))))
    (by exact (ss_cons (by exact (ss_set (i := 4) sc_law.nd (by rfl) (by first | exact .inl rfl | exact .inr rfl) (ev_frz (by exact (ev_callD T.d__law_keys G__law_keys hr (by decide) (by rfl) (by exact (ea_cons (by exact (ev_var (pv 0))) (by exact (ea_cons (by exact (ev_var (pv 1))) (by exact (ea_cons (by exact ev_int) (by exact ea_nil))))))))))))
    (by exact (ss_cons (by exact (ss_set (i := 5) sc_law.nd (by rfl) (by first | exact .inl rfl | exact .inr rfl) (ev_frz (by exact (ev_callD T.d__law_list G__law_list hr (by decide) (by rfl) (by exact (ea_cons (by exact (ev_var (pv 0))) (by exact (ea_cons (by exact (ev_var (pv 1))) (by exact (ea_cons (by exact ev_int) (by exact ea_nil))))))))))))
    (by exact (ss_cons (by exact (ss_make (i := 6) T.sk T.mkS G_sh___init__ hr (by decide) (by rfl) T.gS T.M___init__.b sc_law.nd (by rfl) (by first | exact .inl rfl | exact .inr rfl) (by exact (ev_var (pv 3)))))
    (by exact (ss_cons (by exact (ss_for PassesOwn.never (by rfl) (by exact (ei_seq (by exact (ev_var (pv 5))))) (by exact (eg_one (pg_name (i := 7) sc_law.nd (by rfl) (by first | exact .inl rfl | exact .inr rfl))))
    (by exact (ss_cons (by exact (ss_un (cls := clsF T) (by exact (sx_setY (i := 8) sc_law.nd (by rfl) (by first | exact .inl rfl | exact .inr rfl) (by exact (ey_meth T.sk (pv 6) T.M_put.g GY_sh_put (hr.mono (by decide)) T.M_put.b takes0 (by exact (ea_cons (by exact (ev_var (pv 7))) (by exact ea_nil)))))))))
    (by exact (ss_one (by exact (ss_end [7, 8] (by exact (ss_if (by exact (et_cmp (ov_ne (hu64 hr)) (by exact (eb_of (by exact (ev_ix ixv (by exact (eb_of (by exact (ev_methR0 T.sk (pv 6) T.M_things.g G_sh_things (hr.mono (by decide)) T.M_things.b)))) (by exact (eb_var (pv 8))) (fun _ _ => by rfl))))) (by exact (eb_var (pv 7))) (nomark _)))
    (by exact (ss_one (by exact (ss_ret (by exact ev_bl)))))
    (by exact ss_nil)))))))))))
    (by exact (ss_cons (by exact (ss_set (i := 9) sc_law.nd (by rfl) (by first | exact .inl rfl | exact .inr rfl) (ev_frz (by exact (ev_callD T.d_ordered G_ordered hr (by decide) (by rfl) (by exact (ea_cons (by exact (ev_var (pv 3))) (by exact (ea_cons (by exact (ev_var (pv 5))) (by exact ea_nil))))))))))
    (by exact (ss_cons (by exact (ss_if (by exact (et_not (by exact (et_tru (by exact (eb_of (by exact (ev_callD T.d__law_same G__law_same hr (by decide) (by rfl) (by exact (ea_cons (by exact (ev_methR0 T.sk (pv 6) T.M_things.g G_sh_things (hr.mono (by decide)) T.M_things.b)) (by exact (ea_cons (by exact (ev_var (pv 9))) (by exact ea_nil))))))))) (fun _ => (by rfl))))))
    (by exact (ss_one (by exact (ss_ret (by exact ev_bl)))))
    (by exact ss_nil)))
    (by exact (ss_cons (by exact (ss_forK [3] PassesOwn.never (by rfl) (by exact (ei_seq (by exact (ev_callD T.d_groups G_groups hr (by decide) (by rfl) (by exact (ea_cons (by exact (ev_var (pv 3))) (by exact (ea_cons (by exact (ev_var (pv 5))) (by exact ea_nil))))))))) (by exact (eg_one (pg_name (i := 10) sc_law.nd (by rfl) (by first | exact .inl rfl | exact .inr rfl))))
    (by exact (ss_cons (by exact (ss_asg (by exact (ev_methR T.sk (pv 6) T.M_around.g G_sh_around (hr.mono (by decide)) T.M_around.b (by exact (ea_cons (by exact (ev_ix ixv (by exact (eb_var (pv 10))) (by exact (eb_of (by exact ev_int))) (fun _ _ => by rfl))) (by exact ea_nil))))) (by exact (eg_many (by rfl) (egs_cons (pg_name (i := 11) sc_law.nd (by rfl) (by first | exact .inl rfl | exact .inr rfl)) (egs_cons (pg_name (i := 12) sc_law.nd (by rfl) (by first | exact .inl rfl | exact .inr rfl)) egs_nil))))))
    (by exact (ss_one (by exact (ss_end [10, 11, 12] (by exact (ss_if (by exact (et_w (ew_or (by exact (et_not (by exact (et_tru (by exact (eb_of (by exact (ev_callD T.d__law_same G__law_same hr (by decide) (by rfl) (by exact (ea_cons (by exact (ev_slice slv (by exact (eb_var (pv 9))) (by exact (eo_some (by exact (eb_var (pv 11))))) (by exact (eo_some (by exact (eb_var (pv 12))))))) (by exact (ea_cons (by exact (ev_var (pv 10))) (by exact ea_nil))))))))) (fun _ => (by rfl)))))) (ew_or1 (by exact (et_not (by exact (et_tru (by exact (eb_of (by exact (ev_callD T.d__law_same G__law_same hr (by decide) (by rfl) (by exact (ea_cons (by exact (ev_methR T.sk (pv 6) T.M_between.g G_sh_between (hr.mono (by decide)) T.M_between.b (by exact (ea_cons (by exact (ev_ix ixv (by exact (eb_var (pv 10))) (by exact (eb_of (by exact ev_int))) (fun _ _ => by rfl))) (by exact (ea_cons (by exact (ev_ix ixv (by exact (eb_var (pv 10))) (by exact (eb_of (by exact (ev_neg (by exact (eb_of (by exact ev_int))))))) (fun _ _ => by rfl))) (by exact ea_nil))))))) (by exact (ea_cons (by exact (ev_var (pv 10))) (by exact ea_nil))))))))) (fun _ => (by rfl))))))))))
    (by exact (ss_one (by exact (ss_ret (by exact ev_bl)))))
    (by exact ss_nil)))))))))))
    (by exact (ss_cons (by exact (ss_if (by exact (et_w (ew_and (by exact (et_tru (by exact (eb_var (pv 9))) (fun _ => (by rfl)))) (ew_and1 (by exact (et_not (by exact (et_tru (by exact (eb_of (by exact (ev_callD T.d__law_same G__law_same hr (by decide) (by rfl) (by exact (ea_cons (by exact (ev_methR T.sk (pv 6) T.M_between.g G_sh_between (hr.mono (by decide)) T.M_between.b (by exact (ea_cons (by exact (ev_ix ixv (by exact (eb_var (pv 9))) (by exact (eb_of (by exact ev_int))) (fun _ _ => by rfl))) (by exact (ea_cons (by exact (ev_ix ixv (by exact (eb_var (pv 9))) (by exact (eb_of (by exact (ev_neg (by exact (eb_of (by exact ev_int))))))) (fun _ _ => by rfl))) (by exact ea_nil))))))) (by exact (ea_cons (by exact (ev_var (pv 9))) (by exact ea_nil))))))))) (fun _ => (by rfl))))))))))
    (by exact (ss_one (by exact (ss_ret (by exact ev_bl)))))
    (by exact ss_nil)))
    (by exact (ss_cons (by exact (ss_un (cls := clsF T) (by exact (sx_exprY (by exact (ey_meth T.sk (pv 6) T.M_order.g GY_sh_order (hr.mono (by decide)) T.M_order.b takes0 (by exact (ea_cons (by exact (ev_var (pv 4))) (by exact ea_nil)))))))))
    (by exact (ss_cons (by exact (ss_end [4] (by exact (ss_if (by exact (et_w (ew_or (by exact (et_not (by exact (et_tru (by exact (eb_of (by exact (ev_callD T.d__law_same G__law_same hr (by decide) (by rfl) (by exact (ea_cons (by exact (ev_methR0 T.sk (pv 6) T.M_things.g G_sh_things (hr.mono (by decide)) T.M_things.b)) (by exact (ea_cons (by exact (ev_callD T.d_ordered G_ordered hr (by decide) (by rfl) (by exact (ea_cons (by exact (ev_var (pv 4))) (by exact (ea_cons (by exact (ev_var (pv 9))) (by exact ea_nil))))))) (by exact ea_nil))))))))) (fun _ => (by rfl)))))) (ew_or1 (by exact (et_not (by exact (et_tru (by exact (eb_of (by exact (ev_callD T.d__law_same G__law_same hr (by decide) (by rfl) (by exact (ea_cons (by exact (ev_methR0 T.sk (pv 6) T.M_row.g G_sh_row (hr.mono (by decide)) T.M_row.b)) (by exact (ea_cons (by exact (ev_var (pv 4))) (by exact ea_nil))))))))) (fun _ => (by rfl))))))))))
    (by exact (ss_one (by exact (ss_ret (by exact ev_bl)))))
    (by exact ss_nil)))))
    (by exact (ss_cons (by exact (ss_un (cls := clsF T) (by exact (sx_exprY (by exact (ey_meth0 T.sk (pv 6) T.M_back.g GY_sh_back (hr.mono (by decide)) T.M_back.b takes0))))))
    (by exact (ss_cons (by exact (ss_set (i := 13) sc_law.nd (by rfl) (by first | exact .inl rfl | exact .inr rfl) (by exact ev_int)))
    (by exact (ss_cons (by exact (ss_while 100000 PassesOwn.never (by exact (et_tru (by exact (eb_of (by exact (ev_methR0 T.sk (pv 6) T.M_things.g G_sh_things (hr.mono (by decide)) T.M_things.b)))) (fun _ => (by rfl)))) (by exact (ss_cons (by exact (ss_set (i := 8) sc_law.nd (by rfl) (by first | exact .inl rfl | exact .inr rfl) (by exact (ev_callD T.d__law_draw G__law_draw hr (by decide) (by rfl) (by exact (ea_cons (by exact (ev_var (pv 0))) (by exact (ea_cons (by exact (ev_var (pv 1))) (by exact (ea_cons (by exact (ev_callB cv_len (by rfl) T.z_len bt_len (by exact (ed_cons (by exact (eb_of (by exact (ev_methR0 T.sk (pv 6) T.M_things.g G_sh_things (hr.mono (by decide)) T.M_things.b)))) (by exact ed_nil))))) (by exact ea_nil)))))))))))
    (by exact (ss_cons (by exact (ss_set (i := 14) sc_law.nd (by rfl) (by first | exact .inl rfl | exact .inr rfl) (ev_frz (by exact (ev_methR0 T.sk (pv 6) T.M_things.g G_sh_things (hr.mono (by decide)) T.M_things.b)))))
    (by exact (ss_cons (by exact (ss_end [8, 14] (by exact (ss_un (cls := clsF T) (by exact (sx_ifY (by exact (yt_w (yw_or (by exact (yt_not (by exact (yt_tru (by exact (ey_app T.d__law_same G__law_same hr (by decide) (by rfl) (by exact (ya_cons (by exact (ey_meth T.sk (pv 6) T.M_take.g GY_sh_take (hr.mono (by decide)) T.M_take.b takes0 (by exact (ea_cons (by exact (ev_var (pv 8))) (by exact ea_nil))))) (by exact (ya_of (by exact (ea_cons (by exact (ev_ix ixv (by exact (eb_var (pv 14))) (by exact (eb_var (pv 8))) (fun _ _ => by rfl))) (by exact ea_nil))))))))) (fun _ => (by rfl)))))) (yw_of (ew_or1 (by exact (et_not (by exact (et_tru (by exact (eb_of (by exact (ev_callD T.d__law_same G__law_same hr (by decide) (by rfl) (by exact (ea_cons (by exact (ev_methR0 T.sk (pv 6) T.M_things.g G_sh_things (hr.mono (by decide)) T.M_things.b)) (by exact (ea_cons (by exact (ev_bin ov_add (by exact (eb_of (by exact (ev_slice slv (by exact (eb_var (pv 14))) (by exact eo_none) (by exact (eo_some (by exact (eb_var (pv 8))))))))) (by exact (eb_of (by exact (ev_slice slv (by exact (eb_var (pv 14))) (by exact (eo_some (by exact (eb_of (by exact (ev_bin ov_add (by exact (eb_var (pv 8))) (by exact (eb_of (by exact ev_int))))))))) (by exact eo_none))))))) (by exact ea_nil))))))))) (fun _ => (by rfl)))))))))))
    (by exact (sxs_lift (by exact (ss_one (by exact (ss_ret (by exact ev_bl)))))))
    (by exact (sxs_lift (by exact ss_nil)))))))))
    (by exact (ss_one (by exact (ss_set (i := 13) sc_law.nd (by rfl) (by first | exact .inl rfl | exact .inr rfl) (ev_frz (by exact (ev_bin ov_add (by exact (eb_var (pv 13))) (by exact (eb_of (by exact ev_int))))))))))))))))))
    (by exact (ss_cons (by exact (ss_for PassesOwn.never (by rfl) (by exact (ei_range1 (by rfl) T.z_range (by exact (eb_var (pv 13))))) (by exact (eg_one (pg_name (i := 15) sc_law.nd (by rfl) (by first | exact .inl rfl | exact .inr rfl))))
    (by exact (ss_one (by exact (ss_end [15] (by exact (ss_un (cls := clsF T) (by exact (sx_exprY (by exact (ey_meth0 T.sk (pv 6) T.M_back.g GY_sh_back (hr.mono (by decide)) T.M_back.b takes0))))))))))))
    (by exact (ss_one (by exact (ss_end [5, 6, 9, 13] (by exact (ss_if (by exact (et_w (ew_or (by exact (et_cmp (ov_ne (hu64 hr)) (by exact (eb_var (pv 13))) (by exact (eb_of (by exact (ev_callB cv_len (by rfl) T.z_len bt_len (by exact (ed_cons (by exact (eb_var (pv 5))) (by exact ed_nil))))))) (nomark _))) (ew_or1 (by exact (et_not (by exact (et_tru (by exact (eb_of (by exact (ev_callD T.d__law_same G__law_same hr (by decide) (by rfl) (by exact (ea_cons (by exact (ev_methR0 T.sk (pv 6) T.M_things.g G_sh_things (hr.mono (by decide)) T.M_things.b)) (by exact (ea_cons (by exact (ev_var (pv 9))) (by exact ea_nil))))))))) (fun _ => (by rfl))))))))))
    (by exact (ss_one (by exact (ss_ret (by exact ev_bl)))))
    (by exact ss_nil)))))))))))))))))))))))))))))))))))))))))
    (by exact (ss_one (by exact (ss_ret (by exact ev_bl)))))))) hm
theorem ok_all (T : Facts K mg) (m : Nat) (hm : ∀ ns : List Int, ns.length ≤ m → ∃ n', b_law (.d (.list (ns.map .int)) :: .town :: List.replicate 14 .no) 0 = some (.rt (.d (.bool true)) n')) : FnOk P w K mg base CX0 13 T.d_law.f T.d_law.fd ["_law_script"] (spLaw K m) := by
  have G_worth := ok_worth (P := P) (w := w) (base := base) T
  have G_worths := ok_worths (P := P) (w := w) (base := base) T G_worth
  have G_places := ok_places (P := P) (w := w) (base := base) T G_worths
  have G_ordered := ok_ordered (P := P) (w := w) (base := base) T G_places
  have G_told := ok_told (P := P) (w := w) (base := base) T G_worths
  have G_groups := ok_groups (P := P) (w := w) (base := base) T G_told G_ordered
  have G_sh___init__ := ok_sh___init__ (P := P) (w := w) (base := base) T
  have G_sh_things := ok_sh_things (P := P) (w := w) (base := base) T
  have G_sh_row := ok_sh_row (P := P) (w := w) (base := base) T
  have G_last_place := ok_last_place (P := P) (w := w) (base := base) T G_told
  have GY_sh_keep := ok_sh_keep (P := P) (w := w) (base := base) T
  have GY_sh_put := ok_sh_put (P := P) (w := w) (base := base) T G_last_place GY_sh_keep
  have GY_sh_take := ok_sh_take (P := P) (w := w) (base := base) T GY_sh_keep
  have GY_sh_order := ok_sh_order (P := P) (w := w) (base := base) T G_ordered GY_sh_keep
  have G_first_place := ok_first_place (P := P) (w := w) (base := base) T G_told
  have G_sh_around := ok_sh_around (P := P) (w := w) (base := base) T G_first_place G_last_place
  have G_sh_between := ok_sh_between (P := P) (w := w) (base := base) T G_told
  have GY_sh_back := ok_sh_back (P := P) (w := w) (base := base) T
  have G__law_same := ok__law_same (P := P) (w := w) (base := base) T
  have G__law_draw := ok__law_draw (P := P) (w := w) (base := base) T
  have G__law_pick := ok__law_pick (P := P) (w := w) (base := base) T G__law_draw
  have G__law_plain := ok__law_plain (P := P) (w := w) (base := base) T G__law_draw G__law_pick
  have G__law_key := ok__law_key (P := P) (w := w) (base := base) T G__law_draw G__law_plain
  have G__law_keys := ok__law_keys (P := P) (w := w) (base := base) T G__law_draw G__law_key
  have G__law_thing := ok__law_thing (P := P) (w := w) (base := base) T G__law_draw
  have G__law_list := ok__law_list (P := P) (w := w) (base := base) T G__law_draw G__law_pick G__law_thing
  exact ok_law T G_ordered G_groups G_sh___init__ G_sh_things G_sh_row GY_sh_put GY_sh_take GY_sh_order G_sh_around G_sh_between GY_sh_back G__law_same G__law_draw G__law_keys G__law_list m hm
end
theorem all_mk {l : PySem.W.OpenLaw} {w : World} {K : PySem.W.Frag} {h : Heap} {mg : Str → Option Value} {fa : Addr} (X : K.In h) (G : h.Ns mainGlobals mg) (hfa : mg "law" = some (.ref fa)) (m : Nat) (hm : ∀ ns : List Int, ns.length ≤ m → ∃ n', b_law (.d (.list (ns.map .int)) :: .town :: List.replicate 14 .no) 0 = some (.rt (.d (.bool true)) n'))
    {CS : Addr}
    {f6 : Addr} {od6 an6 : Option Addr} {sl6 : Array (Option Value)} {oc6 kV6 dc6 pm6 cd6 ct6 : Value}
    {f7 : Addr} {od7 an7 : Option Addr} {sl7 : Array (Option Value)} {oc7 kV7 dc7 pm7 cd7 ct7 : Value}
    {f8 : Addr} {od8 an8 : Option Addr} {sl8 : Array (Option Value)} {oc8 kV8 dc8 pm8 cd8 ct8 : Value}
    {f10 : Addr} {od10 an10 : Option Addr} {sl10 : Array (Option Value)} {oc10 kV10 dc10 pm10 cd10 ct10 : Value}
    {f11 : Addr} {od11 an11 : Option Addr} {sl11 : Array (Option Value)} {oc11 kV11 dc11 pm11 cd11 ct11 : Value}
    {f12 : Addr} {od12 an12 : Option Addr} {sl12 : Array (Option Value)} {oc12 kV12 dc12 pm12 cd12 ct12 : Value}
    {f13 : Addr} {od13 an13 : Option Addr} {sl13 : Array (Option Value)} {oc13 kV13 dc13 pm13 cd13 ct13 : Value}
    {f15 : Addr} {od15 an15 : Option Addr} {sl15 : Array (Option Value)} {oc15 kV15 dc15 pm15 cd15 ct15 : Value}
    {f16 : Addr} {od16 an16 : Option Addr} {sl16 : Array (Option Value)} {oc16 kV16 dc16 pm16 cd16 ct16 : Value}
    {f17 : Addr} {od17 an17 : Option Addr} {sl17 : Array (Option Value)} {oc17 kV17 dc17 pm17 cd17 ct17 : Value}
    {f0 : Addr} {od0 an0 : Option Addr} {sl0 : Array (Option Value)} {oc0 kV0 dc0 pm0 cd0 ct0 : Value}
    {f1 : Addr} {od1 an1 : Option Addr} {sl1 : Array (Option Value)} {oc1 kV1 dc1 pm1 cd1 ct1 : Value}
    {f2 : Addr} {od2 an2 : Option Addr} {sl2 : Array (Option Value)} {oc2 kV2 dc2 pm2 cd2 ct2 : Value}
    {f3 : Addr} {od3 an3 : Option Addr} {sl3 : Array (Option Value)} {oc3 kV3 dc3 pm3 cd3 ct3 : Value}
    {f4 : Addr} {od4 an4 : Option Addr} {sl4 : Array (Option Value)} {oc4 kV4 dc4 pm4 cd4 ct4 : Value}
    {f5 : Addr} {od5 an5 : Option Addr} {sl5 : Array (Option Value)} {oc5 kV5 dc5 pm5 cd5 ct5 : Value}
    {f9 : Addr} {od9 an9 : Option Addr} {sl9 : Array (Option Value)} {oc9 kV9 dc9 pm9 cd9 ct9 : Value}
    {f14 : Addr} {od14 an14 : Option Addr} {sl14 : Array (Option Value)} {oc14 kV14 dc14 pm14 cd14 ct14 : Value}
    {f18 : Addr} {od18 an18 : Option Addr} {sl18 : Array (Option Value)} {oc18 kV18 dc18 pm18 cd18 ct18 : Value}
    {f19 : Addr} {od19 an19 : Option Addr} {sl19 : Array (Option Value)} {oc19 kV19 dc19 pm19 cd19 ct19 : Value}
    {f20 : Addr} {od20 an20 : Option Addr} {sl20 : Array (Option Value)} {oc20 kV20 dc20 pm20 cd20 ct20 : Value}
    {f21 : Addr} {od21 an21 : Option Addr} {sl21 : Array (Option Value)} {oc21 kV21 dc21 pm21 cd21 ct21 : Value}
    {f22 : Addr} {od22 an22 : Option Addr} {sl22 : Array (Option Value)} {oc22 kV22 dc22 pm22 cd22 ct22 : Value}
    {f23 : Addr} {od23 an23 : Option Addr} {sl23 : Array (Option Value)} {oc23 kV23 dc23 pm23 cd23 ct23 : Value}
    {f24 : Addr} {od24 an24 : Option Addr} {sl24 : Array (Option Value)} {oc24 kV24 dc24 pm24 cd24 ct24 : Value}
    {f25 : Addr} {od25 an25 : Option Addr} {sl25 : Array (Option Value)} {oc25 kV25 dc25 pm25 cd25 ct25 : Value}
    {f26 : Addr} {od26 an26 : Option Addr} {sl26 : Array (Option Value)} {oc26 kV26 dc26 pm26 cd26 ct26 : Value}
    {C0 : Addr}
    {C1 : Addr}
    (sS : PySem.W.nsIn K mainGlobals "Shelf" = some (some (.ref CS))) (spg : PySem.W.plainGet K CS Str.empty = true) (shd : PySem.W.hasDictIn K CS = true) (spo : PySem.W.plainOver K CS = true) (ssa : PySem.W.findIn K (.ref CS) "__setattr__" = some (some (.builtin "object.__setattr__"))) (smk : PySem.W.makesIn K CS = true) (skc : PySem.W.keepIn K (.ref CS) = true) (sn0 : PySem.W.findIn K (.ref CS) "now" = some none) (sn1 : PySem.W.findIn K (.ref CS) "before" = some none) (sn2 : PySem.W.findIn K (.ref CS) "later" = some none)
    (a6 : PySem.W.findIn K (.ref CS) "__init__" = some (some (.ref f6))) (i6 : PySem.W.isFn K (.ref f6) = true) (l6 : K.lookup f6 = some ⟨oc6, od6, .func (PySem.W.fnOf "__init__" "Shelf.__init__" (defArgs (inClass (topS 16) 0)) (defBody (inClass (topS 16) 0)) (defScope (inClass (topS 16) 0)) .none kV6 dc6 pm6 an6 cd6 ct6), sl6⟩) (c6 : PySem.W.codeIn K cd6 "Shelf.__init__" = true) (k6 : PySem.W.keepIn K (.ref f6) = true)
    (a7 : PySem.W.findIn K (.ref CS) "things" = some (some (.ref f7))) (i7 : PySem.W.isFn K (.ref f7) = true) (l7 : K.lookup f7 = some ⟨oc7, od7, .func (PySem.W.fnOf "things" "Shelf.things" (defArgs (inClass (topS 16) 2)) (defBody (inClass (topS 16) 2)) (defScope (inClass (topS 16) 2)) .none kV7 dc7 pm7 an7 cd7 ct7), sl7⟩) (c7 : PySem.W.codeIn K cd7 "Shelf.things" = true) (k7 : PySem.W.keepIn K (.ref f7) = true)
    (a8 : PySem.W.findIn K (.ref CS) "row" = some (some (.ref f8))) (i8 : PySem.W.isFn K (.ref f8) = true) (l8 : K.lookup f8 = some ⟨oc8, od8, .func (PySem.W.fnOf "row" "Shelf.row" (defArgs (inClass (topS 16) 3)) (defBody (inClass (topS 16) 3)) (defScope (inClass (topS 16) 3)) .none kV8 dc8 pm8 an8 cd8 ct8), sl8⟩) (c8 : PySem.W.codeIn K cd8 "Shelf.row" = true) (k8 : PySem.W.keepIn K (.ref f8) = true)
    (a10 : PySem.W.findIn K (.ref CS) "keep" = some (some (.ref f10))) (i10 : PySem.W.isFn K (.ref f10) = true) (l10 : K.lookup f10 = some ⟨oc10, od10, .func (PySem.W.fnOf "keep" "Shelf.keep" (defArgs (inClass (topS 16) 1)) (defBody (inClass (topS 16) 1)) (defScope (inClass (topS 16) 1)) .none kV10 dc10 pm10 an10 cd10 ct10), sl10⟩) (c10 : PySem.W.codeIn K cd10 "Shelf.keep" = true) (k10 : PySem.W.keepIn K (.ref f10) = true)
    (a11 : PySem.W.findIn K (.ref CS) "put" = some (some (.ref f11))) (i11 : PySem.W.isFn K (.ref f11) = true) (l11 : K.lookup f11 = some ⟨oc11, od11, .func (PySem.W.fnOf "put" "Shelf.put" (defArgs (inClass (topS 16) 4)) (defBody (inClass (topS 16) 4)) (defScope (inClass (topS 16) 4)) .none kV11 dc11 pm11 an11 cd11 ct11), sl11⟩) (c11 : PySem.W.codeIn K cd11 "Shelf.put" = true) (k11 : PySem.W.keepIn K (.ref f11) = true)
    (a12 : PySem.W.findIn K (.ref CS) "take" = some (some (.ref f12))) (i12 : PySem.W.isFn K (.ref f12) = true) (l12 : K.lookup f12 = some ⟨oc12, od12, .func (PySem.W.fnOf "take" "Shelf.take" (defArgs (inClass (topS 16) 5)) (defBody (inClass (topS 16) 5)) (defScope (inClass (topS 16) 5)) .none kV12 dc12 pm12 an12 cd12 ct12), sl12⟩) (c12 : PySem.W.codeIn K cd12 "Shelf.take" = true) (k12 : PySem.W.keepIn K (.ref f12) = true)
    (a13 : PySem.W.findIn K (.ref CS) "order" = some (some (.ref f13))) (i13 : PySem.W.isFn K (.ref f13) = true) (l13 : K.lookup f13 = some ⟨oc13, od13, .func (PySem.W.fnOf "order" "Shelf.order" (defArgs (inClass (topS 16) 6)) (defBody (inClass (topS 16) 6)) (defScope (inClass (topS 16) 6)) .none kV13 dc13 pm13 an13 cd13 ct13), sl13⟩) (c13 : PySem.W.codeIn K cd13 "Shelf.order" = true) (k13 : PySem.W.keepIn K (.ref f13) = true)
    (a15 : PySem.W.findIn K (.ref CS) "around" = some (some (.ref f15))) (i15 : PySem.W.isFn K (.ref f15) = true) (l15 : K.lookup f15 = some ⟨oc15, od15, .func (PySem.W.fnOf "around" "Shelf.around" (defArgs (inClass (topS 16) 7)) (defBody (inClass (topS 16) 7)) (defScope (inClass (topS 16) 7)) .none kV15 dc15 pm15 an15 cd15 ct15), sl15⟩) (c15 : PySem.W.codeIn K cd15 "Shelf.around" = true) (k15 : PySem.W.keepIn K (.ref f15) = true)
    (a16 : PySem.W.findIn K (.ref CS) "between" = some (some (.ref f16))) (i16 : PySem.W.isFn K (.ref f16) = true) (l16 : K.lookup f16 = some ⟨oc16, od16, .func (PySem.W.fnOf "between" "Shelf.between" (defArgs (inClass (topS 16) 8)) (defBody (inClass (topS 16) 8)) (defScope (inClass (topS 16) 8)) .none kV16 dc16 pm16 an16 cd16 ct16), sl16⟩) (c16 : PySem.W.codeIn K cd16 "Shelf.between" = true) (k16 : PySem.W.keepIn K (.ref f16) = true)
    (a17 : PySem.W.findIn K (.ref CS) "back" = some (some (.ref f17))) (i17 : PySem.W.isFn K (.ref f17) = true) (l17 : K.lookup f17 = some ⟨oc17, od17, .func (PySem.W.fnOf "back" "Shelf.back" (defArgs (inClass (topS 16) 9)) (defBody (inClass (topS 16) 9)) (defScope (inClass (topS 16) 9)) .none kV17 dc17 pm17 an17 cd17 ct17), sl17⟩) (c17 : PySem.W.codeIn K cd17 "Shelf.back" = true) (k17 : PySem.W.keepIn K (.ref f17) = true)
    (a0 : PySem.W.nsIn K mainGlobals "worth" = some (some (.ref f0))) (l0 : K.lookup f0 = some ⟨oc0, od0, .func (PySem.W.fnOf "worth" "worth" (defArgs (topS 6)) (defBody (topS 6)) (defScope (topS 6)) .none kV0 dc0 pm0 an0 cd0 ct0), sl0⟩) (c0 : PySem.W.codeIn K cd0 "worth" = true) (k0 : PySem.W.keepIn K (.ref f0) = true)
    (a1 : PySem.W.nsIn K mainGlobals "worths" = some (some (.ref f1))) (l1 : K.lookup f1 = some ⟨oc1, od1, .func (PySem.W.fnOf "worths" "worths" (defArgs (topS 7)) (defBody (topS 7)) (defScope (topS 7)) .none kV1 dc1 pm1 an1 cd1 ct1), sl1⟩) (c1 : PySem.W.codeIn K cd1 "worths" = true) (k1 : PySem.W.keepIn K (.ref f1) = true)
    (a2 : PySem.W.nsIn K mainGlobals "places" = some (some (.ref f2))) (l2 : K.lookup f2 = some ⟨oc2, od2, .func (PySem.W.fnOf "places" "places" (defArgs (topS 10)) (defBody (topS 10)) (defScope (topS 10)) .none kV2 dc2 pm2 an2 cd2 ct2), sl2⟩) (c2 : PySem.W.codeIn K cd2 "places" = true) (k2 : PySem.W.keepIn K (.ref f2) = true)
    (a3 : PySem.W.nsIn K mainGlobals "ordered" = some (some (.ref f3))) (l3 : K.lookup f3 = some ⟨oc3, od3, .func (PySem.W.fnOf "ordered" "ordered" (defArgs (topS 11)) (defBody (topS 11)) (defScope (topS 11)) .none kV3 dc3 pm3 an3 cd3 ct3), sl3⟩) (c3 : PySem.W.codeIn K cd3 "ordered" = true) (k3 : PySem.W.keepIn K (.ref f3) = true)
    (a4 : PySem.W.nsIn K mainGlobals "told" = some (some (.ref f4))) (l4 : K.lookup f4 = some ⟨oc4, od4, .func (PySem.W.fnOf "told" "told" (defArgs (topS 8)) (defBody (topS 8)) (defScope (topS 8)) .none kV4 dc4 pm4 an4 cd4 ct4), sl4⟩) (c4 : PySem.W.codeIn K cd4 "told" = true) (k4 : PySem.W.keepIn K (.ref f4) = true)
    (a5 : PySem.W.nsIn K mainGlobals "groups" = some (some (.ref f5))) (l5 : K.lookup f5 = some ⟨oc5, od5, .func (PySem.W.fnOf "groups" "groups" (defArgs (topS 14)) (defBody (topS 14)) (defScope (topS 14)) .none kV5 dc5 pm5 an5 cd5 ct5), sl5⟩) (c5 : PySem.W.codeIn K cd5 "groups" = true) (k5 : PySem.W.keepIn K (.ref f5) = true)
    (a9 : PySem.W.nsIn K mainGlobals "last_place" = some (some (.ref f9))) (l9 : K.lookup f9 = some ⟨oc9, od9, .func (PySem.W.fnOf "last_place" "last_place" (defArgs (topS 13)) (defBody (topS 13)) (defScope (topS 13)) .none kV9 dc9 pm9 an9 cd9 ct9), sl9⟩) (c9 : PySem.W.codeIn K cd9 "last_place" = true) (k9 : PySem.W.keepIn K (.ref f9) = true)
    (a14 : PySem.W.nsIn K mainGlobals "first_place" = some (some (.ref f14))) (l14 : K.lookup f14 = some ⟨oc14, od14, .func (PySem.W.fnOf "first_place" "first_place" (defArgs (topS 12)) (defBody (topS 12)) (defScope (topS 12)) .none kV14 dc14 pm14 an14 cd14 ct14), sl14⟩) (c14 : PySem.W.codeIn K cd14 "first_place" = true) (k14 : PySem.W.keepIn K (.ref f14) = true)
    (a18 : PySem.W.nsIn K mainGlobals "_law_same" = some (some (.ref f18))) (l18 : K.lookup f18 = some ⟨oc18, od18, .func (PySem.W.fnOf "_law_same" "_law_same" (defArgs (topS 18)) (defBody (topS 18)) (defScope (topS 18)) .none kV18 dc18 pm18 an18 cd18 ct18), sl18⟩) (c18 : PySem.W.codeIn K cd18 "_law_same" = true) (k18 : PySem.W.keepIn K (.ref f18) = true)
    (a19 : PySem.W.nsIn K mainGlobals "_law_draw" = some (some (.ref f19))) (l19 : K.lookup f19 = some ⟨oc19, od19, .func (PySem.W.fnOf "_law_draw" "_law_draw" (defArgs (topS 19)) (defBody (topS 19)) (defScope (topS 19)) .none kV19 dc19 pm19 an19 cd19 ct19), sl19⟩) (c19 : PySem.W.codeIn K cd19 "_law_draw" = true) (k19 : PySem.W.keepIn K (.ref f19) = true)
    (a20 : PySem.W.nsIn K mainGlobals "_law_pick" = some (some (.ref f20))) (l20 : K.lookup f20 = some ⟨oc20, od20, .func (PySem.W.fnOf "_law_pick" "_law_pick" (defArgs (topS 20)) (defBody (topS 20)) (defScope (topS 20)) .none kV20 dc20 pm20 an20 cd20 ct20), sl20⟩) (c20 : PySem.W.codeIn K cd20 "_law_pick" = true) (k20 : PySem.W.keepIn K (.ref f20) = true)
    (a21 : PySem.W.nsIn K mainGlobals "_law_plain" = some (some (.ref f21))) (l21 : K.lookup f21 = some ⟨oc21, od21, .func (PySem.W.fnOf "_law_plain" "_law_plain" (defArgs (topS 21)) (defBody (topS 21)) (defScope (topS 21)) .none kV21 dc21 pm21 an21 cd21 ct21), sl21⟩) (c21 : PySem.W.codeIn K cd21 "_law_plain" = true) (k21 : PySem.W.keepIn K (.ref f21) = true)
    (a22 : PySem.W.nsIn K mainGlobals "_law_key" = some (some (.ref f22))) (l22 : K.lookup f22 = some ⟨oc22, od22, .func (PySem.W.fnOf "_law_key" "_law_key" (defArgs (topS 22)) (defBody (topS 22)) (defScope (topS 22)) .none kV22 dc22 pm22 an22 cd22 ct22), sl22⟩) (c22 : PySem.W.codeIn K cd22 "_law_key" = true) (k22 : PySem.W.keepIn K (.ref f22) = true)
    (a23 : PySem.W.nsIn K mainGlobals "_law_keys" = some (some (.ref f23))) (l23 : K.lookup f23 = some ⟨oc23, od23, .func (PySem.W.fnOf "_law_keys" "_law_keys" (defArgs (topS 23)) (defBody (topS 23)) (defScope (topS 23)) .none kV23 dc23 pm23 an23 cd23 ct23), sl23⟩) (c23 : PySem.W.codeIn K cd23 "_law_keys" = true) (k23 : PySem.W.keepIn K (.ref f23) = true)
    (a24 : PySem.W.nsIn K mainGlobals "_law_thing" = some (some (.ref f24))) (l24 : K.lookup f24 = some ⟨oc24, od24, .func (PySem.W.fnOf "_law_thing" "_law_thing" (defArgs (topS 24)) (defBody (topS 24)) (defScope (topS 24)) .none kV24 dc24 pm24 an24 cd24 ct24), sl24⟩) (c24 : PySem.W.codeIn K cd24 "_law_thing" = true) (k24 : PySem.W.keepIn K (.ref f24) = true)
    (a25 : PySem.W.nsIn K mainGlobals "_law_list" = some (some (.ref f25))) (l25 : K.lookup f25 = some ⟨oc25, od25, .func (PySem.W.fnOf "_law_list" "_law_list" (defArgs (topS 25)) (defBody (topS 25)) (defScope (topS 25)) .none kV25 dc25 pm25 an25 cd25 ct25), sl25⟩) (c25 : PySem.W.codeIn K cd25 "_law_list" = true) (k25 : PySem.W.keepIn K (.ref f25) = true)
    (a26 : PySem.W.nsIn K mainGlobals "law" = some (some (.ref f26))) (l26 : K.lookup f26 = some ⟨oc26, od26, .func (PySem.W.fnOf "law" "law" (defArgs (topS 26)) (defBody (topS 26)) (defScope (topS 26)) .none kV26 dc26 pm26 an26 cd26 ct26), sl26⟩) (c26 : PySem.W.codeIn K cd26 "law" = true) (k26 : PySem.W.keepIn K (.ref f26) = true)
    (z0 : PySem.W.nsIn K mainGlobals "abs" = some none)
    (z1 : PySem.W.nsIn K mainGlobals "all" = some none)
    (z2 : PySem.W.nsIn K mainGlobals "bool" = some none)
    (z3 : PySem.W.nsIn K mainGlobals "enumerate" = some none)
    (z4 : PySem.W.nsIn K mainGlobals "int" = some none)
    (z5 : PySem.W.nsIn K mainGlobals "isinstance" = some none)
    (z6 : PySem.W.nsIn K mainGlobals "len" = some none)
    (z7 : PySem.W.nsIn K mainGlobals "max" = some none)
    (z8 : PySem.W.nsIn K mainGlobals "range" = some none)
    (z9 : PySem.W.nsIn K mainGlobals "sorted" = some none)
    (z10 : PySem.W.nsIn K mainGlobals "str" = some none)
    (z11 : PySem.W.nsIn K mainGlobals "tuple" = some none)
    (z12 : PySem.W.nsIn K mainGlobals "zip" = some none)
    (ea0 : PySem.W.nsIn K mainGlobals "NoPlace" = some (some (.ref C0))) (ex0 : PySem.W.excIn K C0 [.type "ValueError", .type "Exception", .type "BaseException", .type "object"] "ValueError.__new__" = true) (ek0 : PySem.W.keepIn K (.ref C0) = true) (eb0 : PySem.W.subIn K (.ref C0) (.type "BaseException") = some true) (et0 : PySem.W.typeIn K (.ref C0) = some (.type "type")) (ei0 : PySem.W.isClsIn K C0 = true) (es0 : PySem.W.subIn K (.ref C0) (.ref C0) = some true)
    (ea1 : PySem.W.nsIn K mainGlobals "NoStep" = some (some (.ref C1))) (ex1 : PySem.W.excIn K C1 [.type "ValueError", .type "Exception", .type "BaseException", .type "object"] "ValueError.__new__" = true) (ek1 : PySem.W.keepIn K (.ref C1) = true) (eb1 : PySem.W.subIn K (.ref C1) (.type "BaseException") = some true) (et1 : PySem.W.typeIn K (.ref C1) = some (.type "type")) (ei1 : PySem.W.isClsIn K C1 = true) (es1 : PySem.W.subIn K (.ref C1) (.ref C1) = some true) :
    ∃ fd : FuncData, (∀ (s : Shared) (v : Value), BindsTo s fd ⟨[v], []⟩ [("_law_script", v)]) ∧ ∀ base : Heap, K.In base → base.Ns mainGlobals mg → FnOk l.prog w K mg base CX0 13 fa fd ["_law_script"] (spLaw K m) := by
  have e := hfa.symm.trans (PySem.W.mg_of X G a26)
  cases e
  let T : Facts K mg := ⟨CS,
    ⟨sS, ⟨spg, shd, spo, ssa⟩, sn0, sn1, sn2⟩,
    PySem.W.mg_of X G sS,
    ⟨_, _, fun_mk (st := inClass (topS 16) 0) l6 c6 k6, Fun.binds (st := inClass (topS 16) 0) (x := "__init__") (qual := "Shelf.__init__") (fun_mk l6 c6 k6) (fun _ _ _ _ _ _ us hl => match us, hl with | [_, _], _ => (by rfl)), ⟨a6, i6, k6⟩⟩,
    ⟨_, _, fun_mk (st := inClass (topS 16) 2) l7 c7 k7, Fun.binds (st := inClass (topS 16) 2) (x := "things") (qual := "Shelf.things") (fun_mk l7 c7 k7) (fun _ _ _ _ _ _ us hl => match us, hl with | [_], _ => (by rfl)), ⟨a7, i7, k7⟩⟩,
    ⟨_, _, fun_mk (st := inClass (topS 16) 3) l8 c8 k8, Fun.binds (st := inClass (topS 16) 3) (x := "row") (qual := "Shelf.row") (fun_mk l8 c8 k8) (fun _ _ _ _ _ _ us hl => match us, hl with | [_], _ => (by rfl)), ⟨a8, i8, k8⟩⟩,
    ⟨_, _, fun_mk (st := inClass (topS 16) 1) l10 c10 k10, Fun.binds (st := inClass (topS 16) 1) (x := "keep") (qual := "Shelf.keep") (fun_mk l10 c10 k10) (fun _ _ _ _ _ _ us hl => match us, hl with | [_, _], _ => (by rfl)), ⟨a10, i10, k10⟩⟩,
    ⟨_, _, fun_mk (st := inClass (topS 16) 4) l11 c11 k11, Fun.binds (st := inClass (topS 16) 4) (x := "put") (qual := "Shelf.put") (fun_mk l11 c11 k11) (fun _ _ _ _ _ _ us hl => match us, hl with | [_, _], _ => (by rfl)), ⟨a11, i11, k11⟩⟩,
    ⟨_, _, fun_mk (st := inClass (topS 16) 5) l12 c12 k12, Fun.binds (st := inClass (topS 16) 5) (x := "take") (qual := "Shelf.take") (fun_mk l12 c12 k12) (fun _ _ _ _ _ _ us hl => match us, hl with | [_, _], _ => (by rfl)), ⟨a12, i12, k12⟩⟩,
    ⟨_, _, fun_mk (st := inClass (topS 16) 6) l13 c13 k13, Fun.binds (st := inClass (topS 16) 6) (x := "order") (qual := "Shelf.order") (fun_mk l13 c13 k13) (fun _ _ _ _ _ _ us hl => match us, hl with | [_, _], _ => (by rfl)), ⟨a13, i13, k13⟩⟩,
    ⟨_, _, fun_mk (st := inClass (topS 16) 7) l15 c15 k15, Fun.binds (st := inClass (topS 16) 7) (x := "around") (qual := "Shelf.around") (fun_mk l15 c15 k15) (fun _ _ _ _ _ _ us hl => match us, hl with | [_, _], _ => (by rfl)), ⟨a15, i15, k15⟩⟩,
    ⟨_, _, fun_mk (st := inClass (topS 16) 8) l16 c16 k16, Fun.binds (st := inClass (topS 16) 8) (x := "between") (qual := "Shelf.between") (fun_mk l16 c16 k16) (fun _ _ _ _ _ _ us hl => match us, hl with | [_, _, _], _ => (by rfl)), ⟨a16, i16, k16⟩⟩,
    ⟨_, _, fun_mk (st := inClass (topS 16) 9) l17 c17 k17, Fun.binds (st := inClass (topS 16) 9) (x := "back") (qual := "Shelf.back") (fun_mk l17 c17 k17) (fun _ _ _ _ _ _ us hl => match us, hl with | [_], _ => (by rfl)), ⟨a17, i17, k17⟩⟩,
    ⟨smk, a6, i6, skc⟩,
    ⟨_, _, fun_mk (st := topS 6) l0 c0 k0, Fun.binds (st := topS 6) (x := "worth") (qual := "worth") (fun_mk l0 c0 k0) (fun _ _ _ _ _ _ us hl => match us, hl with | [_, _], _ => (by rfl)), PySem.W.mg_of X G a0⟩,
    ⟨_, _, fun_mk (st := topS 7) l1 c1 k1, Fun.binds (st := topS 7) (x := "worths") (qual := "worths") (fun_mk l1 c1 k1) (fun _ _ _ _ _ _ us hl => match us, hl with | [_, _], _ => (by rfl)), PySem.W.mg_of X G a1⟩,
    ⟨_, _, fun_mk (st := topS 10) l2 c2 k2, Fun.binds (st := topS 10) (x := "places") (qual := "places") (fun_mk l2 c2 k2) (fun _ _ _ _ _ _ us hl => match us, hl with | [_, _], _ => (by rfl)), PySem.W.mg_of X G a2⟩,
    ⟨_, _, fun_mk (st := topS 11) l3 c3 k3, Fun.binds (st := topS 11) (x := "ordered") (qual := "ordered") (fun_mk l3 c3 k3) (fun _ _ _ _ _ _ us hl => match us, hl with | [_, _], _ => (by rfl)), PySem.W.mg_of X G a3⟩,
    ⟨_, _, fun_mk (st := topS 8) l4 c4 k4, Fun.binds (st := topS 8) (x := "told") (qual := "told") (fun_mk l4 c4 k4) (fun _ _ _ _ _ _ us hl => match us, hl with | [_, _, _], _ => (by rfl)), PySem.W.mg_of X G a4⟩,
    ⟨_, _, fun_mk (st := topS 14) l5 c5 k5, Fun.binds (st := topS 14) (x := "groups") (qual := "groups") (fun_mk l5 c5 k5) (fun _ _ _ _ _ _ us hl => match us, hl with | [_, _], _ => (by rfl)), PySem.W.mg_of X G a5⟩,
    ⟨_, _, fun_mk (st := topS 13) l9 c9 k9, Fun.binds (st := topS 13) (x := "last_place") (qual := "last_place") (fun_mk l9 c9 k9) (fun _ _ _ _ _ _ us hl => match us, hl with | [_, _, _], _ => (by rfl)), PySem.W.mg_of X G a9⟩,
    ⟨_, _, fun_mk (st := topS 12) l14 c14 k14, Fun.binds (st := topS 12) (x := "first_place") (qual := "first_place") (fun_mk l14 c14 k14) (fun _ _ _ _ _ _ us hl => match us, hl with | [_, _, _], _ => (by rfl)), PySem.W.mg_of X G a14⟩,
    ⟨_, _, fun_mk (st := topS 18) l18 c18 k18, Fun.binds (st := topS 18) (x := "_law_same") (qual := "_law_same") (fun_mk l18 c18 k18) (fun _ _ _ _ _ _ us hl => match us, hl with | [_, _], _ => (by rfl)), PySem.W.mg_of X G a18⟩,
    ⟨_, _, fun_mk (st := topS 19) l19 c19 k19, Fun.binds (st := topS 19) (x := "_law_draw") (qual := "_law_draw") (fun_mk l19 c19 k19) (fun _ _ _ _ _ _ us hl => match us, hl with | [_, _, _], _ => (by rfl)), PySem.W.mg_of X G a19⟩,
    ⟨_, _, fun_mk (st := topS 20) l20 c20 k20, Fun.binds (st := topS 20) (x := "_law_pick") (qual := "_law_pick") (fun_mk l20 c20 k20) (fun _ _ _ _ _ _ us hl => match us, hl with | [_, _, _], _ => (by rfl)), PySem.W.mg_of X G a20⟩,
    ⟨_, _, fun_mk (st := topS 21) l21 c21 k21, Fun.binds (st := topS 21) (x := "_law_plain") (qual := "_law_plain") (fun_mk l21 c21 k21) (fun _ _ _ _ _ _ us hl => match us, hl with | [_, _], _ => (by rfl)), PySem.W.mg_of X G a21⟩,
    ⟨_, _, fun_mk (st := topS 22) l22 c22 k22, Fun.binds (st := topS 22) (x := "_law_key") (qual := "_law_key") (fun_mk l22 c22 k22) (fun _ _ _ _ _ _ us hl => match us, hl with | [_, _], _ => (by rfl)), PySem.W.mg_of X G a22⟩,
    ⟨_, _, fun_mk (st := topS 23) l23 c23 k23, Fun.binds (st := topS 23) (x := "_law_keys") (qual := "_law_keys") (fun_mk l23 c23 k23) (fun _ _ _ _ _ _ us hl => match us, hl with | [_, _, _], _ => (by rfl)), PySem.W.mg_of X G a23⟩,
    ⟨_, _, fun_mk (st := topS 24) l24 c24 k24, Fun.binds (st := topS 24) (x := "_law_thing") (qual := "_law_thing") (fun_mk l24 c24 k24) (fun _ _ _ _ _ _ us hl => match us, hl with | [_, _], _ => (by rfl)), PySem.W.mg_of X G a24⟩,
    ⟨_, _, fun_mk (st := topS 25) l25 c25 k25, Fun.binds (st := topS 25) (x := "_law_list") (qual := "_law_list") (fun_mk l25 c25 k25) (fun _ _ _ _ _ _ us hl => match us, hl with | [_, _, _], _ => (by rfl)), PySem.W.mg_of X G a25⟩,
    ⟨_, _, fun_mk (st := topS 26) l26 c26 k26, Fun.binds (st := topS 26) (x := "law") (qual := "law") (fun_mk l26 c26 k26) (fun _ _ _ _ _ _ us hl => match us, hl with | [_], _ => (by rfl)), PySem.W.mg_of X G a26⟩,
    PySem.W.mg_none_of X G z0,
    PySem.W.mg_none_of X G z1,
    PySem.W.mg_none_of X G z2,
    PySem.W.mg_none_of X G z3,
    PySem.W.mg_none_of X G z4,
    PySem.W.mg_none_of X G z5,
    PySem.W.mg_none_of X G z6,
    PySem.W.mg_none_of X G z7,
    PySem.W.mg_none_of X G z8,
    PySem.W.mg_none_of X G z9,
    PySem.W.mg_none_of X G z10,
    PySem.W.mg_none_of X G z11,
    PySem.W.mg_none_of X G z12,
    C0, PySem.W.mg_of X G ea0, ex0, ek0, eb0, et0, exm_own eb0 ei0 et0 es0,
    C1, PySem.W.mg_of X G ea1, ex1, ek1, eb1, et1, exm_own eb1 ei1 et1 es1⟩
  exact ⟨PySem.W.fnOf "law" "law" (defArgs (topS 26)) (defBody (topS 26)) (defScope (topS 26)) .none kV26 dc26 pm26 an26 cd26 ct26, fun s v => .of_eq rfl, fun base _ _ => ok_all T m hm⟩
end L2.Lv.K26
namespace L2.Lv.K26
open PySem PySem.Spec PyProof.Rows L2 L2.Lv L2.Lv.Sh
theorem cutD_mid (xs : List PyData) {a b : Nat} (ha : a ≤ xs.length) (hb : b ≤ xs.length) : cutD xs (some (a : Int)) (some (b : Int)) = (xs.drop a).take (b - a) := by
  unfold cutD
  rw [HT.sIx_nat, HT.sIx_nat, Nat.min_eq_left ha, Nat.min_eq_left hb]
theorem ordT_nil (r : Rw) : ordT r [] = [] := List.eq_nil_of_length_eq_zero (by rw [ordT_len]; rfl)
/-- things put one by one -/
theorem puts_loop (ns : List Int) (r q : Rw) (hr : Rw.ok r) (hrl : r.length ≤ 1000000) (ts : List Th) (n : Nat) : ∀ (rest us : List Th) (bef : List PyData), bef.length + rest.length ≤ 1000 → us.length + rest.length ≤ 1000 → ∃ bef',
    loopF (gOne 7) l_law_2 (rest.map Th.d) [Sc ns, .town, .no, .d (rowD r), .d (rowD q), .d (tsD ts), .sh false (stD r (ordT r us)) bef [], .no, .no, .no, .no, .no, .no, .no, .no, .no] n =
      some (.nx [Sc ns, .town, .no, .d (rowD r), .d (rowD q), .d (tsD ts), .sh false (stD r (ordT r (us ++ rest))) bef' [], .no, .no, .no, .no, .no, .no, .no, .no, .no] n) ∧ bef'.length = bef.length + rest.length
  | [], us, bef, _, _ => ⟨bef, by rw [List.append_nil]; rfl, rfl⟩
  | t :: rest, us, bef, h1, h2 => by
    rw [List.length_cons] at h1 h2
    obtain ⟨bef', e, hb⟩ := puts_loop ns r q hr hrl ts n rest (us ++ [t]) (bef ++ [stD r (ordT r us)]) (by simp; omega) (by simp; omega)
    refine ⟨bef', ?_, by rw [hb]; simp; omega⟩
    have hbb : bef.length < big := by unfold big; omega
    have p1 := sh_put_ok r hr hrl (ordT r us) (ordT_pw r us) (by rw [ordT_len]; omega) t bef [] n hbb
    rw [insT_ord] at p1
    have p2 := sh_things_ok r (ordT r (us ++ [t])) n
    have ix : dIx (tsD (ordT r (us ++ [t]))) (.int (plTs r (ordT r us) t : Nat)) = some (.d t.d) := by
      have h := insT_at (r := r) (ts := ordT r us) (t := t)
      rw [insT_ord] at h
      obtain ⟨hi, he⟩ := List.getElem?_eq_some_iff.mp h
      rw [ixTsN _ _ hi, he]
    have d1 : dNe t.d t.d = some (.d (.bool false)) := dNe_self (nc_th t) (by decide)
    rw [List.append_assoc] at e
    rw [List.map_cons, loopF_cons]
    unfold l_law_2 at e ⊢
    simp -implicitDefEqProofs only [eVar_ap, dVar_ap, eC_ap, dOf_ap, eFrz_ap, eBin_ap, bTest_ap, bTru_ap, bAnd_ap, bOr_ap, bNot_ap, eIf_ap, eB_ap, eAnd_ap, eOr_ap, aNil_ap, aCons_ap, sNil_ap, sCons_ap, eTup_ap, eLst_ap, eCall_ap, eApp_ap, oNone_ap, oSome_ap, eSl_ap, sNil'_ap, sSeq_ap, sBrk_ap, sRet_ap, sRetN_ap, sRetO_ap, sDrop_ap, sIf_ap, sSet_ap, sApp_ap, sTown_ap, sExt_ap, sIns_ap, sSetIx_ap, sAsg_ap, sPar_ap, iOf_ap, iVal_ap, iRng1_ap, iRng2_ap, sFor_ap, eComp_ap, bYes_ap, frzAt_ap, eUn_ap, eNotD_ap, eOrD_ap, eChain_ap, eListRg1_ap, eIsa_ap, eMt_ap, iEnumV_ap, iEnumF_ap, iZipV_ap, iZipF_ap, eTLen_ap, iRng3D_ap, sEnd_ap, eSs_ap, sPar3_ap, xPop_ap, xTup1_ap, xCat_ap, sSetX_ap, sAppX_ap, sParO_ap, sForEI_ap, sForK_ap, eRep_ap, eDicK_ap, eDicT_ap, sPut_ap, eAlt_ap, sTry_ap, eGetD_ap, eLockI_ap, iKeyF_ap, sSetDef_ap, eTupVals_ap, sNst_ap, frzNAt_ap, sAppN_ap, sStN_ap, eListRg2_ap, eLam_ap, eCallP_ap, eNow_ap, dBef_ap, sShApp_ap, xShPop_ap, sShNow_ap, sShNowX_ap, sShClr_ap, yCall_ap, yOf_ap, yX_ap, yR_ap, yIf_ap, sRetS_ap, unX_ap, ytOf_ap, ytTru_ap, ytNot_ap, ytSeq_ap, ytCmp_ap, yaOf_ap, yaCons_ap, yApp_ap, eMethR_ap, sMakeSh_ap, runB_ap, gOne_ap, gMany_ap, dI_ap, yesC_ap, dCmp_int, setD, kill_nx, kill_rt, kill_rs, kill_bk, Option.bind_some, Option.map_some, Option.bind_none, Option.map_none, List.getElem?_cons_zero, List.getElem?_cons_succ, List.set_cons_zero, List.set_cons_succ, List.cons_append, List.nil_append, List.append_nil, List.replicate, List.length_cons, List.length_nil, Nat.reduceAdd, Nat.reduceSub, Nat.zero_add, wdat_no, wdat_d, wdat_town, wdat_ol, wdat_od, wfrz_no, wfrz_d, wfrz_town, wfrz_ol, wfrz_od, wval_no, wval_d, wval_town, wval_ol, wval_od, warg_no, warg_d, warg_town, warg_ol, warg_od, vals, gLen, gAbs, gMax2, gMin2, gInt, gTup, gList, wipeW, if_true, if_false, Bool.false_eq_true, Bool.not_true, Bool.not_false, reduceCtorEq, unX, sSetY, yPut, p1, shW, shNow, p2, ix, d1, e]
/-- what stands around -/
theorem mid_eq {r : Rw} {X g Y : List Th} {t : Th} (hX : ∀ x ∈ X, wrd r x t < 0) (hg : ∀ x ∈ g, wrd r x t = 0) (hY : ∀ y ∈ Y, ¬ wrd r y t < 1) : frTs r (X ++ (g ++ Y)) t = X.length ∧ plTs r (X ++ (g ++ Y)) t = X.length + g.length := by
  have f1 : ∀ (p : Th → Bool) (l : List Th), (∀ x ∈ l, p x = true) → l.filter p = l := fun p l h => List.filter_eq_self.mpr h
  have f0 : ∀ (p : Th → Bool) (l : List Th), (∀ x ∈ l, p x = false) → l.filter p = [] := fun p l h => List.filter_eq_nil_iff.mpr fun x hx => by simp [h x hx]
  unfold frTs plTs
  rw [List.filter_append, List.filter_append, List.filter_append, List.filter_append]
  refine ⟨?_, ?_⟩
  · rw [f1 _ X fun x hx => by simpa using hX x hx, f0 _ g fun x hx => by simp [hg x hx], f0 _ Y fun x hx => by have := hY x hx; simp; omega]
    simp
  · rw [f1 _ X fun x hx => by have := hX x hx; simp; omega, f1 _ g fun x hx => by simp [hg x hx], f0 _ Y fun x hx => by simpa using hY x hx]
    simp
theorem btw_eq {r : Rw} {X g Y : List Th} {a b : Th} (hX : ∀ x ∈ X, wrd r x a < 0) (ha : ∀ x ∈ g, wrd r a x < 1) (hb : ∀ x ∈ g, wrd r x b < 1) (hY : ∀ y ∈ Y, ¬ wrd r y b < 1) : btwT r (X ++ (g ++ Y)) a b = g := by
  have f1 : ∀ (p : Th → Bool) (l : List Th), (∀ x ∈ l, p x = true) → l.filter p = l := fun p l h => List.filter_eq_self.mpr h
  have f0 : ∀ (p : Th → Bool) (l : List Th), (∀ x ∈ l, p x = false) → l.filter p = [] := fun p l h => List.filter_eq_nil_iff.mpr fun x hx => by simp [h x hx]
  unfold btwT
  rw [List.filter_append, List.filter_append, f0 _ X fun x hx => by
      have h1 := hX x hx
      have h2 := wrd_anti r x a
      have : ¬ wrd r a x < 1 := by omega
      simp [this], f1 _ g fun x hx => by simp [ha x hx, hb x hx], f0 _ Y fun x hx => by simp [hY x hx]]
  simp
/-- a group in the list -/
theorem grp {r : Rw} {ts g : List Th} (h : g ∈ groupsT r ts) : ∃ X Y : List Th, ordT r ts = X ++ (g ++ Y) ∧ g ≠ [] ∧ (∀ a ∈ g, ∀ b ∈ g, wrd r a b = 0) ∧ (∀ a ∈ g, ∀ x ∈ X, wrd r x a < 0) ∧ ∀ a ∈ g, ∀ y ∈ Y, ¬ wrd r y a < 1 := by
  have G := groupsT_isG r ts
  have F := (groupsT_flat r ts).1
  obtain ⟨A, B, e⟩ := List.append_of_mem h
  have pw := G.lt
  rw [e] at F pw
  obtain ⟨q1, q2, q3⟩ := List.pairwise_append.mp pw
  refine ⟨A.flatten, B.flatten, ?_, G.ne g h, G.eq g h, fun a ha x hx => ?_, fun a ha y hy => ?_⟩
  · rw [← F]; simp
  · obtain ⟨l, hl, hx⟩ := List.mem_flatten.mp hx
    exact q3 l hl g (List.mem_cons_self ..) x hx a ha
  · obtain ⟨l, hl, hy⟩ := List.mem_flatten.mp hy
    have := (List.pairwise_cons.mp q2).1 l hl a ha y hy
    have := wrd_anti r a y
    omega
theorem groups_loop3 (ns : List Int) (r q : Rw) (hr : Rw.ok r) (hrl : r.length ≤ 1000000) (ts : List Th) (hl : ts.length ≤ 1000) (bef : List PyData) (w2 w3 : W) (n : Nat) :
    loopF (gOne 10) l_law_3 ((groupsT r ts).map tsD) [Sc ns, .town, .no, .no, w3, .d (tsD ts), .sh false (stD r (ordT r ts)) bef [], .no, .no, .d (tsD (ordT r ts)), .no, .no, .no, .no, .no, .no] n =
      some (.nx [Sc ns, .town, .no, .no, w3, .d (tsD ts), .sh false (stD r (ordT r ts)) bef [], .no, .no, .d (tsD (ordT r ts)), .no, .no, .no, .no, .no, .no] n) :=
  loopF_same tsD _ fun g hg => ⟨_, rfl, by
    obtain ⟨X, Y, e, gne, geq, hX, hY⟩ := grp hg
    have hh := hdT_mem gne
    have hls := lsT_mem gne
    obtain ⟨e1, e2⟩ := mid_eq (t := hdT g) (fun x hx => hX _ hh x hx) (fun x hx => geq x hx _ hh) (fun y hy => hY _ hh y hy)
    have hol : (ordT r ts).length ≤ 1000 := by rw [ordT_len]; exact hl
    have a1 := sh_around_ok r hr hrl (ordT r ts) (ordT_pw r ts) hol (hdT g) n
    have b1 := sh_between_ok r hr hrl (ordT r ts) hol (hdT g) (lsT g) n
    have b2 : btwT r (ordT r ts) (hdT g) (lsT g) = g := by
      rw [e]
      exact btw_eq (fun x hx => hX _ hh x hx) (fun x hx => by rw [geq _ hh x hx]; decide) (fun x hx => by rw [geq x hx _ hls]; decide) (fun y hy => hY _ hls y hy)
    rw [b2] at b1
    have e1' : frTs r (ordT r ts) (hdT g) = X.length := by rw [e]; exact e1
    have e2' : plTs r (ordT r ts) (hdT g) = X.length + g.length := by rw [e]; exact e2
    rw [e1', e2'] at a1
    have hlen : (ordT r ts).length = X.length + (g.length + Y.length) := by rw [e]; simp
    have c1 : cutD ((ordT r ts).map Th.d) (some (X.length : Int)) (some ((X.length + g.length : Nat) : Int)) = g.map Th.d := by
      rw [cutD_mid _ (by rw [List.length_map]; omega) (by rw [List.length_map]; omega), e]
      simp
    have gl : g.length ≤ 1000 := by omega
    have s1 := same_ok (nc_le (nc_ts (ts := g) (by omega)) (show 3 ≤ 12 by decide)) n
    unfold l_law_3
    simp -implicitDefEqProofs only [eVar_ap, dVar_ap, eC_ap, dOf_ap, eFrz_ap, eBin_ap, bTest_ap, bTru_ap, bAnd_ap, bOr_ap, bNot_ap, eIf_ap, eB_ap, eAnd_ap, eOr_ap, aNil_ap, aCons_ap, sNil_ap, sCons_ap, eTup_ap, eLst_ap, eCall_ap, eApp_ap, oNone_ap, oSome_ap, eSl_ap, sNil'_ap, sSeq_ap, sBrk_ap, sRet_ap, sRetN_ap, sRetO_ap, sDrop_ap, sIf_ap, sSet_ap, sApp_ap, sTown_ap, sExt_ap, sIns_ap, sSetIx_ap, sAsg_ap, sPar_ap, iOf_ap, iVal_ap, iRng1_ap, iRng2_ap, sFor_ap, eComp_ap, bYes_ap, frzAt_ap, eUn_ap, eNotD_ap, eOrD_ap, eChain_ap, eListRg1_ap, eIsa_ap, eMt_ap, iEnumV_ap, iEnumF_ap, iZipV_ap, iZipF_ap, eTLen_ap, iRng3D_ap, sEnd_ap, eSs_ap, sPar3_ap, xPop_ap, xTup1_ap, xCat_ap, sSetX_ap, sAppX_ap, sParO_ap, sForEI_ap, sForK_ap, eRep_ap, eDicK_ap, eDicT_ap, sPut_ap, eAlt_ap, sTry_ap, eGetD_ap, eLockI_ap, iKeyF_ap, sSetDef_ap, eTupVals_ap, sNst_ap, frzNAt_ap, sAppN_ap, sStN_ap, eListRg2_ap, eLam_ap, eCallP_ap, eNow_ap, dBef_ap, sShApp_ap, xShPop_ap, sShNow_ap, sShNowX_ap, sShClr_ap, yCall_ap, yOf_ap, yX_ap, yR_ap, yIf_ap, sRetS_ap, unX_ap, ytOf_ap, ytTru_ap, ytNot_ap, ytSeq_ap, ytCmp_ap, yaOf_ap, yaCons_ap, yApp_ap, eMethR_ap, sMakeSh_ap, runB_ap, gOne_ap, gMany_ap, dI_ap, yesC_ap, dCmp_int, setD, kill_nx, kill_rt, kill_rs, kill_bk, Option.bind_some, Option.map_some, Option.bind_none, Option.map_none, List.getElem?_cons_zero, List.getElem?_cons_succ, List.set_cons_zero, List.set_cons_succ, List.cons_append, List.nil_append, List.append_nil, List.replicate, List.length_cons, List.length_nil, Nat.reduceAdd, Nat.reduceSub, Nat.zero_add, wdat_no, wdat_d, wdat_town, wdat_ol, wdat_od, wfrz_no, wfrz_d, wfrz_town, wfrz_ol, wfrz_od, wval_no, wval_d, wval_town, wval_ol, wval_od, warg_no, warg_d, warg_town, warg_ol, warg_od, vals, gLen, gAbs, gMax2, gMin2, gInt, gTup, gList, wipeW, if_true, if_false, Bool.false_eq_true, Bool.not_true, Bool.not_false, reduceCtorEq, shNow, ixHd gne, a1, ixLs gne, dNeg, b1, dSl, c1, s1, dTru_bool]⟩
/-- all taken -/
theorem takes_loop (ns : List Int) (r : Rw) (hr : Rw.ok r) (hrl : r.length ≤ 1000000) (w5 w9 : W) (B : List PyData) : ∀ (k : Nat) (L : List Th) (st lat : List PyData) (m : Nat) (n : Nat), L.length < k → B.length + st.length + L.length ≤ 1000 → m + L.length ≤ 1000 → n + L.length ≤ big → ∃ (st' lat' : List PyData) (n' : Nat),
    loopW (bTru (dOf (eMethR m_sh_things 6 aNil))) l_law_4 k [Sc ns, .town, .no, .no, .no, w5, .sh false (stD r L) (B ++ st) lat, .no, .no, w9, .no, .no, .no, I' (m : Nat), .no, .no] n =
      some (.nx [Sc ns, .town, .no, .no, .no, w5, .sh false (stD r []) (B ++ (st ++ st')) lat', .no, .no, w9, .no, .no, .no, I' ((m + L.length : Nat) : Int), .no, .no] n') ∧
    st'.length = L.length ∧ st'.headD (stD r []) = stD r L ∧ lat'.length ≤ lat.length ∧ n ≤ n' ∧ n' ≤ n + L.length
  | 0, L, _, _, _, _, h, _, _, _ => absurd h (Nat.not_lt_zero _)
  | k + 1, [], st, lat, m, n, _, _, _, _ => by
    refine ⟨[], lat, n, ?_, rfl, rfl, Nat.le_refl _, Nat.le_refl _, Nat.le_refl _⟩
    rw [loopW_succ]
    have t1 := sh_things_ok r [] n
    simp -implicitDefEqProofs only [eVar_ap, dVar_ap, eC_ap, dOf_ap, eFrz_ap, eBin_ap, bTest_ap, bTru_ap, bAnd_ap, bOr_ap, bNot_ap, eIf_ap, eB_ap, eAnd_ap, eOr_ap, aNil_ap, aCons_ap, sNil_ap, sCons_ap, eTup_ap, eLst_ap, eCall_ap, eApp_ap, oNone_ap, oSome_ap, eSl_ap, sNil'_ap, sSeq_ap, sBrk_ap, sRet_ap, sRetN_ap, sRetO_ap, sDrop_ap, sIf_ap, sSet_ap, sApp_ap, sTown_ap, sExt_ap, sIns_ap, sSetIx_ap, sAsg_ap, sPar_ap, iOf_ap, iVal_ap, iRng1_ap, iRng2_ap, sFor_ap, eComp_ap, bYes_ap, frzAt_ap, eUn_ap, eNotD_ap, eOrD_ap, eChain_ap, eListRg1_ap, eIsa_ap, eMt_ap, iEnumV_ap, iEnumF_ap, iZipV_ap, iZipF_ap, eTLen_ap, iRng3D_ap, sEnd_ap, eSs_ap, sPar3_ap, xPop_ap, xTup1_ap, xCat_ap, sSetX_ap, sAppX_ap, sParO_ap, sForEI_ap, sForK_ap, eRep_ap, eDicK_ap, eDicT_ap, sPut_ap, eAlt_ap, sTry_ap, eGetD_ap, eLockI_ap, iKeyF_ap, sSetDef_ap, eTupVals_ap, sNst_ap, frzNAt_ap, sAppN_ap, sStN_ap, eListRg2_ap, eLam_ap, eCallP_ap, eNow_ap, dBef_ap, sShApp_ap, xShPop_ap, sShNow_ap, sShNowX_ap, sShClr_ap, yCall_ap, yOf_ap, yX_ap, yR_ap, yIf_ap, sRetS_ap, unX_ap, ytOf_ap, ytTru_ap, ytNot_ap, ytSeq_ap, ytCmp_ap, yaOf_ap, yaCons_ap, yApp_ap, eMethR_ap, sMakeSh_ap, runB_ap, gOne_ap, gMany_ap, dI_ap, yesC_ap, dCmp_int, setD, kill_nx, kill_rt, kill_rs, kill_bk, Option.bind_some, Option.map_some, Option.bind_none, Option.map_none, List.getElem?_cons_zero, List.getElem?_cons_succ, List.set_cons_zero, List.set_cons_succ, List.cons_append, List.nil_append, List.append_nil, List.replicate, List.length_cons, List.length_nil, Nat.reduceAdd, Nat.reduceSub, Nat.zero_add, wdat_no, wdat_d, wdat_town, wdat_ol, wdat_od, wfrz_no, wfrz_d, wfrz_town, wfrz_ol, wfrz_od, wval_no, wval_d, wval_town, wval_ol, wval_od, warg_no, warg_d, warg_town, warg_ol, warg_od, vals, gLen, gAbs, gMax2, gMin2, gInt, gTup, gList, wipeW, if_true, if_false, Bool.false_eq_true, Bool.not_true, Bool.not_false, reduceCtorEq, shNow, t1, dTru, List.map_nil, List.isEmpty_nil, Nat.add_zero]
  | k + 1, a :: L, st, lat, m, n, h, h1, h2, h3 => by
    rw [List.length_cons] at h h1 h2 h3
    obtain ⟨z, z0, z1, dr⟩ := draw_ok ns n (by omega) (((a :: L).length : Nat) : Int) (by simp <;> omega)
    obtain ⟨i, rfl⟩ : ∃ i : Nat, z = (i : Int) := ⟨z.toNat, by omega⟩
    have hi : i < (a :: L).length := by omega
    have el : ((a :: L).eraseIdx i).length = L.length := by rw [List.length_eraseIdx, if_pos hi]; simp
    obtain ⟨st', lat', n', e, e1, e2, e3, e4, e5⟩ := takes_loop ns r hr hrl w5 w9 B k ((a :: L).eraseIdx i) (st ++ [stD r (a :: L)]) [] (m + 1) (n + 1) (by omega) (by rw [el]; simp; omega) (by omega) (by omega)
    have hbb : (B ++ st).length < big := by unfold big; simp; omega
    have p1 := sh_take_ok r (a :: L) i hi (by simp; omega) (B ++ st) lat (n + 1) hbb
    have t1 := sh_things_ok r (a :: L) n
    have t1' := sh_things_ok r (a :: L) (n + 1)
    have t2 := sh_things_ok r ((a :: L).eraseIdx i) (n + 1)
    have ix := ixTsN (a :: L) i hi
    have c1 : cutD ((a :: L).map Th.d) none (some (i : Int)) = ((a :: L).take i).map Th.d := by rw [cutD_take _ _ (by rw [List.length_map]; omega), List.map_take]
    have c2 : cutD ((a :: L).map Th.d) (some ((i : Int) + 1)) none = ((a :: L).drop (i + 1)).map Th.d := by
      rw [show ((i : Int) + 1) = ((i + 1 : Nat) : Int) from rfl, cutD_drop _ _ (by rw [List.length_map]; omega), List.map_drop]
    have a1 : dAdd (.tuple (((a :: L).take i).map Th.d)) (.tuple (((a :: L).drop (i + 1)).map Th.d)) = some (.d (tsD ((a :: L).eraseIdx i))) := by
      rw [dAdd_tup _ _ (le_big (by simp; omega)), List.eraseIdx_eq_take_drop_succ]; simp
    have s1 := same_ok (nc_le (nc_th ((a :: L)[i])) (show 2 ≤ 12 by decide)) (n + 1)
    have s2 := same_ok (nc_le (nc_ts (ts := (a :: L).eraseIdx i) (by omega)) (show 3 ≤ 12 by decide)) (n + 1)
    have ne : ((a :: L).map Th.d).isEmpty = false := rfl
    have hm : ((m : Nat) : Int) + 1 = ((m + 1 : Nat) : Int) := rfl
    have hm2 : m + (L.length + 1) = m + 1 + L.length := by omega
    refine ⟨stD r (a :: L) :: st', lat', n', ?_, by simp [e1, el], rfl, by rw [List.length_nil] at e3; omega, by omega, by rw [el] at e5; simp only [List.length_cons]; omega⟩
    rw [loopW_succ]
    have z1 : B ++ (st ++ [stD r (a :: L)]) = B ++ st ++ [stD r (a :: L)] := (List.append_assoc ..).symm
    have z2 : B ++ (st ++ [stD r (a :: L)] ++ st') = B ++ (st ++ stD r (a :: L) :: st') := by simp
    rw [el, ← hm2, z1, z2] at e
    generalize hL : a :: L = M at *
    have hMl : M.length = L.length + 1 := by rw [← hL]; rfl
    have dr : m__law_draw [Sc ns, .town, .d (.int (M.length : Int))] n = _ := dr
    have step : l_law_4 [Sc ns, .town, .no, .no, .no, w5, .sh false (stD r M) (B ++ st) lat, .no, .no, w9, .no, .no, .no, I' (m : Nat), .no, .no] n =
        some (.nx [Sc ns, .town, .no, .no, .no, w5, .sh false (stD r (M.eraseIdx i)) (B ++ st ++ [stD r M]) [], .no, .no, w9, .no, .no, .no, I' ((m + 1 : Nat) : Int), .no, .no] (n + 1)) := by
      unfold l_law_4
      simp -implicitDefEqProofs only [eVar_ap, dVar_ap, eC_ap, dOf_ap, eFrz_ap, eBin_ap, bTest_ap, bTru_ap, bAnd_ap, bOr_ap, bNot_ap, eIf_ap, eB_ap, eAnd_ap, eOr_ap, aNil_ap, aCons_ap, sNil_ap, sCons_ap, eTup_ap, eLst_ap, eCall_ap, eApp_ap, oNone_ap, oSome_ap, eSl_ap, sNil'_ap, sSeq_ap, sBrk_ap, sRet_ap, sRetN_ap, sRetO_ap, sDrop_ap, sIf_ap, sSet_ap, sApp_ap, sTown_ap, sExt_ap, sIns_ap, sSetIx_ap, sAsg_ap, sPar_ap, iOf_ap, iVal_ap, iRng1_ap, iRng2_ap, sFor_ap, eComp_ap, bYes_ap, frzAt_ap, eUn_ap, eNotD_ap, eOrD_ap, eChain_ap, eListRg1_ap, eIsa_ap, eMt_ap, iEnumV_ap, iEnumF_ap, iZipV_ap, iZipF_ap, eTLen_ap, iRng3D_ap, sEnd_ap, eSs_ap, sPar3_ap, xPop_ap, xTup1_ap, xCat_ap, sSetX_ap, sAppX_ap, sParO_ap, sForEI_ap, sForK_ap, eRep_ap, eDicK_ap, eDicT_ap, sPut_ap, eAlt_ap, sTry_ap, eGetD_ap, eLockI_ap, iKeyF_ap, sSetDef_ap, eTupVals_ap, sNst_ap, frzNAt_ap, sAppN_ap, sStN_ap, eListRg2_ap, eLam_ap, eCallP_ap, eNow_ap, dBef_ap, sShApp_ap, xShPop_ap, sShNow_ap, sShNowX_ap, sShClr_ap, yCall_ap, yOf_ap, yX_ap, yR_ap, yIf_ap, sRetS_ap, unX_ap, ytOf_ap, ytTru_ap, ytNot_ap, ytSeq_ap, ytCmp_ap, yaOf_ap, yaCons_ap, yApp_ap, eMethR_ap, sMakeSh_ap, runB_ap, gOne_ap, gMany_ap, dI_ap, yesC_ap, dCmp_int, setD, kill_nx, kill_rt, kill_rs, kill_bk, Option.bind_some, Option.map_some, Option.bind_none, Option.map_none, List.getElem?_cons_zero, List.getElem?_cons_succ, List.set_cons_zero, List.set_cons_succ, List.cons_append, List.nil_append, List.append_nil, List.replicate, List.length_cons, List.length_nil, Nat.reduceAdd, Nat.reduceSub, Nat.zero_add, wdat_no, wdat_d, wdat_town, wdat_ol, wdat_od, wfrz_no, wfrz_d, wfrz_town, wfrz_ol, wfrz_od, wval_no, wval_d, wval_town, wval_ol, wval_od, warg_no, warg_d, warg_town, warg_ol, warg_od, vals, gLen, gAbs, gMax2, gMin2, gInt, gTup, gList, wipeW, if_true, if_false, Bool.false_eq_true, Bool.not_true, Bool.not_false, reduceCtorEq, shNow, t1, List.length_map, dr, t1', unX, sIfY, ytSeq, ytNot, ytTru, yApp, yaCons, yPut, p1, shW, yaOf, ix, s1, dTru_bool, ywOf, ytOf, t2, dSl, dAdd_int, c1, c2, a1, s2, lft, hm]
    simp -implicitDefEqProofs only [eVar_ap, dVar_ap, eC_ap, dOf_ap, eFrz_ap, eBin_ap, bTest_ap, bTru_ap, bAnd_ap, bOr_ap, bNot_ap, eIf_ap, eB_ap, eAnd_ap, eOr_ap, aNil_ap, aCons_ap, sNil_ap, sCons_ap, eTup_ap, eLst_ap, eCall_ap, eApp_ap, oNone_ap, oSome_ap, eSl_ap, sNil'_ap, sSeq_ap, sBrk_ap, sRet_ap, sRetN_ap, sRetO_ap, sDrop_ap, sIf_ap, sSet_ap, sApp_ap, sTown_ap, sExt_ap, sIns_ap, sSetIx_ap, sAsg_ap, sPar_ap, iOf_ap, iVal_ap, iRng1_ap, iRng2_ap, sFor_ap, eComp_ap, bYes_ap, frzAt_ap, eUn_ap, eNotD_ap, eOrD_ap, eChain_ap, eListRg1_ap, eIsa_ap, eMt_ap, iEnumV_ap, iEnumF_ap, iZipV_ap, iZipF_ap, eTLen_ap, iRng3D_ap, sEnd_ap, eSs_ap, sPar3_ap, xPop_ap, xTup1_ap, xCat_ap, sSetX_ap, sAppX_ap, sParO_ap, sForEI_ap, sForK_ap, eRep_ap, eDicK_ap, eDicT_ap, sPut_ap, eAlt_ap, sTry_ap, eGetD_ap, eLockI_ap, iKeyF_ap, sSetDef_ap, eTupVals_ap, sNst_ap, frzNAt_ap, sAppN_ap, sStN_ap, eListRg2_ap, eLam_ap, eCallP_ap, eNow_ap, dBef_ap, sShApp_ap, xShPop_ap, sShNow_ap, sShNowX_ap, sShClr_ap, yCall_ap, yOf_ap, yX_ap, yR_ap, yIf_ap, sRetS_ap, unX_ap, ytOf_ap, ytTru_ap, ytNot_ap, ytSeq_ap, ytCmp_ap, yaOf_ap, yaCons_ap, yApp_ap, eMethR_ap, sMakeSh_ap, runB_ap, gOne_ap, gMany_ap, dI_ap, yesC_ap, dCmp_int, setD, kill_nx, kill_rt, kill_rs, kill_bk, Option.bind_some, Option.map_some, Option.bind_none, Option.map_none, List.getElem?_cons_zero, List.getElem?_cons_succ, List.set_cons_zero, List.set_cons_succ, List.cons_append, List.nil_append, List.append_nil, List.replicate, List.length_cons, List.length_nil, Nat.reduceAdd, Nat.reduceSub, Nat.zero_add, wdat_no, wdat_d, wdat_town, wdat_ol, wdat_od, wfrz_no, wfrz_d, wfrz_town, wfrz_ol, wfrz_od, wval_no, wval_d, wval_town, wval_ol, wval_od, warg_no, warg_d, warg_town, warg_ol, warg_od, vals, gLen, gAbs, gMax2, gMin2, gInt, gTup, gList, wipeW, if_true, if_false, Bool.false_eq_true, Bool.not_true, Bool.not_false, reduceCtorEq, shNow, t1, dTru, ne, step]
    rw [e, hMl]
/-- stepped back -/
theorem backs_loop (ns : List Int) (w5 w9 w13 : W) (B : List PyData) (n : Nat) : ∀ (xs : List PyData) (st : List PyData) (now : PyData) (lat : List PyData), xs.length = st.length → lat.length + st.length ≤ 1000 → ∃ lat',
    loopF (gOne 15) l_law_5 xs [Sc ns, .town, .no, .no, .no, w5, .sh false now (B ++ st) lat, .no, .no, w9, .no, .no, .no, w13, .no, .no] n =
      some (.nx [Sc ns, .town, .no, .no, .no, w5, .sh false (st.headD now) B lat', .no, .no, w9, .no, .no, .no, w13, .no, .no] n)
  | [], st, now, lat, h, _ => by
    obtain rfl := List.eq_nil_of_length_eq_zero h.symm
    exact ⟨lat, by rw [List.append_nil]; rfl⟩
  | x :: xs, st, now, lat, h, h2 => by
    rcases List.eq_nil_or_concat st with rfl | ⟨s0, y, rfl⟩
    · cases h
    · rw [List.concat_eq_append] at *
      obtain ⟨lat', e⟩ := backs_loop ns w5 w9 w13 B n xs s0 y (lat ++ [now]) (by simpa using h) (by simp at h2 ⊢; omega)
      refine ⟨lat', ?_⟩
      have p := sh_back_ok now y (B ++ s0) lat n (by unfold big; simp at h2; omega)
      have hd : (s0 ++ [y]).headD now = s0.headD y := by cases s0 <;> rfl
      rw [hd, ← List.append_assoc, loopF_cons]
      unfold l_law_5 at e ⊢
      simp -implicitDefEqProofs only [eVar_ap, dVar_ap, eC_ap, dOf_ap, eFrz_ap, eBin_ap, bTest_ap, bTru_ap, bAnd_ap, bOr_ap, bNot_ap, eIf_ap, eB_ap, eAnd_ap, eOr_ap, aNil_ap, aCons_ap, sNil_ap, sCons_ap, eTup_ap, eLst_ap, eCall_ap, eApp_ap, oNone_ap, oSome_ap, eSl_ap, sNil'_ap, sSeq_ap, sBrk_ap, sRet_ap, sRetN_ap, sRetO_ap, sDrop_ap, sIf_ap, sSet_ap, sApp_ap, sTown_ap, sExt_ap, sIns_ap, sSetIx_ap, sAsg_ap, sPar_ap, iOf_ap, iVal_ap, iRng1_ap, iRng2_ap, sFor_ap, eComp_ap, bYes_ap, frzAt_ap, eUn_ap, eNotD_ap, eOrD_ap, eChain_ap, eListRg1_ap, eIsa_ap, eMt_ap, iEnumV_ap, iEnumF_ap, iZipV_ap, iZipF_ap, eTLen_ap, iRng3D_ap, sEnd_ap, eSs_ap, sPar3_ap, xPop_ap, xTup1_ap, xCat_ap, sSetX_ap, sAppX_ap, sParO_ap, sForEI_ap, sForK_ap, eRep_ap, eDicK_ap, eDicT_ap, sPut_ap, eAlt_ap, sTry_ap, eGetD_ap, eLockI_ap, iKeyF_ap, sSetDef_ap, eTupVals_ap, sNst_ap, frzNAt_ap, sAppN_ap, sStN_ap, eListRg2_ap, eLam_ap, eCallP_ap, eNow_ap, dBef_ap, sShApp_ap, xShPop_ap, sShNow_ap, sShNowX_ap, sShClr_ap, yCall_ap, yOf_ap, yX_ap, yR_ap, yIf_ap, sRetS_ap, unX_ap, ytOf_ap, ytTru_ap, ytNot_ap, ytSeq_ap, ytCmp_ap, yaOf_ap, yaCons_ap, yApp_ap, eMethR_ap, sMakeSh_ap, runB_ap, gOne_ap, gMany_ap, dI_ap, yesC_ap, dCmp_int, setD, kill_nx, kill_rt, kill_rs, kill_bk, Option.bind_some, Option.map_some, Option.bind_none, Option.map_none, List.getElem?_cons_zero, List.getElem?_cons_succ, List.set_cons_zero, List.set_cons_succ, List.cons_append, List.nil_append, List.append_nil, List.replicate, List.length_cons, List.length_nil, Nat.reduceAdd, Nat.reduceSub, Nat.zero_add, wdat_no, wdat_d, wdat_town, wdat_ol, wdat_od, wfrz_no, wfrz_d, wfrz_town, wfrz_ol, wfrz_od, wval_no, wval_d, wval_town, wval_ol, wval_od, warg_no, warg_d, warg_town, warg_ol, warg_od, vals, gLen, gAbs, gMax2, gMin2, gInt, gTup, gList, wipeW, if_true, if_false, Bool.false_eq_true, Bool.not_true, Bool.not_false, reduceCtorEq, unX, sDropY, p, yPut, shW, e]
theorem one_turn (ns : List Int) (x : PyData) (n : Nat) (hn : n + 300 ≤ big) : ∃ n', l_law_1 [Sc ns, .town, .d x, .no, .no, .no, .no, .no, .no, .no, .no, .no, .no, .no, .no, .no] n = some (.nx [Sc ns, .town, .no, .no, .no, .no, .no, .no, .no, .no, .no, .no, .no, .no, .no, .no] n') ∧ n ≤ n' ∧ n' ≤ n + 300 := by
  obtain ⟨_, n1, k1, l1, l2, r, hr, hrl, rfl⟩ := keys_ok ns n 3 (by decide) (by omega)
  have k1 : m__law_keys [Sc ns, .town, I' 3] n = some (.d (rowD r), n1) := k1
  obtain ⟨_, n2, k2, l3, l4, q, hq, hql, rfl⟩ := keys_ok ns n1 3 (by decide) (by omega)
  have k2 : m__law_keys [Sc ns, .town, I' 3] n1 = some (.d (rowD q), n2) := k2
  obtain ⟨_, n3, k3, l5, l6, ts, hts, htl, rfl⟩ := list_ok ns n2 15 (by decide) (by omega)
  have k3 : m__law_list [Sc ns, .town, I' 15] n2 = some (.d (tsD ts), n3) := k3
  have hr' : r.length ≤ 1000000 := by omega
  have hq' : q.length ≤ 1000000 := by omega
  have ol := ordT_len r ts
  obtain ⟨bef, e1, b1⟩ := puts_loop ns r q hr hr' ts n3 ts [] [] (by simp; omega) (by simp; omega)
  rw [ordT_nil, List.nil_append] at e1
  have e1 : loopF (gOne 7) l_law_2 (ts.map Th.d) [Sc ns, .town, .no, .d (rowD r), .d (rowD q), .d (tsD ts), .sh false (.tuple [rowD r, .tuple []]) [] [], .no, .no, .no, .no, .no, .no, .no, .no, .no] n3 = _ := e1
  simp only [List.length_nil, Nat.zero_add] at b1
  have f1 := ordered_ok r hr hr' ts (by omega) n3
  have t1 := sh_things_ok r (ordT r ts) n3
  have s1 := same_ok (nc_le (nc_ts (ts := ordT r ts) (by omega)) (show 3 ≤ 12 by decide)) n3
  have f2 := groups_ok r hr hr' ts (by omega) n3
  have e2 := groups_loop3 ns r q hr hr' ts (by omega) bef .no (.d (rowD q)) n3
  have p1 := sh_order_ok r q hq hq' (ordT r ts) (by omega) bef [] n3 (by unfold big; omega)
  have t2 := sh_things_ok q (ordT q (ordT r ts)) n3
  have f3 := ordered_ok q hq hq' (ordT r ts) (by omega) n3
  have s2 := same_ok (nc_le (nc_ts (ts := ordT q (ordT r ts)) (by rw [ordT_len]; omega)) (show 3 ≤ 12 by decide)) n3
  have r1 := sh_row_ok q (ordT q (ordT r ts)) n3
  have s3 := same_ok (nc_le (nc_row hq hq') (show 5 ≤ 12 by decide)) n3
  have p2 := sh_back_ok (stD q (ordT q (ordT r ts))) (stD r (ordT r ts)) bef [] n3 (by decide)
  rw [List.nil_append] at p2
  obtain ⟨st', lat', n4, e3, g1, g2, g3, g4, g5⟩ := takes_loop ns r hr hr' (.d (tsD ts)) (.d (tsD (ordT r ts))) bef 100000 (ordT r ts) [] [stD q (ordT q (ordT r ts))] 0 n3 (by omega) (by simp; omega) (by omega) (by omega)
  rw [List.append_nil, List.nil_append, Nat.zero_add] at e3
  have e3 : loopW (bTru (dOf (eMethR m_sh_things 6 aNil))) l_law_4 100000 [Sc ns, .town, .no, .no, .no, .d (tsD ts), .sh false (stD r (ordT r ts)) bef [stD q (ordT q (ordT r ts))], .no, .no, .d (tsD (ordT r ts)), .no, .no, .no, .d (.int 0), .no, .no] n3 = _ := e3
  have rg : rng1 (.int ((ordT r ts).length : Int)) = some (rangeD 0 (ordT r ts).length) := by
    rw [rng1_ok (by omega) (by omega)]; rfl
  obtain ⟨lat2, e4⟩ := backs_loop ns (.d (tsD ts)) (.d (tsD (ordT r ts))) (I' ((ordT r ts).length : Nat)) bef n4 (rangeD 0 (ordT r ts).length) st' (stD r []) lat' (by rw [rangeD_len, g1]) (by simp at g3; omega)
  rw [g2] at e4
  have t3 := sh_things_ok r (ordT r ts) n4
  have s4 := same_ok (nc_le (nc_ts (ts := ordT r ts) (by omega)) (show 3 ≤ 12 by decide)) n4
  have ne : dNe (.int ((ordT r ts).length : Int)) (.int (ts.length : Int)) = some (.d (.bool false)) := by rw [dNe_int, ol]; simp
  refine ⟨n4, ?_, by omega, by omega⟩
  have em : ∀ (M : List Th), M ≠ [] → (ordT r ts) = M → m_sh_between [.shR (stD r M), .d (hdT M).d, .d (lsT M).d] n3 = some (.d (tsD M), n3) := fun M hM hE => by
    have b := sh_between_ok r hr hr' M (by rw [← hE, ol]; omega) (hdT M) (lsT M) n3
    have pw : M.Pairwise fun s t => wrd r s t < 1 := by rw [← hE]; exact ordT_pw r ts
    have : btwT r M (hdT M) (lsT M) = M := List.filter_eq_self.mpr fun x hx => by
      have h1 : wrd r (hdT M) x < 1 := by
        cases M with
        | nil => exact absurd rfl hM
        | cons a l =>
          rcases List.mem_cons.mp hx with rfl | hx
          · show wrd r x x < 1
            rw [wrd_refl]; decide
          · exact (List.pairwise_cons.mp pw).1 x hx
      have h2 : wrd r x (lsT M) < 1 := by
        rcases List.eq_nil_or_concat M with rfl | ⟨A, l, rfl⟩
        · exact absurd rfl hM
        · rw [List.concat_eq_append] at *
          have hl : lsT (A ++ [l]) = l := by unfold lsT; simp [List.getLastD_eq_getLast?]
          rw [hl]
          rcases List.mem_append.mp hx with hx | hx
          · exact (List.pairwise_append.mp pw).2.2 x hx l (by simp)
          · simp only [List.mem_singleton] at hx
            subst hx
            rw [wrd_refl]; decide
      simp [h1, h2]
    rw [this] at b
    exact b
  have h6 : (6 : Nat) < 16 := by decide
  unfold l_law_1
  by_cases c : ordT r ts = []
  · have hi : ((ordT r ts).map Th.d).isEmpty = true := by rw [c]; rfl
    simp -implicitDefEqProofs only [eVar_ap, dVar_ap, eC_ap, dOf_ap, eFrz_ap, eBin_ap, bTest_ap, bTru_ap, bAnd_ap, bOr_ap, bNot_ap, eIf_ap, eB_ap, eAnd_ap, eOr_ap, aNil_ap, aCons_ap, sNil_ap, sCons_ap, eTup_ap, eLst_ap, eCall_ap, eApp_ap, oNone_ap, oSome_ap, eSl_ap, sNil'_ap, sSeq_ap, sBrk_ap, sRet_ap, sRetN_ap, sRetO_ap, sDrop_ap, sIf_ap, sSet_ap, sApp_ap, sTown_ap, sExt_ap, sIns_ap, sSetIx_ap, sAsg_ap, sPar_ap, iOf_ap, iVal_ap, iRng1_ap, iRng2_ap, sFor_ap, eComp_ap, bYes_ap, frzAt_ap, eUn_ap, eNotD_ap, eOrD_ap, eChain_ap, eListRg1_ap, eIsa_ap, eMt_ap, iEnumV_ap, iEnumF_ap, iZipV_ap, iZipF_ap, eTLen_ap, iRng3D_ap, sEnd_ap, eSs_ap, sPar3_ap, xPop_ap, xTup1_ap, xCat_ap, sSetX_ap, sAppX_ap, sParO_ap, sForEI_ap, sForK_ap, eRep_ap, eDicK_ap, eDicT_ap, sPut_ap, eAlt_ap, sTry_ap, eGetD_ap, eLockI_ap, iKeyF_ap, sSetDef_ap, eTupVals_ap, sNst_ap, frzNAt_ap, sAppN_ap, sStN_ap, eListRg2_ap, eLam_ap, eCallP_ap, eNow_ap, dBef_ap, sShApp_ap, xShPop_ap, sShNow_ap, sShNowX_ap, sShClr_ap, yCall_ap, yOf_ap, yX_ap, yR_ap, yIf_ap, sRetS_ap, unX_ap, ytOf_ap, ytTru_ap, ytNot_ap, ytSeq_ap, ytCmp_ap, yaOf_ap, yaCons_ap, yApp_ap, eMethR_ap, sMakeSh_ap, runB_ap, gOne_ap, gMany_ap, dI_ap, yesC_ap, dCmp_int, setD, kill_nx, kill_rt, kill_rs, kill_bk, Option.bind_some, Option.map_some, Option.bind_none, Option.map_none, List.getElem?_cons_zero, List.getElem?_cons_succ, List.set_cons_zero, List.set_cons_succ, List.cons_append, List.nil_append, List.append_nil, List.replicate, List.length_cons, List.length_nil, Nat.reduceAdd, Nat.reduceSub, Nat.zero_add, wdat_no, wdat_d, wdat_town, wdat_ol, wdat_od, wfrz_no, wfrz_d, wfrz_town, wfrz_ol, wfrz_od, wval_no, wval_d, wval_town, wval_ol, wval_od, warg_no, warg_d, warg_town, warg_ol, warg_od, vals, gLen, gAbs, gMax2, gMin2, gInt, gTup, gList, wipeW, if_true, if_false, Bool.false_eq_true, Bool.not_true, Bool.not_false, reduceCtorEq, k1, k2, k3, newS, iSeq, e1, f1, shNow, t1, s1, dTru_bool, f2, e2, dTru, hi, unX, sDropY, yPut, p1, shW, t2, f3, s2, r1, s3, p2, e3, rg, e4, List.length_map, ne, t3, s4, h6]
  · have hi : ((ordT r ts).map Th.d).isEmpty = false := by simpa using c
    have b := em (ordT r ts) c rfl
    simp -implicitDefEqProofs only [eVar_ap, dVar_ap, eC_ap, dOf_ap, eFrz_ap, eBin_ap, bTest_ap, bTru_ap, bAnd_ap, bOr_ap, bNot_ap, eIf_ap, eB_ap, eAnd_ap, eOr_ap, aNil_ap, aCons_ap, sNil_ap, sCons_ap, eTup_ap, eLst_ap, eCall_ap, eApp_ap, oNone_ap, oSome_ap, eSl_ap, sNil'_ap, sSeq_ap, sBrk_ap, sRet_ap, sRetN_ap, sRetO_ap, sDrop_ap, sIf_ap, sSet_ap, sApp_ap, sTown_ap, sExt_ap, sIns_ap, sSetIx_ap, sAsg_ap, sPar_ap, iOf_ap, iVal_ap, iRng1_ap, iRng2_ap, sFor_ap, eComp_ap, bYes_ap, frzAt_ap, eUn_ap, eNotD_ap, eOrD_ap, eChain_ap, eListRg1_ap, eIsa_ap, eMt_ap, iEnumV_ap, iEnumF_ap, iZipV_ap, iZipF_ap, eTLen_ap, iRng3D_ap, sEnd_ap, eSs_ap, sPar3_ap, xPop_ap, xTup1_ap, xCat_ap, sSetX_ap, sAppX_ap, sParO_ap, sForEI_ap, sForK_ap, eRep_ap, eDicK_ap, eDicT_ap, sPut_ap, eAlt_ap, sTry_ap, eGetD_ap, eLockI_ap, iKeyF_ap, sSetDef_ap, eTupVals_ap, sNst_ap, frzNAt_ap, sAppN_ap, sStN_ap, eListRg2_ap, eLam_ap, eCallP_ap, eNow_ap, dBef_ap, sShApp_ap, xShPop_ap, sShNow_ap, sShNowX_ap, sShClr_ap, yCall_ap, yOf_ap, yX_ap, yR_ap, yIf_ap, sRetS_ap, unX_ap, ytOf_ap, ytTru_ap, ytNot_ap, ytSeq_ap, ytCmp_ap, yaOf_ap, yaCons_ap, yApp_ap, eMethR_ap, sMakeSh_ap, runB_ap, gOne_ap, gMany_ap, dI_ap, yesC_ap, dCmp_int, setD, kill_nx, kill_rt, kill_rs, kill_bk, Option.bind_some, Option.map_some, Option.bind_none, Option.map_none, List.getElem?_cons_zero, List.getElem?_cons_succ, List.set_cons_zero, List.set_cons_succ, List.cons_append, List.nil_append, List.append_nil, List.replicate, List.length_cons, List.length_nil, Nat.reduceAdd, Nat.reduceSub, Nat.zero_add, wdat_no, wdat_d, wdat_town, wdat_ol, wdat_od, wfrz_no, wfrz_d, wfrz_town, wfrz_ol, wfrz_od, wval_no, wval_d, wval_town, wval_ol, wval_od, warg_no, warg_d, warg_town, warg_ol, warg_od, vals, gLen, gAbs, gMax2, gMin2, gInt, gTup, gList, wipeW, if_true, if_false, Bool.false_eq_true, Bool.not_true, Bool.not_false, reduceCtorEq, k1, k2, k3, newS, iSeq, e1, f1, shNow, t1, s1, dTru_bool, f2, e2, dTru, hi, ixHd c, ixLs c, dNeg, b, unX, sDropY, yPut, p1, shW, t2, f3, s2, r1, s3, p2, e3, rg, e4, List.length_map, ne, t3, s4, h6]
theorem law_true (ns : List Int) (hns : ns.length ≤ 63) : ∃ n', b_law (.d (.list (ns.map .int)) :: .town :: List.replicate 14 .no) 0 = some (.rt (.d (.bool true)) n') := by
  have hr8 : rng1 (.int 5) = some (rangeD 0 5) := rng1_ok (by decide) (by decide)
  obtain ⟨n', e, _⟩ := loop_law (g := gOne 2) (body := l_law_1) (ρ := [Sc ns, .town, .no, .no, .no, .no, .no, .no, .no, .no, .no, .no, .no, .no, .no, .no]) 300 (fun x n hn => by
    obtain ⟨n', h1, h2, h3⟩ := one_turn ns x n hn
    exact ⟨_, n', rfl, h1, h2, h3⟩) (rangeD 0 5) 0 (by rw [rangeD_len]; unfold big; omega)
  refine ⟨n', ?_⟩
  unfold b_law
  simp -implicitDefEqProofs only [eVar_ap, dVar_ap, eC_ap, dOf_ap, eFrz_ap, eBin_ap, bTest_ap, bTru_ap, bAnd_ap, bOr_ap, bNot_ap, eIf_ap, eB_ap, eAnd_ap, eOr_ap, aNil_ap, aCons_ap, sNil_ap, sCons_ap, eTup_ap, eLst_ap, eCall_ap, eApp_ap, oNone_ap, oSome_ap, eSl_ap, sNil'_ap, sSeq_ap, sBrk_ap, sRet_ap, sRetN_ap, sRetO_ap, sDrop_ap, sIf_ap, sSet_ap, sApp_ap, sTown_ap, sExt_ap, sIns_ap, sSetIx_ap, sAsg_ap, sPar_ap, iOf_ap, iVal_ap, iRng1_ap, iRng2_ap, sFor_ap, eComp_ap, bYes_ap, frzAt_ap, eUn_ap, eNotD_ap, eOrD_ap, eChain_ap, eListRg1_ap, eIsa_ap, eMt_ap, iEnumV_ap, iEnumF_ap, iZipV_ap, iZipF_ap, eTLen_ap, iRng3D_ap, sEnd_ap, eSs_ap, sPar3_ap, xPop_ap, xTup1_ap, xCat_ap, sSetX_ap, sAppX_ap, sParO_ap, sForEI_ap, sForK_ap, eRep_ap, eDicK_ap, eDicT_ap, sPut_ap, eAlt_ap, sTry_ap, eGetD_ap, eLockI_ap, iKeyF_ap, sSetDef_ap, eTupVals_ap, sNst_ap, frzNAt_ap, sAppN_ap, sStN_ap, eListRg2_ap, eLam_ap, eCallP_ap, eNow_ap, dBef_ap, sShApp_ap, xShPop_ap, sShNow_ap, sShNowX_ap, sShClr_ap, yCall_ap, yOf_ap, yX_ap, yR_ap, yIf_ap, sRetS_ap, unX_ap, ytOf_ap, ytTru_ap, ytNot_ap, ytSeq_ap, ytCmp_ap, yaOf_ap, yaCons_ap, yApp_ap, eMethR_ap, sMakeSh_ap, runB_ap, gOne_ap, gMany_ap, dI_ap, yesC_ap, dCmp_int, setD, kill_nx, kill_rt, kill_rs, kill_bk, Option.bind_some, Option.map_some, Option.bind_none, Option.map_none, List.getElem?_cons_zero, List.getElem?_cons_succ, List.set_cons_zero, List.set_cons_succ, List.cons_append, List.nil_append, List.append_nil, List.replicate, List.length_cons, List.length_nil, Nat.reduceAdd, Nat.reduceSub, Nat.zero_add, wdat_no, wdat_d, wdat_town, wdat_ol, wdat_od, wfrz_no, wfrz_d, wfrz_town, wfrz_ol, wfrz_od, wval_no, wval_d, wval_town, wval_ol, wval_od, warg_no, warg_d, warg_town, warg_ol, warg_od, vals, gLen, gAbs, gMax2, gMin2, gInt, gTup, gList, wipeW, if_true, if_false, Bool.false_eq_true, Bool.not_true, Bool.not_false, reduceCtorEq, hr8, e]
end L2.Lv.K26
open PySem PySem.W PyProof.Rows
set_option maxHeartbeats 0 in
theorem PySem.Challenge.cw_keyorders_k26_whole_shelves_and_lists_holds : PySem.Challenge.rw_keyorders_k26_whole_shelves_and_lists.Holds := by
  w_on; o_law; k_head; (case hw => w_witness2)
  k_fill
  refine L2.walk_of (l := PySem.Challenge.rw_keyorders_k26_whole_shelves_and_lists) (n := 63) (k := 13) (x := "_law_script") (CX := fun _ => L2.CX0) (sp := fun w => L2.Lv.spLaw _ 63) rfl (by decide) rfl ⟨rfl, by decide, by decide⟩ (fun w h Y => PySem.W.kIn_of Y) ?F (fun w H a ns hl hO hS => ⟨a, ns, rfl, L2.Lv.no_tabs (by kernel_rfl), hS, hl, fun _ => rfl⟩) (fun _ _ _ _ _ h => h)
  case F =>
    intro w mg fa h KX G hmg
    refine' L2.Lv.K26.all_mk KX G hmg 63 L2.Lv.K26.law_true ?sS ?spg ?shd ?spo ?ssa ?smk ?skc ?sn0 ?sn1 ?sn2 ?a6 ?i6 ?l6 ?c6 ?k6 ?a7 ?i7 ?l7 ?c7 ?k7 ?a8 ?i8 ?l8 ?c8 ?k8 ?a10 ?i10 ?l10 ?c10 ?k10 ?a11 ?i11 ?l11 ?c11 ?k11 ?a12 ?i12 ?l12 ?c12 ?k12 ?a13 ?i13 ?l13 ?c13 ?k13 ?a15 ?i15 ?l15 ?c15 ?k15 ?a16 ?i16 ?l16 ?c16 ?k16 ?a17 ?i17 ?l17 ?c17 ?k17 ?a0 ?l0 ?c0 ?k0 ?a1 ?l1 ?c1 ?k1 ?a2 ?l2 ?c2 ?k2 ?a3 ?l3 ?c3 ?k3 ?a4 ?l4 ?c4 ?k4 ?a5 ?l5 ?c5 ?k5 ?a9 ?l9 ?c9 ?k9 ?a14 ?l14 ?c14 ?k14 ?a18 ?l18 ?c18 ?k18 ?a19 ?l19 ?c19 ?k19 ?a20 ?l20 ?c20 ?k20 ?a21 ?l21 ?c21 ?k21 ?a22 ?l22 ?c22 ?k22 ?a23 ?l23 ?c23 ?k23 ?a24 ?l24 ?c24 ?k24 ?a25 ?l25 ?c25 ?k25 ?a26 ?l26 ?c26 ?k26 ?z0 ?z1 ?z2 ?z3 ?z4 ?z5 ?z6 ?z7 ?z8 ?z9 ?z10 ?z11 ?z12 ?ea0 ?ex0 ?ek0 ?eb0 ?et0 ?ei0 ?es0 ?ea1 ?ex1 ?ek1 ?eb1 ?et1 ?ei1 ?es1
    (case sS => k_is); (case spg => k_is); (case shd => k_is); (case spo => k_is); (case ssa => k_is); (case smk => k_is); (case skc => k_is); (case sn0 => k_is); (case sn1 => k_is); (case sn2 => k_is); (case a6 => k_is); (case i6 => k_is); (case l6 => k_is); (case c6 => k_is); (case k6 => k_is); (case a7 => k_is); (case i7 => k_is); (case l7 => k_is); (case c7 => k_is); (case k7 => k_is); (case a8 => k_is); (case i8 => k_is); (case l8 => k_is); (case c8 => k_is); (case k8 => k_is); (case a10 => k_is); (case i10 => k_is); (case l10 => k_is); (case c10 => k_is); (case k10 => k_is); (case a11 => k_is); (case i11 => k_is); (case l11 => k_is); (case c11 => k_is); (case k11 => k_is); (case a12 => k_is); (case i12 => k_is); (case l12 => k_is); (case c12 => k_is); (case k12 => k_is); (case a13 => k_is); (case i13 => k_is); (case l13 => k_is); (case c13 => k_is); (case k13 => k_is); (case a15 => k_is); (case i15 => k_is); (case l15 => k_is); (case c15 => k_is); (case k15 => k_is); (case a16 => k_is); (case i16 => k_is); (case l16 => k_is); (case c16 => k_is); (case k16 => k_is); (case a17 => k_is); (case i17 => k_is); (case l17 => k_is); (case c17 => k_is); (case k17 => k_is); (case a0 => k_is); (case l0 => k_is); (case c0 => k_is); (case k0 => k_is); (case a1 => k_is); (case l1 => k_is); (case c1 => k_is); (case k1 => k_is); (case a2 => k_is); (case l2 => k_is); (case c2 => k_is); (case k2 => k_is); (case a3 => k_is); (case l3 => k_is); (case c3 => k_is); (case k3 => k_is); (case a4 => k_is); (case l4 => k_is); (case c4 => k_is); (case k4 => k_is); (case a5 => k_is); (case l5 => k_is); (case c5 => k_is); (case k5 => k_is); (case a9 => k_is); (case l9 => k_is); (case c9 => k_is); (case k9 => k_is); (case a14 => k_is); (case l14 => k_is); (case c14 => k_is); (case k14 => k_is); (case a18 => k_is); (case l18 => k_is); (case c18 => k_is); (case k18 => k_is); (case a19 => k_is); (case l19 => k_is); (case c19 => k_is); (case k19 => k_is); (case a20 => k_is); (case l20 => k_is); (case c20 => k_is); (case k20 => k_is); (case a21 => k_is); (case l21 => k_is); (case c21 => k_is); (case k21 => k_is); (case a22 => k_is); (case l22 => k_is); (case c22 => k_is); (case k22 => k_is); (case a23 => k_is); (case l23 => k_is); (case c23 => k_is); (case k23 => k_is); (case a24 => k_is); (case l24 => k_is); (case c24 => k_is); (case k24 => k_is); (case a25 => k_is); (case l25 => k_is); (case c25 => k_is); (case k25 => k_is); (case a26 => k_is); (case l26 => k_is); (case c26 => k_is); (case k26 => k_is); (case z0 => k_is); (case z1 => k_is); (case z2 => k_is); (case z3 => k_is); (case z4 => k_is); (case z5 => k_is); (case z6 => k_is); (case z7 => k_is); (case z8 => k_is); (case z9 => k_is); (case z10 => k_is); (case z11 => k_is); (case z12 => k_is); (case ea0 => k_is); (case ex0 => k_exc); (case ek0 => k_is); (case eb0 => k_is); (case et0 => k_is); (case ei0 => k_is); (case es0 => first | rfl | k_is); (case ea1 => k_is); (case ex1 => k_exc); (case ek1 => k_is); (case eb1 => k_is); (case et1 => k_is); (case ei1 => k_is); (case es1 => first | rfl | k_is)

